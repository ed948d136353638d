import PyProof.Rows.All
import Wide.All
import OpenK.AllK
import Wide.FinOn
import KE.KStateDown
import KE.KExcIs
import HandS.ExcField
import HandS.ExcInit
import HandS.Words
import HandS.Head0
import HandS.Head1
import HandS.Head2
import HandS.HeadHook1
import HandS.HeadHook2
import HandS.HeadHook3
import PySem.Challenge.RW_truechain_k17_refusals_apart
import HandS.ForMost
import HandS.Wide
import HandS.WideBits
import HandS.IsInst
import HandS.Deep
import HandS.Conv
import HandS.Exc
import HandS.TupAny
import HandS.Style
import HandS.More
import HandS.ExcOwn
import HandS.TryOnly
import HandS.TryMany
import HandS.SortInts
import HandS.TupLe
import HandS.Strs
import HandS.Text
import HandS.Flow
import HandS.Dict
import KE.Datum
import HandS.WordsExc
import HandS.SetFor
import HandS.TupSets
import HandS.FStr
import KE.KEqNest
import KE.KRevSl
import KE.GoesMore
import KE.GoesZip
import HandS.Iter
import HandS.Flt
import HandS.WordsDict
import HandS.SortKw
import KE.SortKeyHeap
import KE.SortData
import HandS.HotCalls
set_option Elab.async false
set_option linter.all false
set_option maxRecDepth 100000
set_option maxHeartbeats 4000000
namespace DL
open PySem PySem.Spec PyProof.Rows L2
def isX (c c' : Str) : Bool := c == c' || c' == ("ChainError" : Str) || c' == ("ValueError" : Str)
def isoB (K : PySem.W.Frag) (C : Addr) : Bool := decide (PySem.W.findIn K (.ref C) "__class__" = some (some (.builtin "object.__class__"))) && (decide (PySem.W.specialIn K (.builtin "object.__class__") "__get__" = some (some (.builtin "getset_descriptor.__get__"))) &&
  (decide (PySem.W.takesIn K (.builtin "object.__class__") = some true) && decide (PySem.W.mroIn K C (.type "object") = some true)))
def oexIn (K : PySem.W.Frag) (C : Addr) : Bool := match K.lookup C with
  | some ⟨.type "type", _, .cls cd, sl⟩ => (match cd.mro, sl.toList with
    | .ref C' :: bm, [_, _, _, _, some (.builtin n), _] => C' == C && (n == "ValueError.__new__" && (!cd.hasDel && (cd.hasDict && PySem.HandSPX.refsVE bm)))
    | _, _ => false)
  | _ => false
def exfB (K : PySem.W.Frag) (C : Addr) : Bool := oexIn K C && (decide (PySem.W.findIn K (.ref C) "__setattr__" = some (some (.builtin "object.__setattr__"))) && (decide (PySem.W.subIn K (.ref C) (.type "BaseException") = some true) &&
  (decide (PySem.W.typeIn K (.ref C) = some (.type "type")) && (PySem.W.keepIn K (.ref C) && (xfB K C && ((PySem.W.clsIn K C).isSome && isoB K C))))))
end DL
namespace HK
open PySem PySem.Spec PyProof.Rows L2 He
/-- what an object leads to: a def's code, a class's table, what tables hold -/
def kids (o : Obj) : List Addr := match o.data with
  | .seq its _ => its.toList.flatMap refV
  | .dict es _ => es.toList.flatMap fun e => refV e.val
  | .func fd => refV fd.code ++ refV fd.defaults
  | .cls cd => [cd.ns]
  | .fields vs => vs.toList.flatMap refV
  | _ => []
def lev (g : Addr → Option Obj) : Nat → List Addr → List Addr
  | 0, as => as
  | n + 1, as => as ++ lev g n (as.flatMap fun a => match g a with
    | some o => kids o
    | none => [])
def partK (n : Nat) (g : Addr → Option Obj) : PySem.W.Frag := frG g (lev g n [mainGlobals, PySem.cStatics])
abbrev Ck : Type := PySem.W.Frag → Bool
/-- where a table lies, its keys -/
abbrev Al3 : Type := Bool × List FnV × List (Option (List (Option (Str × Int))))
def obs3 (ex : List (List Ck)) (fn : List FnD) (ts : List (Str × List Str)) (K : PySem.W.Frag) : Al3 :=
  ((ex.all fun r => r.all fun f => f K) && fn.all fun d => (Fa.code d.at_ d.qual).ok K, fn.map fun d => fnObs K d.at_, ts.map fun t => dicW K (ga K t.1))
def val3 (fn : List FnD) (ts : List (Str × List Str)) (w : World) : Al3 := (true, fn.map FnD.val, ts.map fun t => some (keysIn w.params t.2))
def Says3 (ex : List (List Ck)) (fn : List FnD) (ts : List (Str × List Str)) (w : World) (K : PySem.W.Frag) : Prop := obs3 ex fn ts K = val3 fn ts w
def hook3 (n : Nat) (ex : List (List Ck)) (fn : List FnD) (ts : List (Str × List Str)) : PySem.W.Hook where
  α := Al3
  obs := fun s => obs3 ex fn ts (partK n s.heap.get?)
  val := fun w => val3 fn ts w
  says := fun w h => ∃ K : PySem.W.Frag, K.In h ∧ Says3 ex fn ts w K
  of := fun _ _ e => ⟨_, frG_in, e⟩
  keeps := fun _ _ _ ⟨K, hK, c⟩ k => ⟨K, PySem.W.Frag.In.keeps hK k, c⟩
def ob3 (n : Nat) (ex : List (List Ck)) (fn : List FnD) (ts : List (Str × List Str)) (s : PySem.W.SharedT) : Al3 := obs3 ex fn ts (partK n (HandSHeadRun.getT s))
theorem ob3_eq (n : Nat) (ex : List (List Ck)) (fn : List FnD) (ts : List (Str × List Str)) (s : PySem.W.SharedT) : ob3 n ex fn ts s = (hook3 n ex fn ts).obs s.abs := by
  have e : HandSHeadRun.getT s = s.abs.heap.get? := funext (HandSHeadRun.getT_eq s)
  unfold ob3
  rw [e] <;> rfl
section
variable {r : PySem.W.OpenRow} {q : Program} {M n : Nat} {loose : List Str} {ex : List (List Ck)} {fn : List FnD} {ts : List (Str × List Str)}
/-- the state behind the top, seen by f -/
abbrev Seen (r : PySem.W.OpenRow) (M : Nat) {α : Type} (f : World → PySem.W.SharedT → α) (v : World → α) (w : World) : Prop :=
  ∀ os : OsState, (HandSHeadRun.endF (HandSHeadRun.stepQ (HandSHeadRun.denQ HandSHeadRun.tabQ) r.prog w) M r.prog w os).map (f w) = some (v w)
noncomputable abbrev lookS (r : PySem.W.OpenRow) (q : Program) (loose : List Str) (w : World) (s : PySem.W.SharedT) := (HandSHeadRun.looksF r.prog (PySem.W.boot_heap w.params) s.abs, HandSHeadRun.seenQ q loose (importedModules r.prog.main.body) (fun s => PySem.W.xlAt q [] s && PySem.W.recOk r.toRowW.records s) s.abs)
abbrev goodS (q : Program) (loose : List Str) (w : World) := (true, PySem.W.openGood q loose)
abbrev exS (n : Nat) (ex : List (List Ck)) (w : World) (s : PySem.W.SharedT) : Bool := ex.all fun r => r.all fun f => f (partK n (HandSHeadRun.getT s))
abbrev cdS (n : Nat) (fn : List FnD) (ts : List (Str × List Str)) (w : World) (s : PySem.W.SharedT) : Bool × List FnV × List (Option (List (Option (Str × Int)))) := (fn.all fun d => (Fa.code d.at_ d.qual).ok (partK n (HandSHeadRun.getT s)), fn.map fun d => fnObs (partK n (HandSHeadRun.getT s)) d.at_,
  ts.map fun t => dicW (partK n (HandSHeadRun.getT s)) (ga (partK n (HandSHeadRun.getT s)) t.1))
abbrev yesS (w : World) : Bool := true
theorem run_parts (w : World) (hA : Seen r M (lookS r q loose) (goodS q loose) w) (hB : ∀ e ∈ ex, Seen r M (exS n [e]) yesS w) (hC : Seen r M (cdS n fn ts) (fun w => (true, fn.map FnD.val, ts.map fun t => some (keysIn w.params t.2))) w) :
    HandSHeadRun.RunEq r q (hook3 n ex fn ts) (ob3 n ex fn ts) M loose w := by
  intro os
  obtain ⟨s, hs, a⟩ := Option.map_eq_some_iff.mp (hA os)
  have c := hC os
  rw [hs] at c ⊢
  have c := Option.some.inj c
  obtain ⟨a1, a2⟩ := Prod.mk.inj a
  obtain ⟨c1, c2⟩ := Prod.mk.inj c
  obtain ⟨c2, d⟩ := Prod.mk.inj c2
  have e : (ex.all fun r => r.all fun f => f (partK n (HandSHeadRun.getT s))) = true := List.all_eq_true.mpr fun x hx => by
    have b := hB x hx os
    rw [hs] at b
    have b : ([x].all fun r => r.all fun f => f (partK n (HandSHeadRun.getT s))) = true := Option.some.inj b
    exact List.all_eq_true.mp b x List.mem_cons_self
  show some _ = some _
  congr 1
  refine Prod.ext a1 (Prod.ext a2 ?_)
  show obs3 ex fn ts (partK n (HandSHeadRun.getT s)) = val3 fn ts w
  unfold obs3 val3
  rw [e, c1, c2]
  exact Prod.ext rfl (Prod.ext rfl d)
end
def isO (a b : Option Value) : Bool := decide (a = b)
def isB (a b : Option Bool) : Bool := decide (a = b)
def isC (a : Option PySem.W.CFound) (v : Value) : Bool := match a with
  | some (.val u) => decide (u = v)
  | _ => false
end HK
namespace K17
open PySem PySem.Spec PyProof.Rows L2 DL
def topS (i : Nat) : Stmt := PySem.Challenge.pw_truechain_k17_refusals_apart.main.body.getD i (.Pass ⟨0, 0, 0, 0⟩)
def clsS (i j : Nat) : Stmt := match topS i with | .ClassDef _ _ _ b .. => b.getD j (.Pass ⟨0, 0, 0, 0⟩) | s => s
abbrev s_law_bag : Stmt := topS 16
abbrev s_law_take : Stmt := topS 17
abbrev s_law_alike : Stmt := topS 18
abbrev s_law_bare : Stmt := topS 20
abbrev s_law_raised : Stmt := topS 19
abbrev s_law_field : Stmt := topS 21
abbrev s_law_flags : Stmt := topS 22
abbrev s_law_caught : Stmt := topS 23
abbrev s_law_right : Stmt := topS 24
abbrev s_law : Stmt := topS 25
abbrev s_NoSpot___init : Stmt := clsS 3 0
abbrev s_NoText___init : Stmt := clsS 4 0
abbrev s_NoDeed___init : Stmt := clsS 13 0
abbrev s_NoRow___init : Stmt := clsS 14 0
abbrev s_Wrong___init : Stmt := clsS 2 0
abbrev s_NoChain___init : Stmt := clsS 9 0
abbrev s_NoOffer___init : Stmt := clsS 12 0
abbrev s_Twice___init : Stmt := clsS 5 0
abbrev s_NoPaper___init : Stmt := clsS 7 0
abbrev s_NoOff___init : Stmt := clsS 10 0
abbrev s_NoReading___init : Stmt := clsS 11 0
abbrev s_TooMany___init : Stmt := clsS 6 0
abbrev s_NoThing___init : Stmt := clsS 8 0
def hk_fn0 : List He.FnD := [
  ⟨("_law_bag", none), "_law_bag", "_law_bag", defArgs s_law_bag, defBody s_law_bag, defScope s_law_bag⟩,
  ⟨("_law_take", none), "_law_take", "_law_take", defArgs s_law_take, defBody s_law_take, defScope s_law_take⟩,
  ⟨("_law_alike", none), "_law_alike", "_law_alike", defArgs s_law_alike, defBody s_law_alike, defScope s_law_alike⟩,
  ⟨("_law_bare", none), "_law_bare", "_law_bare", defArgs s_law_bare, defBody s_law_bare, defScope s_law_bare⟩,
  ⟨("_law_raised", none), "_law_raised", "_law_raised", defArgs s_law_raised, defBody s_law_raised, defScope s_law_raised⟩,
  ⟨("_law_field", none), "_law_field", "_law_field", defArgs s_law_field, defBody s_law_field, defScope s_law_field⟩,
  ⟨("_law_flags", none), "_law_flags", "_law_flags", defArgs s_law_flags, defBody s_law_flags, defScope s_law_flags⟩,
  ⟨("_law_caught", none), "_law_caught", "_law_caught", defArgs s_law_caught, defBody s_law_caught, defScope s_law_caught⟩,
  ⟨("_law_right", none), "_law_right", "_law_right", defArgs s_law_right, defBody s_law_right, defScope s_law_right⟩,
  ⟨("law", none), "law", "law", defArgs s_law, defBody s_law, defScope s_law⟩,
  ⟨("NoSpot", some "__init__"), "__init__", "NoSpot.__init__", defArgs s_NoSpot___init, defBody s_NoSpot___init, defScope s_NoSpot___init⟩,
  ⟨("NoText", some "__init__"), "__init__", "NoText.__init__", defArgs s_NoText___init, defBody s_NoText___init, defScope s_NoText___init⟩,
  ⟨("NoDeed", some "__init__"), "__init__", "NoDeed.__init__", defArgs s_NoDeed___init, defBody s_NoDeed___init, defScope s_NoDeed___init⟩,
  ⟨("NoRow", some "__init__"), "__init__", "NoRow.__init__", defArgs s_NoRow___init, defBody s_NoRow___init, defScope s_NoRow___init⟩,
  ⟨("Wrong", some "__init__"), "__init__", "Wrong.__init__", defArgs s_Wrong___init, defBody s_Wrong___init, defScope s_Wrong___init⟩,
  ⟨("NoChain", some "__init__"), "__init__", "NoChain.__init__", defArgs s_NoChain___init, defBody s_NoChain___init, defScope s_NoChain___init⟩,
  ⟨("NoOffer", some "__init__"), "__init__", "NoOffer.__init__", defArgs s_NoOffer___init, defBody s_NoOffer___init, defScope s_NoOffer___init⟩,
  ⟨("Twice", some "__init__"), "__init__", "Twice.__init__", defArgs s_Twice___init, defBody s_Twice___init, defScope s_Twice___init⟩,
  ⟨("NoPaper", some "__init__"), "__init__", "NoPaper.__init__", defArgs s_NoPaper___init, defBody s_NoPaper___init, defScope s_NoPaper___init⟩,
  ⟨("NoOff", some "__init__"), "__init__", "NoOff.__init__", defArgs s_NoOff___init, defBody s_NoOff___init, defScope s_NoOff___init⟩,
  ⟨("NoReading", some "__init__"), "__init__", "NoReading.__init__", defArgs s_NoReading___init, defBody s_NoReading___init, defScope s_NoReading___init⟩,
  ⟨("TooMany", some "__init__"), "__init__", "TooMany.__init__", defArgs s_TooMany___init, defBody s_TooMany___init, defScope s_TooMany___init⟩,
  ⟨("NoThing", some "__init__"), "__init__", "NoThing.__init__", defArgs s_NoThing___init, defBody s_NoThing___init, defScope s_NoThing___init⟩]
def hk_fn : List He.FnD := hk_fn0
def hk_ex0 : List HK.Ck := [
  fun K => He.eqO (PySem.W.nsIn K mainGlobals "NoSpot") (some (some (.ref (He.ga K "NoSpot")))),
  fun K => He.eqO (PySem.W.nsIn K mainGlobals "ChainError") (some (some (.ref (He.ga K "ChainError")))),
  fun K => He.eqO (PySem.W.nsIn K mainGlobals "NoText") (some (some (.ref (He.ga K "NoText")))),
  fun K => He.eqO (PySem.W.nsIn K mainGlobals "NoDeed") (some (some (.ref (He.ga K "NoDeed")))),
  fun K => He.eqO (PySem.W.nsIn K mainGlobals "NoRow") (some (some (.ref (He.ga K "NoRow")))),
  fun K => He.eqO (PySem.W.nsIn K mainGlobals "Wrong") (some (some (.ref (He.ga K "Wrong")))),
  fun K => He.eqO (PySem.W.nsIn K mainGlobals "NoChain") (some (some (.ref (He.ga K "NoChain")))),
  fun K => He.eqO (PySem.W.nsIn K mainGlobals "NoOffer") (some (some (.ref (He.ga K "NoOffer")))),
  fun K => He.eqO (PySem.W.nsIn K mainGlobals "Twice") (some (some (.ref (He.ga K "Twice")))),
  fun K => He.eqO (PySem.W.nsIn K mainGlobals "NoPaper") (some (some (.ref (He.ga K "NoPaper")))),
  fun K => He.eqO (PySem.W.nsIn K mainGlobals "NoOff") (some (some (.ref (He.ga K "NoOff")))),
  fun K => He.eqO (PySem.W.nsIn K mainGlobals "NoReading") (some (some (.ref (He.ga K "NoReading")))),
  fun K => He.eqO (PySem.W.nsIn K mainGlobals "TooMany") (some (some (.ref (He.ga K "TooMany")))),
  fun K => He.eqO (PySem.W.nsIn K mainGlobals "NoThing") (some (some (.ref (He.ga K "NoThing")))),
  fun K => He.eqO (PySem.W.nsIn K mainGlobals "_law_bag") (some (some (.ref (He.fAd K ("_law_bag", none))))),
  fun K => PySem.W.keepIn K (.ref (He.fAd K ("_law_bag", none))),
  fun K => He.eqO (PySem.W.nsIn K mainGlobals "_law_take") (some (some (.ref (He.fAd K ("_law_take", none))))),
  fun K => PySem.W.keepIn K (.ref (He.fAd K ("_law_take", none))),
  fun K => He.eqO (PySem.W.nsIn K mainGlobals "_law_alike") (some (some (.ref (He.fAd K ("_law_alike", none))))),
  fun K => PySem.W.keepIn K (.ref (He.fAd K ("_law_alike", none))),
  fun K => He.eqO (PySem.W.nsIn K mainGlobals "_law_bare") (some (some (.ref (He.fAd K ("_law_bare", none))))),
  fun K => PySem.W.keepIn K (.ref (He.fAd K ("_law_bare", none))),
  fun K => He.eqO (PySem.W.nsIn K mainGlobals "_law_raised") (some (some (.ref (He.fAd K ("_law_raised", none))))),
  fun K => PySem.W.keepIn K (.ref (He.fAd K ("_law_raised", none))),
  fun K => He.eqO (PySem.W.nsIn K mainGlobals "_law_field") (some (some (.ref (He.fAd K ("_law_field", none))))),
  fun K => PySem.W.keepIn K (.ref (He.fAd K ("_law_field", none))),
  fun K => He.eqO (PySem.W.nsIn K mainGlobals "_law_flags") (some (some (.ref (He.fAd K ("_law_flags", none))))),
  fun K => PySem.W.keepIn K (.ref (He.fAd K ("_law_flags", none))),
  fun K => He.eqO (PySem.W.nsIn K mainGlobals "_law_caught") (some (some (.ref (He.fAd K ("_law_caught", none))))),
  fun K => PySem.W.keepIn K (.ref (He.fAd K ("_law_caught", none))),
  fun K => He.eqO (PySem.W.nsIn K mainGlobals "_law_right") (some (some (.ref (He.fAd K ("_law_right", none))))),
  fun K => PySem.W.keepIn K (.ref (He.fAd K ("_law_right", none))),
  fun K => He.eqO (PySem.W.nsIn K mainGlobals "law") (some (some (.ref (He.fAd K ("law", none))))),
  fun K => PySem.W.keepIn K (.ref (He.fAd K ("law", none))),
  fun K => He.eqO (PySem.W.findIn K (.ref (He.ga K "NoSpot")) "__init__") (some (some (.ref (He.fAd K ("NoSpot", some "__init__"))))),
  fun K => PySem.W.keepIn K (.ref (He.fAd K ("NoSpot", some "__init__")))]
def hk_ex1 : List HK.Ck := [
  fun K => He.eqO (PySem.W.findIn K (.ref (He.ga K "NoText")) "__init__") (some (some (.ref (He.fAd K ("NoText", some "__init__"))))),
  fun K => PySem.W.keepIn K (.ref (He.fAd K ("NoText", some "__init__"))),
  fun K => He.eqO (PySem.W.findIn K (.ref (He.ga K "NoDeed")) "__init__") (some (some (.ref (He.fAd K ("NoDeed", some "__init__"))))),
  fun K => PySem.W.keepIn K (.ref (He.fAd K ("NoDeed", some "__init__"))),
  fun K => He.eqO (PySem.W.findIn K (.ref (He.ga K "NoRow")) "__init__") (some (some (.ref (He.fAd K ("NoRow", some "__init__"))))),
  fun K => PySem.W.keepIn K (.ref (He.fAd K ("NoRow", some "__init__"))),
  fun K => He.eqO (PySem.W.findIn K (.ref (He.ga K "Wrong")) "__init__") (some (some (.ref (He.fAd K ("Wrong", some "__init__"))))),
  fun K => PySem.W.keepIn K (.ref (He.fAd K ("Wrong", some "__init__"))),
  fun K => He.eqO (PySem.W.findIn K (.ref (He.ga K "NoChain")) "__init__") (some (some (.ref (He.fAd K ("NoChain", some "__init__"))))),
  fun K => PySem.W.keepIn K (.ref (He.fAd K ("NoChain", some "__init__"))),
  fun K => He.eqO (PySem.W.findIn K (.ref (He.ga K "NoOffer")) "__init__") (some (some (.ref (He.fAd K ("NoOffer", some "__init__"))))),
  fun K => PySem.W.keepIn K (.ref (He.fAd K ("NoOffer", some "__init__"))),
  fun K => He.eqO (PySem.W.findIn K (.ref (He.ga K "Twice")) "__init__") (some (some (.ref (He.fAd K ("Twice", some "__init__"))))),
  fun K => PySem.W.keepIn K (.ref (He.fAd K ("Twice", some "__init__"))),
  fun K => He.eqO (PySem.W.findIn K (.ref (He.ga K "NoPaper")) "__init__") (some (some (.ref (He.fAd K ("NoPaper", some "__init__"))))),
  fun K => PySem.W.keepIn K (.ref (He.fAd K ("NoPaper", some "__init__"))),
  fun K => He.eqO (PySem.W.findIn K (.ref (He.ga K "NoOff")) "__init__") (some (some (.ref (He.fAd K ("NoOff", some "__init__"))))),
  fun K => PySem.W.keepIn K (.ref (He.fAd K ("NoOff", some "__init__"))),
  fun K => He.eqO (PySem.W.findIn K (.ref (He.ga K "NoReading")) "__init__") (some (some (.ref (He.fAd K ("NoReading", some "__init__"))))),
  fun K => PySem.W.keepIn K (.ref (He.fAd K ("NoReading", some "__init__"))),
  fun K => He.eqO (PySem.W.findIn K (.ref (He.ga K "TooMany")) "__init__") (some (some (.ref (He.fAd K ("TooMany", some "__init__"))))),
  fun K => PySem.W.keepIn K (.ref (He.fAd K ("TooMany", some "__init__"))),
  fun K => He.eqO (PySem.W.findIn K (.ref (He.ga K "NoThing")) "__init__") (some (some (.ref (He.fAd K ("NoThing", some "__init__"))))),
  fun K => PySem.W.keepIn K (.ref (He.fAd K ("NoThing", some "__init__"))),
  fun K => He.eqO (PySem.W.nsIn K mainGlobals "abs") (some none),
  fun K => He.eqO (PySem.W.nsIn K mainGlobals "len") (some none),
  fun K => He.eqO (PySem.W.nsIn K mainGlobals "repr") (some none),
  fun K => He.eqO (PySem.W.nsIn K mainGlobals "isinstance") (some none),
  fun K => He.eqO (PySem.W.nsIn K mainGlobals "ValueError") (some none),
  fun K => He.eqO (PySem.W.nsIn K mainGlobals "range") (some none),
  fun K => exfB K (He.ga K "NoSpot"),
  fun K => HK.isO (PySem.W.typeIn K (.ref (He.fAd K ("NoSpot", some "__init__")))) (some (.type "function")),
  fun K => He.eqO (PySem.W.specialIn K (.ref (He.ga K "ChainError")) "__getattribute__") (some (some (.builtin "type.__getattribute__"))),
  fun K => PySem.W.readsIn K (He.ga K "ChainError") (.type "type"),
  fun K => HK.isC (PySem.W.findCls K (.ref (He.ga K "ChainError")) (.type "type") "__init__") (.builtin "ValueError.__init__"),
  fun K => exfB K (He.ga K "NoText")]
def hk_ex2 : List HK.Ck := [
  fun K => HK.isO (PySem.W.typeIn K (.ref (He.fAd K ("NoText", some "__init__")))) (some (.type "function")),
  fun K => exfB K (He.ga K "NoDeed"),
  fun K => HK.isO (PySem.W.typeIn K (.ref (He.fAd K ("NoDeed", some "__init__")))) (some (.type "function")),
  fun K => exfB K (He.ga K "NoRow"),
  fun K => HK.isO (PySem.W.typeIn K (.ref (He.fAd K ("NoRow", some "__init__")))) (some (.type "function")),
  fun K => He.eqO (PySem.W.findIn K (.ref (He.ga K "Wrong")) "at") (some none),
  fun K => exfB K (He.ga K "Wrong"),
  fun K => HK.isO (PySem.W.typeIn K (.ref (He.fAd K ("Wrong", some "__init__")))) (some (.type "function")),
  fun K => He.eqO (PySem.W.findIn K (.ref (He.ga K "NoChain")) "at") (some none),
  fun K => exfB K (He.ga K "NoChain"),
  fun K => HK.isO (PySem.W.typeIn K (.ref (He.fAd K ("NoChain", some "__init__")))) (some (.type "function")),
  fun K => He.eqO (PySem.W.findIn K (.ref (He.ga K "NoOffer")) "at") (some none),
  fun K => exfB K (He.ga K "NoOffer"),
  fun K => HK.isO (PySem.W.typeIn K (.ref (He.fAd K ("NoOffer", some "__init__")))) (some (.type "function")),
  fun K => He.eqO (PySem.W.findIn K (.ref (He.ga K "Twice")) "key") (some none),
  fun K => exfB K (He.ga K "Twice"),
  fun K => HK.isO (PySem.W.typeIn K (.ref (He.fAd K ("Twice", some "__init__")))) (some (.type "function")),
  fun K => He.eqO (PySem.W.findIn K (.ref (He.ga K "NoPaper")) "key") (some none),
  fun K => exfB K (He.ga K "NoPaper"),
  fun K => HK.isO (PySem.W.typeIn K (.ref (He.fAd K ("NoPaper", some "__init__")))) (some (.type "function")),
  fun K => He.eqO (PySem.W.findIn K (.ref (He.ga K "NoOff")) "key") (some none),
  fun K => exfB K (He.ga K "NoOff"),
  fun K => HK.isO (PySem.W.typeIn K (.ref (He.fAd K ("NoOff", some "__init__")))) (some (.type "function")),
  fun K => He.eqO (PySem.W.findIn K (.ref (He.ga K "NoReading")) "key") (some none),
  fun K => exfB K (He.ga K "NoReading"),
  fun K => HK.isO (PySem.W.typeIn K (.ref (He.fAd K ("NoReading", some "__init__")))) (some (.type "function")),
  fun K => He.eqO (PySem.W.findIn K (.ref (He.ga K "TooMany")) "most") (some none),
  fun K => exfB K (He.ga K "TooMany"),
  fun K => HK.isO (PySem.W.typeIn K (.ref (He.fAd K ("TooMany", some "__init__")))) (some (.type "function")),
  fun K => He.eqO (PySem.W.findIn K (.ref (He.ga K "NoThing")) "name") (some none),
  fun K => exfB K (He.ga K "NoThing"),
  fun K => HK.isO (PySem.W.typeIn K (.ref (He.fAd K ("NoThing", some "__init__")))) (some (.type "function")),
  fun K => He.eqO (PySem.W.findIn K (.ref (He.ga K "NoOffer")) "at") (some none),
  fun K => He.eqO (PySem.W.findIn K (.ref (He.ga K "NoChain")) "at") (some none),
  fun K => He.eqO (PySem.W.findIn K (.ref (He.ga K "Wrong")) "at") (some none),
  fun K => He.eqO (PySem.W.findIn K (.ref (He.ga K "NoReading")) "key") (some none)]
def hk_ex3 : List HK.Ck := [
  fun K => He.eqO (PySem.W.findIn K (.ref (He.ga K "NoOff")) "key") (some none),
  fun K => He.eqO (PySem.W.findIn K (.ref (He.ga K "NoPaper")) "key") (some none),
  fun K => He.eqO (PySem.W.findIn K (.ref (He.ga K "Twice")) "key") (some none),
  fun K => He.eqO (PySem.W.findIn K (.ref (He.ga K "TooMany")) "most") (some none),
  fun K => He.eqO (PySem.W.findIn K (.ref (He.ga K "NoThing")) "name") (some none),
  fun K => HK.isB (PySem.W.kitOne K (.ref (He.ga K "NoRow")) (.ref (He.ga K "Twice"))) (some (isX "NoRow" "Twice")),
  fun K => HK.isB (PySem.W.kitOne K (.ref (He.ga K "NoDeed")) (.ref (He.ga K "Twice"))) (some (isX "NoDeed" "Twice")),
  fun K => HK.isB (PySem.W.kitOne K (.ref (He.ga K "NoText")) (.ref (He.ga K "Twice"))) (some (isX "NoText" "Twice")),
  fun K => HK.isB (PySem.W.kitOne K (.ref (He.ga K "NoSpot")) (.ref (He.ga K "Twice"))) (some (isX "NoSpot" "Twice")),
  fun K => HK.isB (PySem.W.kitOne K (.ref (He.ga K "NoThing")) (.ref (He.ga K "Twice"))) (some (isX "NoThing" "Twice")),
  fun K => HK.isB (PySem.W.kitOne K (.ref (He.ga K "TooMany")) (.ref (He.ga K "Twice"))) (some (isX "TooMany" "Twice")),
  fun K => HK.isB (PySem.W.kitOne K (.ref (He.ga K "NoReading")) (.ref (He.ga K "Twice"))) (some (isX "NoReading" "Twice")),
  fun K => HK.isB (PySem.W.kitOne K (.ref (He.ga K "NoOff")) (.ref (He.ga K "Twice"))) (some (isX "NoOff" "Twice")),
  fun K => HK.isB (PySem.W.kitOne K (.ref (He.ga K "NoPaper")) (.ref (He.ga K "Twice"))) (some (isX "NoPaper" "Twice")),
  fun K => HK.isB (PySem.W.kitOne K (.ref (He.ga K "Twice")) (.ref (He.ga K "Twice"))) (some (isX "Twice" "Twice")),
  fun K => HK.isB (PySem.W.kitOne K (.ref (He.ga K "NoOffer")) (.ref (He.ga K "Twice"))) (some (isX "NoOffer" "Twice")),
  fun K => HK.isB (PySem.W.kitOne K (.ref (He.ga K "NoChain")) (.ref (He.ga K "Twice"))) (some (isX "NoChain" "Twice")),
  fun K => HK.isB (PySem.W.kitOne K (.ref (He.ga K "Wrong")) (.ref (He.ga K "Twice"))) (some (isX "Wrong" "Twice")),
  fun K => HK.isB (PySem.W.kitOne K (.ref (He.ga K "NoRow")) (.ref (He.ga K "NoOffer"))) (some (isX "NoRow" "NoOffer")),
  fun K => HK.isB (PySem.W.kitOne K (.ref (He.ga K "NoDeed")) (.ref (He.ga K "NoOffer"))) (some (isX "NoDeed" "NoOffer")),
  fun K => HK.isB (PySem.W.kitOne K (.ref (He.ga K "NoText")) (.ref (He.ga K "NoOffer"))) (some (isX "NoText" "NoOffer")),
  fun K => HK.isB (PySem.W.kitOne K (.ref (He.ga K "NoSpot")) (.ref (He.ga K "NoOffer"))) (some (isX "NoSpot" "NoOffer")),
  fun K => HK.isB (PySem.W.kitOne K (.ref (He.ga K "NoThing")) (.ref (He.ga K "NoOffer"))) (some (isX "NoThing" "NoOffer")),
  fun K => HK.isB (PySem.W.kitOne K (.ref (He.ga K "TooMany")) (.ref (He.ga K "NoOffer"))) (some (isX "TooMany" "NoOffer")),
  fun K => HK.isB (PySem.W.kitOne K (.ref (He.ga K "NoReading")) (.ref (He.ga K "NoOffer"))) (some (isX "NoReading" "NoOffer")),
  fun K => HK.isB (PySem.W.kitOne K (.ref (He.ga K "NoOff")) (.ref (He.ga K "NoOffer"))) (some (isX "NoOff" "NoOffer")),
  fun K => HK.isB (PySem.W.kitOne K (.ref (He.ga K "NoPaper")) (.ref (He.ga K "NoOffer"))) (some (isX "NoPaper" "NoOffer")),
  fun K => HK.isB (PySem.W.kitOne K (.ref (He.ga K "Twice")) (.ref (He.ga K "NoOffer"))) (some (isX "Twice" "NoOffer")),
  fun K => HK.isB (PySem.W.kitOne K (.ref (He.ga K "NoOffer")) (.ref (He.ga K "NoOffer"))) (some (isX "NoOffer" "NoOffer")),
  fun K => HK.isB (PySem.W.kitOne K (.ref (He.ga K "NoChain")) (.ref (He.ga K "NoOffer"))) (some (isX "NoChain" "NoOffer")),
  fun K => HK.isB (PySem.W.kitOne K (.ref (He.ga K "Wrong")) (.ref (He.ga K "NoOffer"))) (some (isX "Wrong" "NoOffer")),
  fun K => HK.isB (PySem.W.kitOne K (.ref (He.ga K "NoRow")) (.ref (He.ga K "NoChain"))) (some (isX "NoRow" "NoChain")),
  fun K => HK.isB (PySem.W.kitOne K (.ref (He.ga K "NoDeed")) (.ref (He.ga K "NoChain"))) (some (isX "NoDeed" "NoChain")),
  fun K => HK.isB (PySem.W.kitOne K (.ref (He.ga K "NoText")) (.ref (He.ga K "NoChain"))) (some (isX "NoText" "NoChain")),
  fun K => HK.isB (PySem.W.kitOne K (.ref (He.ga K "NoSpot")) (.ref (He.ga K "NoChain"))) (some (isX "NoSpot" "NoChain")),
  fun K => HK.isB (PySem.W.kitOne K (.ref (He.ga K "NoThing")) (.ref (He.ga K "NoChain"))) (some (isX "NoThing" "NoChain"))]
def hk_ex4 : List HK.Ck := [
  fun K => HK.isB (PySem.W.kitOne K (.ref (He.ga K "TooMany")) (.ref (He.ga K "NoChain"))) (some (isX "TooMany" "NoChain")),
  fun K => HK.isB (PySem.W.kitOne K (.ref (He.ga K "NoReading")) (.ref (He.ga K "NoChain"))) (some (isX "NoReading" "NoChain")),
  fun K => HK.isB (PySem.W.kitOne K (.ref (He.ga K "NoOff")) (.ref (He.ga K "NoChain"))) (some (isX "NoOff" "NoChain")),
  fun K => HK.isB (PySem.W.kitOne K (.ref (He.ga K "NoPaper")) (.ref (He.ga K "NoChain"))) (some (isX "NoPaper" "NoChain")),
  fun K => HK.isB (PySem.W.kitOne K (.ref (He.ga K "Twice")) (.ref (He.ga K "NoChain"))) (some (isX "Twice" "NoChain")),
  fun K => HK.isB (PySem.W.kitOne K (.ref (He.ga K "NoOffer")) (.ref (He.ga K "NoChain"))) (some (isX "NoOffer" "NoChain")),
  fun K => HK.isB (PySem.W.kitOne K (.ref (He.ga K "NoChain")) (.ref (He.ga K "NoChain"))) (some (isX "NoChain" "NoChain")),
  fun K => HK.isB (PySem.W.kitOne K (.ref (He.ga K "Wrong")) (.ref (He.ga K "NoChain"))) (some (isX "Wrong" "NoChain")),
  fun K => HK.isB (PySem.W.kitOne K (.ref (He.ga K "NoRow")) (.ref (He.ga K "Wrong"))) (some (isX "NoRow" "Wrong")),
  fun K => HK.isB (PySem.W.kitOne K (.ref (He.ga K "NoDeed")) (.ref (He.ga K "Wrong"))) (some (isX "NoDeed" "Wrong")),
  fun K => HK.isB (PySem.W.kitOne K (.ref (He.ga K "NoText")) (.ref (He.ga K "Wrong"))) (some (isX "NoText" "Wrong")),
  fun K => HK.isB (PySem.W.kitOne K (.ref (He.ga K "NoSpot")) (.ref (He.ga K "Wrong"))) (some (isX "NoSpot" "Wrong")),
  fun K => HK.isB (PySem.W.kitOne K (.ref (He.ga K "NoThing")) (.ref (He.ga K "Wrong"))) (some (isX "NoThing" "Wrong")),
  fun K => HK.isB (PySem.W.kitOne K (.ref (He.ga K "TooMany")) (.ref (He.ga K "Wrong"))) (some (isX "TooMany" "Wrong")),
  fun K => HK.isB (PySem.W.kitOne K (.ref (He.ga K "NoReading")) (.ref (He.ga K "Wrong"))) (some (isX "NoReading" "Wrong")),
  fun K => HK.isB (PySem.W.kitOne K (.ref (He.ga K "NoOff")) (.ref (He.ga K "Wrong"))) (some (isX "NoOff" "Wrong")),
  fun K => HK.isB (PySem.W.kitOne K (.ref (He.ga K "NoPaper")) (.ref (He.ga K "Wrong"))) (some (isX "NoPaper" "Wrong")),
  fun K => HK.isB (PySem.W.kitOne K (.ref (He.ga K "Twice")) (.ref (He.ga K "Wrong"))) (some (isX "Twice" "Wrong")),
  fun K => HK.isB (PySem.W.kitOne K (.ref (He.ga K "NoOffer")) (.ref (He.ga K "Wrong"))) (some (isX "NoOffer" "Wrong")),
  fun K => HK.isB (PySem.W.kitOne K (.ref (He.ga K "NoChain")) (.ref (He.ga K "Wrong"))) (some (isX "NoChain" "Wrong")),
  fun K => HK.isB (PySem.W.kitOne K (.ref (He.ga K "Wrong")) (.ref (He.ga K "Wrong"))) (some (isX "Wrong" "Wrong")),
  fun K => HK.isB (PySem.W.kitOne K (.ref (He.ga K "NoRow")) (.ref (He.ga K "TooMany"))) (some (isX "NoRow" "TooMany")),
  fun K => HK.isB (PySem.W.kitOne K (.ref (He.ga K "NoDeed")) (.ref (He.ga K "TooMany"))) (some (isX "NoDeed" "TooMany")),
  fun K => HK.isB (PySem.W.kitOne K (.ref (He.ga K "NoText")) (.ref (He.ga K "TooMany"))) (some (isX "NoText" "TooMany")),
  fun K => HK.isB (PySem.W.kitOne K (.ref (He.ga K "NoSpot")) (.ref (He.ga K "TooMany"))) (some (isX "NoSpot" "TooMany")),
  fun K => HK.isB (PySem.W.kitOne K (.ref (He.ga K "NoThing")) (.ref (He.ga K "TooMany"))) (some (isX "NoThing" "TooMany")),
  fun K => HK.isB (PySem.W.kitOne K (.ref (He.ga K "TooMany")) (.ref (He.ga K "TooMany"))) (some (isX "TooMany" "TooMany")),
  fun K => HK.isB (PySem.W.kitOne K (.ref (He.ga K "NoReading")) (.ref (He.ga K "TooMany"))) (some (isX "NoReading" "TooMany")),
  fun K => HK.isB (PySem.W.kitOne K (.ref (He.ga K "NoOff")) (.ref (He.ga K "TooMany"))) (some (isX "NoOff" "TooMany")),
  fun K => HK.isB (PySem.W.kitOne K (.ref (He.ga K "NoPaper")) (.ref (He.ga K "TooMany"))) (some (isX "NoPaper" "TooMany")),
  fun K => HK.isB (PySem.W.kitOne K (.ref (He.ga K "Twice")) (.ref (He.ga K "TooMany"))) (some (isX "Twice" "TooMany")),
  fun K => HK.isB (PySem.W.kitOne K (.ref (He.ga K "NoOffer")) (.ref (He.ga K "TooMany"))) (some (isX "NoOffer" "TooMany")),
  fun K => HK.isB (PySem.W.kitOne K (.ref (He.ga K "NoChain")) (.ref (He.ga K "TooMany"))) (some (isX "NoChain" "TooMany")),
  fun K => HK.isB (PySem.W.kitOne K (.ref (He.ga K "Wrong")) (.ref (He.ga K "TooMany"))) (some (isX "Wrong" "TooMany")),
  fun K => HK.isB (PySem.W.kitOne K (.ref (He.ga K "NoRow")) (.ref (He.ga K "NoReading"))) (some (isX "NoRow" "NoReading")),
  fun K => HK.isB (PySem.W.kitOne K (.ref (He.ga K "NoDeed")) (.ref (He.ga K "NoReading"))) (some (isX "NoDeed" "NoReading"))]
def hk_ex5 : List HK.Ck := [
  fun K => HK.isB (PySem.W.kitOne K (.ref (He.ga K "NoText")) (.ref (He.ga K "NoReading"))) (some (isX "NoText" "NoReading")),
  fun K => HK.isB (PySem.W.kitOne K (.ref (He.ga K "NoSpot")) (.ref (He.ga K "NoReading"))) (some (isX "NoSpot" "NoReading")),
  fun K => HK.isB (PySem.W.kitOne K (.ref (He.ga K "NoThing")) (.ref (He.ga K "NoReading"))) (some (isX "NoThing" "NoReading")),
  fun K => HK.isB (PySem.W.kitOne K (.ref (He.ga K "TooMany")) (.ref (He.ga K "NoReading"))) (some (isX "TooMany" "NoReading")),
  fun K => HK.isB (PySem.W.kitOne K (.ref (He.ga K "NoReading")) (.ref (He.ga K "NoReading"))) (some (isX "NoReading" "NoReading")),
  fun K => HK.isB (PySem.W.kitOne K (.ref (He.ga K "NoOff")) (.ref (He.ga K "NoReading"))) (some (isX "NoOff" "NoReading")),
  fun K => HK.isB (PySem.W.kitOne K (.ref (He.ga K "NoPaper")) (.ref (He.ga K "NoReading"))) (some (isX "NoPaper" "NoReading")),
  fun K => HK.isB (PySem.W.kitOne K (.ref (He.ga K "Twice")) (.ref (He.ga K "NoReading"))) (some (isX "Twice" "NoReading")),
  fun K => HK.isB (PySem.W.kitOne K (.ref (He.ga K "NoOffer")) (.ref (He.ga K "NoReading"))) (some (isX "NoOffer" "NoReading")),
  fun K => HK.isB (PySem.W.kitOne K (.ref (He.ga K "NoChain")) (.ref (He.ga K "NoReading"))) (some (isX "NoChain" "NoReading")),
  fun K => HK.isB (PySem.W.kitOne K (.ref (He.ga K "Wrong")) (.ref (He.ga K "NoReading"))) (some (isX "Wrong" "NoReading")),
  fun K => HK.isB (PySem.W.kitOne K (.ref (He.ga K "NoRow")) (.ref (He.ga K "NoOff"))) (some (isX "NoRow" "NoOff")),
  fun K => HK.isB (PySem.W.kitOne K (.ref (He.ga K "NoDeed")) (.ref (He.ga K "NoOff"))) (some (isX "NoDeed" "NoOff")),
  fun K => HK.isB (PySem.W.kitOne K (.ref (He.ga K "NoText")) (.ref (He.ga K "NoOff"))) (some (isX "NoText" "NoOff")),
  fun K => HK.isB (PySem.W.kitOne K (.ref (He.ga K "NoSpot")) (.ref (He.ga K "NoOff"))) (some (isX "NoSpot" "NoOff")),
  fun K => HK.isB (PySem.W.kitOne K (.ref (He.ga K "NoThing")) (.ref (He.ga K "NoOff"))) (some (isX "NoThing" "NoOff")),
  fun K => HK.isB (PySem.W.kitOne K (.ref (He.ga K "TooMany")) (.ref (He.ga K "NoOff"))) (some (isX "TooMany" "NoOff")),
  fun K => HK.isB (PySem.W.kitOne K (.ref (He.ga K "NoReading")) (.ref (He.ga K "NoOff"))) (some (isX "NoReading" "NoOff")),
  fun K => HK.isB (PySem.W.kitOne K (.ref (He.ga K "NoOff")) (.ref (He.ga K "NoOff"))) (some (isX "NoOff" "NoOff")),
  fun K => HK.isB (PySem.W.kitOne K (.ref (He.ga K "NoPaper")) (.ref (He.ga K "NoOff"))) (some (isX "NoPaper" "NoOff")),
  fun K => HK.isB (PySem.W.kitOne K (.ref (He.ga K "Twice")) (.ref (He.ga K "NoOff"))) (some (isX "Twice" "NoOff")),
  fun K => HK.isB (PySem.W.kitOne K (.ref (He.ga K "NoOffer")) (.ref (He.ga K "NoOff"))) (some (isX "NoOffer" "NoOff")),
  fun K => HK.isB (PySem.W.kitOne K (.ref (He.ga K "NoChain")) (.ref (He.ga K "NoOff"))) (some (isX "NoChain" "NoOff")),
  fun K => HK.isB (PySem.W.kitOne K (.ref (He.ga K "Wrong")) (.ref (He.ga K "NoOff"))) (some (isX "Wrong" "NoOff")),
  fun K => HK.isB (PySem.W.kitOne K (.ref (He.ga K "NoRow")) (.ref (He.ga K "NoPaper"))) (some (isX "NoRow" "NoPaper")),
  fun K => HK.isB (PySem.W.kitOne K (.ref (He.ga K "NoDeed")) (.ref (He.ga K "NoPaper"))) (some (isX "NoDeed" "NoPaper")),
  fun K => HK.isB (PySem.W.kitOne K (.ref (He.ga K "NoText")) (.ref (He.ga K "NoPaper"))) (some (isX "NoText" "NoPaper")),
  fun K => HK.isB (PySem.W.kitOne K (.ref (He.ga K "NoSpot")) (.ref (He.ga K "NoPaper"))) (some (isX "NoSpot" "NoPaper")),
  fun K => HK.isB (PySem.W.kitOne K (.ref (He.ga K "NoThing")) (.ref (He.ga K "NoPaper"))) (some (isX "NoThing" "NoPaper")),
  fun K => HK.isB (PySem.W.kitOne K (.ref (He.ga K "TooMany")) (.ref (He.ga K "NoPaper"))) (some (isX "TooMany" "NoPaper")),
  fun K => HK.isB (PySem.W.kitOne K (.ref (He.ga K "NoReading")) (.ref (He.ga K "NoPaper"))) (some (isX "NoReading" "NoPaper")),
  fun K => HK.isB (PySem.W.kitOne K (.ref (He.ga K "NoOff")) (.ref (He.ga K "NoPaper"))) (some (isX "NoOff" "NoPaper")),
  fun K => HK.isB (PySem.W.kitOne K (.ref (He.ga K "NoPaper")) (.ref (He.ga K "NoPaper"))) (some (isX "NoPaper" "NoPaper")),
  fun K => HK.isB (PySem.W.kitOne K (.ref (He.ga K "Twice")) (.ref (He.ga K "NoPaper"))) (some (isX "Twice" "NoPaper")),
  fun K => HK.isB (PySem.W.kitOne K (.ref (He.ga K "NoOffer")) (.ref (He.ga K "NoPaper"))) (some (isX "NoOffer" "NoPaper")),
  fun K => HK.isB (PySem.W.kitOne K (.ref (He.ga K "NoChain")) (.ref (He.ga K "NoPaper"))) (some (isX "NoChain" "NoPaper"))]
def hk_ex6 : List HK.Ck := [
  fun K => HK.isB (PySem.W.kitOne K (.ref (He.ga K "Wrong")) (.ref (He.ga K "NoPaper"))) (some (isX "Wrong" "NoPaper")),
  fun K => HK.isB (PySem.W.kitOne K (.ref (He.ga K "NoRow")) (.ref (He.ga K "NoDeed"))) (some (isX "NoRow" "NoDeed")),
  fun K => HK.isB (PySem.W.kitOne K (.ref (He.ga K "NoDeed")) (.ref (He.ga K "NoDeed"))) (some (isX "NoDeed" "NoDeed")),
  fun K => HK.isB (PySem.W.kitOne K (.ref (He.ga K "NoText")) (.ref (He.ga K "NoDeed"))) (some (isX "NoText" "NoDeed")),
  fun K => HK.isB (PySem.W.kitOne K (.ref (He.ga K "NoSpot")) (.ref (He.ga K "NoDeed"))) (some (isX "NoSpot" "NoDeed")),
  fun K => HK.isB (PySem.W.kitOne K (.ref (He.ga K "NoThing")) (.ref (He.ga K "NoDeed"))) (some (isX "NoThing" "NoDeed")),
  fun K => HK.isB (PySem.W.kitOne K (.ref (He.ga K "TooMany")) (.ref (He.ga K "NoDeed"))) (some (isX "TooMany" "NoDeed")),
  fun K => HK.isB (PySem.W.kitOne K (.ref (He.ga K "NoReading")) (.ref (He.ga K "NoDeed"))) (some (isX "NoReading" "NoDeed")),
  fun K => HK.isB (PySem.W.kitOne K (.ref (He.ga K "NoOff")) (.ref (He.ga K "NoDeed"))) (some (isX "NoOff" "NoDeed")),
  fun K => HK.isB (PySem.W.kitOne K (.ref (He.ga K "NoPaper")) (.ref (He.ga K "NoDeed"))) (some (isX "NoPaper" "NoDeed")),
  fun K => HK.isB (PySem.W.kitOne K (.ref (He.ga K "Twice")) (.ref (He.ga K "NoDeed"))) (some (isX "Twice" "NoDeed")),
  fun K => HK.isB (PySem.W.kitOne K (.ref (He.ga K "NoOffer")) (.ref (He.ga K "NoDeed"))) (some (isX "NoOffer" "NoDeed")),
  fun K => HK.isB (PySem.W.kitOne K (.ref (He.ga K "NoChain")) (.ref (He.ga K "NoDeed"))) (some (isX "NoChain" "NoDeed")),
  fun K => HK.isB (PySem.W.kitOne K (.ref (He.ga K "Wrong")) (.ref (He.ga K "NoDeed"))) (some (isX "Wrong" "NoDeed")),
  fun K => HK.isB (PySem.W.kitOne K (.ref (He.ga K "NoRow")) (.ref (He.ga K "NoText"))) (some (isX "NoRow" "NoText")),
  fun K => HK.isB (PySem.W.kitOne K (.ref (He.ga K "NoDeed")) (.ref (He.ga K "NoText"))) (some (isX "NoDeed" "NoText")),
  fun K => HK.isB (PySem.W.kitOne K (.ref (He.ga K "NoText")) (.ref (He.ga K "NoText"))) (some (isX "NoText" "NoText")),
  fun K => HK.isB (PySem.W.kitOne K (.ref (He.ga K "NoSpot")) (.ref (He.ga K "NoText"))) (some (isX "NoSpot" "NoText")),
  fun K => HK.isB (PySem.W.kitOne K (.ref (He.ga K "NoThing")) (.ref (He.ga K "NoText"))) (some (isX "NoThing" "NoText")),
  fun K => HK.isB (PySem.W.kitOne K (.ref (He.ga K "TooMany")) (.ref (He.ga K "NoText"))) (some (isX "TooMany" "NoText")),
  fun K => HK.isB (PySem.W.kitOne K (.ref (He.ga K "NoReading")) (.ref (He.ga K "NoText"))) (some (isX "NoReading" "NoText")),
  fun K => HK.isB (PySem.W.kitOne K (.ref (He.ga K "NoOff")) (.ref (He.ga K "NoText"))) (some (isX "NoOff" "NoText")),
  fun K => HK.isB (PySem.W.kitOne K (.ref (He.ga K "NoPaper")) (.ref (He.ga K "NoText"))) (some (isX "NoPaper" "NoText")),
  fun K => HK.isB (PySem.W.kitOne K (.ref (He.ga K "Twice")) (.ref (He.ga K "NoText"))) (some (isX "Twice" "NoText")),
  fun K => HK.isB (PySem.W.kitOne K (.ref (He.ga K "NoOffer")) (.ref (He.ga K "NoText"))) (some (isX "NoOffer" "NoText")),
  fun K => HK.isB (PySem.W.kitOne K (.ref (He.ga K "NoChain")) (.ref (He.ga K "NoText"))) (some (isX "NoChain" "NoText")),
  fun K => HK.isB (PySem.W.kitOne K (.ref (He.ga K "Wrong")) (.ref (He.ga K "NoText"))) (some (isX "Wrong" "NoText")),
  fun K => HK.isB (PySem.W.kitOne K (.ref (He.ga K "NoRow")) (.ref (He.ga K "NoSpot"))) (some (isX "NoRow" "NoSpot")),
  fun K => HK.isB (PySem.W.kitOne K (.ref (He.ga K "NoDeed")) (.ref (He.ga K "NoSpot"))) (some (isX "NoDeed" "NoSpot")),
  fun K => HK.isB (PySem.W.kitOne K (.ref (He.ga K "NoText")) (.ref (He.ga K "NoSpot"))) (some (isX "NoText" "NoSpot")),
  fun K => HK.isB (PySem.W.kitOne K (.ref (He.ga K "NoSpot")) (.ref (He.ga K "NoSpot"))) (some (isX "NoSpot" "NoSpot")),
  fun K => HK.isB (PySem.W.kitOne K (.ref (He.ga K "NoThing")) (.ref (He.ga K "NoSpot"))) (some (isX "NoThing" "NoSpot")),
  fun K => HK.isB (PySem.W.kitOne K (.ref (He.ga K "TooMany")) (.ref (He.ga K "NoSpot"))) (some (isX "TooMany" "NoSpot")),
  fun K => HK.isB (PySem.W.kitOne K (.ref (He.ga K "NoReading")) (.ref (He.ga K "NoSpot"))) (some (isX "NoReading" "NoSpot")),
  fun K => HK.isB (PySem.W.kitOne K (.ref (He.ga K "NoOff")) (.ref (He.ga K "NoSpot"))) (some (isX "NoOff" "NoSpot")),
  fun K => HK.isB (PySem.W.kitOne K (.ref (He.ga K "NoPaper")) (.ref (He.ga K "NoSpot"))) (some (isX "NoPaper" "NoSpot"))]
def hk_ex7 : List HK.Ck := [
  fun K => HK.isB (PySem.W.kitOne K (.ref (He.ga K "Twice")) (.ref (He.ga K "NoSpot"))) (some (isX "Twice" "NoSpot")),
  fun K => HK.isB (PySem.W.kitOne K (.ref (He.ga K "NoOffer")) (.ref (He.ga K "NoSpot"))) (some (isX "NoOffer" "NoSpot")),
  fun K => HK.isB (PySem.W.kitOne K (.ref (He.ga K "NoChain")) (.ref (He.ga K "NoSpot"))) (some (isX "NoChain" "NoSpot")),
  fun K => HK.isB (PySem.W.kitOne K (.ref (He.ga K "Wrong")) (.ref (He.ga K "NoSpot"))) (some (isX "Wrong" "NoSpot")),
  fun K => HK.isB (PySem.W.kitOne K (.ref (He.ga K "NoRow")) (.ref (He.ga K "NoThing"))) (some (isX "NoRow" "NoThing")),
  fun K => HK.isB (PySem.W.kitOne K (.ref (He.ga K "NoDeed")) (.ref (He.ga K "NoThing"))) (some (isX "NoDeed" "NoThing")),
  fun K => HK.isB (PySem.W.kitOne K (.ref (He.ga K "NoText")) (.ref (He.ga K "NoThing"))) (some (isX "NoText" "NoThing")),
  fun K => HK.isB (PySem.W.kitOne K (.ref (He.ga K "NoSpot")) (.ref (He.ga K "NoThing"))) (some (isX "NoSpot" "NoThing")),
  fun K => HK.isB (PySem.W.kitOne K (.ref (He.ga K "NoThing")) (.ref (He.ga K "NoThing"))) (some (isX "NoThing" "NoThing")),
  fun K => HK.isB (PySem.W.kitOne K (.ref (He.ga K "TooMany")) (.ref (He.ga K "NoThing"))) (some (isX "TooMany" "NoThing")),
  fun K => HK.isB (PySem.W.kitOne K (.ref (He.ga K "NoReading")) (.ref (He.ga K "NoThing"))) (some (isX "NoReading" "NoThing")),
  fun K => HK.isB (PySem.W.kitOne K (.ref (He.ga K "NoOff")) (.ref (He.ga K "NoThing"))) (some (isX "NoOff" "NoThing")),
  fun K => HK.isB (PySem.W.kitOne K (.ref (He.ga K "NoPaper")) (.ref (He.ga K "NoThing"))) (some (isX "NoPaper" "NoThing")),
  fun K => HK.isB (PySem.W.kitOne K (.ref (He.ga K "Twice")) (.ref (He.ga K "NoThing"))) (some (isX "Twice" "NoThing")),
  fun K => HK.isB (PySem.W.kitOne K (.ref (He.ga K "NoOffer")) (.ref (He.ga K "NoThing"))) (some (isX "NoOffer" "NoThing")),
  fun K => HK.isB (PySem.W.kitOne K (.ref (He.ga K "NoChain")) (.ref (He.ga K "NoThing"))) (some (isX "NoChain" "NoThing")),
  fun K => HK.isB (PySem.W.kitOne K (.ref (He.ga K "Wrong")) (.ref (He.ga K "NoThing"))) (some (isX "Wrong" "NoThing")),
  fun K => HK.isB (PySem.W.kitOne K (.ref (He.ga K "NoRow")) (.ref (He.ga K "NoRow"))) (some (isX "NoRow" "NoRow")),
  fun K => HK.isB (PySem.W.kitOne K (.ref (He.ga K "NoDeed")) (.ref (He.ga K "NoRow"))) (some (isX "NoDeed" "NoRow")),
  fun K => HK.isB (PySem.W.kitOne K (.ref (He.ga K "NoText")) (.ref (He.ga K "NoRow"))) (some (isX "NoText" "NoRow")),
  fun K => HK.isB (PySem.W.kitOne K (.ref (He.ga K "NoSpot")) (.ref (He.ga K "NoRow"))) (some (isX "NoSpot" "NoRow")),
  fun K => HK.isB (PySem.W.kitOne K (.ref (He.ga K "NoThing")) (.ref (He.ga K "NoRow"))) (some (isX "NoThing" "NoRow")),
  fun K => HK.isB (PySem.W.kitOne K (.ref (He.ga K "TooMany")) (.ref (He.ga K "NoRow"))) (some (isX "TooMany" "NoRow")),
  fun K => HK.isB (PySem.W.kitOne K (.ref (He.ga K "NoReading")) (.ref (He.ga K "NoRow"))) (some (isX "NoReading" "NoRow")),
  fun K => HK.isB (PySem.W.kitOne K (.ref (He.ga K "NoOff")) (.ref (He.ga K "NoRow"))) (some (isX "NoOff" "NoRow")),
  fun K => HK.isB (PySem.W.kitOne K (.ref (He.ga K "NoPaper")) (.ref (He.ga K "NoRow"))) (some (isX "NoPaper" "NoRow")),
  fun K => HK.isB (PySem.W.kitOne K (.ref (He.ga K "Twice")) (.ref (He.ga K "NoRow"))) (some (isX "Twice" "NoRow")),
  fun K => HK.isB (PySem.W.kitOne K (.ref (He.ga K "NoOffer")) (.ref (He.ga K "NoRow"))) (some (isX "NoOffer" "NoRow")),
  fun K => HK.isB (PySem.W.kitOne K (.ref (He.ga K "NoChain")) (.ref (He.ga K "NoRow"))) (some (isX "NoChain" "NoRow")),
  fun K => HK.isB (PySem.W.kitOne K (.ref (He.ga K "Wrong")) (.ref (He.ga K "NoRow"))) (some (isX "Wrong" "NoRow")),
  fun K => HK.isB (PySem.W.exmOne K (.ref (He.ga K "NoRow")) (.ref (He.ga K "ChainError"))) (some (isX "NoRow" "ChainError")),
  fun K => HK.isB (PySem.W.exmOne K (.ref (He.ga K "NoDeed")) (.ref (He.ga K "ChainError"))) (some (isX "NoDeed" "ChainError")),
  fun K => HK.isB (PySem.W.exmOne K (.ref (He.ga K "NoText")) (.ref (He.ga K "ChainError"))) (some (isX "NoText" "ChainError")),
  fun K => HK.isB (PySem.W.exmOne K (.ref (He.ga K "NoSpot")) (.ref (He.ga K "ChainError"))) (some (isX "NoSpot" "ChainError")),
  fun K => HK.isB (PySem.W.exmOne K (.ref (He.ga K "NoThing")) (.ref (He.ga K "ChainError"))) (some (isX "NoThing" "ChainError")),
  fun K => HK.isB (PySem.W.exmOne K (.ref (He.ga K "TooMany")) (.ref (He.ga K "ChainError"))) (some (isX "TooMany" "ChainError"))]
def hk_ex8 : List HK.Ck := [
  fun K => HK.isB (PySem.W.exmOne K (.ref (He.ga K "NoReading")) (.ref (He.ga K "ChainError"))) (some (isX "NoReading" "ChainError")),
  fun K => HK.isB (PySem.W.exmOne K (.ref (He.ga K "NoOff")) (.ref (He.ga K "ChainError"))) (some (isX "NoOff" "ChainError")),
  fun K => HK.isB (PySem.W.exmOne K (.ref (He.ga K "NoPaper")) (.ref (He.ga K "ChainError"))) (some (isX "NoPaper" "ChainError")),
  fun K => HK.isB (PySem.W.exmOne K (.ref (He.ga K "Twice")) (.ref (He.ga K "ChainError"))) (some (isX "Twice" "ChainError")),
  fun K => HK.isB (PySem.W.exmOne K (.ref (He.ga K "NoOffer")) (.ref (He.ga K "ChainError"))) (some (isX "NoOffer" "ChainError")),
  fun K => HK.isB (PySem.W.exmOne K (.ref (He.ga K "NoChain")) (.ref (He.ga K "ChainError"))) (some (isX "NoChain" "ChainError")),
  fun K => HK.isB (PySem.W.exmOne K (.ref (He.ga K "Wrong")) (.ref (He.ga K "ChainError"))) (some (isX "Wrong" "ChainError")),
  fun K => HK.isB (PySem.W.kitOne K (.ref (He.ga K "NoRow")) (.type "ValueError")) (some true),
  fun K => HK.isB (PySem.W.kitOne K (.ref (He.ga K "NoDeed")) (.type "ValueError")) (some true),
  fun K => HK.isB (PySem.W.kitOne K (.ref (He.ga K "NoText")) (.type "ValueError")) (some true),
  fun K => HK.isB (PySem.W.kitOne K (.ref (He.ga K "NoSpot")) (.type "ValueError")) (some true),
  fun K => HK.isB (PySem.W.kitOne K (.ref (He.ga K "NoThing")) (.type "ValueError")) (some true),
  fun K => HK.isB (PySem.W.kitOne K (.ref (He.ga K "TooMany")) (.type "ValueError")) (some true),
  fun K => HK.isB (PySem.W.kitOne K (.ref (He.ga K "NoReading")) (.type "ValueError")) (some true),
  fun K => HK.isB (PySem.W.kitOne K (.ref (He.ga K "NoOff")) (.type "ValueError")) (some true),
  fun K => HK.isB (PySem.W.kitOne K (.ref (He.ga K "NoPaper")) (.type "ValueError")) (some true),
  fun K => HK.isB (PySem.W.kitOne K (.ref (He.ga K "Twice")) (.type "ValueError")) (some true),
  fun K => HK.isB (PySem.W.kitOne K (.ref (He.ga K "NoOffer")) (.type "ValueError")) (some true),
  fun K => HK.isB (PySem.W.kitOne K (.ref (He.ga K "NoChain")) (.type "ValueError")) (some true),
  fun K => HK.isB (PySem.W.kitOne K (.ref (He.ga K "Wrong")) (.type "ValueError")) (some true)]
def hk_ts : List (Str × List Str) := []
def hk_names0 : List Str := ["ChainError", "Wrong", "NoSpot", "NoText", "Twice", "TooMany", "NoPaper", "NoThing", "NoChain", "NoOff", "NoReading", "NoOffer", "NoDeed", "NoRow", "_law_bag", "_law_take", "_law_alike", "_law_raised", "_law_bare", "_law_field"]
def hk_names1 : List Str := ["_law_flags", "_law_caught", "_law_right"]
def hk_names : List Str := hk_names0 ++ (hk_names1)
def hk_ex : List (List HK.Ck) := [hk_ex0 ++ (hk_ex1 ++ (hk_ex2 ++ (hk_ex3 ++ (hk_ex4 ++ (hk_ex5 ++ (hk_ex6 ++ (hk_ex7 ++ (hk_ex8))))))))]
end K17
namespace K17
open PySem PySem.Spec PyProof.Rows L2 DL
theorem hk_runA (w : World) : HK.Seen (PySem.W.OpenLaw.row PySem.Challenge.rw_truechain_k17_refusals_apart) 60000 (HK.lookS (PySem.W.OpenLaw.row PySem.Challenge.rw_truechain_k17_refusals_apart) (PySem.W.view (PySem.W.OpenLaw.row PySem.Challenge.rw_truechain_k17_refusals_apart).prog [25]) hk_names) (HK.goodS (PySem.W.view (PySem.W.OpenLaw.row PySem.Challenge.rw_truechain_k17_refusals_apart).prog [25]) hk_names) w :=
  PySem.W.byRow2 "special-get-raises" (P := HK.Seen (PySem.W.OpenLaw.row PySem.Challenge.rw_truechain_k17_refusals_apart) 60000 (HK.lookS (PySem.W.OpenLaw.row PySem.Challenge.rw_truechain_k17_refusals_apart) (PySem.W.view (PySem.W.OpenLaw.row PySem.Challenge.rw_truechain_k17_refusals_apart).prog [25]) hk_names) (HK.goodS (PySem.W.view (PySem.W.OpenLaw.row PySem.Challenge.rw_truechain_k17_refusals_apart).prog [25]) hk_names)) (fun w => by intro os; kernel_rfl) (fun w => by intro os; kernel_rfl) w
theorem hk_runB0 (w : World) : HK.Seen (PySem.W.OpenLaw.row PySem.Challenge.rw_truechain_k17_refusals_apart) 60000 (HK.exS 6 [hk_ex0 ++ (hk_ex1 ++ (hk_ex2 ++ (hk_ex3 ++ (hk_ex4 ++ (hk_ex5 ++ (hk_ex6 ++ (hk_ex7 ++ (hk_ex8))))))))]) (HK.yesS) w :=
  PySem.W.byRow2 "special-get-raises" (P := HK.Seen (PySem.W.OpenLaw.row PySem.Challenge.rw_truechain_k17_refusals_apart) 60000 (HK.exS 6 [hk_ex0 ++ (hk_ex1 ++ (hk_ex2 ++ (hk_ex3 ++ (hk_ex4 ++ (hk_ex5 ++ (hk_ex6 ++ (hk_ex7 ++ (hk_ex8))))))))]) (HK.yesS)) (fun w => by intro os; kernel_rfl) (fun w => by intro os; kernel_rfl) w
theorem hk_runC (w : World) : HK.Seen (PySem.W.OpenLaw.row PySem.Challenge.rw_truechain_k17_refusals_apart) 60000 (HK.cdS 6 hk_fn hk_ts) (fun w => (true, hk_fn.map He.FnD.val, hk_ts.map fun t => some (He.keysIn w.params t.2))) w :=
  PySem.W.byRow2 "special-get-raises" (P := HK.Seen (PySem.W.OpenLaw.row PySem.Challenge.rw_truechain_k17_refusals_apart) 60000 (HK.cdS 6 hk_fn hk_ts) (fun w => (true, hk_fn.map He.FnD.val, hk_ts.map fun t => some (He.keysIn w.params t.2)))) (fun w => by intro os; kernel_rfl) (fun w => by intro os; kernel_rfl) w
theorem hk_run (w : World) : HandSHeadRun.RunEq (PySem.W.OpenLaw.row PySem.Challenge.rw_truechain_k17_refusals_apart) (PySem.W.view (PySem.W.OpenLaw.row PySem.Challenge.rw_truechain_k17_refusals_apart).prog [25]) (HK.hook3 6 hk_ex hk_fn hk_ts) (HK.ob3 6 hk_ex hk_fn hk_ts) 60000 hk_names w :=
  HK.run_parts w (hk_runA w) (fun e he => by
    rcases List.mem_cons.mp he with rfl | he; · exact hk_runB0 w
    cases he) (hk_runC w)
end K17
namespace DL
open PySem PySem.Spec PyProof.Rows L2
/-- data: frozen trees, and pointers into the store of what may still change -/
inductive D where
  | non | bl (b : Bool) | int (i : Int) | str (x : Str)
  | tup (ds : List D) | lst (ds : List D) | fz (ds : List D) | ptr (i : Nat) | ty (n : String)
  | dic (kvs : List (L2.Key × D)) | adr (a : Addr) | gl (x : Str)
/-- the module's names that stand for objects: defs, classes -/
class Cl where
  ad : Str → Option Addr
instance (priority := low) clNone : Cl := ⟨fun _ => none⟩
variable [Cl]
/-- the data world: where the store's cells lie, the frozen heap -/
structure Wd where
  be : List Addr
  st : Hp
structure Wd.Le (W W' : Wd) : Prop where
  be : ∀ (i : Nat) (a : Addr), W.be[i]? = some a → W'.be[i]? = some a
  st : Same W.st W'.st
theorem Wd.Le.refl (W : Wd) : W.Le W := ⟨fun _ _ h => h, Same.refl _⟩
theorem Wd.Le.trans {W W' W'' : Wd} (h : W.Le W') (h' : W'.Le W'') : W.Le W'' := ⟨fun i a e => h'.be i a (h.be i a e), h.st.trans h'.st⟩
mutual
inductive R (K : PySem.W.Frag) (W : Wd) : V → D → Prop
  | non : R K W .non .non
  | bl (b : Bool) : R K W (.bl b) (.bl b)
  | int (i : Int) : R K W (.int i) (.int i)
  | str (x : Str) : R K W (.str x) (.str x)
  | tup {a : Addr} {xs : List V} {ds : List D} : SqT K W.st a xs → RA K W xs ds → R K W (.ref a) (.tup ds)
  | lst {a : Addr} {xs : List V} {ds : List D} : W.st a = some (.lst xs) → RA K W xs ds → R K W (.ref a) (.lst ds)
  | fz {a : Addr} {xs : List V} {ds : List D} : SqL K W.st a xs → RA K W xs ds → R K W (.ref a) (.fz ds)
  | ty (n : String) : R K W (.ty n) (.ty n)
  | ptr {a : Addr} {i : Nat} : W.be[i]? = some a → R K W (.ref a) (.ptr i)
  | dic {a : Addr} {xs : List (L2.Key × V)} {ds : List (L2.Key × D)} : W.st a = some (.dK xs) → RD K W xs ds → R K W (.ref a) (.dic ds)
  | adr (a : Addr) : R K W (.ref a) (.adr a)
  | gl {a : Addr} {x : Str} : Cl.ad x = some a → R K W (.ref a) (.gl x)
inductive RA (K : PySem.W.Frag) (W : Wd) : List V → List D → Prop
  | nil : RA K W [] []
  | cons {v : V} {vs : List V} {d : D} {ds : List D} : R K W v d → RA K W vs ds → RA K W (v :: vs) (d :: ds)
inductive RD (K : PySem.W.Frag) (W : Wd) : List (L2.Key × V) → List (L2.Key × D) → Prop
  | nil : RD K W [] []
  | cons {k : L2.Key} {v : V} {vs : List (L2.Key × V)} {d : D} {ds : List (L2.Key × D)} : R K W v d → RD K W vs ds → RD K W ((k, v) :: vs) ((k, d) :: ds)
end
section
variable {K : PySem.W.Frag} {W W' : Wd}
theorem same_seqL {H H' : Hp} (s : Same H H') {a : Addr} {xs : List V} (h : SqL K H a xs) : SqL K H' a xs := s.seq h
theorem same_seqT {H H' : Hp} (s : Same H H') {a : Addr} {xs : List V} (h : SqT K H a xs) : SqT K H' a xs := by
  rcases h with (h | ⟨o, h⟩) | h
  · exact .inl (.inl (s _ _ h))
  · exact .inl (.inr ⟨o, s _ _ h⟩)
  · exact .inr h
mutual
theorem R.mono (l : W.Le W') : ∀ {v : V} {d : D}, R K W v d → R K W' v d
  | _, _, .non => .non
  | _, _, .bl b => .bl b
  | _, _, .int i => .int i
  | _, _, .str x => .str x
  | _, _, .tup h r => .tup (same_seqT l.st h) (RA.mono l r)
  | _, _, .lst h r => .lst (l.st _ _ h) (RA.mono l r)
  | _, _, .fz h r => .fz (same_seqL l.st h) (RA.mono l r)
  | _, _, .ty n => .ty n
  | _, _, .ptr h => .ptr (l.be _ _ h)
  | _, _, .dic h r => .dic (l.st _ _ h) (RD.mono l r)
  | _, _, .adr a => .adr a
  | _, _, .gl h => .gl h
theorem RA.mono (l : W.Le W') : ∀ {vs : List V} {ds : List D}, RA K W vs ds → RA K W' vs ds
  | _, _, .nil => .nil
  | _, _, .cons h r => .cons (R.mono l h) (RA.mono l r)
theorem RD.mono (l : W.Le W') : ∀ {vs : List (L2.Key × V)} {ds : List (L2.Key × D)}, RD K W vs ds → RD K W' vs ds
  | _, _, .nil => .nil
  | _, _, .cons h r => .cons (R.mono l h) (RD.mono l r)
end
theorem RD.len : ∀ {vs : List (L2.Key × V)} {ds : List (L2.Key × D)}, RD K W vs ds → vs.length = ds.length
  | _, _, .nil => rfl
  | _, _, .cons _ r => by rw [List.length_cons, List.length_cons, RD.len r]
theorem RA.len : ∀ {vs : List V} {ds : List D}, RA K W vs ds → vs.length = ds.length
  | _, _, .nil => rfl
  | _, _, .cons _ r => by rw [List.length_cons, List.length_cons, RA.len r]
theorem RA.get : ∀ {vs : List V} {ds : List D} {i : Nat} {d : D}, RA K W vs ds → ds[i]? = some d → ∃ v, vs[i]? = some v ∧ R K W v d
  | _, _, _, _, .nil, e => by simp at e
  | _, _, 0, _, .cons h _, e => by
    simp only [List.getElem?_cons_zero, Option.some.injEq] at e
    subst e
    exact ⟨_, rfl, h⟩
  | _, _, i + 1, _, .cons _ r, e => by
    rw [List.getElem?_cons_succ] at e ⊢
    exact RA.get r e
theorem RA.getV : ∀ {vs : List V} {ds : List D} {i : Nat} {v : V}, RA K W vs ds → vs[i]? = some v → ∃ d, ds[i]? = some d ∧ R K W v d
  | _, _, _, _, .nil, e => by simp at e
  | _, _, 0, _, .cons h _, e => by
    simp only [List.getElem?_cons_zero, Option.some.injEq] at e
    subst e
    exact ⟨_, rfl, h⟩
  | _, _, i + 1, _, .cons _ r, e => by
    rw [List.getElem?_cons_succ] at e ⊢
    exact RA.getV r e
theorem RA.app : ∀ {vs us : List V} {ds es : List D}, RA K W vs ds → RA K W us es → RA K W (vs ++ us) (ds ++ es)
  | _, _, _, _, .nil, s => s
  | _, _, _, _, .cons h r, s => .cons h (RA.app r s)
theorem RA.tk : ∀ {vs : List V} {ds : List D} (n : Nat), RA K W vs ds → RA K W (vs.take n) (ds.take n)
  | _, _, 0, _ => .nil
  | _, _, _ + 1, .nil => .nil
  | _, _, n + 1, .cons h r => .cons h (RA.tk n r)
theorem RA.dp : ∀ {vs : List V} {ds : List D} (n : Nat), RA K W vs ds → RA K W (vs.drop n) (ds.drop n)
  | _, _, 0, r => r
  | _, _, _ + 1, .nil => .nil
  | _, _, n + 1, .cons _ r => RA.dp n r
theorem RA.set {v : V} {d : D} (h : R K W v d) : ∀ {vs : List V} {ds : List D} (i : Nat), RA K W vs ds → RA K W (vs.set i v) (ds.set i d)
  | _, _, _, .nil => .nil
  | _, _, 0, .cons _ r => .cons h r
  | _, _, i + 1, .cons q r => .cons q (RA.set h i r)
end
/-- attributes -/
inductive RF (K : PySem.W.Frag) (W : Wd) : List (Str × V) → List (Str × D) → Prop
  | nil : RF K W [] []
  | cons {x : Str} {v : V} {vs : List (Str × V)} {d : D} {ds : List (Str × D)} : R K W v d → RF K W vs ds → RF K W ((x, v) :: vs) ((x, d) :: ds)
section
variable {K : PySem.W.Frag} {W W' : Wd}
theorem RF.mono (l : W.Le W') : ∀ {vs : List (Str × V)} {ds : List (Str × D)}, RF K W vs ds → RF K W' vs ds
  | _, _, .nil => .nil
  | _, _, .cons h r => .cons (R.mono l h) (RF.mono l r)
theorem RF.look : ∀ {vs : List (Str × V)} {ds : List (Str × D)} {x : Str} {d : D}, RF K W vs ds → ds.lookup x = some d → ∃ v, vs.lookup x = some v ∧ R K W v d
  | _, _, _, _, .nil, e => by cases e
  | _, _, x, _, .cons (x := y) h r, e => by
    rw [List.lookup_cons] at e ⊢
    cases q : x == y with
    | true => rw [q] at e; cases e; exact ⟨_, rfl, h⟩
    | false => rw [q] at e; exact RF.look r e
theorem RF.len : ∀ {vs : List (Str × V)} {ds : List (Str × D)}, RF K W vs ds → vs.length = ds.length
  | _, _, .nil => rfl
  | _, _, .cons _ r => by rw [List.length_cons, List.length_cons, RF.len r]
end
/-- what stands in the store -/
inductive Cell where
  | lst (ds : List D)
  | dead
  | dic (kvs : List (L2.Key × D))
  | ins (c : Str) (fs : List (Str × D))
  | exc (c : Str) (fs : List (Str × D))
abbrev Sto := List Cell
/-- an object that nobody changes (an exception that was caught) -/
def exH (oe : Obj) : HO := .frz oe (.own 0)
def CellR (K : PySem.W.Frag) (W : Wd) (H : Hp) (a : Addr) : Cell → Prop
  | .lst ds => ∃ xs, H a = some (.lst xs) ∧ RA K W xs ds
  | .dead => True
  | .dic ds => ∃ xs, H a = some (.dK xs) ∧ RD K W xs ds
  | .ins c fs => ∃ C dx xs, Cl.ad c = some C ∧ H a = some (.ins C dx xs) ∧ W.st dx = some (.own a) ∧ RF K W xs fs
  | .exc c fs => ∃ C oe, Cl.ad c = some C ∧ H a = some (exH oe) ∧ oe.cls = .ref C ∧ (∃ vs, oe.data = .fields vs) ∧ ((fs = [] ∧ oe.dict = none) ∨ ∃ dd xs, oe.dict = some dd ∧ W.st dd = some (.xd xs) ∧ RF K W xs fs)
/-- the relation of a state: F is a frame that stays -/
structure Rel0 (K : PySem.W.Frag) (W : Wd) (F H : Hp) (m : Sto) : Prop where
  sub : Same W.st H
  frm : Same F H
  dis : ∀ p o, F p = some o → W.st p = none
  len : W.be.length = m.length
  cell : ∀ (i : Nat) (c : Cell), m[i]? = some c → c ≠ .dead → ∃ a, W.be[i]? = some a ∧ W.st a = none ∧ F a = none ∧ CellR K W H a c
  inj : ∀ (i j : Nat) (a : Addr) (c c' : Cell), W.be[i]? = some a → W.be[j]? = some a → m[i]? = some c → m[j]? = some c' → c ≠ .dead → c' ≠ .dead → i = j
section
variable {K : PySem.W.Frag} {W W' : Wd} {F H H' : Hp} {m m' : Sto} {p a : Addr} {o : HO}
theorem CellR.mono {c : Cell} (l : W.Le W') (h : CellR K W H a c) : CellR K W' H a c := by
  cases c with
  | dead => trivial
  | lst ds => exact ⟨_, h.choose_spec.1, h.choose_spec.2.mono l⟩
  | dic ds => exact ⟨_, h.choose_spec.1, h.choose_spec.2.mono l⟩
  | ins c fs => obtain ⟨C, dx, xs, h1, h2, h3, h4⟩ := h; exact ⟨C, dx, xs, h1, h2, l.st _ _ h3, h4.mono l⟩
  | exc c fs => obtain ⟨C, oe, h1, h2, h3, h4, h⟩ := h; exact ⟨C, oe, h1, h2, h3, h4, h.imp id fun ⟨dd, xs, e, h5, h6⟩ => ⟨dd, xs, e, l.st _ _ h5, h6.mono l⟩⟩
theorem CellR.there {c : Cell} (hc : c ≠ .dead) (h : CellR K W H a c) : H a ≠ none := by
  cases c with
  | dead => exact absurd rfl hc
  | lst ds => obtain ⟨xs, e, _⟩ := h; rw [e]; simp
  | dic ds => obtain ⟨xs, e, _⟩ := h; rw [e]; simp
  | ins c fs => obtain ⟨_, _, _, _, e, _⟩ := h; rw [e]; simp
  | exc c fs => obtain ⟨_, _, _, e, _⟩ := h; rw [e]; simp
theorem CellR.heap {c : Cell} (hc : c ≠ .dead) (e : H' a = H a) (h : CellR K W H a c) : CellR K W H' a c := by
  cases c with
  | dead => exact absurd rfl hc
  | lst ds => obtain ⟨xs, q, r⟩ := h; exact ⟨xs, e.trans q, r⟩
  | dic ds => obtain ⟨xs, q, r⟩ := h; exact ⟨xs, e.trans q, r⟩
  | ins c fs => obtain ⟨C, dx, xs, h1, h2, h3, h4⟩ := h; exact ⟨C, dx, xs, h1, e.trans h2, h3, h4⟩
  | exc c fs => obtain ⟨C, oe, h1, h2, h⟩ := h; exact ⟨C, oe, h1, e.trans h2, h⟩
theorem Rel0.fF (r : Rel0 K W F H m) (hp : H p = none) : F p = none := by
  cases q : F p with
  | none => rfl
  | some x => rw [r.frm _ _ q] at hp; cases hp
theorem Rel0.fS (r : Rel0 K W F H m) (hp : H p = none) : W.st p = none := by
  cases q : W.st p with
  | none => rfl
  | some x => rw [r.sub _ _ q] at hp; cases hp
theorem same_new (hp : H p = none) : Same H (upd H p o) := fun b x e => by
  rw [upd_ne (ne_of_none e hp)]; exact e
theorem same_of_new {G : Hp} (s : Same G H) (hp : H p = none) : Same G (upd H p o) := s.trans (same_new hp)
theorem same_both {G : Hp} (s : Same G H) : Same (upd G p o) (upd H p o) := fun b x e => by
  by_cases h : b = p
  · subst h; rw [upd_same] at e ⊢; exact e
  · rw [upd_ne h] at e ⊢; exact s _ _ e
/-- a new frozen object -/
theorem Rel0.cold (r : Rel0 K W F H m) (hp : H p = none) : Rel0 K ⟨W.be, upd W.st p o⟩ F (upd H p o) m where
  sub := same_both r.sub
  frm := same_of_new r.frm hp
  dis := fun q x e => by
    have hq : q ≠ p := fun z => by rw [z, r.fF hp] at e; cases e
    show upd W.st p o q = none
    rw [upd_ne hq]; exact r.dis q x e
  len := r.len
  cell := fun i c e hc => by
    obtain ⟨a, h1, h2, h3, h4⟩ := r.cell i c e hc
    have hn : a ≠ p := fun z => h4.there hc (by rw [z]; exact hp)
    have le : W.Le ⟨W.be, upd W.st p o⟩ := ⟨fun _ _ e => e, same_new (r.fS hp)⟩
    exact ⟨a, h1, (upd_ne hn).trans h2, h3, (h4.heap hc (upd_ne hn)).mono le⟩
  inj := r.inj
theorem cold_le (r : Rel0 K W F H m) (hp : H p = none) : W.Le ⟨W.be, upd W.st p o⟩ := ⟨fun _ _ e => e, same_new (r.fS hp)⟩
theorem getElem?_snoc_lt {α : Type} {l : List α} {x y : α} {i : Nat} (h : l[i]? = some y) : (l ++ [x])[i]? = some y := by
  have : i < l.length := (List.getElem?_eq_some_iff.mp h).1
  rw [List.getElem?_append_left this]; exact h
theorem getElem?_snoc_cases {α : Type} {l : List α} {x y : α} {i : Nat} (h : (l ++ [x])[i]? = some y) : l[i]? = some y ∨ (i = l.length ∧ y = x) := by
  by_cases hi : i < l.length
  · rw [List.getElem?_append_left hi] at h; exact .inl h
  · rw [List.getElem?_append_right (by omega)] at h
    cases e : i - l.length with
    | zero =>
      rw [e] at h
      simp only [List.getElem?_cons_zero, Option.some.injEq] at h
      exact .inr ⟨by omega, h.symm⟩
    | succ n => rw [e] at h; simp at h
/-- a new cell -/
theorem Rel0.hot {c : Cell} (r : Rel0 K W F H m) (hp : H p = none) (hr : CellR K W (upd H p o) p c) : Rel0 K ⟨W.be ++ [p], W.st⟩ F (upd H p o) (m ++ [c]) where
  sub := same_of_new r.sub hp
  frm := same_of_new r.frm hp
  dis := r.dis
  len := by show (W.be ++ [p]).length = _; rw [List.length_append, List.length_append, r.len]; rfl
  cell := fun i d e hc => by
    have le : W.Le ⟨W.be ++ [p], W.st⟩ := ⟨fun _ _ e => getElem?_snoc_lt e, Same.refl _⟩
    rcases getElem?_snoc_cases e with e | ⟨e1, e2⟩
    · obtain ⟨a, h1, h2, h3, h4⟩ := r.cell i d e hc
      have hn : a ≠ p := fun z => h4.there hc (by rw [z]; exact hp)
      exact ⟨a, getElem?_snoc_lt h1, h2, h3, (h4.heap hc (upd_ne hn)).mono le⟩
    · subst e1 e2
      refine ⟨p, ?_, r.fS hp, r.fF hp, hr.mono le⟩
      show (W.be ++ [p])[m.length]? = some p
      rw [List.getElem?_append_right (by rw [r.len]; exact Nat.le_refl _), r.len, Nat.sub_self]; rfl
  inj := fun i j a c1 c2 b1 b2 e1 e2 n1 n2 => by
    have nope : ∀ {k : Nat} {d : Cell}, m[k]? = some d → d ≠ .dead → (W.be ++ [p])[k]? ≠ some p := fun {k d} e n z => by
      obtain ⟨a, h1, _, _, h4⟩ := r.cell k d e n
      rw [getElem?_snoc_lt h1] at z
      exact h4.there n (by rw [Option.some.inj z]; exact hp)
    have atP : ∀ {k : Nat}, k = m.length → (W.be ++ [p])[k]? = some p := fun {k} e => by
      rw [e, List.getElem?_append_right (by rw [r.len]; exact Nat.le_refl _), r.len, Nat.sub_self]; rfl
    rcases getElem?_snoc_cases e1 with e1 | ⟨e1, _⟩
    · rcases getElem?_snoc_cases e2 with e2 | ⟨e2, _⟩
      · obtain ⟨a1, x1, _⟩ := r.cell i c1 e1 n1
        obtain ⟨a2, x2, _⟩ := r.cell j c2 e2 n2
        have y1 : a1 = a := Option.some.inj ((getElem?_snoc_lt x1).symm.trans b1)
        have y2 : a2 = a := Option.some.inj ((getElem?_snoc_lt x2).symm.trans b2)
        subst y1 y2
        exact r.inj i j _ c1 c2 x1 x2 e1 e2 n1 n2
      · have z : a = p := Option.some.inj (b2.symm.trans (atP e2))
        subst z
        exact absurd b1 (nope e1 n1)
    · rcases getElem?_snoc_cases e2 with e2 | ⟨e2, _⟩
      · have z : a = p := Option.some.inj (b1.symm.trans (atP e1))
        subst z
        exact absurd b2 (nope e2 n2)
      · omega
theorem hot_le : W.Le ⟨W.be ++ [p], W.st⟩ := ⟨fun _ _ e => getElem?_snoc_lt e, Same.refl _⟩
theorem hot_at (r : Rel0 K W F H m) : (W.be ++ [p])[m.length]? = some p := by
  rw [List.getElem?_append_right (by rw [r.len]; exact Nat.le_refl _), r.len, Nat.sub_self]; rfl
/-- a cell is written -/
theorem Rel0.write {i : Nat} {c c' : Cell} (r : Rel0 K W F H m) (hb : W.be[i]? = some a) (hm : m[i]? = some c) (hc : c ≠ .dead) (hc' : c' ≠ .dead) (hr : CellR K W (upd H a o) a c') : Rel0 K W F (upd H a o) (m.set i c') := by
  obtain ⟨b, h1, h2, h3, h4⟩ := r.cell i c hm hc
  have e : b = a := Option.some.inj (h1.symm.trans hb)
  subst e
  have keep : ∀ {G : Hp}, G b = none → Same G H → Same G (upd H b o) := fun {G} n s q x z => by
    rw [upd_ne (ne_of_none z n)]; exact s _ _ z
  have live : ∀ {j : Nat} {d : Cell}, j ≠ i → (m.set i c')[j]? = some d → m[j]? = some d := fun {j d} hj z => by
    rw [List.getElem?_set_ne (Ne.symm hj)] at z; exact z
  have alive : ∀ {j : Nat} {d : Cell}, (m.set i c')[j]? = some d → d ≠ .dead → ∃ d', m[j]? = some d' ∧ d' ≠ .dead := fun {j d} z n => by
    by_cases hj : j = i
    · subst hj; exact ⟨c, hm, hc⟩
    · exact ⟨d, live hj z, n⟩
  refine ⟨keep h2 r.sub, keep h3 r.frm, r.dis, by rw [List.length_set]; exact r.len, fun j d e hd => ?_, fun j k x c1 c2 b1 b2 e1 e2 n1 n2 => ?_⟩
  · by_cases hj : j = i
    · subst hj
      have hlt : j < m.length := (List.getElem?_eq_some_iff.mp hm).1
      rw [List.getElem?_set_self hlt] at e
      cases e
      exact ⟨b, h1, h2, h3, hr⟩
    · have e' := live hj e
      obtain ⟨x, y1, y2, y3, y4⟩ := r.cell j d e' hd
      have hn : x ≠ b := fun z => hj (r.inj j i b d c (by rw [← z]; exact y1) h1 e' hm hd hc)
      exact ⟨x, y1, y2, y3, y4.heap hd (upd_ne hn)⟩
  · obtain ⟨d1, f1, g1⟩ := alive e1 n1
    obtain ⟨d2, f2, g2⟩ := alive e2 n2
    exact r.inj j k x d1 d2 b1 b2 f1 f2 g1 g2
/-- a new object into the frame -/
theorem Rel0.framed (r : Rel0 K W F H m) (hp : H p = none) : Rel0 K W (upd F p o) (upd H p o) m where
  sub := same_of_new r.sub hp
  frm := same_both r.frm
  dis := fun q x e => by
    by_cases hq : q = p
    · subst hq; exact r.fS hp
    · rw [upd_ne hq] at e; exact r.dis q x e
  len := r.len
  cell := fun i c e hc => by
    obtain ⟨a, h1, h2, h3, h4⟩ := r.cell i c e hc
    have hn : a ≠ p := fun z => h4.there hc (by rw [z]; exact hp)
    exact ⟨a, h1, h2, (upd_ne hn).trans h3, h4.heap hc (upd_ne hn)⟩
  inj := r.inj
/-- a framed object changes -/
theorem Rel0.reframe {o' : HO} (r : Rel0 K W (upd F p o) H m) (hF : F p = none) : Rel0 K W (upd F p o') (upd H p o') m := by
  have hs : W.st p = none := r.dis p o upd_same
  refine ⟨fun q x e => ?_, fun q x e => ?_, fun q x e => ?_, r.len, fun i c e hc => ?_, r.inj⟩
  · rw [upd_ne (ne_of_none e hs)]; exact r.sub _ _ e
  · by_cases hq : q = p
    · subst hq; rw [upd_same] at e ⊢; exact e
    · rw [upd_ne hq] at e ⊢; exact r.frm _ _ (by rw [upd_ne hq]; exact e)
  · by_cases hq : q = p
    · subst hq; exact hs
    · rw [upd_ne hq] at e; exact r.dis q x (by rw [upd_ne hq]; exact e)
  · obtain ⟨a, h1, h2, h3, h4⟩ := r.cell i c e hc
    have hn : a ≠ p := fun z => by rw [z, upd_same] at h3; cases h3
    rw [upd_ne hn] at h3
    exact ⟨a, h1, h2, (upd_ne hn).trans h3, h4.heap hc (upd_ne hn)⟩
/-- a framed object is frozen -/
theorem Rel0.thaw (r : Rel0 K W (upd F p o) H m) (hF : F p = none) : Rel0 K ⟨W.be, upd W.st p o⟩ F H m ∧ W.Le ⟨W.be, upd W.st p o⟩ := by
  have hs : W.st p = none := r.dis p o upd_same
  have le : W.Le ⟨W.be, upd W.st p o⟩ := ⟨fun _ _ e => e, same_new hs⟩
  refine ⟨⟨fun q x z => ?_, fun q x e => ?_, fun q x e => ?_, r.len, fun i c e hc => ?_, r.inj⟩, le⟩
  · by_cases hq : q = p
    · subst hq
      have z' : upd W.st q o q = some x := z
      rw [upd_same] at z'
      exact r.frm _ _ (by rw [upd_same]; exact z')
    · have z' : upd W.st p o q = some x := z
      rw [upd_ne hq] at z'; exact r.sub _ _ z'
  · exact r.frm _ _ (by rw [upd_ne (ne_of_none e hF)]; exact e)
  · have hq : q ≠ p := fun y => by rw [y, hF] at e; cases e
    show upd W.st p o q = none
    rw [upd_ne hq]; exact r.dis q x (by rw [upd_ne hq]; exact e)
  · obtain ⟨a, h1, h2, h3, h4⟩ := r.cell i c e hc
    have hn : a ≠ p := fun z => by rw [z, upd_same] at h3; cases h3
    rw [upd_ne hn] at h3
    exact ⟨a, h1, (upd_ne hn).trans h2, h3, h4.mono le⟩
end
/-- a relation that holds on from a world and a frame that are told -/
class Lk where
  W0 : Wd
  F0 : Hp
instance (priority := low) lkNone : Lk := ⟨⟨[], fun _ => none⟩, fun _ => none⟩
variable [Lk]
structure Rel (K : PySem.W.Frag) (W : Wd) (F H : Hp) (m : Sto) : Prop extends Rel0 K W F H m where
  lw : Lk.W0.Le W
  lf : Same Lk.F0 F
section
variable {K : PySem.W.Frag} {W W' : Wd} {F F' H H' : Hp} {m m' : Sto} {p a : Addr} {o : HO}
theorem Rel.of (r : Rel K W F H m) (l : W.Le W') (h : Rel0 K W' F H' m') : Rel K W' F H' m' := ⟨h, r.lw.trans l, r.lf⟩
theorem less_none (s : Same F' F) (h : F a = none) : F' a = none := by
  cases q : F' a with
  | none => rfl
  | some x => rw [s _ _ q] at h; cases h
/-- the same in a lesser frame -/
theorem Rel0.less (r : Rel0 K W F H m) (s : Same F' F) : Rel0 K W F' H m :=
  ⟨r.sub, s.trans r.frm, fun p o e => r.dis p o (s _ _ e), r.len, fun i c e hc => by
    obtain ⟨a, h1, h2, h3, h4⟩ := r.cell i c e hc
    refine ⟨a, h1, h2, ?_, h4⟩
    exact less_none s h3, r.inj⟩
theorem Rel.cold (r : Rel K W F H m) (hp : H p = none) : Rel K ⟨W.be, upd W.st p o⟩ F (upd H p o) m := ⟨r.toRel0.cold hp, r.lw.trans (DL.cold_le r.toRel0 hp), r.lf⟩
theorem Rel.hot {c : Cell} (r : Rel K W F H m) (hp : H p = none) (hr : CellR K W (upd H p o) p c) : Rel K ⟨W.be ++ [p], W.st⟩ F (upd H p o) (m ++ [c]) := ⟨r.toRel0.hot hp hr, r.lw.trans hot_le, r.lf⟩
theorem Rel.write {i : Nat} {c c' : Cell} (r : Rel K W F H m) (hb : W.be[i]? = some a) (hm : m[i]? = some c) (hc : c ≠ .dead) (hc' : c' ≠ .dead) (hr : CellR K W (upd H a o) a c') : Rel K W F (upd H a o) (m.set i c') := ⟨r.toRel0.write hb hm hc hc' hr, r.lw, r.lf⟩
theorem Rel.framed (r : Rel K W F H m) (hp : H p = none) : Rel K W (upd F p o) (upd H p o) m := ⟨r.toRel0.framed hp, r.lw, same_of_new r.lf (r.toRel0.fF hp)⟩
theorem Rel.reframe {o' : HO} (r : Rel K W (upd F p o) H m) (hF : F p = none) (s : Same Lk.F0 F) : Rel K W (upd F p o') (upd H p o') m := ⟨r.toRel0.reframe hF, r.lw, same_of_new s hF⟩
theorem Rel.thaw (r : Rel K W (upd F p o) H m) (hF : F p = none) (s : Same Lk.F0 F) : Rel K ⟨W.be, upd W.st p o⟩ F H m ∧ W.Le ⟨W.be, upd W.st p o⟩ :=
  ⟨⟨(r.toRel0.thaw hF).1, r.lw.trans (r.toRel0.thaw hF).2, s⟩, (r.toRel0.thaw hF).2⟩
end
abbrev DSt := List (Option D)
def slot : DSt → Nat → Option D
  | x :: _, 0 => x
  | _ :: r, n + 1 => slot r n
  | [], _ => none
def put : DSt → Nat → D → DSt
  | _ :: r, 0, d => some d :: r
  | x :: r, n + 1, d => x :: put r n d
  | [], _, _ => []
inductive RSt (K : PySem.W.Frag) (W : Wd) : L2.St → DSt → Prop
  | nil : RSt K W [] []
  | no {x : Option V} {s : L2.St} {r : DSt} : RSt K W s r → RSt K W (x :: s) (none :: r)
  | yes {v : V} {d : D} {s : L2.St} {r : DSt} : R K W v d → RSt K W s r → RSt K W (some v :: s) (some d :: r)
section
variable {K : PySem.W.Frag} {W W' : Wd}
theorem RSt.mono (l : W.Le W') : ∀ {s : L2.St} {r : DSt}, RSt K W s r → RSt K W' s r
  | _, _, .nil => .nil
  | _, _, .no t => .no (RSt.mono l t)
  | _, _, .yes h t => .yes (h.mono l) (RSt.mono l t)
theorem RSt.get : ∀ {s : L2.St} {r : DSt} {i : Nat} {d : D}, RSt K W s r → slot r i = some d → ∃ v, s[i]? = some (some v) ∧ R K W v d
  | _, _, 0, _, .nil, e => by cases e
  | _, _, _ + 1, _, .nil, e => by cases e
  | _, _, 0, _, .no _, e => by cases e
  | _, _, 0, _, .yes h _, e => by cases e; exact ⟨_, rfl, h⟩
  | _, _, i + 1, _, .no t, e => by rw [List.getElem?_cons_succ]; exact RSt.get t e
  | _, _, i + 1, _, .yes _ t, e => by rw [List.getElem?_cons_succ]; exact RSt.get t e
theorem RSt.put {v : V} {d : D} (h : R K W v d) : ∀ {s : L2.St} {r : DSt} (i : Nat), RSt K W s r → RSt K W (s.set i (some v)) (put r i d)
  | _, _, 0, .nil => .nil
  | _, _, _ + 1, .nil => .nil
  | _, _, 0, .no t => .yes h t
  | _, _, 0, .yes _ t => .yes h t
  | _, _, i + 1, .no t => .no (RSt.put h i t)
  | _, _, i + 1, .yes q t => .yes q (RSt.put h i t)
theorem RSt.len : ∀ {s : L2.St} {r : DSt}, RSt K W s r → s.length = r.length
  | _, _, .nil => rfl
  | _, _, .no t => by rw [List.length_cons, List.length_cons, RSt.len t]
  | _, _, .yes _ t => by rw [List.length_cons, List.length_cons, RSt.len t]
/-- forgetting slots -/
def forget : DSt → Nat → DSt
  | _ :: r, 0 => none :: r
  | x :: r, n + 1 => x :: forget r n
  | [], _ => []
theorem RSt.forget {x : Option V} : ∀ {s : L2.St} {r : DSt} (i : Nat), RSt K W s r → RSt K W (s.set i x) (forget r i)
  | _, _, 0, .nil => .nil
  | _, _, _ + 1, .nil => .nil
  | _, _, 0, .no t => .no t
  | _, _, 0, .yes _ t => .no t
  | _, _, i + 1, .no t => .no (RSt.forget i t)
  | _, _, i + 1, .yes q t => .yes q (RSt.forget i t)
end
abbrev DE := DSt → Sto → (D → Sto → Prop) → Prop
abbrev DA := DSt → Sto → (List D → Sto → Prop) → Prop
abbrev DT := DSt → Sto → (Bool → Sto → Prop) → Prop
structure DEnds where
  nx : DSt → Sto → Prop
  rt : D → Sto → Prop
  bk : DSt → Sto → Prop := fun _ _ => False
  ct : DSt → Sto → Prop := fun _ _ => False
abbrev DS := DEnds → DSt → Sto → Prop
abbrev DG := D → DSt → Sto → (DSt → Sto → Prop) → Prop
abbrev DGs := List D → DSt → Sto → (DSt → Sto → Prop) → Prop
def liftE (K : PySem.W.Frag) (t : DE) : TE := fun s H Q => ∃ (W : Wd) (F : Hp) (m : Sto) (r : DSt) (q : D → Sto → Prop), Rel K W F H m ∧ RSt K W s r ∧ t r m q ∧
  ∀ W' H' m' v d, W.Le W' → Rel K W' F H' m' → R K W' v d → q d m' → Q v H'
def liftA (K : PySem.W.Frag) (t : DA) : TA := fun s H Q => ∃ (W : Wd) (F : Hp) (m : Sto) (r : DSt) (q : List D → Sto → Prop), Rel K W F H m ∧ RSt K W s r ∧ t r m q ∧
  ∀ W' H' m' vs ds, W.Le W' → Rel K W' F H' m' → RA K W' vs ds → q ds m' → Q vs H'
def liftT (K : PySem.W.Frag) (t : DT) : TT := fun s H Q => ∃ (W : Wd) (F : Hp) (m : Sto) (r : DSt) (q : Bool → Sto → Prop), Rel K W F H m ∧ RSt K W s r ∧ t r m q ∧
  ∀ W' H' m' b, W.Le W' → Rel K W' F H' m' → q b m' → Q b H'
structure LiftD (K : PySem.W.Frag) (W : Wd) (F : Hp) (d : DEnds) (E : Ends) : Prop where
  nx : ∀ W' H' m' s' r', W.Le W' → Rel K W' F H' m' → RSt K W' s' r' → d.nx r' m' → E.nx s' H'
  rt : ∀ W' H' m' v x, W.Le W' → Rel K W' F H' m' → R K W' v x → d.rt x m' → E.rt v H'
  bk : ∀ W' H' m' s' r', W.Le W' → Rel K W' F H' m' → RSt K W' s' r' → d.bk r' m' → E.bk s' H'
  ct : ∀ W' H' m' s' r', W.Le W' → Rel K W' F H' m' → RSt K W' s' r' → d.ct r' m' → E.ct s' H'
theorem LiftD.mono {K : PySem.W.Frag} {W W' : Wd} {F : Hp} {d : DEnds} {E : Ends} (h : LiftD K W F d E) (l : W.Le W') : LiftD K W' F d E :=
  ⟨fun _ _ _ _ _ k => h.nx _ _ _ _ _ (l.trans k), fun _ _ _ _ _ k => h.rt _ _ _ _ _ (l.trans k), fun _ _ _ _ _ k => h.bk _ _ _ _ _ (l.trans k), fun _ _ _ _ _ k => h.ct _ _ _ _ _ (l.trans k)⟩
def liftS (K : PySem.W.Frag) (t : DS) : TS := fun E s H => ∃ (W : Wd) (F : Hp) (m : Sto) (r : DSt) (d : DEnds), Rel K W F H m ∧ RSt K W s r ∧ t d r m ∧ LiftD K W F d E
def liftG (K : PySem.W.Frag) (t : DG) : TG := fun v s H Q => ∃ (W : Wd) (F : Hp) (m : Sto) (r : DSt) (d : D) (q : DSt → Sto → Prop), Rel K W F H m ∧ RSt K W s r ∧ R K W v d ∧ t d r m q ∧
  ∀ W' H' m' s' r', W.Le W' → Rel K W' F H' m' → RSt K W' s' r' → q r' m' → Q s' H'
abbrev JE (X : Cx) (e : Expr) (t : DE) : Prop := PE X e (liftE X.K t)
abbrev JA (X : Cx) (es : List Expr) (t : DA) : Prop := PA X es (liftA X.K t)
abbrev JT (X : Cx) (e : Expr) (t : DT) : Prop := PT X e (liftT X.K t)
abbrev JS (X : Cx) (st : Stmt) (t : DS) : Prop := PS X st (liftS X.K t)
abbrev JSs (X : Cx) (st : List Stmt) (t : DS) : Prop := PSs X st (liftS X.K t)
abbrev JG (X : Cx) (e : Expr) (t : DG) : Prop := PG X e (liftG X.K t)
theorem pe_wk {X : Cx} {e : Expr} {t t' : TE} (h : PE X e t) (k : ∀ s H Q, t' s H Q → t s H Q) : PE X e t' := ⟨fun p s a H Q I z => h.run p s a H Q I (k _ _ _ z)⟩
theorem pa_wk {X : Cx} {e : List Expr} {t t' : TA} (h : PA X e t) (k : ∀ s H Q, t' s H Q → t s H Q) : PA X e t' := ⟨fun o p s a H Q I z => h.run o p s a H Q I (k _ _ _ z)⟩
theorem pt_wk {X : Cx} {e : Expr} {t t' : TT} (h : PT X e t) (k : ∀ s H Q, t' s H Q → t s H Q) : PT X e t' := ⟨fun p s a H Q I z => h.run p s a H Q I (k _ _ _ z)⟩
theorem pw_wk {X : Cx} {e : Expr} {t t' : TT} (h : PW X e t) (k : ∀ s H Q, t' s H Q → t s H Q) : PW X e t' := ⟨fun w p s a H Q I z => h.run w p s a H Q I (k _ _ _ z)⟩
theorem ps_wk {X : Cx} {e : Stmt} {t t' : TS} (h : PS X e t) (k : ∀ D s H, t' D s H → t D s H) : PS X e t' := ⟨fun p s a H D I z => h.run p s a H D I (k _ _ _ z)⟩
theorem pss_wk {X : Cx} {e : List Stmt} {t t' : TS} (h : PSs X e t) (k : ∀ D s H, t' D s H → t D s H) : PSs X e t' := ⟨fun p s a H D I z => h.run p s a H D I (k _ _ _ z)⟩
theorem pg_wk {X : Cx} {e : Expr} {t t' : TG} (h : PG X e t) (k : ∀ v s H Q, t' v s H Q → t v s H Q) : PG X e t' := ⟨fun p s a H v u Q I r z => h.run p s a H v u Q I r (k _ _ _ _ z)⟩
end DL
namespace DL
open PySem PySem.Spec PyProof.Rows L2
variable [Cl] [Lk]
/-- what follows an operation's value, in H -/
def Fol (K : PySem.W.Frag) (W : Wd) (F : Hp) (q : D → Sto → Prop) (Q : VK) : Prop := ∀ W' H' m' v d, W.Le W' → Rel K W' F H' m' → R K W' v d → q d m' → Q v H'
theorem Fol.mono {K : PySem.W.Frag} {W W' : Wd} {F : Hp} {q : D → Sto → Prop} {Q : VK} (h : Fol K W F q Q) (l : W.Le W') : Fol K W' F q Q := fun _ _ _ _ _ k => h _ _ _ _ _ (l.trans k)
def onS {α : Type} (o : Option α) (k : α → Prop) : Prop := match o with | some a => k a | none => False
theorem onS_some {α : Type} {o : Option α} {k : α → Prop} (h : onS o k) : ∃ a, o = some a ∧ k a := by
  cases o with
  | none => exact h.elim
  | some a => exact ⟨a, rfl, h⟩
abbrev F2 := D → D → Sto → (D → Sto → Prop) → Prop
abbrev F1 := D → Sto → (D → Sto → Prop) → Prop
abbrev FN := List D → Sto → (D → Sto → Prop) → Prop
def Op2 (K : PySem.W.Frag) (f : F2) (rr : R2) : Prop := ∀ W F H m x y d e q Q, Rel K W F H m → R K W x d → R K W y e → f d e m q → Fol K W F q Q → rr x y H Q
def Op1 (K : PySem.W.Frag) (f : F1) (rr : V → Hp → VK → Prop) : Prop := ∀ W F H m x d q Q, Rel K W F H m → R K W x d → f d m q → Fol K W F q Q → rr x H Q
def OpN (K : PySem.W.Frag) (f : FN) (rr : List V → Hp → VK → Prop) : Prop := ∀ W F H m xs ds q Q, Rel K W F H m → RA K W xs ds → f ds m q → Fol K W F q Q → rr xs H Q
def dBin (f : F2) (ta tb : DE) : DE := fun r m q => ta r m fun x m1 => tb r m1 fun y m2 => f x y m2 q
def dUn (f : F1) (ta : DE) : DE := fun r m q => ta r m fun x m1 => f x m1 q
def dCallB (f : FN) (ta : DA) : DE := fun r m q => ta r m fun xs m1 => f xs m1 q
section
variable {K : PySem.W.Frag}
theorem bin_wk {f : F2} {rr : R2} {ta tb : DE} (o : Op2 K f rr) (s : L2.St) (H : Hp) (Q : VK) (h : liftE K (dBin f ta tb) s H Q) : tOp rr (liftE K ta) (liftE K tb) s H Q := by
  obtain ⟨W, F, m, r, q, rel, rs, h, k⟩ := h
  refine ⟨W, F, m, r, fun x m1 => tb r m1 fun y m2 => f x y m2 q, rel, rs, h, fun W1 H1 m1 v d l1 rel1 rv hq => ?_⟩
  refine ⟨W1, F, m1, r, fun y m2 => f d y m2 q, rel1, rs.mono l1, hq, fun W2 H2 m2 u e l2 rel2 ru hq2 => ?_⟩
  exact o W2 F H2 m2 v u d e q Q rel2 (rv.mono l2) ru hq2 fun _ _ _ _ _ l => k _ _ _ _ _ (l1.trans (l2.trans l))
theorem un_wk {f : F1} {rr : V → Hp → VK → Prop} {ta : DE} (o : Op1 K f rr) (s : L2.St) (H : Hp) (Q : VK) (h : liftE K (dUn f ta) s H Q) : liftE K ta s H fun x H1 => rr x H1 Q := by
  obtain ⟨W, F, m, r, q, rel, rs, h, k⟩ := h
  refine ⟨W, F, m, r, fun x m1 => f x m1 q, rel, rs, h, fun W1 H1 m1 v d l1 rel1 rv hq => ?_⟩
  exact o W1 F H1 m1 v d q Q rel1 rv hq fun _ _ _ _ _ l => k _ _ _ _ _ (l1.trans l)
theorem call_wk {f : FN} {rr : List V → Hp → VK → Prop} {ta : DA} (o : OpN K f rr) (s : L2.St) (H : Hp) (Q : VK) (h : liftE K (dCallB f ta) s H Q) : liftA K ta s H fun xs H1 => rr xs H1 Q := by
  obtain ⟨W, F, m, r, q, rel, rs, h, k⟩ := h
  refine ⟨W, F, m, r, fun x m1 => f x m1 q, rel, rs, h, fun W1 H1 m1 v d l1 rel1 rv hq => ?_⟩
  exact o W1 F H1 m1 v d q Q rel1 rv hq fun _ _ _ _ _ l => k _ _ _ _ _ (l1.trans l)
end
def dVar (i : Nat) : DE := fun r m q => onS (slot r i) fun d => q d m
def dC (d : D) : DE := fun _ m q => q d m
section
variable {X : Cx} {pos : Pos}
theorem je_var (i : Nat) {x : Str} (hN : X.N[i]? = some x := by rfl) (hv : Vis X.env.scope x := by first | exact .inl rfl | exact .inr (.inl rfl) | exact .inr (.inr rfl)) (hd : (x == ("__debug__" : Str)) = false := by decide)
    (hcd : (x == ("__classdict__" : Str)) = false := by decide) : JE X (.Name x pos) (dVar i) :=
  pe_wk (pe_var hN hv hd hcd) fun s H Q ⟨W, F, m, r, q, rel, rs, h, k⟩ => by
    obtain ⟨d, e, h⟩ := onS_some h
    obtain ⟨v, e2, rv⟩ := rs.get e
    exact ⟨v, e2, k W H m v d (.refl _) rel rv h⟩
theorem je_c {e : Expr} {v : V} {d : D} (h : PE X e (tC v)) (r : ∀ W, R X.K W v d) : JE X e (dC d) :=
  pe_wk h fun s H Q ⟨W, F, m, _, q, rel, _, h, k⟩ => k W H m v d (.refl _) rel (r W) h
theorem je_int {i j} : JE X (.Constant (.int i) j pos) (dC (.int i)) := je_c pe_int fun _ => .int _
theorem je_bl {b j} : JE X (.Constant (.bool b) j pos) (dC (.bl b)) := je_c pe_bl fun _ => .bl _
theorem je_non {j} : JE X (.Constant .none j pos) (dC .non) := je_c pe_non fun _ => .non
theorem je_str {x j} : JE X (.Constant (.str x) j pos) (dC (.str x)) := je_c pe_str fun _ => .str _
end
def dNil : DA := fun _ m q => q [] m
def dCons (ta : DE) (tr : DA) : DA := fun r m q => ta r m fun x m1 => tr r m1 fun xs m2 => q (x :: xs) m2
def dTup (t : DA) : DE := fun r m q => t r m fun xs m1 => xs.length ≤ 1000 ∧ q (.tup xs) m1
def dLst (t : DA) : DE := fun r m q => t r m fun xs m1 => xs.length ≤ 1000 ∧ q (.lst xs) m1
def dLstP (t : DA) : DE := fun r m q => t r m fun xs m1 => xs.length ≤ 1000 ∧ q (.ptr m1.length) (m1 ++ [.lst xs])
theorem small_len {n : Nat} (h : n ≤ 1000) : n ≤ sizeLine := Nat.le_trans h (by rw [sizeLine_eq]; decide)
section
variable {X : Cx} {pos : Pos} {e : Expr} {es : List Expr} {te : DE} {t : DA}
theorem ja_nil : JA X [] dNil := pa_wk pa_nil fun s H Q ⟨W, F, m, _, q, rel, _, h, k⟩ => k W H m [] [] (.refl _) rel .nil h
theorem ja_cons (ha : JE X e te) (hr : JA X es t) (hs : starEach (e :: es) X.env = (false, eval e X.env) :: starEach es X.env := by rfl) : JA X (e :: es) (dCons te t) :=
  pa_wk (pa_cons ha hr hs) fun s H Q ⟨W, F, m, r, q, rel, rs, h, k⟩ => by
    refine ⟨W, F, m, r, fun x m1 => t r m1 fun xs m2 => q (x :: xs) m2, rel, rs, h, fun W1 H1 m1 v d l1 rel1 rv hq => ?_⟩
    refine ⟨W1, F, m1, r, fun xs m2 => q (d :: xs) m2, rel1, rs.mono l1, hq, fun W2 H2 m2 vs ds l2 rel2 ra hq2 => ?_⟩
    exact k W2 H2 m2 (v :: vs) (d :: ds) (l1.trans l2) rel2 (.cons (rv.mono l2) ra) hq2
theorem cold_lst {K : PySem.W.Frag} {W : Wd} {F H : Hp} {m : Sto} {q : D → Sto → Prop} {Q : VK} {vs : List V} {ds : List D} {p : Addr} (rel : Rel K W F H m) (ra : RA K W vs ds) (hq : q (.lst ds) m) (k : Fol K W F q Q) (hp : H p = none) : Q (.ref p) (upd H p (.lst vs)) :=
  k _ _ m (.ref p) (.lst ds) (cold_le rel.toRel0 hp) (rel.cold hp) (.lst upd_same (ra.mono (cold_le rel.toRel0 hp))) hq
theorem cold_tup {K : PySem.W.Frag} {W : Wd} {F H : Hp} {m : Sto} {q : D → Sto → Prop} {Q : VK} {vs : List V} {ds : List D} {p : Addr} (rel : Rel K W F H m) (ra : RA K W vs ds) (hq : q (.tup ds) m) (k : Fol K W F q Q) (hp : H p = none) : Q (.ref p) (upd H p (.tup vs)) :=
  k _ _ m (.ref p) (.tup ds) (cold_le rel.toRel0 hp) (rel.cold hp) (.tup (SqT.of upd_same) (ra.mono (cold_le rel.toRel0 hp))) hq
theorem hot_lst {K : PySem.W.Frag} {W : Wd} {F H : Hp} {m : Sto} {q : D → Sto → Prop} {Q : VK} {vs : List V} {ds : List D} {p : Addr} (rel : Rel K W F H m) (ra : RA K W vs ds) (hq : q (.ptr m.length) (m ++ [.lst ds])) (k : Fol K W F q Q) (hp : H p = none) : Q (.ref p) (upd H p (.lst vs)) :=
  k _ _ (m ++ [.lst ds]) (.ref p) (.ptr m.length) hot_le (rel.hot (c := .lst ds) hp ⟨vs, upd_same, ra⟩) (.ptr (hot_at rel.toRel0)) hq
theorem je_tup {x1} (h : JA X es t) : JE X (.Tuple es x1 pos) (dTup t) :=
  pe_wk (pe_tup h) fun s H Q ⟨W, F, m, r, q, rel, rs, h, k⟩ => by
    refine ⟨W, F, m, r, _, rel, rs, h, fun W1 H1 m1 vs ds l1 rel1 ra hq => ⟨by rw [ra.len]; exact small_len hq.1, fun p hp => ?_⟩⟩
    exact cold_tup rel1 ra hq.2 (fun _ _ _ _ _ l => k _ _ _ _ _ (l1.trans l)) hp
theorem je_lst (h : JA X es t) : JE X (.List es pos) (dLst t) :=
  pe_wk (pe_lst h) fun s H Q ⟨W, F, m, r, q, rel, rs, h, k⟩ => by
    refine ⟨W, F, m, r, _, rel, rs, h, fun W1 H1 m1 vs ds l1 rel1 ra hq => ⟨by rw [ra.len]; exact small_len hq.1, fun p hp => ?_⟩⟩
    exact cold_lst rel1 ra hq.2 (fun _ _ _ _ _ l => k _ _ _ _ _ (l1.trans l)) hp
theorem je_lstP (h : JA X es t) : JE X (.List es pos) (dLstP t) :=
  pe_wk (pe_lst h) fun s H Q ⟨W, F, m, r, q, rel, rs, h, k⟩ => by
    refine ⟨W, F, m, r, _, rel, rs, h, fun W1 H1 m1 vs ds l1 rel1 ra hq => ⟨by rw [ra.len]; exact small_len hq.1, fun p hp => ?_⟩⟩
    exact hot_lst rel1 ra hq.2 (fun _ _ _ _ _ l => k _ _ _ _ _ (l1.trans l)) hp
end
def lstOf : D → Sto → Option (List D)
  | .lst ds, _ => some ds
  | .ptr i, m => match m[i]? with | some (.lst ds) => some ds | _ => none
  | _, _ => none
theorem lstOf_at {K : PySem.W.Frag} {W : Wd} {F H : Hp} {m : Sto} {x : V} {d : D} {ds : List D} (rel : Rel K W F H m) (rv : R K W x d) (e : lstOf d m = some ds) : ∃ a xs, x = .ref a ∧ H a = some (.lst xs) ∧ RA K W xs ds := by
  cases rv with
  | @lst a xs es h r => cases e; exact ⟨a, xs, rfl, rel.sub _ _ h, r⟩
  | @ptr a i hb =>
    unfold lstOf at e
    cases q : m[i]? with
    | none => simp only [q] at e; cases e
    | some c =>
      cases c with
      | dead => simp only [q] at e; cases e
      | exc _ _ => simp only [q] at e; cases e
      | dic es => simp only [q] at e; cases e
      | ins c fs => simp only [q] at e; cases e
      | lst es =>
        simp only [q] at e
        cases e
        obtain ⟨b, h1, h2, h3, xs, h4, h5⟩ := rel.cell i _ q (fun z => by cases z)
        obtain rfl : b = a := Option.some.inj (h1.symm.trans hb)
        exact ⟨b, xs, rfl, h4, h5⟩
  | _ => cases e
/-- what is read as a list -/
def seqL : D → Sto → Option (List D)
  | .fz ds, _ => some ds
  | d, m => lstOf d m
theorem seqL_at {K : PySem.W.Frag} {W : Wd} {F H : Hp} {m : Sto} {x : V} {d : D} {ds : List D} (rel : Rel K W F H m) (rv : R K W x d) (e : seqL d m = some ds) : ∃ a xs, x = .ref a ∧ SqL K H a xs ∧ RA K W xs ds := by
  by_cases hf : ∃ es, d = .fz es
  · obtain ⟨es, rfl⟩ := hf
    cases e
    cases rv with
    | fz h r => exact ⟨_, _, rfl, same_seqL rel.sub h, r⟩
  · have e' : lstOf d m = some ds := by
      cases d <;> first | exact e | exact absurd ⟨_, rfl⟩ hf
    obtain ⟨a, xs, h1, h2, h3⟩ := lstOf_at rel rv e'
    exact ⟨a, xs, h1, SqL.of h2, h3⟩
theorem tup_at {K : PySem.W.Frag} {W : Wd} {F H : Hp} {m : Sto} {x : V} {ds : List D} (rel : Rel K W F H m) (rv : R K W x (.tup ds)) : ∃ a xs, x = .ref a ∧ SqT K H a xs ∧ RA K W xs ds := by
  cases rv with
  | tup h r => exact ⟨_, _, rfl, same_seqT rel.sub h, r⟩
theorem atI_ra {K : PySem.W.Frag} {W : Wd} {xs : List V} {ds : List D} {i : Int} {d : D} (r : RA K W xs ds) (e : atI ds i = some d) : ∃ v, atI xs i = some v ∧ R K W v d := by
  unfold atI at e ⊢
  rw [r.len]
  cases q : ixN ds.length i with
  | none => rw [q] at e; cases e
  | some j =>
    rw [q] at e
    exact r.get e
def dAdd : F2
  | .int i, .int j, m, q => q (.int (i + j)) m
  | .str a, .str b, m, q => a.length + b.length ≤ sizeLine ∧ q (.str (a ++ b)) m
  | .tup a, .tup b, m, q => a.length + b.length ≤ sizeLine ∧ q (.tup (a ++ b)) m
  | x, y, m, q => onS (lstOf x m) fun a => onS (lstOf y m) fun b => a.length + b.length ≤ sizeLine ∧ q (.lst (a ++ b)) m
def rrAdd (K : PySem.W.Frag) : R2 := fun x y H Q => (rI0 fun i j => .int (i + j)) x y H Q ∨ (fun x y H Q => ∃ i j, x = .str i ∧ y = .str j ∧ i.length + j.length ≤ sizeLine ∧ Q (.str (i ++ j)) H) x y H Q ∨ rCatA K x y H Q ∨ rCat x y H Q
theorem op_addAll {X : Cx} : OpR X (binaryOp .Add) (rrAdd X.K) := op_add.or (op_add_str.or (op_catA.or op_cat))
theorem o_add {K : PySem.W.Frag} : Op2 K dAdd (rrAdd K) := by
  intro W F H m x y d e q Q rel rx ry h k
  have lists : (onS (lstOf d m) fun a => onS (lstOf e m) fun b => a.length + b.length ≤ sizeLine ∧ q (.lst (a ++ b)) m) → rrAdd K x y H Q := fun h => by
    obtain ⟨a, e1, h⟩ := onS_some h
    obtain ⟨b, e2, hz, h⟩ := onS_some h
    obtain ⟨p1, xs, rfl, g1, r1⟩ := lstOf_at rel rx e1
    obtain ⟨p2, ys, rfl, g2, r2⟩ := lstOf_at rel ry e2
    refine .inr (.inr (.inr ⟨p1, p2, xs, ys, rfl, rfl, g1, g2, by rw [r1.len, r2.len]; exact hz, fun p hp => ?_⟩))
    exact cold_lst rel (r1.app r2) h k hp
  unfold dAdd at h
  split at h
  · cases rx; cases ry
    exact .inl ⟨_, _, rfl, rfl, k _ _ _ _ _ (.refl _) rel (.int _) h⟩
  · cases rx; cases ry
    exact .inr (.inl ⟨_, _, rfl, rfl, h.1, k _ _ _ _ _ (.refl _) rel (.str _) h.2⟩)
  · rename_i a b
    obtain ⟨p1, xs, rfl, g1, r1⟩ := tup_at rel rx
    obtain ⟨p2, ys, rfl, g2, r2⟩ := tup_at rel ry
    refine .inr (.inr (.inl ⟨p1, p2, xs, ys, rfl, rfl, g1, g2, by rw [r1.len, r2.len]; exact h.1, fun hx => ?_, fun _ hy => ?_, fun _ _ p hp => ?_⟩))
    · have hz : a = [] := by have := r1.len; rw [hx] at this; exact List.eq_nil_of_length_eq_zero this.symm
      rw [hz, List.nil_append] at h
      exact k _ _ _ _ _ (.refl _) rel ry h.2
    · have hz : b = [] := by have := r2.len; rw [hy] at this; exact List.eq_nil_of_length_eq_zero this.symm
      rw [hz, List.append_nil] at h
      exact k _ _ _ _ _ (.refl _) rel rx h.2
    · exact cold_tup rel (r1.app r2) h.2 k hp
  · exact lists h
def dI2 (C : Int → Int → Prop) (g : Int → Int → Int) : F2
  | .int i, .int j, m, q => C i j ∧ q (.int (g i j)) m
  | _, _, _, _ => False
theorem o_I2 {K : PySem.W.Frag} {C : Int → Int → Prop} {g : Int → Int → Int} : Op2 K (dI2 C g) (rI C fun i j => .int (g i j)) := by
  intro W F H m x y d e q Q rel rx ry h k
  unfold dI2 at h
  split at h
  · cases rx; cases ry
    exact ⟨_, _, rfl, rfl, h.1, k _ _ _ _ _ (.refl _) rel (.int _) h.2⟩
  · exact h.elim
def dI0 (g : Int → Int → Int) : F2
  | .int i, .int j, m, q => q (.int (g i j)) m
  | _, _, _, _ => False
theorem o_I0 {K : PySem.W.Frag} {g : Int → Int → Int} : Op2 K (dI0 g) (rI0 fun i j => .int (g i j)) := by
  intro W F H m x y d e q Q rel rx ry h k
  unfold dI0 at h
  split at h
  · cases rx; cases ry
    exact ⟨_, _, rfl, rfl, k _ _ _ _ _ (.refl _) rel (.int _) h⟩
  · exact h.elim
def dB0 (g : Int → Int → Bool) : F2
  | .int i, .int j, m, q => q (.bl (g i j)) m
  | _, _, _, _ => False
theorem o_B0 {K : PySem.W.Frag} {g : Int → Int → Bool} : Op2 K (dB0 g) (rI0 fun i j => .bl (g i j)) := by
  intro W F H m x y d e q Q rel rx ry h k
  unfold dB0 at h
  split at h
  · cases rx; cases ry
    exact ⟨_, _, rfl, rfl, k _ _ _ _ _ (.refl _) rel (.bl _) h⟩
  · exact h.elim
abbrev dSub : F2 := dI0 fun i j => i - j
def CMulA (i j : Int) : Prop := CMul i j ∨ CMulW i j
theorem op_mulA {X : Cx} : OpR X (binaryOp .Mult) (rI CMulA fun i j => .int (i * j)) := by
  intro pins s a H x y v u Q I rx ry h
  obtain ⟨i, j, rfl, rfl, c, q⟩ := h
  cases c with
  | inl c => exact op_mul pins s a H _ _ v u Q I rx ry ⟨i, j, rfl, rfl, c, q⟩
  | inr c => exact op_mulW pins s a H _ _ v u Q I rx ry ⟨i, j, rfl, rfl, c, q⟩
abbrev dMul : F2 := dI2 CMulA fun i j => i * j
abbrev dMod : F2 := dI2 (fun _ j => 0 < j) fun i j => i % j
abbrev dDiv : F2 := dI2 CDivW fun i j => i / j
abbrev dPow : F2 := dI2 CPow fun i j => i ^ j.toNat
abbrev dLt : F2 := dB0 fun i j => decide (i < j)
abbrev dLe : F2 := dB0 fun i j => decide (i ≤ j)
abbrev dGt : F2 := dB0 fun i j => decide (j < i)
abbrev dGe : F2 := dB0 fun i j => decide (j ≤ i)
def dNeg : F1
  | .int i, m, q => q (.int (-i)) m
  | _, _, _ => False
theorem o_neg {K : PySem.W.Frag} : Op1 K dNeg (rU fun i => .int (-i)) := by
  intro W F H m x d q Q rel rx h k
  unfold dNeg at h
  split at h
  · cases rx
    exact ⟨_, rfl, k _ _ _ _ _ (.refl _) rel (.int _) h⟩
  · exact h.elim
section
variable {X : Cx} {pos : Pos} {a b c : Expr} {ta tb tc : DE}
theorem je_op {op : Operator} {f : F2} {rr : R2} (ho : OpR X (binaryOp op) rr) (o : Op2 X.K f rr) (ha : JE X a ta) (hb : JE X b tb) : JE X (.BinOp a op b pos) (dBin f ta tb) := pe_wk (pe_op ho ha hb) (bin_wk o)
theorem je_add (ha : JE X a ta) (hb : JE X b tb) : JE X (.BinOp a .Add b pos) (dBin dAdd ta tb) := je_op op_addAll o_add ha hb
theorem je_sub (ha : JE X a ta) (hb : JE X b tb) : JE X (.BinOp a .Sub b pos) (dBin dSub ta tb) := je_op op_sub o_I0 ha hb
theorem je_mul (ha : JE X a ta) (hb : JE X b tb) : JE X (.BinOp a .Mult b pos) (dBin dMul ta tb) := je_op op_mulA o_I2 ha hb
theorem je_mod (ha : JE X a ta) (hb : JE X b tb) : JE X (.BinOp a .Mod b pos) (dBin dMod ta tb) := je_op op_mod o_I2 ha hb
theorem je_div (ha : JE X a ta) (hb : JE X b tb) : JE X (.BinOp a .FloorDiv b pos) (dBin dDiv ta tb) := je_op op_fdivW o_I2 ha hb
theorem je_pow (ha : JE X a ta) (hb : JE X b tb) : JE X (.BinOp a .Pow b pos) (dBin dPow ta tb) := je_op op_pow o_I2 ha hb
theorem je_neg (ha : JE X a ta) : JE X (.UnaryOp .USub a pos) (dUn dNeg ta) := pe_wk (pe_un un_neg ha) (un_wk o_neg)
theorem je_cmp {op : CmpOp} {f : F2} {rr : R2} (ho : OpR X (compareOp op) rr) (o : Op2 X.K f rr) (ha : JE X a ta) (hb : JE X b tb) (hm : behindInMarks op b = false) : JE X (.Compare a [op] [b] pos) (dBin f ta tb) := pe_wk (pe_cmpR ho ha hb hm) (bin_wk o)
end
mutual
def py0 : D → Option PyData
  | .non => some .none
  | .bl b => some (.bool b)
  | .int i => some (.int i)
  | .str x => some (.str x)
  | .tup ds => (py0A ds).map .tuple
  | .lst ds => (py0A ds).map .list
  | .fz ds => (py0A ds).map .list
  | .ptr _ => none
  | .ty _ => none
  | .dic _ => none
  | .adr _ => none
  | .gl _ => none
def py0A : List D → Option (List PyData)
  | [] => some []
  | d :: ds => match py0 d, py0A ds with
    | some p, some ps => some (p :: ps)
    | _, _ => none
end
def py (m : Sto) : D → Option PyData
  | .ptr i => match m[i]? with | some (.lst ds) => (py0A ds).map .list | _ => none
  | d => py0 d
mutual
theorem dp_of {K : PySem.W.Frag} {W : Wd} : ∀ {x : V} {d : D} {p : PyData}, R K W x d → py0 d = some p → Dp K W.st x p
  | _, _, _, .non, e => by cases e; exact .non
  | _, _, _, .bl b, e => by cases e; exact .bl b
  | _, _, _, .int i, e => by cases e; exact .int i
  | _, _, _, .str x, e => by cases e; exact .str x
  | _, _, p, @R.tup _ _ _ a xs ds h r, e => by
    simp only [py0, Option.map_eq_some_iff] at e
    obtain ⟨ps, e1, rfl⟩ := e
    exact .tup h (dpA_of r e1)
  | _, _, p, @R.lst _ _ _ a xs ds h r, e => by
    simp only [py0, Option.map_eq_some_iff] at e
    obtain ⟨ps, e1, rfl⟩ := e
    exact .lst (SqL.of h) (dpA_of r e1)
  | _, _, p, @R.fz _ _ _ a xs ds h r, e => by
    simp only [py0, Option.map_eq_some_iff] at e
    obtain ⟨ps, e1, rfl⟩ := e
    exact .lst h (dpA_of r e1)
  | _, _, _, .ty _, e => by cases e
  | _, _, _, .ptr _, e => by cases e
  | _, _, _, .dic _ _, e => by cases e
  | _, _, _, .adr _, e => by cases e
  | _, _, _, .gl _, e => by cases e
theorem dpA_of {K : PySem.W.Frag} {W : Wd} : ∀ {xs : List V} {ds : List D} {ps : List PyData}, RA K W xs ds → py0A ds = some ps → DpAll K W.st xs ps
  | _, _, _, .nil, e => by cases e; exact .nil
  | _, _, ps, @RA.cons _ _ _ v vs d ds h r, e => by
    unfold py0A at e
    cases e1 : py0 d with
    | none => rw [e1] at e; simp at e
    | some p =>
      cases e2 : py0A ds with
      | none => rw [e1, e2] at e; simp at e
      | some qs =>
        rw [e1, e2] at e
        cases e
        exact .cons (dp_of h e1) (dpA_of r e2)
end
mutual
theorem dp_mono {K : PySem.W.Frag} {H H' : Hp} (s : Same H H') : ∀ {x : V} {p : PyData}, Dp K H x p → Dp K H' x p
  | _, _, .non => .non
  | _, _, .bl b => .bl b
  | _, _, .int i => .int i
  | _, _, .str x => .str x
  | _, _, .lst h r => .lst (same_seqL s h) (dpA_mono s r)
  | _, _, .tup h r => .tup (same_seqT s h) (dpA_mono s r)
theorem dpA_mono {K : PySem.W.Frag} {H H' : Hp} (s : Same H H') : ∀ {xs : List V} {ps : List PyData}, DpAll K H xs ps → DpAll K H' xs ps
  | _, _, .nil => .nil
  | _, _, .cons h r => .cons (dp_mono s h) (dpA_mono s r)
end
theorem py_dp {K : PySem.W.Frag} {W : Wd} {F H : Hp} {m : Sto} {x : V} {d : D} {p : PyData} (rel : Rel K W F H m) (rx : R K W x d) (e : py m d = some p) : Dp K H x p := by
  by_cases hp : ∃ i, d = .ptr i
  · obtain ⟨i, rfl⟩ := hp
    have hl : ∃ ds, lstOf (.ptr i) m = some ds ∧ (py0A ds).map PyData.list = some p := by
      unfold py at e
      unfold lstOf
      cases q : m[i]? with
      | none => simp only [q] at e; cases e
      | some c =>
        cases c with
        | dead => simp only [q] at e; cases e
        | exc _ _ => simp only [q] at e; cases e
        | dic ds => simp only [q] at e; cases e
        | ins c fs => simp only [q] at e; cases e
        | lst ds => simp only [q] at e ⊢; exact ⟨ds, rfl, e⟩
    obtain ⟨ds, h1, h2⟩ := hl
    obtain ⟨a, xs, rfl, h3, h4⟩ := lstOf_at rel rx h1
    simp only [Option.map_eq_some_iff] at h2
    obtain ⟨ps, e1, rfl⟩ := h2
    exact .lst (SqL.of h3) (dpA_mono rel.sub (dpA_of h4 e1))
  · have e' : py0 d = some p := by
      cases d <;> first | exact e | exact absurd ⟨_, rfl⟩ hp
    exact dp_mono rel.sub (dp_of rx e')
@[irreducible] def dEqG (neg : Bool) (x y : D) (m : Sto) (q : D → Sto → Prop) : Prop := onS (py m x) fun a => onS (py m y) fun b => SeqAt.shaped a = true ∧ SeqAt.shaped b = true ∧ q (.bl (if neg then !PyData.eqv a b else PyData.eqv a b)) m
def dEq : F2
  | .int i, .int j, m, q => q (.bl (decide (i = j))) m
  | .bl i, .bl j, m, q => q (.bl (decide (i = j))) m
  | .str i, .str j, m, q => q (.bl (decide (i = j))) m
  | x, y, m, q => dEqG false x y m q
def dNe : F2
  | .int i, .int j, m, q => q (.bl (!decide (i = j))) m
  | .bl i, .bl j, m, q => q (.bl (!decide (i = j))) m
  | .str i, .str j, m, q => q (.bl (!decide (i = j))) m
  | x, y, m, q => dEqG true x y m q
def rrEq (K : PySem.W.Frag) : R2 := fun x y H Q => rEq x y H Q ∨ rEqD K x y H Q
def rrNe (K : PySem.W.Frag) : R2 := fun x y H Q => rNe x y H Q ∨ rNeD K x y H Q
theorem v_int {i j : Int} : decide (V.int i = V.int j) = decide (i = j) := by simp
theorem v_bl {i j : Bool} : decide (V.bl i = V.bl j) = decide (i = j) := by simp
theorem v_str {i j : Str} : decide (V.str i = V.str j) = decide (i = j) := by simp
theorem o_eq {K : PySem.W.Frag} : Op2 K dEq (rrEq K) := by
  intro W F H m x y d e q Q rel rx ry h k
  unfold dEq at h
  split at h
  · cases rx; cases ry
    refine .inl ⟨rfl, ?_⟩
    rw [v_int]
    exact k _ _ _ _ _ (.refl _) rel (.bl _) h
  · cases rx; cases ry
    refine .inl ⟨rfl, ?_⟩
    rw [v_bl]
    exact k _ _ _ _ _ (.refl _) rel (.bl _) h
  · cases rx; cases ry
    refine .inl ⟨rfl, ?_⟩
    rw [v_str]
    exact k _ _ _ _ _ (.refl _) rel (.bl _) h
  · unfold dEqG at h
    obtain ⟨a, e1, h⟩ := onS_some h
    obtain ⟨b, e2, h1, h2, h⟩ := onS_some h
    exact .inr ⟨a, b, py_dp rel rx e1, py_dp rel ry e2, h1, h2, k _ _ _ _ _ (.refl _) rel (.bl _) h⟩
theorem o_ne {K : PySem.W.Frag} : Op2 K dNe (rrNe K) := by
  intro W F H m x y d e q Q rel rx ry h k
  unfold dNe at h
  split at h
  · cases rx; cases ry
    refine .inl ⟨rfl, ?_⟩
    rw [v_int]
    exact k _ _ _ _ _ (.refl _) rel (.bl _) h
  · cases rx; cases ry
    refine .inl ⟨rfl, ?_⟩
    rw [v_bl]
    exact k _ _ _ _ _ (.refl _) rel (.bl _) h
  · cases rx; cases ry
    refine .inl ⟨rfl, ?_⟩
    rw [v_str]
    exact k _ _ _ _ _ (.refl _) rel (.bl _) h
  · unfold dEqG at h
    obtain ⟨a, e1, h⟩ := onS_some h
    obtain ⟨b, e2, h1, h2, h⟩ := onS_some h
    exact .inr ⟨a, b, py_dp rel rx e1, py_dp rel ry e2, h1, h2, k _ _ _ _ _ (.refl _) rel (.bl _) h⟩
theorem op_eqAll {X : Cx} (hu : X.A.units + 64 < cLine) : OpR X (compareOp .Eq) (rrEq X.K) := op_eq.or (op_eqD hu)
theorem op_neAll {X : Cx} (hu : X.A.units + 64 < cLine) : OpR X (compareOp .NotEq) (rrNe X.K) := op_ne.or (op_neD hu)
theorem units64 {k : Nat} {A : Around} (hr : Room k A) : A.units + 64 < cLine := by have := hr.un; omega
def dIx : F2
  | .tup ds, .int i, m, q => onS (atI ds i) fun d => q d m
  | .str z, .int i, m, q => z.length ≤ sizeLine ∧ onS (atI z.cps.toList i) fun c => q (.str ⟨#[c]⟩) m
  | x, .int i, m, q => onS (seqL x m) fun ds => onS (atI ds i) fun d => q d m
  | _, _, _, _ => False
theorem o_ix {K : PySem.W.Frag} : Op2 K dIx (rIx K) := by
  intro W F H m x y d e q Q rel rx ry h k
  unfold dIx at h
  split at h
  · cases ry
    obtain ⟨d, e1, h⟩ := onS_some h
    obtain ⟨p, xs, rfl, g, r⟩ := tup_at rel rx
    obtain ⟨v, e2, rv⟩ := atI_ra r e1
    exact .inr (.inl ⟨p, xs, _, v, rfl, rfl, g, e2, k _ _ _ _ _ (.refl _) rel rv h⟩)
  · cases rx; cases ry
    obtain ⟨hz, h⟩ := h
    obtain ⟨c, e1, h⟩ := onS_some h
    exact .inr (.inr ⟨_, _, c, rfl, rfl, hz, e1, k _ _ _ _ _ (.refl _) rel (.str _) h⟩)
  · cases ry
    obtain ⟨ds, e0, h⟩ := onS_some h
    obtain ⟨d, e1, h⟩ := onS_some h
    obtain ⟨p, xs, rfl, g, r⟩ := seqL_at rel rx e0
    obtain ⟨v, e2, rv⟩ := atI_ra r e1
    exact .inl ⟨p, xs, _, v, rfl, rfl, g, e2, k _ _ _ _ _ (.refl _) rel rv h⟩
  · exact h.elim
def cutD {α : Type} (xs : List α) (lo hi : Option Int) : List α := (xs.drop (HT.sIx xs.length 0 lo)).take (HT.sIx xs.length xs.length hi - HT.sIx xs.length 0 lo)
theorem ra_cut {K : PySem.W.Frag} {W : Wd} {xs : List V} {ds : List D} (r : RA K W xs ds) (lo hi : Option Int) : RA K W (cutV xs lo hi) (cutD ds lo hi) := by
  unfold cutV cutD
  rw [r.len]
  exact (r.dp _).tk _
abbrev DO := DSt → Sto → (Option Int → Sto → Prop) → Prop
def liftO (K : PySem.W.Frag) (t : DO) : TO := fun s H Q => ∃ (W : Wd) (F : Hp) (m : Sto) (r : DSt) (q : Option Int → Sto → Prop), Rel K W F H m ∧ RSt K W s r ∧ t r m q ∧
  ∀ W' H' m' o, W.Le W' → Rel K W' F H' m' → q o m' → Q o H'
abbrev JO (X : Cx) (e : Option Expr) (t : DO) : Prop := PO X e (liftO X.K t)
def dNoPart : DO := fun _ m q => q none m
def dPart (t : DE) : DO := fun r m q => t r m fun x m1 => match x with | .int i => q (some i) m1 | _ => False
theorem po_wk {X : Cx} {e : Option Expr} {t t' : TO} (h : PO X e t) (k : ∀ s H Q, t' s H Q → t s H Q) : PO X e t' := ⟨fun p s a H Q I z => h.run p s a H Q I (k _ _ _ z)⟩
theorem jo_none {X : Cx} : JO X none dNoPart := po_wk po_none fun s H Q ⟨W, F, m, r, q, rel, rs, h, k⟩ => k W H m none (.refl _) rel h
theorem jo_some {X : Cx} {e : Expr} {te : DE} (h : JE X e te) : JO X (some e) (dPart te) := po_wk (po_some h) fun s H Q ⟨W, F, m, r, q, rel, rs, h, k⟩ => by
  refine ⟨W, F, m, r, _, rel, rs, h, fun W1 H1 m1 v d l1 rel1 rv hq => ?_⟩
  cases d with
  | int i => cases rv; exact ⟨i, rfl, k W1 H1 m1 (some i) l1 rel1 hq⟩
  | _ => exact hq.elim
def dSlice (f : D → Option Int → Option Int → Sto → (D → Sto → Prop) → Prop) (te : DE) (tl th : DO) : DE := fun r m q => te r m fun x m1 => tl r m1 fun l m2 => th r m2 fun u m3 => f x l u m3 q
def dCut (x : D) (lo hi : Option Int) (m : Sto) (q : D → Sto → Prop) : Prop := match x with
  | .str z => z.length ≤ sizeLine ∧ q (.str (cutS z lo hi)) m
  | .tup ds => q (.tup (cutD ds lo hi)) m
  | x => onS (seqL x m) fun ds => q (.lst (cutD ds lo hi)) m
def rrCut (K : PySem.W.Frag) (x : V) (lo hi : Option Int) (H : Hp) (Q : VK) : Prop := rSlL K x lo hi H Q ∨ rSlA K x lo hi H Q ∨ rSlS x lo hi H Q
theorem sl_all {X : Cx} : SlR X (rrCut X.K) := sl_list.or (sl_tupA.or sl_str)
theorem cut_whole {α : Type} (xs : List α) (lo hi : Option Int) (h1 : HT.sIx xs.length 0 lo = 0) (h2 : HT.sIx xs.length xs.length hi = xs.length) : cutD xs lo hi = xs := by
  unfold cutD
  rw [h1, h2]
  simp
theorem slice_wk {K : PySem.W.Frag} {f : D → Option Int → Option Int → Sto → (D → Sto → Prop) → Prop} {rr : V → Option Int → Option Int → Hp → VK → Prop} {te : DE} {tl th : DO}
    (o : ∀ W F H m x d lo hi q Q, Rel K W F H m → R K W x d → f d lo hi m q → Fol K W F q Q → rr x lo hi H Q) (s : L2.St) (H : Hp) (Q : VK) (h : liftE K (dSlice f te tl th) s H Q) : tSl rr (liftE K te) (liftO K tl) (liftO K th) s H Q := by
  obtain ⟨W, F, m, r, q, rel, rs, h, k⟩ := h
  refine ⟨W, F, m, r, _, rel, rs, h, fun W1 H1 m1 v d l1 rel1 rv hq => ?_⟩
  refine ⟨W1, F, m1, r, _, rel1, rs.mono l1, hq, fun W2 H2 m2 lo l2 rel2 hq2 => ?_⟩
  refine ⟨W2, F, m2, r, _, rel2, rs.mono (l1.trans l2), hq2, fun W3 H3 m3 hi l3 rel3 hq3 => ?_⟩
  exact o W3 F H3 m3 v d lo hi q Q rel3 (rv.mono (l2.trans l3)) hq3 fun _ _ _ _ _ l => k _ _ _ _ _ (l1.trans (l2.trans (l3.trans l)))
theorem o_cut {K : PySem.W.Frag} : ∀ W F H m x d lo hi q Q, Rel K W F H m → R K W x d → dCut d lo hi m q → Fol K W F q Q → rrCut K x lo hi H Q := by
  intro W F H m x d lo hi q Q rel rx h k
  have lists : (onS (seqL d m) fun ds => q (.lst (cutD ds lo hi)) m) → rrCut K x lo hi H Q := fun h => by
    obtain ⟨ds, e, h⟩ := onS_some h
    obtain ⟨a, xs, rfl, g, r⟩ := seqL_at rel rx e
    exact .inl ⟨a, xs, rfl, g, fun p hp => cold_lst rel (ra_cut r lo hi) h k hp⟩
  unfold dCut at h
  split at h
  · cases rx
    exact .inr (.inr ⟨_, rfl, h.1, k _ _ _ _ _ (.refl _) rel (.str _) h.2⟩)
  · rename_i ds
    obtain ⟨a, xs, rfl, g, r⟩ := tup_at rel rx
    refine .inr (.inl ⟨a, xs, rfl, g, fun hw => ?_, fun _ p hp => cold_tup rel (ra_cut r lo hi) h k hp⟩)
    rw [r.len] at hw
    rw [cut_whole ds lo hi hw.1 hw.2] at h
    exact k _ _ _ _ _ (.refl _) rel rx h
  · exact lists h
section
variable {X : Cx} {pos p2 : Pos} {a b e : Expr} {lo hi : Option Expr} {ta tb te : DE} {tl th : DO}
theorem je_ix (ha : JE X a ta) (hb : JE X b tb) (hs : PlainIx b := by exact fun _ _ => rfl) : JE X (.Subscript a b pos) (dBin dIx ta tb) := pe_wk (pe_ix ix_seq ha hb hs) (bin_wk o_ix)
theorem je_slice (he : JE X e te) (hl : JO X lo tl) (hu : JO X hi th) : JE X (.Subscript e (.Slice lo hi none p2) pos) (dSlice dCut te tl th) := pe_wk (pe_slice sl_all he hl hu) (slice_wk o_cut)
theorem je_eq {k : Nat} (hr : Room k X.A) (ha : JE X a ta) (hb : JE X b tb) : JE X (.Compare a [.Eq] [b] pos) (dBin dEq ta tb) := je_cmp (op_eqAll (units64 hr)) o_eq ha hb (nobehind _ (by decide) (by decide))
end
def dAnd (ta tb : DE) : DE := fun r m q => ta r m fun x m1 => match x with | .bl c => (c = true → tb r m1 q) ∧ (c = false → q (.bl false) m1) | _ => False
def dOr (ta tb : DE) : DE := fun r m q => ta r m fun x m1 => match x with | .bl c => (c = true → q (.bl true) m1) ∧ (c = false → tb r m1 q) | _ => False
def dNot (ta : DE) : DE := fun r m q => ta r m fun x m1 => match x with | .bl c => q (.bl (!c)) m1 | _ => False
def dIfE (tc : DT) (ta tb : DE) : DE := fun r m q => tc r m fun c m1 => (c = true → ta r m1 q) ∧ (c = false → tb r m1 q)
def dChain (f g : F2) (ta tb tc : DE) : DE := fun r m q => ta r m fun x m1 => tb r m1 fun y m2 => f x y m2 fun z m3 => match z with | .bl k => (k = true → tc r m3 fun w m4 => g y w m4 q) ∧ (k = false → q (.bl false) m3) | _ => False
section
variable {X : Cx} {pos : Pos} {a b c : Expr} {rest : List Expr} {ta tb tc : DE} {tt : DT}
theorem je_one {op} {t : DE} (h : JE X a t) : JE X (.BoolOp op [a] pos) t := pe_one h
theorem je_and (ha : JE X a ta) (hb : JE X (.BoolOp .And (b :: rest) pos) tb) : JE X (.BoolOp .And (a :: b :: rest) pos) (dAnd ta tb) := pe_wk (pe_and ha hb) fun s H Q ⟨W, F, m, r, q, rel, rs, h, k⟩ => by
  refine ⟨W, F, m, r, _, rel, rs, h, fun W1 H1 m1 v d l1 rel1 rv hq => ?_⟩
  cases d with
  | bl c =>
    cases rv
    refine ⟨c, rfl, ?_⟩
    cases c with
    | true => rw [if_pos rfl]; exact ⟨W1, F, m1, r, q, rel1, rs.mono l1, hq.1 rfl, fun _ _ _ _ _ l => k _ _ _ _ _ (l1.trans l)⟩
    | false => rw [if_neg Bool.false_ne_true]; exact k _ _ _ _ _ l1 rel1 (.bl _) (hq.2 rfl)
  | _ => exact hq.elim
end
def dTest (t : DE) : DT := fun r m q => t r m fun x m1 => match x with | .bl c => q c m1 | _ => False
def dTAnd (t u : DT) : DT := fun r m q => t r m fun c m1 => (c = true → u r m1 q) ∧ (c = false → q false m1)
def dTOr (t u : DT) : DT := fun r m q => t r m fun c m1 => (c = true → q true m1) ∧ (c = false → u r m1 q)
def dTNot (t : DT) : DT := fun r m q => t r m fun c m1 => q (!c) m1
section
variable {X : Cx} {pos : Pos} {a b c e : Expr} {rest : List Expr} {ta tb tc te : DE} {t u : DT}
theorem test_wk {K : PySem.W.Frag} {te : DE} (s : L2.St) (H : Hp) (Q : Bool → Hp → Prop) (h : liftT K (dTest te) s H Q) : liftE K te s H fun x H' => ∃ k, x = .bl k ∧ Q k H' := by
  obtain ⟨W, F, m, r, q, rel, rs, h, k⟩ := h
  refine ⟨W, F, m, r, _, rel, rs, h, fun W1 H1 m1 v d l1 rel1 rv hq => ?_⟩
  cases d with
  | bl c => cases rv; exact ⟨c, rfl, k _ _ _ _ l1 rel1 hq⟩
  | _ => exact hq.elim
/-- a call, a name, a subscript as a test: its value a truth -/
theorem jt_val (h : JE X e te) (he : ∀ whole, isTrue e X.env whole = (do let v ← whole; standAt e.pos; holding [v] (truthy v)) := by intro _; rfl) : JT X e (dTest te) := pt_wk (pt_val h he) fun s H Q h => test_wk s H Q h
theorem jt_cmp {op : CmpOp} {f : F2} {rr : R2} (ho : OpR X (compareOp op) rr) (o : Op2 X.K f rr) (ha : JE X a ta) (hb : JE X b tb) (hm : behindInMarks op b = false) : JT X (.Compare a [op] [b] pos) (dTest (dBin f ta tb)) :=
  pt_wk (pt_cmpR ho ha hb hm) fun s H Q h => by
    obtain ⟨W, F, m, r, q, rel, rs, h, k⟩ := h
    exact bin_wk o s H (fun x H' => ∃ k, x = .bl k ∧ Q k H') ⟨W, F, m, r, fun x m1 => match x with | .bl c => q c m1 | _ => False, rel, rs, h, fun W1 H1 m1 v d l1 rel1 rv hq => by
      cases d with
      | bl c => cases rv; exact ⟨c, rfl, k _ _ _ _ l1 rel1 hq⟩
      | _ => exact hq.elim⟩
theorem jt_eq {k : Nat} (hr : Room k X.A) (ha : JE X a ta) (hb : JE X b tb) : JT X (.Compare a [.Eq] [b] pos) (dTest (dBin dEq ta tb)) := jt_cmp (op_eqAll (units64 hr)) o_eq ha hb (nobehind _ (by decide) (by decide))
theorem jt_ne {k : Nat} (hr : Room k X.A) (ha : JE X a ta) (hb : JE X b tb) : JT X (.Compare a [.NotEq] [b] pos) (dTest (dBin dNe ta tb)) := jt_cmp (op_neAll (units64 hr)) o_ne ha hb (nobehind _ (by decide) (by decide))
theorem jt_lt (ha : JE X a ta) (hb : JE X b tb) : JT X (.Compare a [.Lt] [b] pos) (dTest (dBin dLt ta tb)) := jt_cmp op_lt o_B0 ha hb (nobehind _ (by decide) (by decide))
theorem jt_gt (ha : JE X a ta) (hb : JE X b tb) : JT X (.Compare a [.Gt] [b] pos) (dTest (dBin dGt ta tb)) := jt_cmp op_gt o_B0 ha hb (nobehind _ (by decide) (by decide))
theorem jt_ge (ha : JE X a ta) (hb : JE X b tb) : JT X (.Compare a [.GtE] [b] pos) (dTest (dBin dGe ta tb)) := jt_cmp op_ge o_B0 ha hb (nobehind _ (by decide) (by decide))
theorem jt_not (ha : JT X a t) : JT X (.UnaryOp .Not a pos) (dTNot t) := pt_wk (pt_not ha) fun s H Q ⟨W, F, m, r, q, rel, rs, h, k⟩ => ⟨W, F, m, r, _, rel, rs, h, fun _ _ _ c l rel1 hq => k _ _ _ _ l rel1 hq⟩
abbrev JW (X : Cx) (e : Expr) (t : DT) : Prop := PW X e (liftT X.K t)
theorem jw_or1 (ha : JT X a t) : JW X (.BoolOp .Or [a] pos) t := pw_or1 ha
theorem jw_or (ha : JT X a t) (hb : JW X (.BoolOp .Or (b :: rest) pos) u) : JW X (.BoolOp .Or (a :: b :: rest) pos) (dTOr t u) := pw_wk (pw_or ha hb) fun s H Q ⟨W, F, m, r, q, rel, rs, h, k⟩ => by
  refine ⟨W, F, m, r, _, rel, rs, h, fun W1 H1 m1 c l1 rel1 hq => ?_⟩
  cases c with
  | true => rw [if_pos rfl]; exact k _ _ _ _ l1 rel1 (hq.1 rfl)
  | false => rw [if_neg Bool.false_ne_true]; exact ⟨W1, F, m1, r, q, rel1, rs.mono l1, hq.2 rfl, fun _ _ _ _ l => k _ _ _ _ (l1.trans l)⟩
end
end DL
namespace DL
open PySem PySem.Spec PyProof.Rows L2
variable [Cl] [Lk]
abbrev Own := Option (Nat × List D)
def okP : Own → Sto → Prop
  | none, _ => True
  | some p, m => m[p.1]? = some (.lst p.2)
/-- the items, and the cell that must stay -/
def items : D → Sto → Option (List D × Own)
  | .lst ds, _ => some (ds, none)
  | .fz ds, _ => some (ds, none)
  | .tup ds, _ => some (ds, none)
  | .str z, _ => some (z.cps.toList.map fun c => D.str ⟨#[c]⟩, none)
  | .ptr i, m => match m[i]? with | some (.lst ds) => some (ds, some (i, ds)) | _ => none
  | _, _ => none
/-- the model's iterators for these, with what their turns give -/
structure ItOk (K : PySem.W.Frag) (W : Wd) (ds : List D) (o : Own) (J : It) : Prop where
  go : ∀ W' F H' m' i, W.Le W' → Rel K W' F H' m' → okP o m' → i < ds.length → J.go i H'
  yld : ∀ W' F H' m' i x H'', W.Le W' → Rel K W' F H' m' → okP o m' → i < ds.length → J.yld i H' x H'' → ∃ W'' d, W'.Le W'' ∧ Rel K W'' F H'' m' ∧ ds[i]? = some d ∧ R K W'' x d
  stop : ∀ W' F H' m' i, W.Le W' → Rel K W' F H' m' → okP o m' → ds.length ≤ i → J.stop i H'
theorem itok_list {K : PySem.W.Frag} {W : Wd} {ds : List D} {o : Own} {a : Addr} (h : ∀ W' F H' m', W.Le W' → Rel K W' F H' m' → okP o m' → ∃ xs, SqL K H' a xs ∧ RA K W' xs ds) : ItOk K W ds o (Itl K a) where
  go := fun W' F H' m' i l rel ok hi => by
    obtain ⟨xs, h1, h2⟩ := h W' F H' m' l rel ok
    have hx : i < xs.length := by rw [h2.len]; exact hi
    exact ⟨xs, xs[i], h1, List.getElem?_eq_getElem hx⟩
  yld := fun W' F H' m' i x H'' l rel ok hi y => by
    obtain ⟨xs, h1, h2⟩ := h W' F H' m' l rel ok
    obtain ⟨rfl, y⟩ := y
    obtain ⟨d, e1, e2⟩ := h2.getV (y xs h1)
    exact ⟨W', d, .refl _, rel, e1, e2⟩
  stop := fun W' F H' m' i l rel ok hi => by
    obtain ⟨xs, h1, h2⟩ := h W' F H' m' l rel ok
    exact ⟨xs, h1, by rw [h2.len]; exact hi⟩
theorem itok_tup {K : PySem.W.Frag} {W : Wd} {ds : List D} {o : Own} {a : Addr} (h : ∀ W' F H' m', W.Le W' → Rel K W' F H' m' → okP o m' → ∃ xs, SqT K H' a xs ∧ RA K W' xs ds) : ItOk K W ds o (Itt K a) where
  go := fun W' F H' m' i l rel ok hi => by
    obtain ⟨xs, h1, h2⟩ := h W' F H' m' l rel ok
    have hx : i < xs.length := by rw [h2.len]; exact hi
    exact ⟨xs, xs[i], h1, List.getElem?_eq_getElem hx⟩
  yld := fun W' F H' m' i x H'' l rel ok hi y => by
    obtain ⟨xs, h1, h2⟩ := h W' F H' m' l rel ok
    obtain ⟨rfl, y⟩ := y
    obtain ⟨d, e1, e2⟩ := h2.getV (y xs h1)
    exact ⟨W', d, .refl _, rel, e1, e2⟩
  stop := fun W' F H' m' i l rel ok hi => by
    obtain ⟨xs, h1, h2⟩ := h W' F H' m' l rel ok
    exact ⟨xs, h1, by rw [h2.len]; exact hi⟩
theorem itok_str {K : PySem.W.Frag} {W : Wd} {z : Str} : ItOk K W (z.cps.toList.map fun c => D.str ⟨#[c]⟩) none (Its z) where
  go := fun W' F H' m' i l rel ok hi => by
    rw [List.length_map, Array.length_toList] at hi
    exact hi
  yld := fun W' F H' m' i x H'' l rel ok hi y => by
    obtain ⟨rfl, c, h1, rfl⟩ := y
    refine ⟨W', .str ⟨#[c]⟩, .refl _, rel, ?_, .str _⟩
    rw [List.getElem?_map, Array.getElem?_toList, h1]
    rfl
  stop := fun W' F H' m' i l rel ok hi => by
    rw [List.length_map, Array.length_toList] at hi
    exact hi
theorem itok_range {K : PySem.W.Frag} {W : Wd} {lo : Int} {n : Nat} : ItOk K W ((List.range n).map fun (k : Nat) => D.int (lo + (k : Int))) none (Itr lo n) where
  go := fun W' F H' m' i l rel ok hi => by
    rw [List.length_map, List.length_range] at hi
    exact hi
  yld := fun W' F H' m' i x H'' l rel ok hi y => by
    obtain ⟨rfl, rfl⟩ := y
    rw [List.length_map, List.length_range] at hi
    refine ⟨W', .int (lo + i), .refl _, rel, ?_, .int _⟩
    rw [List.getElem?_map, List.getElem?_range hi]
    rfl
  stop := fun W' F H' m' i l rel ok hi => by
    rw [List.length_map, List.length_range] at hi
    exact hi
/-- an iterable: its items -/
abbrev DI := DSt → Sto → (List D → Own → Sto → Prop) → Prop
def liftI (K : PySem.W.Frag) (t : DI) : TI := fun s H Rr => ∃ (W : Wd) (F : Hp) (m : Sto) (r : DSt) (q : List D → Own → Sto → Prop), Rel K W F H m ∧ RSt K W s r ∧ t r m q ∧
  ∀ W' H' m' ds o J, W.Le W' → Rel K W' F H' m' → ItOk K W' ds o J → okP o m' → q ds o m' → Rr J H'
abbrev JI (X : Cx) (tg e : Expr) (t : DI) : Prop := PI X tg e (liftI X.K t)
theorem pi_wk {X : Cx} {tg e : Expr} {t t' : TI} (h : PI X tg e t) (k : ∀ s H Q, t' s H Q → t s H Q) : PI X tg e t' := ⟨fun p s a H Q I z => h.run p s a H Q I (k _ _ _ z)⟩
/-- the iterator is chosen by the value -/
inductive PIk (X : Cx) (tg : Expr) (v : V) (H : Hp) (Rr : It → Hp → Prop) : Prop
  | l (a : Addr) : v = .ref a → (∃ xs, SqL X.K H a xs) → Rr (Itl X.K a) H → PIk X tg v H Rr
  | t (a : Addr) : v = .ref a → (∃ xs, SqT X.K H a xs) → Rr (Itt X.K a) H → PIk X tg v H Rr
  | s (z : Str) : v = .str z → Rr (Its z) H → PIk X tg v H Rr
theorem pi_any {X : Cx} {tg e : Expr} {te : TE} (he : PE X e te) : PI X tg e (fun s H Rr => te s H fun v H1 => PIk X tg v H1 Rr) := by
  refine ⟨fun pins s a H Rr I h => ?_⟩
  refine thn (he.run pins s a H _ I h) fun v s1 ⟨x, H1, I1, r1, k⟩ => ?_
  cases k with
  | l b e1 h1 h2 =>
    subst e1
    cases r1
    obtain ⟨xs, hx⟩ := h1
    obtain ⟨its, _, pl, _⟩ := I1.list hx
    exact wpAny_pyIter_list pl.isList (pi_one (tk := s1.toks) I1 _ (turn_list b _) ⟨_, Heap.get?_push_size _ rfl, rfl, rfl⟩ h2)
  | t b e1 h1 h2 =>
    subst e1
    cases r1
    obtain ⟨xs, hx⟩ := h1
    obtain ⟨its, _, pl, _⟩ := I1.tuple hx
    have pl' : s1.heap.IsTuple b its.toArray := pl
    exact wpAny_pyIter_tuple pl' (pi_one (tk := s1.toks) I1 _ (turn_tuple b _) ⟨_, Heap.get?_push_size _ rfl, rfl, rfl⟩ h2)
  | s z e1 h1 =>
    subst e1
    obtain ⟨tk, rfl⟩ := r1
    by_cases wide : z.cps.all (· < 128) = true
    · exact wpAny_pyIter_ascii wide (pi_one (tk := s1.toks) I1 _ (turn_str _ z tk "str_ascii_iterator" (.inl rfl)) ⟨_, Heap.get?_push_size _ rfl, rfl, rfl⟩ h1)
    · exact wpAny_pyIter_wide (by simpa using wide) (pi_one (tk := s1.toks) I1 _ (turn_str _ z tk "str_iterator" (.inr rfl)) ⟨_, Heap.get?_push_size _ rfl, rfl, rfl⟩ h1)
theorem items_at {X : Cx} {tg : Expr} {W : Wd} {F H : Hp} {m : Sto} {x : V} {d : D} {ds : List D} {o : Own} {Rr : It → Hp → Prop} (rel : Rel X.K W F H m) (rv : R X.K W x d) (e : items d m = some (ds, o))
    (k : ∀ J, ItOk X.K W ds o J → okP o m → Rr J H) : PIk X tg x H Rr := by
  cases rv with
  | @lst a xs _ h r => cases e; exact .l a rfl ⟨xs, SqL.of (rel.sub _ _ h)⟩ (k _ (itok_list fun W' F H' m' l rel' _ => ⟨xs, SqL.of (rel'.sub _ _ (l.st _ _ h)), r.mono l⟩) trivial)
  | @fz a xs _ h r => cases e; exact .l a rfl ⟨xs, same_seqL rel.sub h⟩ (k _ (itok_list fun W' F H' m' l rel' _ => ⟨xs, same_seqL rel'.sub (same_seqL l.st h), r.mono l⟩) trivial)
  | @tup a xs _ h r => cases e; exact .t a rfl ⟨xs, same_seqT rel.sub h⟩ (k _ (itok_tup fun W' F H' m' l rel' _ => ⟨xs, same_seqT rel'.sub (same_seqT l.st h), r.mono l⟩) trivial)
  | str z => cases e; exact .s _ rfl (k _ itok_str trivial)
  | @ptr a i hb =>
    unfold items at e
    cases q : m[i]? with
    | none => simp only [q] at e; cases e
    | some c =>
      cases c with
      | dead => simp only [q] at e; cases e
      | exc _ _ => simp only [q] at e; cases e
      | dic es => simp only [q] at e; cases e
      | ins c fs => simp only [q] at e; cases e
      | lst es =>
        simp only [q] at e
        cases e
        have ok : ∀ W' F H' m', W.Le W' → Rel X.K W' F H' m' → okP (some (i, ds)) m' → ∃ xs, SqL X.K H' a xs ∧ RA X.K W' xs ds := fun W' F H' m' l rel' ok => by
          have ok' : m'[i]? = some (.lst ds) := ok
          have e' : lstOf (.ptr i) m' = some ds := by simp only [lstOf, ok']
          obtain ⟨b, xs, h1, h2, h3⟩ := lstOf_at rel' (R.ptr (l.be _ _ hb)) e'
          cases h1
          exact ⟨xs, SqL.of h2, h3⟩
        obtain ⟨xs, h1, _⟩ := ok W F H m (.refl _) rel q
        exact .l a rfl ⟨xs, h1⟩ (k _ (itok_list ok) q)
  | _ => cases e
def dIter (te : DE) : DI := fun r m q => te r m fun x m1 => onS (items x m1) fun p => q p.1 p.2 m1
theorem ji_any {X : Cx} {tg e : Expr} {te : DE} (he : JE X e te) : JI X tg e (dIter te) := pi_wk (pi_any he) fun s H Rr ⟨W, F, m, r, q, rel, rs, h, k⟩ => by
  refine ⟨W, F, m, r, _, rel, rs, h, fun W1 H1 m1 v d l1 rel1 rv hq => ?_⟩
  obtain ⟨⟨ds, o⟩, e1, hq⟩ := onS_some hq
  exact items_at (tg := tg) rel1 rv e1 fun J hJ ok => k W1 H1 m1 ds o J l1 rel1 hJ ok hq
def dRange1 (ta : DE) : DI := fun r m q => ta r m fun x m1 => match x with | .int j => (-(2 ^ 62) ≤ j ∧ j < 2 ^ 62) ∧ q ((List.range j.toNat).map fun (k : Nat) => D.int (0 + (k : Int))) none m1 | _ => False
theorem ji_range1 {X : Cx} {tg a : Expr} {p pos : Pos} {ta : DE} (hg : Gl X "range") (hm : X.mg "range" = none) (ha : JE X a ta) (hs : starEach [a] X.env = [(false, eval a X.env)] := by rfl) : JI X tg (.Call (.Name "range" p) [a] [] pos) (dRange1 ta) :=
  pi_wk (pi_range1 hg hm (pa_cons ha pa_nil hs) hs) fun s H Rr ⟨W, F, m, r, q, rel, rs, h, k⟩ => by
    refine ⟨W, F, m, r, _, rel, rs, h, fun W1 H1 m1 v d l1 rel1 rv hq => ?_⟩
    cases d with
    | int j => cases rv; exact ⟨j, rfl, hq.1.1, hq.1.2, k W1 H1 m1 _ _ _ l1 rel1 itok_range trivial hq.2⟩
    | _ => exact hq.elim
def gN (i : Nat) : DG := fun d r m q => q (put r i d) m
def gsN : DGs := fun ds r m q => match ds with | [] => q r m | _ => False
def gsC (g : DG) (gs : DGs) : DGs := fun ds r m q => match ds with | d :: rest => g d r m fun r1 m1 => gs rest r1 m1 q | [] => False
def gT (n : Nat) (gs : DGs) : DG := fun d r m q => match d with | .tup ds => ds.length = n ∧ gs ds r m q | _ => False
section
variable {X : Cx} {pos : Pos} {e : Expr} {es : List Expr} {g : DG} {gs : DGs}
theorem jg_name (i : Nat) {x : Str} (hN : X.N.Nodup) (hi : X.N[i]? = some x := by rfl) (hx : Loc X.env.scope x := by first | exact .inl rfl | exact .inr rfl) (hf : X.fn x = true ∨ X.env.scope.names.lookup x = some .local := by first | exact .inl rfl | exact .inr rfl | assumption) : JG X (.Name x pos) (gN i) :=
  pg_wk (pg_name hN hi hx hf) fun v s H Q ⟨W, F, m, r, d, q, rel, rs, rv, h, k⟩ => k W H m _ _ (.refl _) rel (rs.put rv i) h
/-- o[i] = .. in a list of the store -/
def gIx (to ti : DE) : DG := fun d r m q => to r m fun x m1 => ti r m1 fun y m2 => match x, y with
  | .ptr j, .int k => onS (lstOf (.ptr j) m2) fun ds => onS (ixN ds.length k) fun l => q r (m2.set j (.lst (ds.set l d)))
  | _, _ => False
theorem cell_write {K : PySem.W.Frag} {W : Wd} {F H : Hp} {m : Sto} {x : V} {j : Nat} {ds ds' : List D} (rel : Rel K W F H m) (rv : R K W x (.ptr j)) (e : lstOf (.ptr j) m = some ds) :
    ∃ a xs, x = .ref a ∧ H a = some (.lst xs) ∧ RA K W xs ds ∧ ∀ xs', RA K W xs' ds' → Rel K W F (upd H a (.lst xs')) (m.set j (.lst ds')) := by
  obtain ⟨a, xs, rfl, h1, h2⟩ := lstOf_at rel rv e
  refine ⟨a, xs, rfl, h1, h2, fun xs' ra => ?_⟩
  cases rv with
  | ptr hb =>
    have hm : m[j]? = some (.lst ds) := by
      unfold lstOf at e
      cases q : m[j]? with
      | none => simp only [q] at e; cases e
      | some c =>
        cases c with
        | dead => simp only [q] at e; cases e
        | exc _ _ => simp only [q] at e; cases e
        | dic es => simp only [q] at e; cases e
        | ins c fs => simp only [q] at e; cases e
        | lst es => simp only [q] at e; cases e; rfl
    exact rel.write (c' := .lst ds') hb hm (fun z => by cases z) (fun z => by cases z) ⟨xs', upd_same, ra⟩
theorem jg_ix {o i : Expr} {to ti : DE} (ho : JE X o to) (hi : JE X i ti) (ha : ∀ v, assign (.Subscript o i pos) X.env v = (do
      let ov ← holding [v] (eval o X.env)
      let iv ← holding [v, ov] (eval i X.env)
      standAt pos
      holding [v, ov, iv] (setItem ov iv v)
      release [v, ov, iv] []) := by intro _; rfl) : JG X (.Subscript o i pos) (gIx to ti) :=
  pg_wk (pg_sub ho hi set_list ha) fun v s H Q ⟨W, F, m, r, d, q, rel, rs, rv, h, k⟩ => by
    refine ⟨W, F, m, r, _, rel, rs, h, fun W1 H1 m1 x dx l1 rel1 rx hq => ?_⟩
    refine ⟨W1, F, m1, r, _, rel1, rs.mono l1, hq, fun W2 H2 m2 y dy l2 rel2 ry hq2 => ?_⟩
    cases dx with
    | ptr j =>
      cases dy with
      | int kk =>
        obtain ⟨ds, e1, hq2⟩ := onS_some hq2
        obtain ⟨l, e2, hq2⟩ := onS_some hq2
        obtain ⟨a, xs, rfl, h1, h2, h3⟩ := cell_write (ds' := ds.set l d) rel2 (rx.mono l2) e1
        cases ry
        refine ⟨a, xs, kk, l, rfl, rfl, h1, by rw [h2.len]; exact e2, ?_⟩
        exact k W2 _ _ s r (l1.trans l2) (h3 _ (h2.set (rv.mono (l1.trans l2)) l)) (rs.mono (l1.trans l2)) hq2
      | _ => exact hq2.elim
    | _ => exact hq2.elim
end
def dNext : DS := fun d r m => d.nx r m
def dSeq (t u : DS) : DS := fun d r m => t { d with nx := u d } r m
def dDrop (te : DE) : DS := fun d r m => te r m fun _ m1 => d.nx r m1
def dRet (te : DE) : DS := fun d r m => te r m d.rt
def dRetN : DS := fun d _ m => d.rt .non m
def dBreak : DS := fun d r m => d.bk r m
def dCont : DS := fun d r m => d.ct r m
def dNever : DS := fun _ _ _ => False
def dIf (c : DT) (t u : DS) : DS := fun d r m => c r m fun b m1 => (b = true → t d r m1) ∧ (b = false → u d r m1)
def dAsg (te : DE) (g : DG) : DS := fun d r m => te r m fun x m1 => g x r m1 d.nx
def dAug (i : Nat) (f : F2) (te : DE) : DS := fun d r m => onS (slot r i) fun x => te r m fun y m1 => f x y m1 fun z m2 => d.nx (put r i z) m2
def dAugIx (f : F2) (to ti te : DE) : DS := fun d r m => to r m fun o m1 => ti r m1 fun i m2 => match o, i with
  | .ptr j, .int k => 0 ≤ k ∧ onS (lstOf (.ptr j) m2) fun ds => onS (ds[k.toNat]?) fun x => te r m2 fun y m3 => f x y m3 fun z m4 =>
      onS (lstOf (.ptr j) m4) fun ds' => onS (ixN ds'.length k) fun l => d.nx r (m4.set j (.lst (ds'.set l z)))
  | _, _ => False
def forD0 (g : DG) (tb : DS) (d : DEnds) (ok : Sto → Prop) : List D → DSt → Sto → Prop
  | [], r, m => d.nx r m
  | x :: xs, r, m => g x r m fun r1 m1 => tb { d with nx := fun r2 m2 => ok m2 ∧ forD0 g tb d ok xs r2 m2, ct := fun r2 m2 => ok m2 ∧ forD0 g tb d ok xs r2 m2, bk := d.nx } r1 m1
def dFor0 (ti : DI) (g : DG) (tb : DS) : DS := fun d r m => ti r m fun ds o m1 => forD0 g tb d (okP o) ds r m1
section
variable {X : Cx} {st : Stmt} {rest : List Stmt} {t u : DS} {e : Expr} {te : DE} {pos : Pos} {g : DG}
theorem LiftD.seq {K : PySem.W.Frag} {W : Wd} {F : Hp} {d : DEnds} {E : Ends} {u : DS} (L : LiftD K W F d E) : LiftD K W F { d with nx := u d } { E with nx := liftS K u E } where
  nx := fun W' H' m' s' r' l rel rs h => ⟨W', F, m', r', d, rel, rs, h, L.mono l⟩
  rt := L.rt
  bk := L.bk
  ct := L.ct
theorem jss_nil : JSs X [] dNext := pss_wk pss_nil fun E s H ⟨W, F, m, r, d, rel, rs, h, L⟩ => L.nx W H m s r (.refl _) rel rs h
theorem jss_cons (h1 : JS X st t) (h2 : JSs X rest u) : JSs X (st :: rest) (dSeq t u) := pss_wk (pss_cons h1 h2) fun E s H ⟨W, F, m, r, d, rel, rs, h, L⟩ => ⟨W, F, m, r, _, rel, rs, h, L.seq⟩
theorem jss_one (h1 : JS X st t) : JSs X [st] t := pss_one h1
theorem js_expr (he : JE X e te) (hs : swapsWith e none pos.line X.env = pure false := by rfl) : JS X (.Expr e pos) (dDrop te) := ps_wk (ps_expr he hs) fun E s H ⟨W, F, m, r, d, rel, rs, h, L⟩ =>
  ⟨W, F, m, r, _, rel, rs, h, fun W1 H1 m1 v x l1 rel1 rv hq => L.nx W1 H1 m1 s r l1 rel1 (rs.mono l1) hq⟩
theorem js_ret (he : JE X e te) : JS X (.Return (some e) pos) (dRet te) := ps_wk (ps_ret he) fun E s H ⟨W, F, m, r, d, rel, rs, h, L⟩ =>
  ⟨W, F, m, r, _, rel, rs, h, fun W1 H1 m1 v x l1 rel1 rv hq => L.rt W1 H1 m1 v x l1 rel1 rv hq⟩
theorem js_if {c : Expr} {a b : List Stmt} {tc : DT} (hc : JT X c tc) (ha : JSs X a t) (hb : JSs X b u) : JS X (.If c a b pos) (dIf tc t u) := ps_wk (ps_if hc ha hb) fun E s H ⟨W, F, m, r, d, rel, rs, h, L⟩ => by
  refine ⟨W, F, m, r, _, rel, rs, h, fun W1 H1 m1 b l1 rel1 hq => ?_⟩
  cases b with
  | true => rw [if_pos rfl]; exact ⟨W1, F, m1, r, d, rel1, rs.mono l1, hq.1 rfl, L.mono l1⟩
  | false => rw [if_neg Bool.false_ne_true]; exact ⟨W1, F, m1, r, d, rel1, rs.mono l1, hq.2 rfl, L.mono l1⟩
theorem asg_wk {K : PySem.W.Frag} {te : DE} {g : DG} (E : Ends) (s : L2.St) (H : Hp) (h : liftS K (dAsg te g) E s H) : tAsg (liftE K te) (liftG K g) E s H := by
  obtain ⟨W, F, m, r, d, rel, rs, h, L⟩ := h
  exact ⟨W, F, m, r, _, rel, rs, h, fun W1 H1 m1 v x l1 rel1 rv hq => ⟨W1, F, m1, r, x, d.nx, rel1, rs.mono l1, rv, hq, fun _ _ _ _ _ l => L.nx _ _ _ _ _ (l1.trans l)⟩⟩
theorem js_set (i : Nat) {x : Str} {pos' : Pos} (hN : X.N.Nodup) (he : JE X e te) (hi : X.N[i]? = some x := by rfl) (hx : Loc X.env.scope x := by first | exact .inl rfl | exact .inr rfl) (hs : swapsWith e (some (.Name x pos')) pos.line X.env = pure false := by rfl)
    (hf : X.fn x = true ∨ X.env.scope.names.lookup x = some .local := by first | exact .inl rfl | exact .inr rfl | assumption) : JS X (.Assign [.Name x pos'] e pos) (dAsg te (gN i)) :=
  ps_wk (ps_set hN hi hx he hs hf) fun E s H ⟨W, F, m, r, d, rel, rs, h, L⟩ =>
    ⟨W, F, m, r, _, rel, rs, h, fun W1 H1 m1 v x l1 rel1 rv hq => L.nx W1 H1 m1 _ _ l1 rel1 ((rs.mono l1).put rv i) hq⟩
theorem js_asg {tg : Expr} (he : JE X e te) (hg : JG X tg g) (hs : swapsWithSole [tg] e pos.line X.env = pure false := by rfl) (hw : swappedStores [tg] e X.env = pure none := by rfl)
    (h1 : (assignEach [tg] X.env).map (·.2) = [assign tg X.env] := by rfl) : JS X (.Assign [tg] e pos) (dAsg te g) := ps_wk (ps_asg he hg hs hw h1) fun E s H h => asg_wk E s H h
/-- a, b = x, y -/
def dPar (i j : Nat) (ta : DA) : DS := fun d r m => ta r m fun xs m1 => match xs with | [x, y] => d.nx (put (put r i x) j y) m1 | _ => False
def Pip (X : Cx) (op : Operator) (f : F2) : Prop := ∃ ti, PIp X op ti ∧ ∀ W F H m x y d e q Q, Rel X.K W F H m → R X.K W x d → R X.K W y e → f d e m q → Fol X.K W F q Q → ti x y H Q
theorem pip_add : Pip X .Add (dI0 fun i j => i + j) := ⟨_, ip_add, o_I0⟩
def rGetL (K : PySem.W.Frag) : V → V → Hp → VK → Prop := fun o i H Q => ∃ p xs k v, o = .ref p ∧ i = .int k ∧ H p = some (.lst xs) ∧ 0 ≤ k ∧ xs[k.toNat]? = some v ∧ Q v H
theorem get_list : PGet X (rGetL X.K) := by
  intro pins s a H o i ov iv Q I ro ri h
  obtain ⟨p, xs, k, v, rfl, rfl, hp, hk, hx, q⟩ := h
  cases ro
  obtain ⟨t, rfl⟩ := ri
  obtain ⟨its, r, pl, hz⟩ := I.list (SqL.of hp)
  obtain ⟨uu, hu, ru⟩ := r.get hx
  have hlt : k.toNat < xs.length := (List.getElem?_eq_some_iff.mp hx).1
  have h63 := line63
  exact wpAny_getItem_list pl.isList hk (by omega) (by simpa using hu) ⟨v, H, I, ru, q⟩
theorem js_augIx {o i : Expr} {to ti : DE} {op : Operator} {f : F2} {tpos : Pos} (ho : JE X o to) (hi : JE X i ti) (he : JE X e te) (hp : Pip X op f)
    (ha : ∀ ov iv new, augStore i ov iv new = (do holding [new, ov, iv] (setItem ov iv new); release [new, ov, iv] []; pure .next) := by intros; rfl) : JS X (.AugAssign (.Subscript o i tpos) op e pos) (dAugIx f to ti te) := by
  obtain ⟨tp, h1, h2⟩ := hp
  refine ps_wk (ps_augS ho hi get_list he h1 set_list ha) fun E s H ⟨W, F, m, r, d, rel, rs, h, L⟩ => ?_
  refine ⟨W, F, m, r, _, rel, rs, h, fun W1 H1 m1 x dx l1 rel1 rx hq => ?_⟩
  refine ⟨W1, F, m1, r, _, rel1, rs.mono l1, hq, fun W2 H2 m2 y dy l2 rel2 ry hq2 => ?_⟩
  cases dx with
  | ptr j =>
    cases dy with
    | int k =>
      obtain ⟨hk, hq2⟩ := hq2
      obtain ⟨ds, e1, hq2⟩ := onS_some hq2
      obtain ⟨x0, e2, hq2⟩ := onS_some hq2
      obtain ⟨a, xs, rfl, g1, g2⟩ := lstOf_at rel2 (rx.mono l2) e1
      cases ry
      obtain ⟨v0, e3, r0⟩ := g2.get e2
      refine ⟨a, xs, k, v0, rfl, rfl, g1, hk, e3, ?_⟩
      refine ⟨W2, F, m2, r, _, rel2, rs.mono (l1.trans l2), hq2, fun W3 H3 m3 z dz l3 rel3 rz hq3 => ?_⟩
      refine h2 W3 F H3 m3 v0 z x0 dz _ _ rel3 (r0.mono l3) rz hq3 fun W4 H4 m4 w dw l4 rel4 rw4 hq4 => ?_
      obtain ⟨ds', e4, hq4⟩ := onS_some hq4
      obtain ⟨l, e5, hq4⟩ := onS_some hq4
      obtain ⟨b, ys, e6, g3, g4, g5⟩ := cell_write (ds' := ds'.set l dw) rel4 (rx.mono (l2.trans (l3.trans l4))) e4
      cases e6
      exact ⟨a, ys, k, l, rfl, rfl, g3, by rw [g4.len]; exact e5, L.nx W4 _ _ s r (l1.trans (l2.trans (l3.trans l4))) (g5 _ (g4.set rw4 l)) (rs.mono (l1.trans (l2.trans (l3.trans l4)))) hq4⟩
    | _ => exact hq2.elim
  | _ => exact hq2.elim
theorem drop_step {α : Type} {ds : List α} {i : Nat} (h : i < ds.length) : ds.drop i = ds[i] :: ds.drop (i + 1) := List.drop_eq_getElem_cons h
theorem js_for0 {tg iter : Expr} {body : List Stmt} {ti : DI} {tb : DS} (hp : PassesOwn (model X.prog X.w) X.A X.env X.xe) (hc : X.calm = true) (hi : JI X tg iter ti) (hg : JG X tg g) (hb : JSs X body tb)
    (hs : ∀ x, foldedSetIterable iter X.env x = pure x := by intro _; rfl) : JS X (.For tg iter body [] pos) (dFor0 ti g tb) :=
  ps_wk (ps_for hp hc hi hg hb hs) fun E s H ⟨W, F, m, r, d, rel, rs, h, L⟩ => by
    refine ⟨W, F, m, r, _, rel, rs, h, fun W1 H1 m1 ds o J l1 rel1 hJ ok1 hq => ?_⟩
    refine ⟨fun i n s' H' => ∃ W' m' r', W1.Le W' ∧ Rel X.K W' F H' m' ∧ RSt X.K W' s' r' ∧ okP o m' ∧ i + n = ds.length ∧ forD0 g tb d (okP o) (ds.drop i) r' m',
      ⟨ds.length, W1, m1, r, .refl _, rel1, rs.mono l1, ok1, Nat.zero_add _, by rw [List.drop_zero]; exact hq⟩, fun i n s2 H2 ⟨W2, m2, r2, l2, rel2, rs2, ok2, en, hq2⟩ => ?_⟩
    by_cases hlt : i < ds.length
    · refine .inr ⟨hJ.go W2 F H2 m2 i l2 rel2 ok2 hlt, fun s' H' => ∃ W' m' r', W1.Le W' ∧ Rel X.K W' F H' m' ∧ RSt X.K W' s' r' ∧ okP o m' ∧ forD0 g tb d (okP o) (ds.drop (i + 1)) r' m', ?_, fun x H3 y => ?_⟩
      · rintro s' H' ⟨W', m', r', a1, a2, a3, a4, a5⟩
        exact ⟨n - 1, by omega, W', m', r', a1, a2, a3, a4, by omega, a5⟩
      · obtain ⟨W3, dx, l3, rel3, e1, rx⟩ := hJ.yld W2 F H2 m2 i x H3 l2 rel2 ok2 hlt y
        have l23 := l2.trans l3
        rw [drop_step hlt] at hq2
        have ex : ds[i] = dx := Option.some.inj ((List.getElem?_eq_getElem hlt).symm.trans e1)
        rw [ex] at hq2
        refine ⟨W3, F, m2, r2, dx, _, rel3, rs2.mono l3, rx, hq2, fun W4 H4 m4 s4 r4 l4 rel4 rs4 hq4 => ?_⟩
        refine ⟨W4, F, m4, r4, _, rel4, rs4, hq4, ⟨?_, ?_, ?_, ?_⟩⟩
        · rintro W5 H5 m5 s5 r5 l5 rel5 rs5 ⟨ok5, q5⟩
          exact ⟨W5, m5, r5, l23.trans (l4.trans l5), rel5, rs5, ok5, q5⟩
        · exact fun W5 H5 m5 v z l5 => L.rt W5 H5 m5 v z (l1.trans (l23.trans (l4.trans l5)))
        · exact fun W5 H5 m5 s5 r5 l5 => L.nx W5 H5 m5 s5 r5 (l1.trans (l23.trans (l4.trans l5)))
        · rintro W5 H5 m5 s5 r5 l5 rel5 rs5 ⟨ok5, q5⟩
          exact ⟨W5, m5, r5, l23.trans (l4.trans l5), rel5, rs5, ok5, q5⟩
    · have ed : ds.drop i = [] := List.drop_eq_nil_of_le (by omega)
      rw [ed] at hq2
      exact .inl ⟨hJ.stop W2 F H2 m2 i l2 rel2 ok2 (by omega), L.nx W2 H2 m2 s2 r2 (l1.trans l2) rel2 rs2 hq2⟩
end
def lcD (i : Nat) (tt : DT) (te : DE) (ok : Sto → Prop) : List D → DSt → List D → Sto → (List D → Sto → Prop) → Prop
  | [], _, acc, m, q => q acc m
  | x :: xs, r, acc, m, q => tt (put r i x) m fun b m1 => (b = true → te (put r i x) m1 fun y m2 => ok m2 ∧ lcD i tt te ok xs r (acc ++ [y]) m2 q) ∧ (b = false → ok m1 ∧ lcD i tt te ok xs r acc m1 q)
def dLcQ0 (i : Nat) (ti : DI) (tt : DT) (te : DE) (r : DSt) (m : Sto) (q : List D → Sto → Prop) : Prop := ti r m fun ds o m1 => ds.length ≤ 1000000 ∧ lcD i tt te (okP o) ds (forget r i) [] m1 q
def dLc0 (i : Nat) (ti : DI) (tt : DT) (te : DE) : DE := fun r m q => dLcQ0 i ti tt te r m fun acc m1 => q (.lst acc) m1
def dYes : DT := fun _ m q => q true m
abbrev JTs (X : Cx) (es : List Expr) (t : DT) : Prop := PTs X es (liftT X.K t)
theorem jts_nil {X : Cx} : JTs X [] dYes := ⟨fun pins s a H Q I h => pts_nil.run pins s a H Q I (by
  obtain ⟨W, F, m, r, q, rel, rs, h, k⟩ := h
  exact k W H m true (.refl _) rel h)⟩
theorem jts_one {X : Cx} {c : Expr} {t : DT} (h : JT X c t) : JTs X [c] t := pts_one h
theorem lc_wk {K : PySem.W.Frag} {i : Nat} {ti : DI} {tt : DT} {te : DE} {fin : List D → Sto → (D → Sto → Prop) → Prop}
    (hfin : ∀ (W : Wd) (F H : Hp) (m : Sto) (p : Addr) (xs : List V) (ds : List D) (q : D → Sto → Prop) (Q : VK), F p = none → Same Lk.F0 F → Rel K W (upd F p (.lst xs)) H m → RA K W xs ds → fin ds m q → Fol K W F q Q → Q (.ref p) H)
    (s : L2.St) (H : Hp) (Q : VK) (h : liftE K (fun r m q => dLcQ0 i ti tt te r m fun acc m1 => fin acc m1 q) s H Q) : tLc (liftI K ti) (gName i) (liftT K tt) (liftE K te) [i] s H Q := by
  obtain ⟨W, F, m, r, q, rel, rs, h, k⟩ := h
  refine ⟨W, F, m, r, _, rel, rs, h, fun W1 H1 m1 ds o J l1 rel1 hJ ok1 hq p hp => ?_⟩
  obtain ⟨hz, hq⟩ := hq
  have hF : F p = none := rel1.fF hp
  have rs1 : RSt K W1 (wipe s [i]) (forget r i) := (rs.mono l1).forget i
  refine ⟨fun j n H' => ∃ W' m' xs acc, W1.Le W' ∧ Rel K W' (upd F p (.lst xs)) H' m' ∧ RA K W' xs acc ∧ okP o m' ∧ acc.length ≤ j ∧ j + n = ds.length ∧ lcD i tt te (okP o) (ds.drop j) (forget r i) acc m' (fun acc m1 => fin acc m1 q),
    ⟨ds.length, W1, m1, [], [], .refl _, rel1.framed hp, .nil, ok1, Nat.le_refl _, Nat.zero_add _, by rw [List.drop_zero]; exact hq⟩, fun j n H2 ⟨W2, m2, xs, acc, l2, rel2, ra2, ok2, hacc, en, hq2⟩ => ?_⟩
  by_cases hlt : j < ds.length
  · refine .inr ⟨hJ.go W2 _ H2 m2 j l2 rel2 ok2 hlt, fun H' => ∃ W' m' xs acc, W1.Le W' ∧ Rel K W' (upd F p (.lst xs)) H' m' ∧ RA K W' xs acc ∧ okP o m' ∧ acc.length ≤ j + 1 ∧ lcD i tt te (okP o) (ds.drop (j + 1)) (forget r i) acc m' (fun acc m1 => fin acc m1 q), ?_, fun x H3 y => ?_⟩
    · rintro H' ⟨W', m', xs', acc', a1, a2, a3, a4, a5, a6⟩
      exact ⟨n - 1, by omega, W', m', xs', acc', a1, a2, a3, a4, a5, by omega, a6⟩
    · obtain ⟨W2', dx, l2', rel2', e1, rx⟩ := hJ.yld W2 _ H2 m2 j x H3 l2 rel2 ok2 hlt y
      have ra2' := ra2.mono l2'
      have l22 := l2.trans l2'
      rw [drop_step hlt] at hq2
      have ex : ds[j] = dx := Option.some.inj ((List.getElem?_eq_getElem hlt).symm.trans e1)
      rw [ex] at hq2
      have rs2 : RSt K W2' ((wipe s [i]).set i (some x)) (put (forget r i) i dx) := (rs1.mono l22).put rx i
      refine ⟨by show ((s.set i none).set i (some x)).set i none = s.set i none; rw [List.set_set, List.set_set], ?_⟩
      refine ⟨W2', upd F p (.lst xs), m2, _, _, rel2', rs2, hq2, fun W3 H3 m3 b l3 rel3 hq3 => ?_⟩
      cases b with
      | false =>
        rw [if_neg Bool.false_ne_true]
        exact ⟨W3, m3, xs, acc, l22.trans l3, rel3, ra2'.mono l3, (hq3.2 rfl).1, by omega, (hq3.2 rfl).2⟩
      | true =>
        rw [if_pos rfl]
        refine ⟨W3, upd F p (.lst xs), m3, _, _, rel3, rs2.mono l3, hq3.1 rfl, fun W4 H4 m4 z dz l4 rel4 rz hq4 => ?_⟩
        have hH4 : H4 p = some (.lst xs) := rel4.frm _ _ upd_same
        refine ⟨xs, hH4, ?_, W4, m4, xs ++ [z], acc ++ [dz], l22.trans (l3.trans l4), rel4.reframe hF rel1.lf, (ra2'.mono (l3.trans l4)).app (.cons rz .nil), hq4.1, ?_, hq4.2⟩
        · rw [ra2.len]
          have : (1000000 : Nat) < sizeLine := by rw [sizeLine_eq]; decide
          omega
        · rw [List.length_append]
          show acc.length + 1 ≤ j + 1
          omega
  · have ed : ds.drop j = [] := List.drop_eq_nil_of_le (by omega)
    rw [ed] at hq2
    exact .inl ⟨hJ.stop W2 _ H2 m2 j l2 rel2 ok2 (by omega), hfin W2 F H2 m2 p xs acc q Q hF rel1.lf rel2 ra2 hq2 fun _ _ _ _ _ l => k _ _ _ _ _ (l1.trans (l2.trans l))⟩
abbrev finC (acc : List D) (m : Sto) (q : D → Sto → Prop) : Prop := q (.lst acc) m
theorem fin_cold {K : PySem.W.Frag} (W : Wd) (F H : Hp) (m : Sto) (p : Addr) (xs : List V) (ds : List D) (q : D → Sto → Prop) (Q : VK) (hF : F p = none) (hs : Same Lk.F0 F) (rel : Rel K W (upd F p (.lst xs)) H m) (ra : RA K W xs ds) (h : q (.lst ds) m) (k : Fol K W F q Q) : Q (.ref p) H := by
  obtain ⟨h1, h2⟩ := rel.thaw hF hs
  exact k _ _ m _ _ h2 h1 (.lst upd_same (ra.mono h2)) h
section
variable {X : Cx} {elt iter : Expr} {ifs : List Expr} {scope : Scope} {pos py npos spos : Pos} {x y : Str} {ti : DI} {tt : DT} {te : DE}
abbrev Blk (X : Cx) (scope : Scope) (p : Cx → Prop) : Prop := ∀ (s : Shared) (H : Hp) (C : Addr) (cl : List (Str × Addr)) (fp : List Addr), p (X.blk s H scope (compEnvC scope cl C X.env) fp)
theorem je_lc0 (i : Nat) (hc : X.calm = true) (hN : X.N.Nodup) (hi : JI X (.Name x npos) iter ti) (ok : BlkOk X.N X.env.scope scope [(x, i)]) (hg : Blk X scope fun Y => PG Y (.Name x npos) (gName i))
    (ht : ∀ (s : Shared) (H : Hp) (C : Addr) (cl : List (Str × Addr)) (fp : List Addr), JTs (X.blk s H scope (compEnvC scope cl C X.env) fp) ifs tt) (he : ∀ (s : Shared) (H : Hp) (C : Addr) (cl : List (Str × Addr)) (fp : List Addr), JE (X.blk s H scope (compEnvC scope cl C X.env) fp) elt te)
    (hs : ∀ z, foldedSetIterable iter X.env z = pure z := by intro _; rfl) : JE X (.ListComp elt [⟨.Name x npos, iter, ifs, 0⟩] scope pos) (dLc0 i ti tt te) :=
  pe_wk (pe_lc (own := [(x, i)]) hc hN hi ok hg ht he hs) fun s H Q h => lc_wk (i := i) (ti := ti) (tt := tt) (te := te) (fin := finC) fin_cold s H Q h
end
@[irreducible] def forD (g : DG) (tb : DS) (d : DEnds) (ok : Sto → Prop) (ds : List D) (r : DSt) (m : Sto) : Prop := forD0 g tb d ok ds r m
theorem forD_eq {g : DG} {tb : DS} {d : DEnds} {ok : Sto → Prop} {ds : List D} {r : DSt} {m : Sto} : forD g tb d ok ds r m = forD0 g tb d ok ds r m := by unfold forD; rfl
def dFor (ti : DI) (g : DG) (tb : DS) : DS := fun d r m => ti r m fun ds o m1 => forD g tb d (okP o) ds r m1
theorem dFor_eq {ti : DI} {g : DG} {tb : DS} : dFor ti g tb = dFor0 ti g tb := by
  funext d r m
  show ti r m (fun ds o m1 => forD g tb d (okP o) ds r m1) = ti r m (fun ds o m1 => forD0 g tb d (okP o) ds r m1)
  simp only [forD_eq]
@[irreducible] def lcI (i : Nat) (tt : DT) (te : DE) (ok : Sto → Prop) (ds : List D) (r : DSt) (acc : List D) (m : Sto) (q : List D → Sto → Prop) : Prop := lcD i tt te ok ds r acc m q
theorem lcI_eq {i : Nat} {tt : DT} {te : DE} {ok : Sto → Prop} {ds : List D} {r : DSt} {acc : List D} {m : Sto} {q : List D → Sto → Prop} : lcI i tt te ok ds r acc m q = lcD i tt te ok ds r acc m q := by unfold lcI; rfl
def dLcQ (i : Nat) (ti : DI) (tt : DT) (te : DE) (r : DSt) (m : Sto) (q : List D → Sto → Prop) : Prop := ti r m fun ds o m1 => ds.length ≤ 1000000 ∧ lcI i tt te (okP o) ds (forget r i) [] m1 q
theorem dLcQ_eq {i : Nat} {ti : DI} {tt : DT} {te : DE} {r : DSt} {m : Sto} {q : List D → Sto → Prop} : dLcQ i ti tt te r m q = dLcQ0 i ti tt te r m q := by
  unfold dLcQ dLcQ0
  simp only [lcI_eq]
def dLc (i : Nat) (ti : DI) (tt : DT) (te : DE) : DE := fun r m q => dLcQ i ti tt te r m fun acc m1 => q (.lst acc) m1
theorem dLc_eq {i : Nat} {ti : DI} {tt : DT} {te : DE} : dLc i ti tt te = dLc0 i ti tt te := by
  funext r m q
  exact dLcQ_eq
section
variable {X : Cx} {st : Stmt} {rest : List Stmt} {t u : DS} {e : Expr} {te : DE} {pos : Pos} {g : DG}
theorem js_for {tg iter : Expr} {body : List Stmt} {ti : DI} {tb : DS} (hp : PassesOwn (model X.prog X.w) X.A X.env X.xe) (hc : X.calm = true) (hi : JI X tg iter ti) (hg : JG X tg g) (hb : JSs X body tb)
    (hs : ∀ x, foldedSetIterable iter X.env x = pure x := by intro _; rfl) : JS X (.For tg iter body [] pos) (dFor ti g tb) := by
  rw [dFor_eq]
  exact js_for0 hp hc hi hg hb hs
end
section
variable {X : Cx} {elt iter : Expr} {ifs : List Expr} {scope : Scope} {pos py npos spos : Pos} {x y : Str} {ti : DI} {tt : DT} {te : DE}
theorem je_lc (i : Nat) (hc : X.calm = true) (hN : X.N.Nodup) (hi : JI X (.Name x npos) iter ti) (ok : BlkOk X.N X.env.scope scope [(x, i)]) (hg : Blk X scope fun Y => PG Y (.Name x npos) (gName i))
    (ht : ∀ (s : Shared) (H : Hp) (C : Addr) (cl : List (Str × Addr)) (fp : List Addr), JTs (X.blk s H scope (compEnvC scope cl C X.env) fp) ifs tt) (he : ∀ (s : Shared) (H : Hp) (C : Addr) (cl : List (Str × Addr)) (fp : List Addr), JE (X.blk s H scope (compEnvC scope cl C X.env) fp) elt te)
    (hs : ∀ z, foldedSetIterable iter X.env z = pure z := by intro _; rfl) : JE X (.ListComp elt [⟨.Name x npos, iter, ifs, 0⟩] scope pos) (dLc i ti tt te) := by
  rw [dLc_eq]
  exact je_lc0 i hc hN hi ok hg ht he hs
end
end DL
namespace DL
open PySem PySem.Spec PyProof.Rows L2
variable [Cl]
section
variable [Lk]
section
variable {X : Cx} {x : Str} {p pos : Pos} {e : Expr} {es : List Expr} {t : DA} {id T : String} {rr : List V → Hp → VK → Prop} {f : FN}
theorem je_callB (hc : CallR X (.builtin id) rr) (o : OpN X.K f rr) (hg : Gl X x) (hm : X.mg x = none) (hv : bootBuiltins x = some (.builtin id)) (ha : JA X (e :: es) t) (hn : x ≠ "__name__" := by decide) (hdb : (x == ("__debug__" : Str)) = false := by decide)
    (he : starEach (e :: es) X.env = (false, eval e X.env) :: starEach es X.env := by rfl) (hpl : (backTo pos (starEach es X.env)).any (·.1) = false := by rfl) : JE X (.Call (.Name x p) (e :: es) [] pos) (dCallB f t) :=
  pe_wk (pe_callB hc hg hm hv ha hn hdb he hpl) (call_wk o)
end
def dAbs : FN
  | [.int i], m, q => q (.int (if i < 0 then -i else i)) m
  | _, _, _ => False
def dLen : FN
  | [.str z], m, q => z.length ≤ sizeLine ∧ q (.int z.length) m
  | [.tup ds], m, q => q (.int ds.length) m
  | [x], m, q => onS (seqL x m) fun ds => q (.int ds.length) m
  | _, _, _ => False
def dInt : FN
  | [.int i], m, q => q (.int i) m
  | [.bl b], m, q => q (.int (if b then 1 else 0)) m
  | _, _, _ => False
def dMin : FN
  | [.int i, .int j], m, q => q (.int (if j < i then j else i)) m
  | _, _, _ => False
def dMax : FN
  | [.int i, .int j], m, q => q (.int (if j > i then j else i)) m
  | _, _, _ => False
def dRepr : FN
  | [x], m, q => onS (py m x) fun v => v.showable = true ∧ v.hasDict = false ∧ v.depth ≤ 60 ∧ v.shown.length ≤ sizeLine ∧ q (.str v.shown) m
  | _, _, _ => False
theorem ra1 {K : PySem.W.Frag} {W : Wd} {xs : List V} {d : D} (r : RA K W xs [d]) : ∃ v, xs = [v] ∧ R K W v d := by
  cases r with
  | cons h r => cases r; exact ⟨_, rfl, h⟩
theorem ra2 {K : PySem.W.Frag} {W : Wd} {xs : List V} {d e : D} (r : RA K W xs [d, e]) : ∃ v u, xs = [v, u] ∧ R K W v d ∧ R K W u e := by
  cases r with
  | cons h r => obtain ⟨u, rfl, h2⟩ := ra1 r; exact ⟨_, _, rfl, h, h2⟩
section
variable {K : PySem.W.Frag}
theorem o_abs : OpN K dAbs (fun xs H Q => ∃ i, xs = [.int i] ∧ Q (.int (if i < 0 then -i else i)) H) := by
  intro W F H m xs ds q Q rel ra h k
  unfold dAbs at h
  split at h
  · obtain ⟨v, rfl, rv⟩ := ra1 ra
    cases rv
    exact ⟨_, rfl, k _ _ _ _ _ (.refl _) rel (.int _) h⟩
  · exact h.elim
theorem o_len : OpN K dLen (fun xs H Q => ∃ x n, xs = [x] ∧ LenV K x H n ∧ Q (.int n) H) := by
  intro W F H m xs ds q Q rel ra h k
  unfold dLen at h
  split at h
  · obtain ⟨v, rfl, rv⟩ := ra1 ra
    cases rv
    exact ⟨_, _, rfl, ⟨h.1, rfl⟩, k _ _ _ _ _ (.refl _) rel (.int _) h.2⟩
  · obtain ⟨v, rfl, rv⟩ := ra1 ra
    obtain ⟨a, xs, rfl, h1, h2⟩ := tup_at rel rv
    exact ⟨_, _, rfl, .inr ⟨xs, h1, h2.len.symm⟩, k _ _ _ _ _ (.refl _) rel (.int _) h⟩
  · obtain ⟨v, rfl, rv⟩ := ra1 ra
    obtain ⟨es, e1, h⟩ := onS_some h
    obtain ⟨a, xs, rfl, h1, h2⟩ := seqL_at rel rv e1
    exact ⟨_, _, rfl, .inl ⟨xs, h1, h2.len.symm⟩, k _ _ _ _ _ (.refl _) rel (.int _) h⟩
  · exact h.elim
def rrRepr (K : PySem.W.Frag) : List V → Hp → VK → Prop := fun xs H Q => ∃ x v, xs = [x] ∧ Dp K H x v ∧ v.showable = true ∧ v.hasDict = false ∧ v.depth ≤ 60 ∧ v.shown.length ≤ sizeLine ∧ Q (.str v.shown) H
theorem o_repr : OpN K dRepr (rrRepr K) := by
  intro W F H m xs ds q Q rel ra h k
  unfold dRepr at h
  split at h
  · obtain ⟨v, rfl, rv⟩ := ra1 ra
    obtain ⟨d, e1, h1, h2, h3, h4, h⟩ := onS_some h
    exact ⟨_, d, rfl, py_dp rel rv e1, h1, h2, h3, h4, k _ _ _ _ _ (.refl _) rel (.str _) h⟩
  · exact h.elim
theorem call_reprD {X : Cx} (gd : X.A.guards = some []) (hu : X.A.units + 64 < cLine) : CallR X (.builtin "repr") (rrRepr X.K) := by
  intro pins s a H xs us Q I r h
  obtain ⟨x, v, rfl, dp, h1, h2, h3, h4, q⟩ := h
  obtain ⟨u, rfl, rx⟩ := vals1 r
  have fin : ∀ (h' : Heap) (tk : Tok) (tk2 : Nat), (∀ b o, s.heap.get? b = some o → h'.get? b = some o) → EP X pins a Q (.str v.shown tk) { s with heap := h', toks := tk2 } := fun h' tk tk2 kk => ⟨.str v.shown, H, I.kept kk, ⟨tk, rfl⟩, q⟩
  cases dp with
  | non => cases rx; exact PySem.P.repr_of_none (fin s.heap _ _ fun _ _ e => e)
  | bl b => cases rx; exact PySem.P.repr_of_bool (fin s.heap _ _ fun _ _ e => e)
  | int i =>
    obtain ⟨t, rfl⟩ := rx
    have hz : i.natAbs.log2 < 1920 := by simpa [PyData.showable] using h1
    exact PySem.P.repr_of_int hz (fin s.heap _ _ fun _ _ e => e)
  | str z =>
    obtain ⟨t, rfl⟩ := rx
    exact PySem.P.repr_of_str (fin s.heap _ _ fun _ _ e => e) h4
  | lst hs ha =>
    obtain ⟨as, rd⟩ := Dp.reads I _ _ _ (.lst hs ha) rx
    cases rx
    exact repr_of_reads' rd h1 (PyData.noDict_hsm h2) gd (by omega) (fun _ _ e => e) (fun h' tk tk2 kk => fin h' tk tk2 kk) h4
  | tup hs ha =>
    obtain ⟨as, rd⟩ := Dp.reads I _ _ _ (.tup hs ha) rx
    cases rx
    exact repr_of_reads' rd h1 (PyData.noDict_hsm h2) gd (by omega) (fun _ _ e => e) (fun h' tk tk2 kk => fin h' tk tk2 kk) h4
end
section
variable {X : Cx} {p pos : Pos} {a b : Expr} {ta tb : DE}
abbrev a1 (ta : DE) : DA := dCons ta dNil
abbrev a2 (ta tb : DE) : DA := dCons ta (dCons tb dNil)
theorem je_abs (hg : Gl X "abs") (hm : X.mg "abs" = none) (ha : JE X a ta) (hs : starEach [a] X.env = (false, eval a X.env) :: starEach [] X.env := by rfl) (hp : (backTo pos (starEach [] X.env)).any (·.1) = false := by rfl) : JE X (.Call (.Name "abs" p) [a] [] pos) (dCallB dAbs (a1 ta)) := je_callB call_abs o_abs hg hm (by decide +kernel) (ja_cons ha ja_nil hs) (by decide) (by decide) hs hp
theorem je_len (hg : Gl X "len") (hm : X.mg "len" = none) (ha : JE X a ta) (hs : starEach [a] X.env = (false, eval a X.env) :: starEach [] X.env := by rfl) (hp : (backTo pos (starEach [] X.env)).any (·.1) = false := by rfl) : JE X (.Call (.Name "len" p) [a] [] pos) (dCallB dLen (a1 ta)) := je_callB call_len o_len hg hm PySem.boot_len (ja_cons ha ja_nil hs) (by decide) (by decide) hs hp
end
inductive Ky where | int | bool | str | list | tuple | dict
inductive Kd where | non | bl | int | str | tup | lst | dic
def isT : Ky → Kd → Bool
  | .int, .int => true | .int, .bl => true | .bool, .bl => true | .str, .str => true | .list, .lst => true | .tuple, .tup => true | .dict, .dic => true
  | _, _ => false
def kd : D → Sto → Option Kd
  | .non, _ => some .non
  | .bl _, _ => some .bl
  | .int _, _ => some .int
  | .str _, _ => some .str
  | .tup _, _ => some .tup
  | .lst _, _ => some .lst
  | .fz _, _ => some .lst
  | .ptr i, m => match m[i]? with | some (.lst _) => some .lst | some (.dic _) => some .dic | _ => none
  | .ty _, _ => none
  | .dic _, _ => some .dic
  | .adr _, _ => none
  | .gl _, _ => none
def dIsi (k : Ky) (te : DE) : DE := fun r m q => te r m fun x m1 => onS (kd x m1) fun d => q (.bl (isT k d)) m1
def dApp (to te : DE) : DE := fun r m q => to r m fun x m1 => match x with
  | .ptr j => onS (lstOf (.ptr j) m1) fun _ => te r m1 fun y m2 => onS (lstOf (.ptr j) m2) fun ds => ds.length ≤ 1000000 ∧ q .non (m2.set j (.lst (ds ++ [y])))
  | _ => False
theorem mil_line : (1000000 : Nat) < sizeLine := by rw [sizeLine_eq]; decide
theorem je_append {X : Cx} {o e : Expr} {to te : DE} {apos cpos : Pos} (ho : JE X o to) (he : JE X e te) (hbase : attributeBase o "append" X.env (eval o X.env) = eval o X.env := by rfl)
    (hfew : ((backTo cpos (starEach (e :: []) X.env)).all (fun x => !x.1) && (backToKw cpos (keywordEach [] X.env)).all (fun x => x.1.isSome)
      && decide ((e :: []).length + ([] : List Keyword).length + (if ([] : List Keyword).isEmpty then 0 else 1) < 30)) = true := by rfl)
    (hline : (apos.endLine == cpos.line) = true := by rfl) (hs : starEach [e] X.env = (false, eval e X.env) :: starEach [] X.env := by rfl) (hp : (backTo cpos (starEach [] X.env)).any (·.1) = false := by rfl) :
    JE X (.Call (.Attribute o "append" apos) [e] [] cpos) (dApp to te) :=
  pe_wk (pe_bm PySem.F.plainAttrs_list PySem.F.slot_list_append PySem.F.type_list_append mt_append ho (pa_cons he pa_nil hs) hbase hfew hline hs hp) fun s H Q ⟨W, F, m, r, q, rel, rs, h, k⟩ => by
    refine ⟨W, F, m, r, _, rel, rs, h, fun W1 H1 m1 v d l1 rel1 rv hq => ?_⟩
    cases d with
    | ptr j =>
      obtain ⟨es, e1, hq⟩ := onS_some hq
      obtain ⟨b, xs, rfl, g1, g2⟩ := lstOf_at rel1 rv e1
      refine ⟨.inl ⟨rfl, xs, SqL.of g1⟩, W1, F, m1, r, _, rel1, rs.mono l1, hq, fun W2 H2 m2 u y l2 rel2 ru hq2 => ?_⟩
      obtain ⟨ds, e2, hz, hq2⟩ := onS_some hq2
      obtain ⟨b', ys, e3, g3, g4, g5⟩ := cell_write (ds' := ds ++ [y]) rel2 (rv.mono l2) e2
      cases e3
      exact ⟨b, ys, u, rfl, rfl, g3, by rw [g4.len]; exact Nat.lt_of_le_of_lt hz mil_line, k _ _ _ _ _ (l1.trans l2) (g5 _ (g4.app (.cons ru .nil))) .non hq2⟩
    | _ => exact hq.elim
end
/-- a def's promise: guards are told besides -/
structure FnG (P : Program) (w : World) (K : PySem.W.Frag) (mg : Str → Option Value) (base : Heap) (k : Nat) (f : Addr) (fd : FuncData) (ps : List Str) (sp : Sp) : Prop where
  len : ∀ vs H Q E, sp vs H Q E → vs.length = ps.length
  run : ∀ (A : Around) (outer : List Env) (s : Shared) (H : Hp) (args : Args) (us : List Value) (vs : List V) (Q : VK) (E : XK), Room k A → A.guards = some [] → Env0 P w K mg base A outer s H →
    BindsTo s fd args (ps.zip us) → Vals vs us → sp vs H Q E → codeAny (model P w) A (.call (.ref f) args) (CR (L2.CX P w) outer P w H s Q E) s
abbrev NoX : XK := fun _ _ _ => False
theorem passF {X : Cx} : Passes (L2.CX X.prog X.w) X NoX := fun _ _ _ _ _ _ _ ⟨_, _, _, _, _, _, _, _, _, _, _, _, z⟩ => z.elim
section
variable {P : Program} {w : World} {K : PySem.W.Frag} {mg : Str → Option Value} {base : Heap}
/-- by its body -/
theorem fnG {x qual : Str} {st : Stmt} {f : Addr} {fd : FuncData} {N ps : List Str} {k : Nat} {sp : Sp} (F : L2.Fun K x qual st f fd) (S : FnScope N ps (defScope st)) (len : ∀ vs H Q E, sp vs H Q E → vs.length = ps.length)
    (body : ∀ (cdv : Value) (A : Around) (outer : List Env) (s : Shared) (H : Hp) (vs : List V) (Q : VK) (E : XK), Room k (A.deeper (envOfC qual (defScope st) s.heap.objs.size f cdv)) → A.guards = some [] → sp vs H Q E →
      ∃ t, PSs (cxOf (L2.CX P w) P w K mg base N qual (defScope st) f cdv A outer s H E) (defBody st) t ∧ t { nx := fun _ H' => Q .non H', rt := Q } (L2.start N vs) H) : FnG P w K mg base (k + 1) f fd ps sp where
  len := len
  run := by
    obtain ⟨oc, od, kV, doc, pm, an, cdv, ct, osl, rfl, lk, hcd⟩ := F.ex
    intro A outer s H args us vs Q E hr gd e0 hb r hsp
    have nvs : vs.length = ps.length := len _ _ _ _ hsp
    have inK : K.In s.heap := e0.mod.kin.keeps fun b o q => (e0.bs b o q).1
    have nolim : s.heap.NoLimit := e0.mod.nolimit.keeps fun b o q => (e0.bs b o q).1
    have kinds : ∀ y ∈ ps.zip us, (defScope st).names.lookup y.1 = some .local ∨ ((defScope st).names.lookup y.1 = some .cell ∧ ((cellsFrom (s.heap.objs.size + 1) (defScope st).names []).lookup y.1).isSome = true) := by
      rintro ⟨nm, v⟩ hy
      have hp : nm ∈ ps := (List.of_mem_zip hy).1
      cases S.par nm hp with
      | inl q => exact .inl q
      | inr q => exact .inr ⟨q, PySem.W.cellsFrom_some _ _ _ (.inl q)⟩
    apply codeAny_call_function hr.depth (inK _ _ lk) rfl S.co S.gen rfl (PySem.W.codeRec_of inK hcd)
    apply hb
    refine wpAny_newFunctionEnv_cells S.kind kinds ?_
    intro env he s1 x
    subst he
    refine ⟨nolim.keeps x.toInCall.keep, codeAny_func ?_⟩
    have hr' : Room k (A.deeper (envOfC qual (defScope st) s.heap.objs.size f cdv)) := hr.deeper _
    obtain ⟨t, ht, hq⟩ := body cdv A outer s H vs Q E hr' gd hsp
    have I := inv_start (CX := L2.CX P w) (cd := cdv) (f := f) (E := E) S hr.hd e0 nvs r x
    refine wpAny_mono (ht.run [] s1 (L2.start N vs) H _ I hq) ?_ (fun _ _ z => z)
    intro fl s' hs
    cases fl with
    | ret u =>
      obtain ⟨v, σ', H', J, rv, q⟩ := hs
      exact ⟨v, H', J.os, J.bare, J.base, J.hok, rv, q⟩
    | next =>
      obtain ⟨σ', H', J, q⟩ := hs
      exact ⟨.non, H', J.os, J.bare, J.base, J.hok, rfl, q⟩
    | brk => exact hs.choose_spec.choose_spec.2.elim
    | cont => exact hs.choose_spec.choose_spec.2.elim
end
/-- what follows, in any relation -/
def Fol0 (K : PySem.W.Frag) (W : Wd) (F : Hp) (q : D → Sto → Prop) (Q : VK) : Prop := ∀ W' H' m' v d, W.Le W' → Rel0 K W' F H' m' → R K W' v d → q d m' → Q v H'
theorem Fol.to0 [Lk] {K : PySem.W.Frag} {W : Wd} {F H : Hp} {m : Sto} {q : D → Sto → Prop} {Q : VK} (k : Fol K W F q Q) (r : Rel K W F H m) : Fol0 K W F q Q := fun _ _ _ _ _ l h => k _ _ _ _ _ l (r.of l h)
/-- the promise by data: nothing is raised -/
def spOf (K : PySem.W.Frag) (n : Nat) (f : FN) : Sp := fun vs H Q _ => vs.length = n ∧ ∃ (W : Wd) (F : Hp) (m : Sto) (ds : List D) (q : D → Sto → Prop), Rel0 K W F H m ∧ RA K W vs ds ∧ f ds m q ∧ Fol0 K W F q Q
structure Kn (P : Program) (w : World) (K : PySem.W.Frag) (mg : Str → Option Value) (base : Heap) (k : Nat) (x : Str) (f : FN) : Prop where
  ex : ∃ (n : Nat) (fa : Addr) (fd : FuncData) (ps : List Str), FnG P w K mg base k fa fd ps (spOf K n f) ∧ mg x = some (.ref fa) ∧ PySem.W.keepIn K (.ref fa) = true ∧ Binds K fd ps [] ∧ ∀ ds m q, f ds m q → ds.length = n
section
variable {X : Cx} {pins : List (Addr × Obj)} {σ : L2.St} {H : Hp} {s : Shared} {Q : VK} {us : List Value} {vs : List V} {k j : Nat} {fa : Addr} {fd : FuncData} {ps : List Str} {sp : Sp} {E : XK}
theorem run_g (F : FnG X.prog X.w X.K X.mg X.base k fa fd ps sp) (hr : Room k X.A) (gd : X.A.guards = some []) (hb : Binds X.K fd ps []) (hx : Passes (L2.CX X.prog X.w) X E) (I : Inv X pins σ H s) (r : Vals vs us) (h : sp vs H Q E) :
    wpAny (model X.prog X.w) X.A (call (.ref fa) us) (EP X pins σ Q) X.xe s := by
  have nn : us.length = ps.length := by rw [← r.length]; exact F.len _ _ _ _ h
  have bnd : BindsTo s fd ⟨us, []⟩ (ps.zip us) := by
    have z := hb s us I.kIn (by rw [List.append_nil]; exact nn)
    rw [List.append_nil] at z
    exact z
  have go := F.run X.A X.stack s H ⟨us, []⟩ us vs Q E hr gd I.env0 bnd r h
  refine wpAny_call (codeAny_mono go ?_)
  intro res s' hq
  match res, hq with
  | .error e, hq => exact hx pins σ H s e s' I hq
  | .ok (.ret u), hq => exact I.after hq
  | .ok .next, hq => exact hq.elim
  | .ok .brk, hq => exact hq.elim
  | .ok .cont, hq => exact hq.elim
variable {x : Str} {p pos : Pos} {e : Expr} {es : List Expr} {t : DA} {f : FN}
theorem je_call [Lk] (c : Kn X.prog X.w X.K X.mg X.base k x f) (hr : Room j X.A) (hk : k ≤ j) (gd : X.A.guards = some []) (hg : Gl X x) (ha : JA X (e :: es) t) (hdb : (x == ("__debug__" : Str)) = false := by decide)
    (he : starEach (e :: es) X.env = (false, eval e X.env) :: starEach es X.env := by rfl) (hpl : (backTo pos (starEach es X.env)).any (·.1) = false := by rfl) : JE X (.Call (.Name x p) (e :: es) [] pos) (dCallB f t) := by
  obtain ⟨n, fa, fd, ps, F, hm, kp, hb, har⟩ := c.ex
  refine ⟨fun pins s sg H Q I h => wpAny_Call_Name_kw (ld_glob I hg hm ?_ hdb)⟩
  have h' := call_wk (rr := fun vs H Q => spOf X.K n f vs H Q NoX) (fun W F' H' m xs ds q Q' rel ra hf kk => ⟨by rw [ra.len]; exact har _ _ _ hf, W, F', m, ds, q, rel.toRel0, ra, hf, kk.to0 rel⟩) sg H Q h
  refine PySem.W.callWith_K (h₀ := X.base) I.ok.mod.kin kp ?_ he hpl
  refine thn (ha.run pos pins s sg H _ I h') ?_
  intro us s1 ⟨vs, H1, I1, r, q⟩
  exact ⟨I1.kIn, run_g F (hr.mono hk) gd hb passF I1 r q⟩
end
/-- a def by data: its body's derivation, and its reading at the arguments -/
def startD (N : List Str) (ds : List D) : DSt := ds.map some ++ List.replicate (N.length - ds.length) none
theorem start_rst {K : PySem.W.Frag} {W : Wd} {N : List Str} {vs : List V} {ds : List D} (r : RA K W vs ds) : RSt K W (L2.start N vs) (startD N ds) := by
  unfold L2.start startD
  rw [r.len]
  have base : ∀ n, RSt K W (List.replicate n none) (List.replicate n none) := fun n => by
    induction n with
    | zero => exact .nil
    | succ n ih => exact .no ih
  have go : ∀ {us : List V} {es : List D} (n : Nat), RA K W us es → RSt K W (us.map some ++ List.replicate n none) (es.map some ++ List.replicate n none) := fun {us es} n q => by
    induction us generalizing es with
    | nil => cases q; exact base n
    | cons u us ih => cases q with | cons h q => exact .yes h (ih q)
  exact go _ r
section
variable {P : Program} {w : World} {K : PySem.W.Frag} {mg : Str → Option Value} {base : Heap}
theorem defG {x qual : Str} {st : Stmt} {f : Addr} {fd : FuncData} {N ps : List Str} {k n : Nat} {t : DS} {g : FN} (F : L2.Fun K x qual st f fd) (S : FnScope N ps (defScope st)) (hn : ps.length = n)
    (body : ∀ [Lk] (cdv : Value) (A : Around) (outer : List Env) (s : Shared) (H : Hp) (E : XK), Room k (A.deeper (envOfC qual (defScope st) s.heap.objs.size f cdv)) → A.guards = some [] →
      JSs (cxOf (L2.CX P w) P w K mg base N qual (defScope st) f cdv A outer s H E).nox (defBody st) t)
    (h : ∀ ds m q, ds.length = n → g ds m q → t { nx := fun _ m' => q .non m', rt := q } (startD N ds) m) : FnG P w K mg base (k + 1) f fd ps (spOf K n g) := by
  refine fnG F S (fun vs H Q E z => z.1.trans hn.symm) fun cdv A outer s H vs Q E hr gd z => ?_
  obtain ⟨hl, W, F', m, ds, q, rel, ra, hg, kk⟩ := z
  letI : Lk := ⟨W, F'⟩
  refine ⟨liftS K t, (body cdv A outer s H E hr gd).nox, ?_⟩
  refine ⟨W, F', m, startD N ds, _, ⟨rel, .refl _, Same.refl _⟩, start_rst ra, h ds m q (by rw [← ra.len]; exact hl) hg, ⟨?_, ?_, ?_, ?_⟩⟩
  · exact fun W' H' m' _ _ l rel' _ hq => kk W' H' m' _ _ l rel'.toRel0 .non hq
  · exact fun W' H' m' v d l rel' rv hq => kk W' H' m' v d l rel'.toRel0 rv hq
  · exact fun _ _ _ _ _ _ _ _ z => z
  · exact fun _ _ _ _ _ _ _ _ z => z
end
/-- what a law is asked: a script of at most 63 ints, an empty store; it answers True -/
def lawD : FN := fun ds m q => ∃ ns : List Int, ds = [.fz (ns.map D.int)] ∧ ns.length ≤ 63 ∧ m = [] ∧ ∀ m', q (.bl true) m'
theorem ra_ints {K : PySem.W.Frag} {W : Wd} : ∀ ns : List Int, RA K W (ns.map V.int) (ns.map D.int)
  | [] => .nil
  | n :: ns => .cons (.int n) (ra_ints ns)
theorem law_end {P : Program} {w : World} {K : PySem.W.Frag} {mg mb : Str → Option Value} {k : Nat} {fa a : Addr} {fd : FuncData} {x : Str} {s0 : Shared} {vs : List Value} {ns : List Int}
    (inK : K.In s0.heap) (gl : s0.heap.Ns mainGlobals mg) (bl : s0.heap.Ns builtinsNs mb) (bb : ∀ x : Str, x ≠ "__name__" → mb x = bootBuiltins x) (nolim : s0.heap.NoLimit) (ng : s0.gens = #[])
    (obj : s0.heap.get? a = some { cls := .type "list", data := .seq vs.toArray }) (hi : IntsAre vs ns) (nl : ns.length ≤ 63) (hr : Room k callerA)
    (F : ∀ base : Heap, K.In base → base.Ns mainGlobals mg → FnG P w K mg base k fa fd [x] (spOf K 1 lawD)) (bnd : ∀ (s : Shared) (u : Value), BindsTo s fd ⟨[u], []⟩ [(x, u)]) :
    codeAny (model P w) callerA (.call (.ref fa) ⟨[.ref a], []⟩) (fun r s' => r = .ok (.ret (.bool true)) ∧ OldK s0.heap s'.heap ∧ s'.os = s0.os ∧ AllBare s'.gens) s0 := by
  have rv := vals_ints hi
  have nv := hi.length
  have nsz : ns.length ≤ sizeLine := small_len (by omega)
  obtain ⟨H, hH⟩ : ∃ H : Hp, H = fun b => if b = a ∧ K.lookup a = none then some (HO.frz { cls := .type "list", data := .seq vs.toArray } (.lst (ns.map V.int))) else none := ⟨_, rfl⟩
  have cases2 : ∀ b, H b = none ∨ (b = a ∧ K.lookup a = none ∧ H b = some (HO.frz { cls := .type "list", data := .seq vs.toArray } (.lst (ns.map V.int)))) := by
    intro b
    by_cases z : b = a ∧ K.lookup a = none
    · exact .inr ⟨z.1, z.2, by rw [hH]; exact if_pos z⟩
    · exact .inl (by rw [hH]; exact if_neg z)
  have isSeq : SqL K H a (ns.map V.int) := by
    cases q : K.lookup a with
    | none => exact .inl (.inr ⟨{ cls := .type "list", data := .seq vs.toArray }, by rw [hH]; exact if_pos ⟨rfl, q⟩⟩)
    | some o =>
      have e1 := inK a o q
      rw [obj] at e1
      cases e1
      exact .inr ⟨_, vs.toArray, _, q, rfl, rfl, rfl, by rw [List.size_toArray, nv]; exact nsz, by simpa using rv⟩
  have okH : HOk P w H s0.heap := by
    intro b u z
    rcases cases2 b with q | ⟨e1, _, q⟩
    · rw [q] at z; cases z
    · rw [q] at z
      cases z
      subst e1
      exact ⟨obj, by rw [List.length_map]; exact nsz, vs, _, rv, obj⟩
  have dictless : ∀ {b : Addr} {o : Obj} {es : Array DictEntry} {ep : Nat}, s0.heap.get? b = some o → o.data = .dict es ep → H b = none := by
    intro b o es ep e1 e2
    rcases cases2 b with q | ⟨e3, _, _⟩
    · exact q
    · subst e3
      rw [obj] at e1
      cases e1
      have z : Data.seq vs.toArray _ = Data.dict es ep := e2
      cases z
  have down : ∀ {b : Addr} {mm : Str → Option Value}, s0.heap.Ns b mm → (hidT s0.heap H).Ns b mm := by
    rintro b mm ⟨o, es, ep, e1, e2, r⟩
    exact ⟨o, es, ep, hidT_get e1 (dictless e1 e2), e2, r⟩
  have inB : K.In (hidT s0.heap H) := by
    intro b o q
    refine hidT_get (inK b o q) ?_
    rcases cases2 b with z | ⟨e1, e2, _⟩
    · exact z
    · subst e1
      rw [e2] at q; cases q
  have md : Mod K mg (hidT s0.heap H) := by
    obtain ⟨mc, h1, h2⟩ := nolim
    exact ⟨inB, down gl, ⟨mb, down bl, bb⟩, ⟨mc, down h1, h2⟩⟩
  have nofr : ∀ b : Addr, b ∉ frs ([] : List Env) := fun b z => by
    have z' : b ∈ ([] : List Addr) := z
    cases z'
  have env : Env0 P w K mg (hidT s0.heap H) callerA [] s0 H := ⟨rfl, md, fun b o e1 => of_hidT e1, Nat.le_of_eq (hidT_size _ _), trivial, fun b z => absurd z (nofr b), okH, .of_eq ng⟩
  have ask : spOf K 1 lawD [.ref a] H (fun v _ => v = .bl true) NoX := by
    refine ⟨rfl, ⟨[], H⟩, fun _ => none, [], [.fz (ns.map D.int)], fun d _ => d = .bl true, ⟨Same.refl _, ?_, ?_, rfl, ?_, ?_⟩, .cons (.fz isSeq (ra_ints ns)) .nil, ⟨ns, rfl, nl, rfl, fun _ => rfl⟩, ?_⟩
    · intro b o z; cases z
    · intro b o z; cases z
    · intro i c z; simp at z
    · intro i j c d d' z; simp at z
    · intro W' H' m' v d _ _ r e1
      subst e1
      cases r
      rfl
  have go := (F _ inB (down gl)).run callerA [] s0 H ⟨[.ref a], []⟩ [.ref a] [.ref a] _ _ hr rfl env (bnd s0 (.ref a)) (.cons rfl .nil) ask
  refine codeAny_mono go ?_
  intro r s' h
  match r, h with
  | .error e, ⟨_, _, _, _, _, _, _, _, _, _, _, _, z⟩ => exact z.elim
  | .ok .next, h => exact h.elim
  | .ok .brk, h => exact h.elim
  | .ok .cont, h => exact h.elim
  | .ok (.ret u), ⟨v, H', os, bare, un, ok', r', q⟩ =>
    have q' : v = .bl true := q
    subst q'
    have eu : u = Value.bool true := r'
    subst eu
    refine ⟨rfl, OldK.of_keep ?_, os, bare⟩
    intro b o e1
    rcases cases2 b with z | ⟨_, _, z⟩
    · exact un.keep b o e1 z (nofr b) (by simp)
    · have z2 := un.frzs b _ _ z
      obtain ⟨g1, _⟩ := okH b _ z
      obtain ⟨g2, _⟩ := ok' b _ z2
      rw [e1] at g1
      cases g1
      exact g2
end DL
namespace DL
open PySem PySem.Spec PyProof.Rows L2
theorem lstOf_ptr {m : Sto} {b : Nat} {ds : List D} (h : m[b]? = some (.lst ds)) : lstOf (.ptr b) m = some ds := by
  simp only [lstOf, h]
theorem seqL_lst {m : Sto} {ds : List D} : seqL (.lst ds) m = some ds := rfl
theorem seqL_fz {m : Sto} {ds : List D} : seqL (.fz ds) m = some ds := rfl
theorem lstOf_lst {m : Sto} {ds : List D} : lstOf (.lst ds) m = some ds := rfl
theorem seqL_ptr {m : Sto} {b : Nat} : seqL (.ptr b) m = lstOf (.ptr b) m := rfl
theorem atI_0 {α : Type} {x : α} {r : List α} : atI (x :: r) 0 = some x := atI_nat (j := 0) rfl
theorem atI_1 {α : Type} {x y : α} {r : List α} : atI (x :: y :: r) 1 = some y := atI_nat (j := 1) rfl
theorem atI_2 {α : Type} {x y z : α} {r : List α} : atI (x :: y :: z :: r) 2 = some z := atI_nat (j := 2) rfl
theorem atI_3 {α : Type} {x y z w : α} {r : List α} : atI (x :: y :: z :: w :: r) 3 = some w := atI_nat (j := 3) rfl
theorem atI_4 {α : Type} {x y z w v : α} {r : List α} : atI (x :: y :: z :: w :: v :: r) 4 = some v := atI_nat (j := 4) rfl
theorem onS_mk {α : Type} {a : α} {k : α → Prop} : onS (some a) k = k a := rfl
theorem cond_dec {p : Prop} [Decidable p] {A B : Prop} : ((decide p = true → A) ∧ (decide p = false → B)) = ((p → A) ∧ (¬ p → B)) := by simp
theorem cond_ndec {p : Prop} [Decidable p] {A B : Prop} : (((!decide p) = true → A) ∧ ((!decide p) = false → B)) = ((¬ p → A) ∧ (p → B)) := by simp
end DL
local macro_rules | `(tactic| walk_at "dn") => `(tactic| simp only [DL.dSeq, DL.dIf, DL.dTest, DL.dBin, DL.dUn, DL.dCallB, DL.dVar, DL.dC, DL.dCons, DL.dNil, DL.a1, DL.a2, DL.dTup, DL.dLst, DL.dLstP, DL.dAsg, DL.gN, DL.gsC, DL.gsN, DL.gT, DL.gIx, DL.dPar, DL.dAug, DL.dAugIx, DL.dSub, DL.dMul, DL.dMod, DL.dDiv, DL.dPow, DL.dLt, DL.dLe, DL.dGt, DL.dGe, DL.dI0, DL.dI2, DL.dB0, DL.dNeg,
  DL.dEq, DL.dNe, DL.dIx, DL.dAdd, DL.dAnd, DL.dOr, DL.dNot, DL.dIfE, DL.dTNot, DL.dTAnd, DL.dTOr, DL.dRet, DL.dRetN, DL.dDrop, DL.dNext, DL.dNever, DL.dBreak, DL.dCont, DL.slot, DL.put, DL.onS_mk, DL.dIsi, DL.kd, DL.isT, DL.dAbs, DL.dLen, DL.dInt, DL.dMin, DL.dMax, DL.dApp, DL.dChain, DL.seqL_lst, DL.seqL_fz, DL.seqL_ptr, DL.lstOf_lst, DL.dFor, DL.dIter, DL.dYes,
  DL.startD, List.map_cons, List.map_nil, List.length_cons, List.length_nil, List.replicate, List.cons_append, List.nil_append, Nat.reduceAdd, Nat.reduceSub, Nat.reduceLeDiff, true_and, and_true, DL.cond_dec, DL.cond_ndec, Bool.not_true, Bool.not_false, true_imp_iff, false_imp_iff, Bool.false_eq_true, Bool.true_eq_false, not_true_eq_false, not_false_eq_true, Int.cast_ofNat_Int, DL.atI_0, DL.atI_1, DL.atI_2, DL.atI_3, DL.atI_4, List.set_cons_zero, List.set_cons_succ])
namespace DL
open PySem PySem.Spec PyProof.Rows L2
theorem abs_if (t : Int) : (if t < 0 then -t else t) = (t.natAbs : Int) := by split <;> omega
/-- a whole number below 2 ^ n -/
@[irreducible] def Sm (n : Nat) (b : Int) : Prop := b.natAbs < 2 ^ n
theorem Sm.lt {n : Nat} {i : Int} (h : Sm n i) : i.natAbs < 2 ^ n := by unfold Sm at h; exact h
theorem Sm.of {n : Nat} {i : Int} (h : i.natAbs < 2 ^ n) : Sm n i := by unfold Sm; exact h
theorem sm {k n : Nat} {i : Int} (h : i.natAbs < 2 ^ k) (hk : k ≤ n) : Sm n i := Sm.of <| Nat.lt_of_lt_of_le h (Nat.pow_le_pow_right (by decide) hk)
theorem Sm.mono {k n : Nat} {i : Int} (h : Sm k i) (hk : k ≤ n) : Sm n i := sm h.lt hk
theorem Sm.mul {k n : Nat} {i j : Int} (h : Sm k i) (h' : Sm n j) : Sm (k + n) (i * j) := Sm.of (wide_lt h.lt h'.lt)
/-- a fraction's data -/
abbrev fr (t b : Int) : D := .tup [.int t, .int b]
def lowT (t b : Int) : Int := (if b < 0 then -t else t) / (Int.gcd t b : Int)
def lowB (t b : Int) : Int := (if b < 0 then -b else b) / (Int.gcd t b : Int)
theorem gcd_pos (t b : Int) (hb : b ≠ 0) : 0 < (Int.gcd t b : Int) := by
  have : 0 < Int.gcd t b := Int.gcd_pos_iff.mpr (.inr hb)
  omega
def t_law_bag : DS :=
    (dRet (dLstP (dCons (dC (.int 0)) (dCons (dC (.int 1234567891)) (dCons (dC (.int 0)) (dCons (dLc 1 (dIter (dSlice dCut (dVar 0) dNoPart (dPart (dC (.int 63))))) dYes (dCallB dAbs (a1 (dVar 1)))) dNil))))))
/-- a bag's cell -/
def BagOk (c : Cell) : Prop := ∃ (a s k : Int) (ns : List Int), c = .lst [.int a, .int s, .int k, .lst (ns.map D.int)] ∧ 0 ≤ a ∧ 0 ≤ s ∧ s < 2147483647 ∧ 0 ≤ k ∧ ∀ n ∈ ns, 0 ≤ n
@[irreducible] def g_law_bag : FN := fun ds m q => ∃ ns : List Int, ds = [.fz (ns.map D.int)] ∧ ns.length ≤ 63 ∧ ∀ c, BagOk c → q (.ptr m.length) (m ++ [c])
theorem i_law_bag {ns : List Int} {m : Sto} {q : D → Sto → Prop} (hn : ns.length ≤ 63) (h : ∀ c, BagOk c → q (.ptr m.length) (m ++ [c])) : g_law_bag [.fz (ns.map D.int)] m q := by unfold g_law_bag; exact ⟨ns, rfl, hn, h⟩
theorem ar_law_bag : ∀ ds m q, g_law_bag ds m q → ds.length = 1 := by
  unfold g_law_bag
  rintro _ m q ⟨ns, rfl, _⟩; rfl
theorem lc_abs (m : Sto) (r : DSt) (hr : ∀ x, slot (put r 1 x) 1 = some x) (ns : List Int) : ∀ (acc : List D) (q : List D → Sto → Prop), q (acc ++ ns.map fun n => D.int (n.natAbs : Int)) m →
    lcD 1 dYes (dCallB dAbs (a1 (dVar 1))) (okP none) (ns.map D.int) r acc m q := by
  induction ns with
  | nil => intro acc q h; simpa [lcD] using h
  | cons n ns ih =>
    intro acc q h
    simp only [List.map_cons, lcD, dYes, dCallB, a1, dCons, dNil, dVar, hr, onS_mk, dAbs, abs_if, okP, true_and]
    exact ⟨fun _ => ih (acc ++ [.int (n.natAbs : Int)]) q (by simpa using h), fun z => by cases z⟩
theorem r_law_bag (nm nm2 : Str) (ds : List D) (m : Sto) (q : D → Sto → Prop) (hl : ds.length = 1) (h : g_law_bag ds m q) : t_law_bag { nx := fun _ m' => q .non m', rt := q } (startD [nm, nm2] ds) m := by
  unfold g_law_bag at h
  obtain ⟨ns, rfl, hn, h⟩ := h
  have hcut : cutD (ns.map D.int) none (some 63) = ns.map D.int := by
    apply cut_whole
    · rfl
    · show HT.sIx (ns.map D.int).length (ns.map D.int).length (some ((63 : Nat) : Int)) = (ns.map D.int).length
      rw [HT.sIx_nat, List.length_map]
      omega
  unfold t_law_bag
  simp only [dRet, dLstP, dCons, dC, dLc, dLcQ, dIter, dSlice, dVar, slot, startD, List.map_cons, List.map_nil, List.length_cons, List.length_nil, List.replicate, List.cons_append, List.nil_append, Nat.reduceAdd, Nat.reduceSub, onS_mk, dNoPart, dPart, dCut, seqL, hcut, items, dNil]
  refine ⟨by rw [List.length_map]; omega, ?_⟩
  rw [lcI_eq]
  refine lc_abs m _ (fun x => rfl) ns [] _ ?_
  refine ⟨by decide, ?_⟩
  refine h _ ⟨0, 1234567891, 0, ns.map fun n => (n.natAbs : Int), ?_, by decide, by decide, by decide, by decide, ?_⟩
  · simp
  · intro n hn
    obtain ⟨k, _, rfl⟩ := List.mem_map.mp hn
    omega
def tk3 : DS :=
    (dSeq (dAsg (dBin dMod (dBin dMul (dBin dAdd (dBin dIx (dVar 0) (dC (.int 1))) (dC (.int 1))) (dC (.int 39373))) (dC (.int 1000000007))) (gN 4))
    (dSeq (dAsg (dBin dMod (dBin dMul (dBin dMod (dBin dMul (dVar 4) (dVar 4)) (dC (.int 998244353))) (dC (.int 30011))) (dC (.int 998244353))) (gN 5))
    (dSeq (dIf (dTest (dBin dGt (dVar 1) (dC (.int 1000000)))) (dRet (dBin dMod (dBin dAdd (dBin dMul (dVar 5) (dC (.int 1000000007))) (dVar 4)) (dVar 1))) dNext)
    (dRet (dBin dMod (dBin dDiv (dVar 5) (dC (.int 7))) (dVar 1))))))
def tk2 : DS :=
    (dSeq (dIf (dTest (dBin dGt (dBin dIx (dVar 0) (dC (.int 0))) (dC (.int 0)))) (dSeq (dAsg (dBin dMod (dBin dIx (dVar 0) (dC (.int 0))) (dVar 1)) (gN 3))
    (dSeq (dAsg (dBin dDiv (dBin dIx (dVar 0) (dC (.int 0))) (dVar 1)) (gIx (dVar 0) (dC (.int 0))))
    (dRet (dVar 3)))) dNext) tk3)
def tkS : DS := (dAsg (dBin dMod (dBin dAdd (dBin dAdd (dBin dMul (dBin dIx (dVar 0) (dC (.int 1))) (dC (.int 48271))) (dBin dMod (dVar 2) (dC (.int 2147483647)))) (dBin dMul (dC (.int 7919)) (dBin dIx (dVar 0) (dC (.int 2))))) (dC (.int 2147483647))) (gIx (dVar 0) (dC (.int 1))))
def tk1 : DS :=
    (dSeq (dAugIx (dI0 fun i j => i + j) (dVar 0) (dC (.int 2)) (dC (.int 1)))
    (dSeq (dIf (dTest (dBin dGe (dVar 2) (dC (.int 1000000000000000000)))) (dAsg (dVar 2) (gIx (dVar 0) (dC (.int 0)))) dNext) tkS))
def tk0 : DS :=
    (dSeq (dIf (dTest (dBin dEq (dBin dIx (dVar 0) (dC (.int 0))) (dC (.int 0)))) (dSeq (dAsg (dC (.int 0)) (gN 2))
    (dSeq (dIf (dTest (dBin dLt (dBin dIx (dVar 0) (dC (.int 2))) (dCallB dLen (a1 (dBin dIx (dVar 0) (dC (.int 3))))))) (dAsg (dBin dIx (dBin dIx (dVar 0) (dC (.int 3))) (dBin dIx (dVar 0) (dC (.int 2)))) (gN 2)) dNext)
    tk1)) dNext) tk2)
@[irreducible] def g_law_take : FN := fun ds m q => ∃ (b : Nat) (many : Int) (c : Cell), ds = [.ptr b, .int many] ∧ 0 < many ∧ Sm 8900 many ∧ m[b]? = some c ∧ BagOk c ∧ ∀ v c', 0 ≤ v → v < many → BagOk c' → q (.int v) (m.set b c')
theorem i_law_take {b : Nat} {many : Int} {c : Cell} {m : Sto} {q : D → Sto → Prop} (h0 : 0 < many) (hz : Sm 8900 many) (hm : m[b]? = some c) (hc : BagOk c) (h : ∀ v c', 0 ≤ v → v < many → BagOk c' → q (.int v) (m.set b c')) : g_law_take [.ptr b, .int many] m q := by unfold g_law_take; exact ⟨b, many, c, rfl, h0, hz, hm, hc, h⟩
/-- drawing from the bag in the first cell -/
theorem take_at {many : Int} {c : Cell} {ms : Sto} {q : D → Sto → Prop} (hc : BagOk c) (h0 : 0 < many) (hz : Sm 8900 many) (k : ∀ v c', 0 ≤ v → v < many → BagOk c' → q (.int v) (c' :: ms)) : g_law_take [.ptr 0, .int many] (c :: ms) q :=
  i_law_take h0 hz rfl hc k
theorem ar_law_take : ∀ ds m q, g_law_take ds m q → ds.length = 2 := by
  unfold g_law_take
  rintro _ m q ⟨t, b, c, rfl, _⟩; rfl
theorem dIx_ptr {b : Nat} {i : Int} {m : Sto} {q : D → Sto → Prop} : dIx (.ptr b) (.int i) m q = onS (lstOf (.ptr b) m) fun ds => onS (atI ds i) fun d => q d m := rfl
theorem dIx_lst {ds : List D} {i : Int} {m : Sto} {q : D → Sto → Prop} : dIx (.lst ds) (.int i) m q = onS (atI ds i) fun d => q d m := rfl
theorem mulR {i j : Int} (h1 : -(2 ^ 64) < j) (h2 : j < 2 ^ 64) : CMulA i j := .inl (.inr ⟨h1, h2⟩)
theorem mulL {i j : Int} (h1 : -(2 ^ 64) < i) (h2 : i < 2 ^ 64) : CMulA i j := .inl (.inl ⟨h1, h2⟩)
/-- a drawn number out of a seed -/
theorem take_seed (b : Nat) (many s : Int) (m : Sto) (q : D → Sto → Prop) (x2 x3 : Option D) (a k : Int) (xs : List D) (hm : m[b]? = some (.lst [.int a, .int s, .int k, .lst xs])) (hs : 0 ≤ s) (hs2 : s < 2147483647) (h0 : 0 < many) (hz : Sm 8900 many)
    (h : ∀ v, 0 ≤ v → v < many → q (.int v) m) : tk3 { nx := fun _ m' => q .non m', rt := q } [some (.ptr b), some (.int many), x2, x3, none, none] m := by
  unfold tk3
  simp only [DL.dSeq, DL.dIf, DL.dTest, DL.dBin, DL.dUn, DL.dCallB, DL.dVar, DL.dC, DL.dCons, DL.dNil, DL.a1, DL.a2, DL.dTup, DL.dLst, DL.dLstP, DL.dAsg, DL.gN, DL.gsC, DL.gsN, DL.gT, DL.gIx, DL.dPar, DL.dAug, DL.dAugIx, DL.dSub, DL.dMul, DL.dMod, DL.dDiv, DL.dPow, DL.dLt, DL.dLe, DL.dGt, DL.dGe, DL.dI0, DL.dI2, DL.dB0, DL.dNeg, DL.dEq, DL.dNe, DL.dIx, DL.dAdd, DL.dAnd, DL.dOr, DL.dNot, DL.dIfE, DL.dTNot, DL.dTAnd, DL.dTOr, DL.dRet, DL.dRetN, DL.dDrop, DL.dNext, DL.dNever, DL.dBreak, DL.dCont, DL.slot, DL.put, DL.onS_mk, DL.dIsi, DL.kd, DL.isT, DL.dAbs, DL.dLen, DL.dInt, DL.dMin, DL.dMax, DL.dApp, DL.dChain, DL.seqL_lst, DL.seqL_fz, DL.seqL_ptr, DL.lstOf_lst, DL.dFor, DL.dIter, DL.dYes, DL.startD, List.map_cons, List.map_nil, List.length_cons, List.length_nil, List.replicate, List.cons_append, List.nil_append, Nat.reduceAdd, Nat.reduceSub, Nat.reduceLeDiff, true_and, and_true, DL.cond_dec, DL.cond_ndec, Bool.not_true, Bool.not_false, true_imp_iff, false_imp_iff, Bool.false_eq_true, Bool.true_eq_false, not_true_eq_false, not_false_eq_true, Int.cast_ofNat_Int, DL.atI_0, DL.atI_1, DL.atI_2, DL.atI_3, DL.atI_4, List.set_cons_zero, List.set_cons_succ, dIx_ptr, lstOf_ptr hm]
  have m1 : ∀ x : Int, 0 ≤ x % many ∧ x % many < many := fun x => ⟨Int.emod_nonneg _ (by omega), Int.emod_lt_of_pos _ h0⟩
  obtain ⟨f, ef⟩ : ∃ f, f = (s + 1) * 39373 % 1000000007 := ⟨_, rfl⟩
  have hf : 0 ≤ f ∧ f < 1000000007 := by omega
  refine ⟨mulR (by decide) (by decide), by decide, ?_⟩
  rw [← ef]
  refine ⟨mulR (by omega) (by omega), by decide, ?_⟩
  obtain ⟨g, eg⟩ : ∃ g, g = f * f % 998244353 := ⟨_, rfl⟩
  rw [← eg]
  have hg : 0 ≤ g ∧ g < 998244353 := by omega
  refine ⟨mulR (by decide) (by decide), by decide, ?_⟩
  obtain ⟨e, ee⟩ : ∃ e, e = g * 30011 % 998244353 := ⟨_, rfl⟩
  rw [← ee]
  have he : 0 ≤ e ∧ e < 998244353 := by omega
  refine ⟨fun _ => ⟨mulR (by decide) (by decide), h0, ?_⟩, fun _ => ⟨wide_div (b := 8) (by decide) (by decide) (by decide) (by decide), h0, ?_⟩⟩
  · exact h _ (m1 _).1 (m1 _).2
  · exact h _ (m1 _).1 (m1 _).2
/-- the drawing, once the seed's cell stands -/
theorem take_rest (b : Nat) (many a s k : Int) (ns : List Int) (m : Sto) (q : D → Sto → Prop) (x2 : Option D) (hm : m[b]? = some (.lst [.int a, .int s, .int k, .lst (ns.map D.int)])) (hs : 0 ≤ s) (hs2 : s < 2147483647) (ha : 0 ≤ a) (hk : 0 ≤ k) (hn : ∀ n ∈ ns, 0 ≤ n)
    (h0 : 0 < many) (hz : Sm 8900 many) (h : ∀ v c', 0 ≤ v → v < many → BagOk c' → q (.int v) (m.set b c')) : tk2 { nx := fun _ m' => q .non m', rt := q } [some (.ptr b), some (.int many), x2, none, none, none] m := by
  have hb : b < m.length := (List.getElem?_eq_some_iff.mp hm).1
  have keep : m.set b (.lst [.int a, .int s, .int k, .lst (ns.map D.int)]) = m := by
    apply List.ext_getElem?
    intro i
    by_cases e : b = i
    · subst e; rw [List.getElem?_set_self hb, hm]
    · rw [List.getElem?_set_ne e]
  unfold tk2
  rw [dSeq]
  simp only [dIf, dTest, dBin, dVar, dC, dGt, slot, onS_mk, dIx_ptr, lstOf_ptr hm, atI_0, dB0, cond_dec]
  refine ⟨fun hp => ?_, fun hp => ?_⟩
  · simp only [DL.dSeq, DL.dIf, DL.dTest, DL.dBin, DL.dUn, DL.dCallB, DL.dVar, DL.dC, DL.dCons, DL.dNil, DL.a1, DL.a2, DL.dTup, DL.dLst, DL.dLstP, DL.dAsg, DL.gN, DL.gsC, DL.gsN, DL.gT, DL.gIx, DL.dPar, DL.dAug, DL.dAugIx, DL.dSub, DL.dMul, DL.dMod, DL.dDiv, DL.dPow, DL.dLt, DL.dLe, DL.dGt, DL.dGe, DL.dI0, DL.dI2, DL.dB0, DL.dNeg, DL.dEq, DL.dNe, DL.dIx, DL.dAdd, DL.dAnd, DL.dOr, DL.dNot, DL.dIfE, DL.dTNot, DL.dTAnd, DL.dTOr, DL.dRet, DL.dRetN, DL.dDrop, DL.dNext, DL.dNever, DL.dBreak, DL.dCont, DL.slot, DL.put, DL.onS_mk, DL.dIsi, DL.kd, DL.isT, DL.dAbs, DL.dLen, DL.dInt, DL.dMin, DL.dMax, DL.dApp, DL.dChain, DL.seqL_lst, DL.seqL_fz, DL.seqL_ptr, DL.lstOf_lst, DL.dFor, DL.dIter, DL.dYes, DL.startD, List.map_cons, List.map_nil, List.length_cons, List.length_nil, List.replicate, List.cons_append, List.nil_append, Nat.reduceAdd, Nat.reduceSub, Nat.reduceLeDiff, true_and, and_true, DL.cond_dec, DL.cond_ndec, Bool.not_true, Bool.not_false, true_imp_iff, false_imp_iff, Bool.false_eq_true, Bool.true_eq_false, not_true_eq_false, not_false_eq_true, Int.cast_ofNat_Int, DL.atI_0, DL.atI_1, DL.atI_2, DL.atI_3, DL.atI_4, List.set_cons_zero, List.set_cons_succ, dIx_ptr, lstOf_ptr hm, (show ixN 4 0 = some 0 from rfl)]
    refine ⟨h0, wide_div (b := 8900) h0 hz.lt (by decide) (by decide), ?_⟩
    refine h _ _ (Int.emod_nonneg _ (by omega)) (Int.emod_lt_of_pos _ h0) ⟨a / many, s, k, ns, rfl, Int.ediv_nonneg ha (by omega), hs, hs2, hk, hn⟩
  · rw [dNext]
    refine take_seed b many s m q x2 none a k (ns.map D.int) hm hs hs2 h0 hz fun v h1 h2 => ?_
    have z := h v _ h1 h2 ⟨a, s, k, ns, rfl, ha, hs, hs2, hk, hn⟩
    rw [keep] at z
    exact z
/-- a cell of the script goes into the seed -/
theorem take_cell (b : Nat) (many a s k cell : Int) (ns : List Int) (m : Sto) (q : D → Sto → Prop) (hm : m[b]? = some (.lst [.int a, .int s, .int k, .lst (ns.map D.int)])) (hs : 0 ≤ s) (hs2 : s < 2147483647) (ha : 0 ≤ a) (hk : 0 ≤ k) (hn : ∀ n ∈ ns, 0 ≤ n)
    (hc : 0 ≤ cell) (h0 : 0 < many) (hz : Sm 8900 many) (h : ∀ v c', 0 ≤ v → v < many → BagOk c' → q (.int v) (m.set b c')) :
    tk1 { nx := tk2 { nx := fun _ m' => q .non m', rt := q }, rt := q } [some (.ptr b), some (.int many), some (.int cell), none, none, none] m := by
  have hb : b < m.length := (List.getElem?_eq_some_iff.mp hm).1
  have i2 : ixN 4 2 = some 2 := rfl
  have i1 : ixN 4 1 = some 1 := rfl
  have i0 : ixN 4 0 = some 0 := rfl
  have t2 : (2 : Int).toNat = 2 := rfl
  have seed : ∀ (a' : Int) (m' : Sto), m' = m.set b (.lst [.int a', .int s, .int (k + 1), .lst (ns.map D.int)]) → 0 ≤ a' → tkS { nx := tk2 { nx := fun _ m' => q .non m', rt := q }, rt := q } [some (.ptr b), some (.int many), some (.int cell), none, none, none] m' := by
    intro a' m' em ha'
    have hm' : m'[b]? = some (.lst [.int a', .int s, .int (k + 1), .lst (ns.map D.int)]) := by rw [em]; exact List.getElem?_set_self hb
    rw [tkS, dAsg]
    simp only [dBin, dVar, dC, slot, onS_mk, dMod, dMul, dI2, dAdd, dIx_ptr, lstOf_ptr hm', atI_1, atI_2, gIx, List.length_cons, List.length_nil, Nat.reduceAdd, i1, List.set_cons_succ, List.set_cons_zero]
    refine ⟨mulR (by decide) (by decide), by decide, mulL (by decide) (by decide), by decide, ?_⟩
    rw [em, List.set_set]
    refine take_rest b many a' _ (k + 1) ns _ q _ (List.getElem?_set_self hb) (Int.emod_nonneg _ (by decide)) (Int.emod_lt_of_pos _ (by decide)) ha' (by omega) hn h0 hz fun v c' h1 h2 h3 => ?_
    rw [List.set_set]
    exact h v c' h1 h2 h3
  rw [tk1, dSeq, dAugIx]
  simp only [dVar, slot, onS_mk, dC, lstOf_ptr hm, t2, List.getElem?_cons_succ, List.getElem?_cons_zero, dI0, List.length_cons, List.length_nil, Nat.reduceAdd, i2, List.set_cons_succ, List.set_cons_zero]
  refine ⟨by decide, ?_⟩
  rw [dSeq, dIf]
  have m1 : (m.set b (.lst [.int a, .int s, .int (k + 1), .lst (ns.map D.int)]))[b]? = some (.lst [.int a, .int s, .int (k + 1), .lst (ns.map D.int)]) := List.getElem?_set_self hb
  simp only [dTest, dBin, dVar, dC, dGe, slot, onS_mk, dB0, cond_dec]
  refine ⟨fun hbig => ?_, fun _ => ?_⟩
  · rw [dAsg]
    simp only [dVar, slot, onS_mk, gIx, dC, lstOf_ptr m1, List.length_cons, List.length_nil, Nat.reduceAdd, i0, List.set_cons_zero, List.set_set]
    exact seed cell _ rfl hc
  · rw [dNext]
    exact seed a _ rfl ha
theorem take_all (nm : List Str) (hnm : nm.length = 6) (ds : List D) (m : Sto) (q : D → Sto → Prop) (h : g_law_take ds m q) : tk0 { nx := fun _ m' => q .non m', rt := q } (startD nm ds) m := by
  unfold g_law_take at h
  obtain ⟨b, many, c, rfl, h0, hz, hm, ⟨a, s, k, ns, rfl, ha, hs, hs2, hk, hn⟩, h⟩ := h
  have est : startD nm [.ptr b, .int many] = [some (.ptr b), some (.int many), none, none, none, none] := by
    unfold startD
    rw [hnm]
    rfl
  have go : ∀ cell : Int, 0 ≤ cell → tk1 { nx := tk2 { nx := fun _ m' => q .non m', rt := q }, rt := q } [some (.ptr b), some (.int many), some (.int cell), none, none, none] m := fun cell hc =>
    take_cell b many a s k cell ns m q hm hs hs2 ha hk hn hc h0 hz h
  rw [est, tk0, dSeq, dIf]
  simp only [dTest, dBin, dVar, dC, slot, onS_mk, dIx_ptr, lstOf_ptr hm, atI_0, dEq, cond_dec]
  refine ⟨fun hp => ?_, fun hp => ?_⟩
  · rw [dSeq, dAsg]
    simp only [dC, gN, put]
    rw [dSeq, dIf]
    simp only [dTest, dBin, dVar, dC, dLt, slot, onS_mk, dIx_ptr, lstOf_ptr hm, atI_2, atI_3, dCallB, a1, dCons, dNil, dLen, seqL_lst, dB0, List.length_map, cond_dec]
    refine ⟨fun hlt => ?_, fun _ => ?_⟩
    · obtain ⟨j, rfl⟩ := Int.eq_ofNat_of_zero_le hk
      have hj : j < ns.length := by omega
      have hat : atI (ns.map D.int) (j : Int) = some (.int ns[j]) := atI_nat (by rw [List.getElem?_map, List.getElem?_eq_getElem hj]; rfl)
      rw [dAsg]
      simp only [dBin, dVar, slot, onS_mk, dC, dIx_ptr, lstOf_ptr hm, atI_2, atI_3, dIx_lst, hat, gN, put]
      exact go _ (hn _ (List.getElem_mem hj))
    · rw [dNext]
      exact go 0 (by decide)
  · rw [dNext]
    exact take_rest b many a s k ns m q none hm hs hs2 ha hk hn h0 hz h
end DL
namespace DL
open PySem PySem.Spec PyProof.Rows L2
theorem dvd_of_cop {a b c : Int} (h : a ∣ b * c) (g : Int.gcd b a = 1) : a ∣ c := by
  have h1 : a.natAbs ∣ b.natAbs * c.natAbs := by rw [← Int.natAbs_mul]; exact Int.natAbs_dvd_natAbs.mpr h
  have g1 : Nat.Coprime a.natAbs b.natAbs := by
    show Nat.gcd _ _ = 1
    rw [Nat.gcd_comm]; exact g
  exact Int.natAbs_dvd_natAbs.mp (Nat.Coprime.dvd_of_dvd_mul_left g1 h1)
theorem frac_unique {x y x' y' : Int} (hy : 0 < y) (hy' : 0 < y') (g : Int.gcd x y = 1) (g' : Int.gcd x' y' = 1) (e : x * y' = x' * y) : x = x' ∧ y = y' := by
  have d1 : y ∣ y' := dvd_of_cop (b := x) ⟨x', by rw [e, Int.mul_comm]⟩ g
  have d2 : y' ∣ y := dvd_of_cop (b := x') ⟨x, by rw [← e, Int.mul_comm]⟩ g'
  have l1 : y ≤ y' := Int.le_of_dvd hy' d1
  have l2 : y' ≤ y := Int.le_of_dvd hy d2
  have ey : y = y' := by omega
  subst ey
  exact ⟨Int.eq_of_mul_eq_mul_right (by omega) e, rfl⟩
theorem low_parts (t b : Int) (hb : b ≠ 0) : ∃ g t' b' : Int, 0 < g ∧ t = g * t' ∧ b = g * b' ∧ Int.gcd t' b' = 1 ∧ ((b < 0 ∧ lowT t b = -t' ∧ lowB t b = -b') ∨ (0 < b ∧ lowT t b = t' ∧ lowB t b = b')) := by
  have gp := gcd_pos t b hb
  obtain ⟨t', ht⟩ := Int.gcd_dvd_left (a := t) (b := b)
  obtain ⟨b', hb'⟩ := Int.gcd_dvd_right (a := t) (b := b)
  obtain ⟨g, hg⟩ : ∃ g : Nat, g = Int.gcd t b := ⟨_, rfl⟩
  have cop : Int.gcd t' b' = 1 := by
    have e1 : Int.gcd t b = Int.gcd (g * t') (g * b') := by rw [hg, ← ht, ← hb']
    rw [Int.gcd_mul_left, ← hg, Int.natAbs_natCast] at e1
    have : g * 1 = g * Int.gcd t' b' := by omega
    exact (Nat.eq_of_mul_eq_mul_left (by omega) this).symm
  refine ⟨g, t', b', by omega, by rw [hg]; exact ht, by rw [hg]; exact hb', cop, ?_⟩
  unfold lowT lowB
  rw [← hg] at gp ht hb' ⊢
  have can : ∀ z : Int, (g * z) / (g : Int) = z := fun z => Int.mul_ediv_cancel_left _ (by omega)
  have canN : ∀ z : Int, (-(g * z)) / (g : Int) = -z := fun z => by rw [← Int.mul_neg]; exact can _
  by_cases n : b < 0
  · refine .inl ⟨n, ?_, ?_⟩
    · rw [if_pos n, ht, canN]
    · rw [if_pos n, hb', canN]
  · refine .inr ⟨by omega, ?_, ?_⟩
    · rw [if_neg n, ht, can]
    · rw [if_neg n, hb', can]
theorem pos_of_mul {g b : Int} (h : 0 < g * b) (hg : 0 < g) : 0 < b := by
  by_cases n : 0 < b
  · exact n
  · have := Int.mul_nonneg (Int.le_of_lt hg) (show 0 ≤ -b by omega)
    rw [Int.mul_neg] at this
    omega
theorem low_ok (t b : Int) (hb : b ≠ 0) : 0 < lowB t b ∧ t * lowB t b = b * lowT t b ∧ Int.gcd (lowT t b) (lowB t b) = 1 := by
  obtain ⟨g, t', b', gp, ht, hb', cop, ⟨n, e1, e2⟩ | ⟨n, e1, e2⟩⟩ := low_parts t b hb
  · rw [e1, e2]
    refine ⟨pos_of_mul (g := g) (by rw [Int.mul_neg]; omega) gp, ?_, by rw [Int.neg_gcd, Int.gcd_neg]; exact cop⟩
    rw [ht, hb', Int.mul_neg, Int.mul_neg, Int.mul_assoc, Int.mul_assoc, Int.mul_comm t']
  · rw [e1, e2]
    refine ⟨pos_of_mul (g := g) (by omega) gp, ?_, cop⟩
    rw [ht, hb', Int.mul_assoc, Int.mul_assoc, Int.mul_comm t']
theorem cross_trans {t b x y u v : Int} (hb : b ≠ 0) (e : t * y = b * x) (e' : t * v = b * u) : x * v = u * y := by
  have h : b * (x * v) = b * (u * y) := by
    calc b * (x * v) = (b * x) * v := by rw [Int.mul_assoc]
      _ = (t * y) * v := by rw [e]
      _ = (t * v) * y := by rw [Int.mul_right_comm]
      _ = (b * u) * y := by rw [e']
      _ = b * (u * y) := by rw [Int.mul_assoc]
  exact Int.eq_of_mul_eq_mul_left hb h
/-- the only pair in lowest terms -/
theorem low_unique {t b x y : Int} (hb : b ≠ 0) (hy : 0 < y) (g : Int.gcd x y = 1) (e : t * y = b * x) : x = lowT t b ∧ y = lowB t b := by
  obtain ⟨h1, h2, h3⟩ := low_ok t b hb
  exact frac_unique hy h1 g h3 (cross_trans hb e h2)
theorem natAbs_div_le {a g : Int} (h : 0 < g) : (a / g).natAbs ≤ a.natAbs := Int.natAbs_ediv_le_natAbs a g
theorem low_small (t b : Int) (hb : b ≠ 0) : (lowT t b).natAbs ≤ t.natAbs ∧ (lowB t b).natAbs ≤ b.natAbs := by
  unfold lowT lowB
  have h1 := natAbs_div_le (a := if b < 0 then -t else t) (gcd_pos t b hb)
  have h2 := natAbs_div_le (a := if b < 0 then -b else b) (gcd_pos t b hb)
  constructor
  · split at h1 <;> rename_i n <;> simp only [n, if_true, if_false] <;> omega
  · split at h2 <;> rename_i n <;> simp only [n, if_true, if_false] <;> omega
theorem lowT_sm {t b : Int} {n : Nat} (hb : b ≠ 0) (h : Sm n t) : Sm n (lowT t b) := Sm.of (Nat.lt_of_le_of_lt (low_small t b hb).1 h.lt)
theorem lowB_sm {t b : Int} {n : Nat} (hb : b ≠ 0) (h : Sm n b) : Sm n (lowB t b) := Sm.of (Nat.lt_of_le_of_lt (low_small t b hb).2 h.lt)
theorem Sm.add {n : Nat} {i j : Int} (h : Sm n i) (h' : Sm n j) : Sm (n + 1) (i + j) := by
  have e : 2 ^ (n + 1) = 2 ^ n + 2 ^ n := by rw [Nat.pow_succ]; omega
  unfold Sm at *
  rw [e]
  omega
theorem Sm.sub {n : Nat} {i j : Int} (h : Sm n i) (h' : Sm n j) : Sm (n + 1) (i - j) := by
  have e : 2 ^ (n + 1) = 2 ^ n + 2 ^ n := by rw [Nat.pow_succ]; omega
  unfold Sm at *
  rw [e]
  omega
theorem forD_ind {g : DG} {tb : DS} {d : DEnds} {ok : Sto → Prop} (I : List D → DSt → Sto → Prop)
    (step : ∀ x xs r m (N : DSt → Sto → Prop), I (x :: xs) r m → (∀ r' m', I xs r' m' → N r' m') → g x r m fun r1 m1 => tb { d with nx := N, ct := N, bk := d.nx } r1 m1)
    (hok : ∀ xs r m, I xs r m → ok m) (fin : ∀ r m, I [] r m → d.nx r m) (xs : List D) (r : DSt) (m : Sto) (h : I xs r m) : forD g tb d ok xs r m := by
  have go : ∀ xs r m, I xs r m → forD0 g tb d ok xs r m := fun xs => by
    induction xs with
    | nil => exact fun r m h => fin r m h
    | cons x xs ih => exact fun r m h => step x xs r m _ h fun r' m' h' => ⟨hok _ _ _ h', ih r' m' h'⟩
  rw [forD_eq]
  exact go xs r m h
end DL
namespace DL
open PySem PySem.Spec PyProof.Rows L2
variable [Cl] [Lk]
section
variable {X : Cx} {pos p2 : Pos} {a b c e o : Expr} {ta tb tc te to : DE}
def isNon : D → Bool
  | .non => true
  | _ => false
def dIsN : F2
  | x, .non, m, q => q (.bl (isNon x)) m
  | _, _, _, _ => False
theorem isNon_v {K : PySem.W.Frag} {W : Wd} {x : V} {d : D} (r : R K W x d) : decide (x = .non) = isNon d := by
  cases r <;> simp [isNon]
theorem o_isN {K : PySem.W.Frag} : Op2 K dIsN (fun x y H Q => y = .non ∧ Q (.bl (decide (x = .non))) H) := by
  intro W F H m x y d e q Q rel rx ry h k
  cases e with
  | non =>
    cases ry
    refine ⟨rfl, ?_⟩
    rw [isNon_v rx]
    exact k _ _ _ _ _ (.refl _) rel (.bl _) h
  | _ => exact h.elim
theorem jt_isN (ha : JE X a ta) (hb : JE X b tb) : JT X (.Compare a [.Is] [b] pos) (dTest (dBin dIsN ta tb)) := jt_cmp op_isN o_isN ha hb (nobehind _ (by decide) (by decide))
theorem units65 {k : Nat} {A : Around} (hr : Room k A) : A.units + 65 < cLine := by have := hr.un; omega
end
theorem bt {A B : Prop} (h : A) : (true = true → A) ∧ (true = false → B) := ⟨fun _ => h, (fun z => nomatch z)⟩
theorem bf {A B : Prop} (h : B) : (false = true → A) ∧ (false = false → B) := ⟨(fun z => nomatch z), fun _ => h⟩
theorem bb {b : Bool} {A B : Prop} (h1 : b = true → A) (h2 : b = false → B) : (b = true → A) ∧ (b = false → B) := ⟨h1, h2⟩
end DL
namespace DL
open PySem PySem.Spec PyProof.Rows L2
variable [Cl] [Lk]
structure Pd (k c : Nat) (v : PyData) : Prop where
  lay : v.canLay0 = true
  dep : v.depth ≤ k
  sho : v.showable = true
  len : v.shown.length ≤ c
theorem Pd.mono {k c k' c' : Nat} {v : PyData} (h : Pd k c v) (hk : k ≤ k') (hc : c ≤ c') : Pd k' c' v := ⟨h.lay, Nat.le_trans h.dep hk, h.sho, Nat.le_trans h.len hc⟩
def Gd (k c : Nat) (d : D) : Prop := ∃ v, py0 d = some v ∧ Pd k c v
theorem Gd.mono {k c k' c' : Nat} {d : D} (h : Gd k c d) (hk : k ≤ k') (hc : c ≤ c') : Gd k' c' d := let ⟨v, e, p⟩ := h; ⟨v, e, p.mono hk hc⟩
theorem log2_lt {a n k : Nat} (h : a < 2 ^ n) (hk : 0 < k) (hn : n ≤ k) : a.log2 < k := by
  by_cases z : a = 0
  · subst z; simpa using hk
  · exact (Nat.log2_lt z).mpr (Nat.lt_of_lt_of_le h (Nat.pow_le_pow_right (by decide) hn))
theorem gd_int {i : Int} {n : Nat} (h : Sm n i) (hn : n ≤ 1900) : Gd 0 (n + 3) (.int i) := by
  refine ⟨.int i, rfl, rfl, Nat.le_refl _, ?_, ?_⟩
  · exact decide_eq_true (log2_lt h.lt (by decide) (by omega))
  · have h1 := int_text_length_le (a := i) (k := n + 1) (by omega) (log2_lt h.lt (by omega) (by omega))
    show (Str.ofString (toString i)).length ≤ _
    rw [PySem.ofString_length]
    omega
theorem gd_non : Gd 0 5 .non := ⟨.none, rfl, rfl, Nat.le_refl _, rfl, by decide⟩
theorem gd_bl {b : Bool} : Gd 0 5 (.bl b) := ⟨.bool b, rfl, rfl, Nat.le_refl _, rfl, by cases b <;> decide⟩
theorem gd_all {k c : Nat} : ∀ {ds : List D}, (∀ d ∈ ds, Gd k c d) → ∃ vs, py0A ds = some vs ∧ PyData.canLayAll0 vs = true ∧ PyData.depthAll vs ≤ k ∧ PyData.showableAll vs = true ∧ ((PyData.shownAll vs).map (·.length)).sum ≤ c * ds.length ∧ (PyData.shownAll vs).length = ds.length
  | [], _ => ⟨[], rfl, rfl, Nat.zero_le _, rfl, Nat.le_refl _, rfl⟩
  | d :: ds, h => by
    obtain ⟨v, e, p⟩ := h d List.mem_cons_self
    obtain ⟨vs, e2, h1, h2, h3, h4, h5⟩ := gd_all fun x hx => h x (List.mem_cons_of_mem _ hx)
    refine ⟨v :: vs, by simp only [py0A, e, e2], ?_, ?_, ?_, ?_, ?_⟩
    · simp only [PyData.canLayAll0, p.lay, h1, Bool.and_self]
    · simp only [PyData.depthAll]; have := p.dep; omega
    · simp only [PyData.showableAll, p.sho, h3, Bool.and_self]
    · simp only [PyData.shownAll, List.map_cons, List.sum_cons, List.length_cons]
      have := p.len
      rw [Nat.mul_add]
      omega
    · simp only [PyData.shownAll, List.length_cons, h5]
theorem gd_tup {k c : Nat} {ds : List D} (h : ∀ d ∈ ds, Gd k c d) : Gd (k + 1) ((c + 2) * ds.length + 3) (.tup ds) := by
  obtain ⟨vs, e2, h1, h2, h3, h4, h5⟩ := gd_all h
  refine ⟨.tuple vs, by simp only [py0, e2, Option.map_some], by simpa only [PyData.canLay0] using h1, by simp only [PyData.depth]; omega, by simpa only [PyData.showable] using h3, ?_⟩
  have := tupleText_len_le (PyData.shownAll vs)
  simp only [PyData.shown]
  rw [Nat.add_mul]
  omega
theorem gd_lstP {k c : Nat} {ds : List D} (h : ∀ d ∈ ds, Gd k c d) : ∃ v, (py0A ds).map PyData.list = some v ∧ Pd (k + 1) ((c + 2) * ds.length + 3) v := by
  obtain ⟨vs, e2, h1, h2, h3, h4, h5⟩ := gd_all h
  refine ⟨.list vs, by simp only [e2, Option.map_some], by simpa only [PyData.canLay0] using h1, by simp only [PyData.depth]; omega, by simpa only [PyData.showable] using h3, ?_⟩
  have := listText_len_le (PyData.shownAll vs)
  simp only [PyData.shown]
  rw [Nat.add_mul]
  omega
theorem gd_lst {k c : Nat} {ds : List D} (h : ∀ d ∈ ds, Gd k c d) : Gd (k + 1) ((c + 2) * ds.length + 3) (.lst ds) := by
  obtain ⟨v, e, p⟩ := gd_lstP h
  exact ⟨v, by simpa only [py0] using e, p⟩
theorem py_of {m : Sto} {d : D} {v : PyData} (h : py0 d = some v) : py m d = some v := by
  cases d <;> first | exact h | cases h
theorem py_ptr {m : Sto} {i : Nat} {ds : List D} (h : m[i]? = some (.lst ds)) : py m (.ptr i) = (py0A ds).map PyData.list := by
  simp only [py, h]
theorem py_lst {m : Sto} {ds : List D} : py m (.lst ds) = (py0A ds).map PyData.list := by simp only [py, py0]
theorem pd_shaped {c : Nat} {v : PyData} (p : Pd 60 c v) : SeqAt.shaped v = true := by
  show (v.canLay0 && decide (v.depth ≤ 64)) = true
  rw [p.lay, decide_eq_true (by have := p.dep; omega)]
  rfl
theorem eqG_py {x y : D} {m : Sto} {a b : PyData} {neg : Bool} {q : D → Sto → Prop} {c c' : Nat} (hx : py m x = some a) (hy : py m y = some b) (pa : Pd 60 c a) (pb : Pd 60 c' b) (h : q (.bl (if neg then !PyData.eqv a b else PyData.eqv a b)) m) : dEqG neg x y m q := by
  unfold dEqG
  rw [hx, hy]
  exact ⟨pd_shaped pa, pd_shaped pb, h⟩
theorem eqv_int {i j : Int} : PyData.eqv (.int i) (.int j) = decide (i = j) := by simp [PyData.eqv]; rfl
theorem eqv_bl {i j : Bool} : PyData.eqv (.bool i) (.bool j) = decide (i = j) := by cases i <;> cases j <;> rfl
theorem eqv_str {i j : Str} : PyData.eqv (.str i) (.str j) = decide (i = j) := by
  simp only [PyData.eqv]
  by_cases h : i = j
  · subst h; simp
  · rw [decide_eq_false h]; exact beq_eq_false_iff_ne.mpr h
theorem dNe_py {x y : D} {m : Sto} {a b : PyData} {q : D → Sto → Prop} {c c' : Nat} (hx : py m x = some a) (hy : py m y = some b) (pa : Pd 60 c a) (pb : Pd 60 c' b) (h : q (.bl (!PyData.eqv a b)) m) : dNe x y m q := by
  unfold dNe
  split
  · cases hx; cases hy
    rw [eqv_int] at h; exact h
  · cases hx; cases hy
    rw [eqv_bl] at h; exact h
  · cases hx; cases hy
    rw [eqv_str] at h; exact h
  · exact eqG_py hx hy pa pb h
theorem dNe_same {x y : D} {m : Sto} {v : PyData} {q : D → Sto → Prop} {c : Nat} (hx : py m x = some v) (hy : py m y = some v) (p : Pd 60 c v) (h : q (.bl false) m) : dNe x y m q := by
  refine dNe_py hx hy p p ?_
  rw [SeqAt.eqv_refl v p.lay]
  exact h
theorem dRepr_i {x : D} {m : Sto} {v : PyData} {q : D → Sto → Prop} (hx : py m x = some v) (p : Pd 60 sizeLine v) (h : q (.str v.shown) m) : dRepr [x] m q := by
  show onS (py m x) _
  rw [hx]
  exact ⟨p.sho, PyData.hasDict_of_canLay v p.lay, p.dep, p.len, h⟩
theorem lc_ind {i : Nat} {te : DE} {ok : Sto → Prop} {r : DSt} {q : List D → Sto → Prop} (I : List D → List D → Sto → Prop)
    (step : ∀ x xs acc m (N : D → Sto → Prop), I (x :: xs) acc m → (∀ y m', I xs (acc ++ [y]) m' → N y m') → te (put r i x) m N)
    (hok : ∀ xs acc m, I xs acc m → ok m) (fin : ∀ acc m, I [] acc m → q acc m) (ds acc : List D) (m : Sto) (h : I ds acc m) : lcI i dYes te ok ds r acc m q := by
  have go : ∀ ds acc m, I ds acc m → lcD i dYes te ok ds r acc m q := fun ds => by
    induction ds with
    | nil => exact fun acc m h => fin acc m h
    | cons x xs ih => exact fun acc m h => ⟨fun _ => step x xs acc m _ h fun y m' h' => ⟨hok _ _ _ h', ih _ _ h'⟩, fun z => by cases z⟩
  rw [lcI_eq]
  exact go ds acc m h
theorem lc_indT {i : Nat} {tt : DT} {te : DE} {ok : Sto → Prop} {r : DSt} {q : List D → Sto → Prop} (I : List D → List D → Sto → Prop)
    (step : ∀ x xs acc m (N : D → Sto → Prop) (N0 : Sto → Prop), I (x :: xs) acc m → (∀ y m', I xs (acc ++ [y]) m' → N y m') → (∀ m', I xs acc m' → N0 m') → tt (put r i x) m fun b m1 => (b = true → te (put r i x) m1 N) ∧ (b = false → N0 m1))
    (hok : ∀ xs acc m, I xs acc m → ok m) (fin : ∀ acc m, I [] acc m → q acc m) (ds acc : List D) (m : Sto) (h : I ds acc m) : lcI i tt te ok ds r acc m q := by
  have go : ∀ ds acc m, I ds acc m → lcD i tt te ok ds r acc m q := fun ds => by
    induction ds with
    | nil => exact fun acc m h => fin acc m h
    | cons x xs ih => exact fun acc m h => step x xs acc m _ _ h (fun y m' h' => ⟨hok _ _ _ h', ih _ _ h'⟩) (fun m' h' => ⟨hok _ _ _ h', ih _ _ h'⟩)
  rw [lcI_eq]
  exact go ds acc m h
theorem sm_le {v : Int} (n : Nat) (h1 : -(2 ^ n) < v) (h2 : v < 2 ^ n) : Sm n v := Sm.of (by
  have e : ((2 ^ n : Nat) : Int) = (2 : Int) ^ n := by rw [Int.natCast_pow]; rfl
  omega)
theorem nilA : (py0A []).map PyData.list = some (.list []) := by simp only [py0A, Option.map_some]
theorem py_nil {m : Sto} : py m (.lst []) = some (.list []) := by simp only [py, py0, py0A, Option.map_some]
theorem pd_nil : Pd 1 2 (.list []) := ⟨rfl, by decide, rfl, by decide⟩
/-- a list with something in it is not the empty one -/
theorem eqv_nil {ds : List D} {v : PyData} (hne : ds ≠ []) (e : (py0A ds).map PyData.list = some v) : PyData.eqv v (.list []) = false := by
  obtain ⟨d, es, rfl⟩ := List.exists_cons_of_ne_nil hne
  simp only [Option.map_eq_some_iff] at e
  obtain ⟨ps, e1, rfl⟩ := e
  cases ps with
  | nil =>
    exfalso
    unfold py0A at e1
    split at e1 <;> cases e1
  | cons a as => rfl
end DL
namespace DL
open PySem PySem.Spec PyProof.Rows L2
variable [Cl] [Lk]
/-- a comprehension that maps -/
theorem lc_map {i : Nat} {te : DE} {ok : Sto → Prop} {r : DSt} {q : List D → Sto → Prop} {ds : List D} {m : Sto} (f : D → D) (hte : ∀ x ∈ ds, ∀ N : D → Sto → Prop, N (f x) m → te (put r i x) m N) (hok : ok m) (k : q (ds.map f) m) : lcI i dYes te ok ds r [] m q := by
  refine lc_ind (fun xs acc m' => m' = m ∧ (∀ x ∈ xs, x ∈ ds) ∧ acc ++ xs.map f = ds.map f) ?_ ?_ ?_ _ _ _ ⟨rfl, fun x hx => hx, rfl⟩
  · rintro x xs acc m' N ⟨rfl, hx, e⟩ kk
    exact hte x (hx x List.mem_cons_self) N (kk _ _ ⟨rfl, fun y hy => hx y (List.mem_cons_of_mem _ hy), by rw [List.append_assoc]; exact e⟩)
  · rintro xs acc m' ⟨rfl, _⟩
    exact hok
  · rintro acc m' ⟨rfl, _, e⟩
    rw [List.map_nil, List.append_nil] at e
    rw [e]
    exact k
theorem py_seq {x : D} {m : Sto} {ds : List D} (h : seqL x m = some ds) : py m x = (py0A ds).map PyData.list := by
  cases x with
  | lst es => cases h; exact py_lst
  | fz es => cases h; simp only [py, py0]
  | ptr i =>
    have h' : lstOf (.ptr i) m = some ds := h
    unfold lstOf at h'
    cases q : m[i]? with
    | none => simp only [q] at h'; cases h'
    | some c => cases c with
      | dead => simp only [q] at h'; cases h'
      | exc _ _ => simp only [q] at h'; cases h'
      | dic ds => simp only [q] at h'; cases h'
      | ins c fs => simp only [q] at h'; cases h'
      | lst es => simp only [q] at h'; cases h'; exact py_ptr q
  | _ => cases h
end DL
namespace DL
open PySem PySem.Spec PyProof.Rows L2
/-- what is raised: its class's name, its fields -/
structure Exn where
  c : Str
  f : List (Str × D)
abbrev FNX := List D → Sto → (D → Sto → Prop) → (Exn → Sto → Prop) → Prop
abbrev WD := Exn → DSt → Sto → Prop
variable [Cl]
def RX (K : PySem.W.Frag) (W : Wd) (cls : Value) (d : Option Addr) (ex : Exn) : Prop :=
  ∃ C, Cl.ad ex.c = some C ∧ cls = .ref C ∧ ((ex.f = [] ∧ d = none) ∨ ∃ dd fs, d = some dd ∧ W.st dd = some (.xd fs) ∧ RF K W fs ex.f)
theorem RX.mono {K : PySem.W.Frag} {W W' : Wd} {cls : Value} {d : Option Addr} {ex : Exn} (l : W.Le W') (h : RX K W cls d ex) : RX K W' cls d ex := by
  obtain ⟨C, h1, h2, h⟩ := h
  refine ⟨C, h1, h2, ?_⟩
  rcases h with h | ⟨dd, fs, e, h, r⟩
  · exact .inl h
  · exact .inr ⟨dd, fs, e, l.st _ _ h, r.mono l⟩
def FolX (K : PySem.W.Frag) (W : Wd) (F : Hp) (xq : Exn → Sto → Prop) (E : XK) : Prop := ∀ W' H' m' cls d ex, W.Le W' → Rel0 K W' F H' m' → RX K W' cls d ex → xq ex m' → E cls d H'
def spOfX (K : PySem.W.Frag) (n : Nat) (f : FNX) : Sp := fun vs H Q E => vs.length = n ∧ ∃ (W : Wd) (F : Hp) (m : Sto) (ds : List D) (q : D → Sto → Prop) (xq : Exn → Sto → Prop), Rel0 K W F H m ∧ RA K W vs ds ∧ f ds m q xq ∧ Fol0 K W F q Q ∧ FolX K W F xq E
structure KnX (P : Program) (w : World) (K : PySem.W.Frag) (mg : Str → Option Value) (base : Heap) (k : Nat) (x : Str) (f : FNX) : Prop where
  ex : ∃ (n : Nat) (fa : Addr) (fd : FuncData) (ps : List Str), FnG P w K mg base k fa fd ps (spOfX K n f) ∧ mg x = some (.ref fa) ∧ PySem.W.keepIn K (.ref fa) = true ∧ Binds K fd ps [] ∧ ∀ ds m q xq, f ds m q xq → ds.length = n
section
variable [Lk]
/-- a wish about what is raised -/
def liftW (K : PySem.W.Frag) (w : WD) : WX := fun cls d σ H => ∃ (W : Wd) (m : Sto) (r : DSt) (ex : Exn), Lk.W0.Le W ∧ Rel0 K W Lk.F0 H m ∧ RSt K W σ r ∧ RX K W cls d ex ∧ w ex r m
def TakesD (X : Cx) (w : WD) : Prop := Takes X (liftW X.K w)
/-- a call that may raise -/
def dCallX (f : FNX) (w : WD) (ta : DA) : DE := fun r m q => ta r m fun xs m1 => f xs m1 q fun ex m2 => w ex r m2
section
variable {X : Cx} {pins : List (Addr × Obj)} {σ : L2.St} {H : Hp} {s : Shared} {Q : VK} {us : List Value} {vs : List V} {k j : Nat} {fa : Addr} {fd : FuncData} {ps : List Str} {sp : Sp} {E : XK}
theorem run_gS (F : FnG X.prog X.w X.K X.mg X.base k fa fd ps sp) (hr : Room k X.A) (gd : X.A.guards = some []) (hb : Binds X.K fd ps []) (hx : PassesAt (L2.CX X.prog X.w) X σ E) (I : Inv X pins σ H s) (r : Vals vs us) (h : sp vs H Q E) :
    wpAny (model X.prog X.w) X.A (call (.ref fa) us) (EP X pins σ Q) X.xe s := by
  have nn : us.length = ps.length := by rw [← r.length]; exact F.len _ _ _ _ h
  have bnd : BindsTo s fd ⟨us, []⟩ (ps.zip us) := by
    have z := hb s us I.kIn (by rw [List.append_nil]; exact nn)
    rw [List.append_nil] at z
    exact z
  have go := F.run X.A X.stack s H ⟨us, []⟩ us vs Q E hr gd I.env0 bnd r h
  refine wpAny_call (codeAny_mono go ?_)
  intro res s' hq
  match res, hq with
  | .error e, hq => exact hx pins H s e s' I hq
  | .ok (.ret u), hq => exact I.after hq
  | .ok .next, hq => exact hq.elim
  | .ok .brk, hq => exact hq.elim
  | .ok .cont, hq => exact hq.elim
variable {x : Str} {p pos : Pos} {e : Expr} {es : List Expr} {t : DA} {f : FNX} {w : WD}
theorem je_callX (c : KnX X.prog X.w X.K X.mg X.base k x f) (tk : TakesD X w) (hr : Room j X.A) (hk : k ≤ j) (gd : X.A.guards = some []) (hg : Gl X x) (ha : JA X (e :: es) t) (hdb : (x == ("__debug__" : Str)) = false := by decide)
    (he : starEach (e :: es) X.env = (false, eval e X.env) :: starEach es X.env := by rfl) (hpl : (backTo pos (starEach es X.env)).any (·.1) = false := by rfl) : JE X (.Call (.Name x p) (e :: es) [] pos) (dCallX f w t) := by
  obtain ⟨n, fa, fd, ps, F, hm, kp, hb, har⟩ := c.ex
  refine ⟨fun pins s sg H Q I h => wpAny_Call_Name_kw (ld_glob I hg hm ?_ hdb)⟩
  obtain ⟨W, F', m, r, q, rel, rs, h, kk⟩ := h
  refine PySem.W.callWith_K (h₀ := X.base) I.ok.mod.kin kp ?_ he hpl
  refine thn (ha.run pos pins s sg H (fun vs H1 => spOfX X.K n f vs H1 Q (WE (liftW X.K w) sg)) I ?_) ?_
  · refine ⟨W, F', m, r, _, rel, rs, h, fun W1 H1 m1 vs ds l1 rel1 ra hf => ?_⟩
    refine ⟨by rw [ra.len]; exact har _ _ _ _ hf, W1, F', m1, ds, q, _, rel1.toRel0, ra, hf, fun W2 H2 m2 v d l2 rel2 => kk W2 H2 m2 v d (l1.trans l2) (rel1.of l2 rel2), fun W2 H2 m2 cls d ex l2 rel2 rx hw => ?_⟩
    exact ⟨W2, m2, r, ex, rel1.lw.trans l2, rel2.less rel1.lf, rs.mono (l1.trans l2), rx, hw⟩
  · intro us s1 ⟨vs, H1, I1, r, q⟩
    exact ⟨I1.kIn, run_gS F (hr.mono hk) gd hb (passAt tk sg) I1 r q⟩
end
end
section
variable {P : Program} {w : World} {K : PySem.W.Frag} {mg : Str → Option Value} {base : Heap}
theorem defGX {x qual : Str} {st : Stmt} {f : Addr} {fd : FuncData} {N ps : List Str} {k n : Nat} {t : WD → DS} {g : FNX} (F : L2.Fun K x qual st f fd) (S : FnScope N ps (defScope st)) (hn : ps.length = n)
    (body : ∀ [Lk] (wd : WD) (cdv : Value) (A : Around) (outer : List Env) (s : Shared) (H : Hp) (E : XK), Room k (A.deeper (envOfC qual (defScope st) s.heap.objs.size f cdv)) → A.guards = some [] →
      TakesD (cxOf (L2.CX P w) P w K mg base N qual (defScope st) f cdv A outer s H E) wd → JSs (cxOf (L2.CX P w) P w K mg base N qual (defScope st) f cdv A outer s H E) (defBody st) (t wd))
    (h : ∀ ds m q xq, ds.length = n → g ds m q xq → t (fun ex _ m' => xq ex m') { nx := fun _ m' => q .non m', rt := q } (startD N ds) m) : FnG P w K mg base (k + 1) f fd ps (spOfX K n g) := by
  refine fnG F S (fun vs H Q E z => z.1.trans hn.symm) fun cdv A outer s H vs Q E hr gd z => ?_
  obtain ⟨hl, W, F', m, ds, q, xq, rel, ra, hg, kk, kx⟩ := z
  letI : Lk := ⟨W, F'⟩
  refine ⟨liftS K (t fun ex _ m' => xq ex m'), body _ cdv A outer s H E hr gd ?_, ?_⟩
  · refine (takes_of (E := E) rfl rfl rfl rfl).imp fun cls d σ H' h => ?_
    obtain ⟨W1, m1, r1, ex, l1, rel1, _, rx, hx⟩ := h
    exact kx W1 H' m1 cls d ex l1 rel1 rx hx
  refine ⟨W, F', m, startD N ds, _, ⟨rel, .refl _, Same.refl _⟩, start_rst ra, h ds m q xq (by rw [← ra.len]; exact hl) hg, ⟨?_, ?_, ?_, ?_⟩⟩
  · exact fun W' H' m' _ _ l rel' _ hq => kk W' H' m' _ _ l rel'.toRel0 .non hq
  · exact fun W' H' m' v d l rel' rv hq => kk W' H' m' v d l rel'.toRel0 rv hq
  · exact fun _ _ _ _ _ _ _ _ z => z
  · exact fun _ _ _ _ _ _ _ _ z => z
theorem knX_of {x : Str} {st : Stmt} {f : Addr} {fd : FuncData} {ps : List Str} {k n : Nat} {g : FNX} (F : L2.Fun K x x st f fd) (hm : mg x = some (.ref f)) (b : Binds K fd ps []) (G : FnG P w K mg base k f fd ps (spOfX K n g)) (ar : ∀ ds m q xq, g ds m q xq → ds.length = n) : KnX P w K mg base k x g :=
  ⟨n, f, fd, ps, G, hm, F.kp, b, ar⟩
end
theorem pe_ceinit {X : Cx} {nm : Str} {CE : Addr} {e : Expr} {es : List Expr} {ta : TA} {p1 p2 pos : Pos} {pl : Sem Bool} (hg : Gl X nm) (hm : X.mg nm = some (.ref CE)) (ga : PySem.W.specialIn X.K (.ref CE) "__getattribute__" = some (some (.builtin "type.__getattribute__")))
    (rd : PySem.W.readsIn X.K CE (.type "type") = true) (vV : PySem.W.findCls X.K (.ref CE) (.type "type") "__init__" = some (.val (.builtin "ValueError.__init__"))) (ha : PA X (e :: es) ta)
    (hc : eval (.Call (.Attribute (.Name nm p1) "__init__" p2) (e :: es) [] pos) X.env = (do
      let ov ← eval (.Name nm p1) X.env
      standAt p2.atName
      let (f, first) ← holding [ov] (getMethod ov "__init__" pl)
      callWith pos f first (backTo pos (starEach (e :: es) X.env)) (backToKw pos (keywordEach [] X.env))) := by rfl)
    (he : starEach (e :: es) X.env = (false, eval e X.env) :: starEach es X.env := by rfl) (hpl : (backTo pos (starEach es X.env)).any (·.1) = false := by rfl) (hdb : (nm == ("__debug__" : Str)) = false := by decide) :
    PE X (.Call (.Attribute (.Name nm p1) "__init__" p2) (e :: es) [] pos) (tVeI X.K ta) := ⟨fun pins s σ H Q I h => by
  refine PySem.W.methodCall_KW (ld_glob I hg hm ?_ hdb) hc
  refine PySem.W.method_cls I.kIn ga (PySem.W.cls_value I.kIn rd vV (by decide +kernel) ?_)
  refine PyProof.Rows.callWith_method1 (thn (ha.run pos pins _ σ H _ (I.tok _) h) ?_) he hpl
  rintro us s1 ⟨vs, H1, I1, r1, a, C, ws, rfl, hl, T, ea, q⟩
  obtain ⟨u0, ur, rfl, ra, rr⟩ : ∃ u0 ur, us = u0 :: ur ∧ RelV (.ref a) u0 ∧ Vals ws ur := by
    cases r1 with
    | cons h1 h2 => exact ⟨_, _, rfl, h1, h2⟩
  cases (show u0 = Value.ref a from ra)
  exact oinit_ok T I1 ea (by rw [← Paired.length rr, sizeLine_eq]; omega) fun s' J => ⟨.non, H1, J, rfl, q⟩⟩
/-- __init__(self, v): C.__init__(self, text); self.f = v -/
def sp1 (C : Addr) (f : Str) : Sp := fun vs H Q _ => ∃ a v, vs = [.ref a, v] ∧ H a = some (exo a C none) ∧ ∀ dx, H dx = none → dx ≠ a → Q .non (upd (upd H dx (exd dx [(f, v)])) a (exo a C (some dx)))
/-- __init__(self): C.__init__(self, text) -/
def sp0 (C : Addr) : Sp := fun vs H Q _ => ∃ a, vs = [.ref a] ∧ H a = some (exo a C none) ∧ Q .non H
/-- the facts about the class at C that are looked up -/
structure ExF (K : PySem.W.Frag) (C : Addr) : Prop where
  ox : OexC K C
  xf : XfC K C
  cl : (PySem.W.clsIn K C).isSome = true
  ca : PySem.W.findIn K (.ref C) "__class__" = some (some (.builtin "object.__class__"))
  cn : PySem.W.specialIn K (.builtin "object.__class__") "__get__" = some (some (.builtin "getset_descriptor.__get__"))
  ct : PySem.W.takesIn K (.builtin "object.__class__") = some true
  cm : PySem.W.mroIn K C (.type "object") = some true
structure XK1 (P : Program) (w : World) (K : PySem.W.Frag) (mg : Str → Option Value) (base : Heap) (c f : Str) : Prop where
  ex : ∃ (C fI : Addr) (fd : FuncData) (ps : List Str), Cl.ad c = some C ∧ mg c = some (.ref C) ∧ ExF K C ∧ PySem.W.findIn K (.ref C) "__init__" = some (some (.ref fI)) ∧ PySem.W.typeIn K (.ref fI) = some (.type "function") ∧
    FnOk P w K mg base (L2.CX P w) 1 fI fd ps (sp1 C f) ∧ Binds K fd ps []
structure XK0 (P : Program) (w : World) (K : PySem.W.Frag) (mg : Str → Option Value) (base : Heap) (c : Str) : Prop where
  ex : ∃ (C fI : Addr) (fd : FuncData) (ps : List Str), Cl.ad c = some C ∧ mg c = some (.ref C) ∧ ExF K C ∧ PySem.W.findIn K (.ref C) "__init__" = some (some (.ref fI)) ∧ PySem.W.typeIn K (.ref fI) = some (.type "function") ∧
    FnOk P w K mg base (L2.CX P w) 1 fI fd ps (sp0 C) ∧ Binds K fd ps []
section
variable {X : Cx} {pins : List (Addr × Obj)} {σ : L2.St} {H1 H2 : Hp} {Q : XK}
theorem mk_bare {hp hp2 h2 : Heap} {g1 g2 : Array GenState} {d1 d2 : Drawn} {t1 t2 : Nat} {os1 os2 : OsState} {a C : Addr} (T : Raises X (.ref C)) (I1 : Inv X pins σ H1 ⟨hp, g1, d1, t1, os1⟩)
    (ha : hp.objs.size ≤ a) (k : ∀ b o, hp.get? b = some o → hp2.get? b = some o) (un : Un (frs X.stack) [] (upd H1 a (exo a C none)) (upd H1 a (exo a C none)) hp2 h2) (hok : HOk X.prog X.w (upd H1 a (exo a C none)) h2) (ho : os2 = os1) (hb : AllBare g2)
    (q : Q (.ref C) none H1) : MkP X pins σ Q (.ref a) ⟨h2, g2, d2, t2, os2⟩ := by
  have hn : H1 a = none := I1.hok.fresh ha
  obtain ⟨t0, hoe⟩ := exo_at hok (upd_same (H := H1) (a := a) (o := exo a C none))
  obtain ⟨G, g1', g2'⟩ := restrict h2 fun b => decide (b ≠ a)
  have gk : ∀ {b}, b ≠ a → G.get? b = h2.get? b := fun {b} z => g1' b (decide_eq_true z)
  have ge : G.get? a = none := g2' a (by simp)
  have nh : ∀ {b : Addr} {o : Obj}, hp.get? b = some o → b ≠ a := fun {b o} z y => absurd (Heap.lt_size z) (by rw [y]; exact Nat.not_lt.mpr ha)
  have up : ∀ {b : Addr}, b ≠ a → upd H1 a (exo a C none) b = H1 b := fun {b} z => upd_ne z
  have U : Un (frs X.stack) [] H1 H1 hp G := by
    constructor
    · intro b o z n hf hx
      exact (gk (nh z)).trans (un.keep b o (k b o z) ((up (nh z)).trans n) hf hx)
    · intro b o z n hf hx
      obtain ⟨sl, y⟩ := un.slot b o (k b o z) ((up (nh z)).trans n) hf hx
      exact ⟨sl, (gk (nh z)).trans y⟩
    · intro b o z n hx
      exact n
    · intro b o z hx
      obtain ⟨o', y⟩ := un.there b o (k b o z) hx
      exact ⟨o', (gk (nh z)).trans y⟩
    · exact fun b xs z => z
    · exact fun b o v z => z
    · exact fun b ps z => ⟨#[], by rw [z]; simp⟩
  have ok3 : HOk X.prog X.w H1 G := by
    intro b o z
    have ba : b ≠ a := fun y => by rw [y, hn] at z; cases z
    refine (hok b o ((up ba).trans z)).stay (fun c v hc y => ?_) (fun c hc => ?_) (fun c xs hc => ?_)
    · have ca : c ≠ a := by
        rcases hc with hc | hc
        · rw [hc]; exact ba
        · intro y; rw [y, upd_same] at hc; exact exo_own (Option.some.inj hc)
      exact (gk ca).trans y
    · by_cases ca : c = a
      · rw [ca, upd_same] at hc; exact absurd (Option.some.inj hc) exo_own
      · exact (up ca).symm.trans hc
    · by_cases ca : c = a
      · rw [ca, upd_same] at hc; exact absurd (Option.some.inj hc) exo_tup
      · exact (up ca).symm.trans hc
  have J : Inv X pins σ H1 ⟨G, g2, d2, t2, os2⟩ := I1.call' (ch := []) ho U ok3 hb (fun b z => absurd z (by simp))
  refine ⟨a, _, _, ⟨G, g2, d2, t2, os2⟩, _, .ref C, none, rfl, J, fun b o z => ?_, ge, hoe, ⟨rfl, rfl⟩, rfl, rfl, hn, rfl, hb, T, q⟩
  by_cases ba : b = a
  · rw [ba] at z
    have z' : G.get? a = some o := z
    rw [ge] at z'; cases z'
  · exact (gk ba).symm.trans z
theorem pmk_bare {x : Str} {C fI : Addr} {k : Nat} {fd : FuncData} {ps : List Str} {p pos : Pos} (T : OexC X.K C) (iC : PySem.W.findIn X.K (.ref C) "__init__" = some (some (.ref fI))) (tI : PySem.W.typeIn X.K (.ref fI) = some (.type "function"))
    (F1 : FnOk X.prog X.w X.K X.mg X.base (L2.CX X.prog X.w) k fI fd ps (sp0 C)) (hr : Room (k + 1) X.A) (hb : Binds X.K fd ps []) (hg : Gl X x) (hm : X.mg x = some (.ref C)) (hdb : (x == ("__debug__" : Str)) = false := by decide) :
    PMk X (.Call (.Name x p) [] [] pos) (fun _ H Q => Q (.ref C) none H) := by
  intro pins s σ H Q I h
  obtain ⟨nm, q, N, bs, bm, sn, sub, ab, col, dd, k0, k1, k2, k3, k5, hC, hbm⟩ := T.cls
  refine wpAny_Call_Name_kw (ld_glob I hg hm ?_ hdb)
  refine PySem.W.callWith_K0 I.kIn T.kC ?_
  show wpAny _ _ (call (.ref C) []) _ _ _
  obtain ⟨hp, g, dr, tk, os⟩ := s
  have hsz : hp.objs.size ≤ hp.objs.size + 1 := Nat.le_succ _
  have kk : ∀ b o, hp.get? b = some o → ((hp.push (PySem.W.kdv_tup [])).push (PySem.HandSPX.excO C hp.objs.size)).get? b = some o := fun b o e => Heap.get?_push_of_some _ (Heap.get?_push_of_some _ e)
  have hget : ((hp.push (PySem.W.kdv_tup [])).push (PySem.HandSPX.excO C hp.objs.size)).get? (hp.objs.size + 1) = some (PySem.HandSPX.excO C hp.objs.size) := by heap_get
  have I2 : Inv X pins σ (upd H (hp.objs.size + 1) (exo (hp.objs.size + 1) C none)) ⟨(hp.push (PySem.W.kdv_tup [])).push (PySem.HandSPX.excO C hp.objs.size), g, dr, tk, os⟩ :=
    I.laid (t' := tk) (a := hp.objs.size + 1) (o := exo (hp.objs.size + 1) C none) kk hsz (exo_ok hget)
  have hq : sp0 C [.ref (hp.objs.size + 1)] (upd H (hp.objs.size + 1) (exo (hp.objs.size + 1) C none)) (fun v H2 => v = .non ∧ H2 = upd H (hp.objs.size + 1) (exo (hp.objs.size + 1) C none)) (fun _ _ _ => False) := ⟨_, rfl, upd_same, rfl, rfl⟩
  have r2 : Vals [V.ref (hp.objs.size + 1)] [Value.ref (hp.objs.size + 1)] := .cons rfl .nil
  have hl : [Value.ref (hp.objs.size + 1)].length = ps.length := by rw [← F1.len _ _ _ _ hq]; rfl
  have bb := hb _ [Value.ref (hp.objs.size + 1)] I2.kIn (by rw [List.append_nil]; exact hl)
  rw [List.append_nil] at bb
  refine wpAny_call (PySem.HandSPX.call_own F.excBase_ValueError (fun Y => PySem.HandSPX.refsVE_contains Y bm hbm) (I.kIn _ _ hC) (PySem.W.looks_findIn I.kIn iC) (fun self => PySem.W.bind_fn I.kIn self tI) (Nat.zero_le _) ?_)
  refine codeAny_mono (F1.run _ X.stack _ _ ⟨[Value.ref (hp.objs.size + 1)], []⟩ [Value.ref (hp.objs.size + 1)] _ _ (fun _ _ _ => False) (hr.make C [] []) (I2.env0.make C [] []) bb r2 hq) fun r s' hq' => ?_
  match r, hq' with
  | .error er, ⟨_, _, _, _, _, _, _, _, _, _, _, _, z⟩ => exact z.elim
  | .ok (.ret u), ⟨v, H2, os2, bare2, un2, hok2, rv, ev, eH⟩ =>
    subst ev eH
    obtain ⟨h2, g2, d2, t2, os'⟩ := s'
    exact ⟨rv, mk_bare (raises_own T.exC T.tyC) I hsz kk un2 hok2 os2 bare2 h⟩
  | .ok .next, z => exact z.elim
  | .ok .brk, z => exact z.elim
  | .ok .cont, z => exact z.elim
end
section
variable [Lk] {X : Cx} {w : WD} {c f x : Str} {e : Expr} {ta : DE} {p pos pos2 : Pos} {j : Nat}
def dRaise1 (w : WD) (c f : Str) (ta : DE) : DS := fun _ r m => ta r m fun x m1 => w ⟨c, [(f, x)]⟩ r m1
def dRaise0 (w : WD) (c : Str) : DS := fun _ r m => w ⟨c, []⟩ r m
theorem js_raise1 (T : XK1 X.prog X.w X.K X.mg X.base c f) (hc : X.calm = true) (tk : TakesD X w) (hr : Room j X.A) (hk : 2 ≤ j) (hg : Gl X c) (he : JE X e ta) (hdb : (c == ("__debug__" : Str)) = false := by decide)
    (hs : starEach [e] X.env = (false, eval e X.env) :: starEach [] X.env := by rfl) (hpl : (backTo pos (starEach [] X.env)).any (·.1) = false := by rfl) : JS X (.Raise (some (.Call (.Name c p) [e] [] pos)) none pos2) (dRaise1 w c f ta) := by
  obtain ⟨C, fI, fd, ps, ad, hm, T, iC, tI, F1, hb⟩ := T.ex
  refine ps_wk (ps_raise hc tk (pmk_oex T.ox iC tI F1 (hr.mono hk) hb .nil (fun _ _ _ _ _ _ _ ⟨_, _, _, _, _, _, _, _, _, _, _, _, z⟩ => z.elim) hg hm (pa_cons he pa_nil hs) hdb hs hpl)) ?_
  rintro E s H ⟨W, F, m, r, d, rel, rs, h, -⟩
  refine ⟨W, F, m, r, _, rel, rs, h, fun W1 H1 m1 v x l1 rel1 rv hq => ⟨by show 1 ≤ 1000; decide, fun a na => ?_⟩⟩
  refine ⟨a, v, rfl, upd_same, fun dx ndx ne => ⟨rfl, dx, [(f, v)], upd_same, ?_, ?_, ?_⟩⟩
  · rw [upd_ne ne, upd_same]
  · rwa [upd_ne ne] at ndx
  have nd : H1 dx = none := by rwa [upd_ne ne] at ndx
  have eH : upd (del (upd (upd (upd H1 a (exo a C none)) dx (exd dx [(f, v)])) a (exo a C (some dx))) a) dx (.xd [(f, v)]) = upd H1 dx (.xd [(f, v)]) := by
    funext b
    by_cases h1 : b = dx
    · rw [h1, upd_same, upd_same]
    · by_cases h2 : b = a
      · rw [upd_ne h1, upd_ne h1, h2, del_same, na]
      · rw [upd_ne h1, upd_ne h1, del_ne h2, upd_ne h2, upd_ne h1, upd_ne h2]
  rw [eH]
  have le := cold_le (o := .xd [(f, v)]) rel1.toRel0 nd
  exact ⟨_, m1, r, ⟨c, [(f, x)]⟩, rel1.lw.trans le, (rel1.toRel0.cold nd).less rel1.lf, rs.mono (l1.trans le), ⟨C, ad, rfl, .inr ⟨dx, _, rfl, upd_same, .cons (rv.mono le) .nil⟩⟩, hq⟩
theorem js_raise0 (T : XK0 X.prog X.w X.K X.mg X.base c) (hc : X.calm = true) (tk : TakesD X w) (hr : Room j X.A) (hk : 2 ≤ j) (hg : Gl X c) (hdb : (c == ("__debug__" : Str)) = false := by decide) : JS X (.Raise (some (.Call (.Name c p) [] [] pos)) none pos2) (dRaise0 w c) := by
  obtain ⟨C, fI, fd, ps, ad, hm, T, iC, tI, F1, hb⟩ := T.ex
  refine ps_wk (ps_raise hc tk (pmk_bare T.ox iC tI F1 (hr.mono hk) hb hg hm hdb)) ?_
  rintro E s H ⟨W, F, m, r, d, rel, rs, h, -⟩
  exact ⟨W, m, r, ⟨c, []⟩, rel.lw, rel.toRel0.less rel.lf, rs, ⟨C, ad, rfl, .inl ⟨rfl, rfl⟩⟩, h⟩
end
/-- the class c' at C' asked of exceptions of the classes cs -/
structure XSub (K : PySem.W.Frag) (mg : Str → Option Value) (cs : List Str) (c' : Str) : Prop where
  ex : ∃ C', mg c' = some (.ref C') ∧ ∀ c ∈ cs, ∀ C, Cl.ad c = some C → PySem.W.exmOne K (.ref C) (.ref C') = some (isX c c')
theorem XSub.nil {K : PySem.W.Frag} {mg : Str → Option Value} {c' : Str} {C' : Addr} (h : mg c' = some (.ref C')) : XSub K mg [] c' := ⟨C', h, fun _ z => nomatch z⟩
theorem XSub.cons {K : PySem.W.Frag} {mg : Str → Option Value} {cs : List Str} {c c' : Str} {C C' : Addr} (h : mg c' = some (.ref C')) (a : Cl.ad c = some C) (e : PySem.W.exmOne K (.ref C) (.ref C') = some (isX c c')) (r : XSub K mg cs c') : XSub K mg (c :: cs) c' := by
  obtain ⟨C2, h2, r⟩ := r.ex
  have e2 : C2 = C' := by rw [h] at h2; cases h2; rfl
  subst e2
  refine ⟨C2, h, fun x hx D hD => ?_⟩
  rcases List.mem_cons.mp hx with z | z
  · subst z; rw [a] at hD; cases hD; exact e
  · exact r x z D hD
section
variable [Lk] {X : Cx} {c n : Str} {cs : List Str} {i : Nat} {body suite : List Stmt} {b₀ : Stmt} {np pos pos' : Pos} {tb : WD → DS} {w : WD}
theorem to0 {L : Lk} {K : PySem.W.Frag} {W : Wd} {F H : Hp} {m : Sto} (r : @Rel _ L K W F H m) : Rel0 K W F H m := @Rel.toRel0 _ L K W F H m r
theorem lift_on {L : Lk} {K : PySem.W.Frag} {W W1 : Wd} {F H : Hp} {m : Sto} {d : DEnds} {E : Ends} (r : @Rel _ L K W F H m) (l1 : W.Le W1) (k : @LiftD _ L K W F d E) : @LiftD _ ⟨W1, F⟩ K W1 F d E :=
  @LiftD.mk _ ⟨W1, F⟩ K W1 F d E (fun W' H' m' s' r' l rl => @LiftD.nx _ L _ _ _ _ _ k W' H' m' s' r' (l1.trans l) (@Rel.of _ L _ _ _ _ _ _ _ _ r (l1.trans l) (to0 rl)))
    (fun W' H' m' v x l rl => @LiftD.rt _ L _ _ _ _ _ k W' H' m' v x (l1.trans l) (@Rel.of _ L _ _ _ _ _ _ _ _ r (l1.trans l) (to0 rl)))
    (fun W' H' m' s' r' l rl => @LiftD.bk _ L _ _ _ _ _ k W' H' m' s' r' (l1.trans l) (@Rel.of _ L _ _ _ _ _ _ _ _ r (l1.trans l) (to0 rl)))
    (fun W' H' m' s' r' l rl => @LiftD.ct _ L _ _ _ _ _ k W' H' m' s' r' (l1.trans l) (@Rel.of _ L _ _ _ _ _ _ _ _ r (l1.trans l) (to0 rl)))
theorem rel_new {K : PySem.W.Frag} {W : Wd} {F H : Hp} {m : Sto} (r : Rel0 K W F H m) : @Rel _ ⟨W, F⟩ K W F H m := @Rel.mk _ ⟨W, F⟩ K W F H m r (.refl _) (Same.refl _)
theorem body_wk (hb : ∀ [Lk] (wd : WD) (pn : List (Addr × Obj)) (xe : Value → Shared → Prop), TakesD (X.tr pn xe) wd → PassesOwn (model X.prog X.w) X.A X.env xe → JSs (X.tr pn xe) body (tb wd)) (V : WX) (pn : List (Addr × Obj)) (xe : Value → Shared → Prop)
    (tk : Takes (X.tr pn xe) V) (po : PassesOwn (model X.prog X.w) X.A X.env xe) : PSs (X.tr pn xe) body (fun D σ H => ∃ (L : Lk) (wd : WD), (∀ cls d σ H, @liftW _ L X.K wd cls d σ H → V cls d σ H) ∧ @liftS _ L X.K (tb wd) D σ H) :=
  ⟨fun p s a H D I ⟨L, wd, hw, h⟩ => (@hb L wd pn xe (tk.imp hw) po).run p s a H D I h⟩
end
section
variable [Lk] {X : Cx} {a : Addr} {oe : Obj} {cls : Value} {d : Option Addr} {pn : List (Addr × Obj)} {ex : Exn} {e : Expr} {te : DE} {pos : Pos} {cs : List Str}
/-- what the classes' tables say about the attribute f: no class of cs has it -/
structure XAt (K : PySem.W.Frag) (cs : List Str) (f : Str) : Prop where
  ex : ∀ c ∈ cs, ∀ C, Cl.ad c = some C → XfC K C ∧ PySem.W.findIn K (.ref C) f = some none
/-- isinstance: the class or built-in class c' asked of exceptions of the classes cs -/
structure XIs (K : PySem.W.Frag) (mg : Str → Option Value) (cs : List Str) (c' : Str) : Prop where
  ex : ∃ (u : Value), ((∃ C', mg c' = some u ∧ u = .ref C') ∨ (∃ n, mg c' = none ∧ bootBuiltins c' = some u ∧ u = .type n ∧ c' ≠ "__name__")) ∧ ∀ c ∈ cs, ∀ C, Cl.ad c = some C → ExF K C ∧ PySem.W.kitOne K (.ref C) u = some (isX c c')
end
end DL
namespace DL
open PySem PySem.Spec PyProof.Rows L2
def intsOf : List D → Option (List Int)
  | [] => some []
  | .int i :: ds => (intsOf ds).map (i :: ·)
  | _ :: _ => none
theorem intsOf_map : ∀ {ns : List Int}, intsOf (ns.map D.int) = some ns
  | [] => rfl
  | n :: ns => by show (intsOf (ns.map D.int)).map (n :: ·) = _; rw [intsOf_map]; rfl
section
variable [Cl] [Lk]
theorem cr_or {X : Cx} {f : Value} {r r' : List V → Hp → VK → Prop} (h : CallR X f r) (h' : CallR X f r') : CallR X f (fun xs H Q => r xs H Q ∨ r' xs H Q) := by
  intro pins s σ H xs us Q I rr z
  rcases z with z | z
  · exact h pins s σ H xs us Q I rr z
  · exact h' pins s σ H xs us Q I rr z
variable {X : Cx} {a b e o : Expr} {ta tb te to : DE} {p pos apos : Pos} {rest : List Expr}
end
end DL
namespace DL
open PySem PySem.Spec PyProof.Rows L2
variable [Cl]
section
variable [Lk] {K : PySem.W.Frag} {W : Wd} {F H : Hp} {m : Sto} {x : V} {j : Nat} {c : Str} {fs : List (Str × D)}
def putD (f : Str) (y : D) : List (Str × D) → List (Str × D)
  | [] => [(f, y)]
  | (g, x) :: r => if g = f then (g, y) :: r else (g, x) :: putD f y r
theorem RF.put {f : Str} {v : V} {d : D} (h : R K W v d) : ∀ {us : List (Str × V)} {fs : List (Str × D)}, RF K W us fs → RF K W (L2.putF f v us) (putD f d fs)
  | _, _, .nil => .cons h .nil
  | _, _, .cons (x := g) q r => by
    unfold putF putD
    by_cases e : g = f
    · rw [if_pos e, if_pos e]; exact .cons h r
    · rw [if_neg e, if_neg e]; exact .cons q (RF.put h r)
end
end DL
namespace DL
open PySem PySem.Spec PyProof.Rows L2
abbrev noW : WD := fun _ _ _ => False
/-- the addresses that names stand for -/
abbrev clOf (mg : Str → Option Value) : Cl := ⟨fun x => match mg x with | some (.ref a) => some a | _ => none⟩
theorem clOf_ad {mg : Str → Option Value} {x : Str} {a : Addr} (h : mg x = some (.ref a)) : (clOf mg).ad x = some a := by
  show (match mg x with | some (.ref a) => some a | _ => none) = _
  rw [h]
variable [Cl]
theorem takesD_no [Lk] {X : Cx} : TakesD X noW := fun _ _ x => by
  obtain ⟨_, _, _, _, _, _, _, _, _, _, _, _, _, _, _, _, _, _, _, _, _, _, _, _, z⟩ := x
  exact z.elim
section
variable [Lk] {K : PySem.W.Frag} {W : Wd} {F H : Hp} {m : Sto} {x : V} {d : D} {ds : List (L2.Key × D)}
def valD (k : L2.Key) : List (L2.Key × D) → Option D
  | [] => none
  | (k', d) :: r => if k' = k then some d else valD k r
def putKD (k : L2.Key) (y : D) (ds : List (L2.Key × D)) : List (L2.Key × D) :=
  if (ds.any fun kv => decide (kv.1 = k)) = true then ds.map (fun kv => if kv.1 = k then (kv.1, y) else kv) else ds ++ [(k, y)]
def dropD (k : L2.Key) (ds : List (L2.Key × D)) : List (L2.Key × D) := ds.filter fun kv => decide (kv.1 ≠ k)
theorem RD.val {k : L2.Key} : ∀ {xs : List (L2.Key × V)} {ds : List (L2.Key × D)}, RD K W xs ds → match valD k ds with | some d => ∃ v, valV xs k = some v ∧ R K W v d | none => valV xs k = none
  | _, _, .nil => rfl
  | _, _, .cons (k := k') h r => by
    unfold valD
    by_cases e : k' = k
    · rw [if_pos e]; exact ⟨_, valV_pos e, h⟩
    · rw [if_neg e, valV_neg e]; exact r.val
theorem RD.some {k : L2.Key} {xs : List (L2.Key × V)} {ds : List (L2.Key × D)} {d : D} (r : RD K W xs ds) (e : valD k ds = some d) : ∃ v, valV xs k = some v ∧ R K W v d := by
  have z := r.val (k := k)
  rw [e] at z
  exact z
theorem RD.none {k : L2.Key} {xs : List (L2.Key × V)} {ds : List (L2.Key × D)} (r : RD K W xs ds) (e : valD k ds = none) : valV xs k = none := by
  have z := r.val (k := k)
  rw [e] at z
  exact z
theorem RD.drop {k : L2.Key} : ∀ {xs : List (L2.Key × V)} {ds : List (L2.Key × D)}, RD K W xs ds → RD K W (L2.dropK xs k) (dropD k ds)
  | _, _, .nil => .nil
  | _, _, .cons (k := k') h r => by
    unfold dropK dropD
    by_cases e : k' = k
    · rw [List.filter_cons_of_neg (by simp [e]), List.filter_cons_of_neg (by simp [e])]; exact r.drop
    · rw [List.filter_cons_of_pos (by simp [e]), List.filter_cons_of_pos (by simp [e])]; exact .cons h r.drop
theorem RD.any {k : L2.Key} : ∀ {xs : List (L2.Key × V)} {ds : List (L2.Key × D)}, RD K W xs ds → (xs.any fun kv => decide (kv.1 = k)) = (ds.any fun kv => decide (kv.1 = k))
  | _, _, .nil => rfl
  | _, _, .cons _ r => by rw [List.any_cons, List.any_cons, r.any]
theorem RD.app : ∀ {xs ys : List (L2.Key × V)} {ds es : List (L2.Key × D)}, RD K W xs ds → RD K W ys es → RD K W (xs ++ ys) (ds ++ es)
  | _, _, _, _, .nil, s => s
  | _, _, _, _, .cons h r, s => .cons h (r.app s)
theorem RD.repl {k : L2.Key} {v : V} {y : D} (h : R K W v y) : ∀ {xs : List (L2.Key × V)} {ds : List (L2.Key × D)}, RD K W xs ds → RD K W (xs.map fun kv => if kv.1 = k then (kv.1, v) else kv) (ds.map fun kv => if kv.1 = k then (kv.1, y) else kv)
  | _, _, .nil => .nil
  | _, _, .cons (k := k') q r => by
    rw [List.map_cons, List.map_cons]
    by_cases e : k' = k
    · rw [if_pos e, if_pos e]; exact .cons h (r.repl h)
    · rw [if_neg e, if_neg e]; exact .cons q (r.repl h)
theorem RD.put {k : L2.Key} {v : V} {y : D} (h : R K W v y) {xs : List (L2.Key × V)} {ds : List (L2.Key × D)} (r : RD K W xs ds) : RD K W (putK xs k v) (putKD k y ds) := by
  unfold putK putKD
  rw [r.any (k := k)]
  split
  · exact r.repl h
  · exact r.app (.cons h .nil)
theorem valD_any {k : L2.Key} : ∀ {ds : List (L2.Key × D)}, (ds.any fun kv => decide (kv.1 = k)) = (valD k ds).isSome
  | [] => rfl
  | (k', d) :: r => by
    rw [List.any_cons, valD_any]
    unfold valD
    by_cases e : k' = k
    · rw [if_pos e, decide_eq_true e]; rfl
    · rw [if_neg e, decide_eq_false e, Bool.false_or]; cases r <;> rfl
theorem valD_put {k j : L2.Key} {y : D} : ∀ {ds : List (L2.Key × D)}, valD j (putKD k y ds) = if j = k then some y else valD j ds := by
  intro ds
  have mp : ∀ ds : List (L2.Key × D), valD j (ds.map fun kv => if kv.1 = k then (kv.1, y) else kv) = (valD j ds).map fun d => if j = k then y else d := by
    intro ds
    induction ds with
    | nil => rfl
    | cons p r ih =>
      obtain ⟨k', d⟩ := p
      rw [List.map_cons]
      by_cases e : k' = k
      · subst e
        rw [if_pos rfl]
        unfold valD
        by_cases e2 : k' = j
        · rw [if_pos e2, if_pos e2, Option.map_some, if_pos e2.symm]
        · rw [if_neg e2, if_neg e2, ih]
      · rw [if_neg e]
        unfold valD
        by_cases e2 : k' = j
        · rw [if_pos e2, if_pos e2, Option.map_some, if_neg (fun z => e (e2.trans z))]
        · rw [if_neg e2, if_neg e2, ih]
  have ap : ∀ ds : List (L2.Key × D), valD k ds = none → valD j (ds ++ [(k, y)]) = if j = k then some y else valD j ds := by
    intro ds
    induction ds with
    | nil =>
      intro _
      show (if k = j then some y else none) = _
      by_cases e : j = k
      · rw [if_pos e, if_pos e.symm]
      · rw [if_neg e, if_neg (Ne.symm e)]; rfl
    | cons p r ih =>
      obtain ⟨k', d⟩ := p
      intro h
      unfold valD at h
      by_cases e : k' = k
      · rw [if_pos e] at h; cases h
      · rw [if_neg e] at h
        rw [List.cons_append]
        unfold valD
        by_cases e2 : k' = j
        · rw [if_pos e2, if_pos e2, if_neg (fun z => e (e2.trans z))]
        · rw [if_neg e2, if_neg e2, ih h]
  unfold putKD
  by_cases a : (ds.any fun kv => decide (kv.1 = k)) = true
  · rw [if_pos a, mp]
    rw [valD_any] at a
    obtain ⟨x, hx⟩ := Option.isSome_iff_exists.mp a
    by_cases e : j = k
    · rw [if_pos e, e, hx]; simp
    · rw [if_neg e]; cases valD j ds <;> simp [e]
  · rw [if_neg a]
    refine ap ds ?_
    rw [valD_any] at a
    cases q : valD k ds with
    | none => rfl
    | some x => rw [q] at a; exact absurd rfl a
end
def dDic : DE := fun _ m q => q (.dic []) m
section
variable [Lk] {X : Cx} {o e i value : Expr} {to te ti tv : DE} {pos pos' apos tpos cpos : Pos} {k : Nat}
theorem je_dic : JE X (.Dict [] [] pos) dDic := pe_wk pe_dnewK fun s H Q ⟨W, F, m, r, q, rel, rs, h, kk⟩ p hp =>
  kk _ _ m (.ref p) (.dic []) (cold_le rel.toRel0 hp) (rel.cold hp) (.dic upd_same .nil) h
end
end DL
namespace DL
open PySem PySem.Spec PyProof.Rows L2
variable [Cl]
section
variable [Lk] {X : Cx} {a b e o : Expr} {ta tb te to : DE} {p np pos apos : Pos} {k : Nat}
def keysI : List (L2.Key × D) → Option (List Int)
  | [] => some []
  | (.inl i, _) :: r => (keysI r).map (i :: ·)
  | _ => none
end
end DL
namespace DL
open PySem PySem.Spec PyProof.Rows L2
structure IsoC (K : PySem.W.Frag) (C : Addr) : Prop where
  ca : PySem.W.findIn K (.ref C) "__class__" = some (some (.builtin "object.__class__"))
  cn : PySem.W.specialIn K (.builtin "object.__class__") "__get__" = some (some (.builtin "getset_descriptor.__get__"))
  ct : PySem.W.takesIn K (.builtin "object.__class__") = some true
  cm : PySem.W.mroIn K C (.type "object") = some true
theorem isoB_ok {K : PySem.W.Frag} {C : Addr} (h : isoB K C = true) : IsoC K C := by
  obtain ⟨h1, h⟩ := Bool.and_eq_true_iff.mp h
  obtain ⟨h2, h⟩ := Bool.and_eq_true_iff.mp h
  obtain ⟨h3, h4⟩ := Bool.and_eq_true_iff.mp h
  exact ⟨of_decide_eq_true h1, of_decide_eq_true h2, of_decide_eq_true h3, of_decide_eq_true h4⟩
/-- an own exception class -/
theorem oexIn_ok {K : PySem.W.Frag} {C : Addr} (q : oexIn K C = true) : ∃ nm q N bs bm sn sub ab col dd k0 k1 k2 k3 k5, K.lookup C = some (excClassObj nm q C N bs bm true sn sub ab col dd k0 k1 k2 k3 k5 "ValueError.__new__") ∧ PySem.HandSPX.refsVE bm = true := by
  unfold oexIn at q
  split at q
  · rename_i dd cd sl ho
    split at q
    · rename_i C' bm k0 k1 k2 k3 n k5 hm hs
      simp only [Bool.and_eq_true, beq_iff_eq, Bool.not_eq_true'] at q
      obtain ⟨rfl, rfl, hdel, hdc, hr⟩ := q
      obtain ⟨nm, bs, mro, ns, qn, hd, sn, sub, ab, col, del⟩ := cd
      dsimp only at hm hdel hdc
      subst hm hdel hdc
      have hsl : sl = #[k0, k1, k2, k3, some (.builtin "ValueError.__new__"), k5] := by
        obtain ⟨l⟩ := sl
        simp only at hs
        rw [hs]
      subst hsl
      exact ⟨nm, qn, ns, bs, bm, sn, sub, ab, col, dd, k0, k1, k2, k3, k5, ho, hr⟩
    · cases q
  · cases q
theorem exfB_ok {K : PySem.W.Frag} {C : Addr} (h : exfB K C = true) : ExF K C := by
  obtain ⟨h1, h⟩ := Bool.and_eq_true_iff.mp h
  obtain ⟨h2, h⟩ := Bool.and_eq_true_iff.mp h
  obtain ⟨h3, h⟩ := Bool.and_eq_true_iff.mp h
  obtain ⟨h4, h⟩ := Bool.and_eq_true_iff.mp h
  obtain ⟨h5, h⟩ := Bool.and_eq_true_iff.mp h
  obtain ⟨h6, h⟩ := Bool.and_eq_true_iff.mp h
  obtain ⟨h7, h8⟩ := Bool.and_eq_true_iff.mp h
  have i := isoB_ok h8
  exact ⟨⟨oexIn_ok h1, of_decide_eq_true h2, of_decide_eq_true h3, of_decide_eq_true h4, h5⟩, xfB_ok h6, h7, i.ca, i.cn, i.ct, i.cm⟩
variable [Cl]
section
variable {P : Program} {w : World} {K : PySem.W.Frag} {mg : Str → Option Value} {base : Heap} {k k' : Nat} {c c' mn f : Str} {C fa : Addr} {fd : FuncData} {ps : List Str} {n : Nat} {g : FNX} {g0 : FN}
def tIni0 (K : PySem.W.Frag) (txt : Str) : TS := tDrop (tVeI K (tCons (tVar 0) (tCons (tC (.str txt)) tNil)))
def tIni1 (K : PySem.W.Frag) (f txt : Str) : TS := tSeq (tDrop (tVeI K (tCons (tVar 0) (tCons (tC (.str txt)) tNil)))) (tOst K f (tVar 0) (tVar 1))
theorem xk0_mk {txt qual : Str} {st : Stmt} (F : L2.Fun K "__init__" qual st fa fd) (S : FnScope ["self"] ["self"] (defScope st)) (ad : Cl.ad c = some C) (hm : mg c = some (.ref C)) (ef : exfB K C = true) (iC : PySem.W.findIn K (.ref C) "__init__" = some (some (.ref fa)))
    (tI : PySem.W.typeIn K (.ref fa) = some (.type "function")) (b : Binds K fd ["self"] [])
    (body : ∀ (cdv : Value) (A : Around) (outer : List Env) (s : Shared) (H : Hp) (E : XK), PSs (cxOf (L2.CX P w) P w K mg base ["self"] qual (defScope st) fa cdv A outer s H E) (defBody st) (tIni0 K txt)) : XK0 P w K mg base c := by
  have ef := exfB_ok ef
  refine ⟨C, fa, fd, ["self"], ad, hm, ef, iC, tI, Fun.okX F S (fun vs H Q E ⟨_, e, _⟩ => by rw [e]; rfl) fun cdv A outer s H vs Q E hr ⟨a, e, ha, hq⟩ => ⟨_, body cdv A outer s H E, ?_⟩, b⟩
  subst e
  refine ⟨.ref a, rfl, a, C, [.str txt], rfl, by show 1 ≤ 1000; decide, ef.ox, ha, hq⟩
theorem xk1_mk {txt qual y : Str} {st : Stmt} (F : L2.Fun K "__init__" qual st fa fd) (S : FnScope ["self", y] ["self", y] (defScope st)) (ad : Cl.ad c = some C) (hm : mg c = some (.ref C)) (ef : exfB K C = true) (iC : PySem.W.findIn K (.ref C) "__init__" = some (some (.ref fa)))
    (tI : PySem.W.typeIn K (.ref fa) = some (.type "function")) (b : Binds K fd ["self", y] []) (no : PySem.W.findIn K (.ref C) f = some none)
    (body : ∀ (cdv : Value) (A : Around) (outer : List Env) (s : Shared) (H : Hp) (E : XK), PSs (cxOf (L2.CX P w) P w K mg base ["self", y] qual (defScope st) fa cdv A outer s H E) (defBody st) (tIni1 K f txt)) : XK1 P w K mg base c f := by
  have ef := exfB_ok ef
  refine ⟨C, fa, fd, ["self", y], ad, hm, ef, iC, tI, Fun.okX F S (fun vs H Q E ⟨_, _, e, _⟩ => by rw [e]; rfl) fun cdv A outer s H vs Q E hr ⟨a, v, e, ha, hq⟩ => ⟨_, body cdv A outer s H E, ?_⟩, b⟩
  subst e
  refine ⟨.ref a, rfl, a, C, [.str txt], rfl, by show 1 ≤ 1000; decide, ef.ox, ha, ?_⟩
  exact ⟨v, rfl, .ref a, rfl, a, C, rfl, ef.ox, no, .inl ⟨ha, fun dx h1 h2 => hq dx h1 h2⟩⟩
theorem xis_nil (a : mg c' = some (.ref C)) : XIs K mg [] c' := ⟨.ref C, .inl ⟨C, a, rfl⟩, fun _ z => nomatch z⟩
theorem xis_cons {cs : List Str} {C' : Addr} (a : mg c' = some (.ref C')) (ad : Cl.ad c = some C) (ef : exfB K C = true) (e : PySem.W.kitOne K (.ref C) (.ref C') = some (isX c c')) (r : XIs K mg cs c') : XIs K mg (c :: cs) c' := by
  obtain ⟨u, h2, r⟩ := r.ex
  have hu : u = .ref C' := by
    rcases h2 with ⟨D, h2, rfl⟩ | ⟨n, h2, _⟩
    · rw [h2] at a; exact Option.some.inj a
    · rw [h2] at a; cases a
  subst hu
  refine ⟨.ref C', h2, fun x hx D hD => ?_⟩
  rcases List.mem_cons.mp hx with z | z
  · subst z; rw [ad] at hD; cases hD; exact ⟨exfB_ok ef, e⟩
  · exact r x z D hD
theorem xat_nil : XAt K [] f := ⟨fun _ z => nomatch z⟩
theorem xat_cons {cs : List Str} (ad : Cl.ad c = some C) (ef : exfB K C = true) (no : PySem.W.findIn K (.ref C) f = some none) (r : XAt K cs f) : XAt K (c :: cs) f := by
  refine ⟨fun x hx D hD => ?_⟩
  rcases List.mem_cons.mp hx with z | z
  · subst z; rw [ad] at hD; cases hD; exact ⟨(exfB_ok ef).xf, no⟩
  · exact r.ex x z D hD
end
end DL
namespace DL
open PySem PySem.Spec PyProof.Rows L2
theorem get_app {m dn : Sto} {i : Nat} {c : Cell} (h : m[i]? = some c) : (m ++ dn)[i]? = some c := by
  obtain ⟨hi, e⟩ := List.getElem?_eq_some_iff.mp h
  rw [List.getElem?_append_left hi]; exact h
def btw (x : D) (lo hi : Int) : Bool := match x with
  | .int i => decide (lo ≤ i) && decide (i ≤ hi)
  | _ => false
/-- points, none less than the one ahead -/
def upD : Int → List D → Bool
  | _, [] => true
  | l, .int i :: r => btw (.int i) 0 1000 && (decide (l ≤ i) && upD i r)
  | _, _ => false
def spotD (x : D) (m : Sto) : Bool := match seqL x m with
  | some ds => decide (1 ≤ ds.length ∧ ds.length ≤ 6) && upD 0 ds
  | none => false
/-- a spot -/
structure Spot (sp : List Int) : Prop where
  h1 : 1 ≤ sp.length
  h6 : sp.length ≤ 6
  up : sp.Pairwise (· ≤ ·)
  rg : ∀ i ∈ sp, 0 ≤ i ∧ i ≤ 1000
theorem upD_of : ∀ {sp : List Int} {l : Int}, (l :: sp).Pairwise (· ≤ ·) → (∀ i ∈ sp, 0 ≤ i ∧ i ≤ 1000) → upD l (sp.map D.int) = true
  | [], _, _, _ => rfl
  | i :: sp, l, h, hr => by
    rw [List.map_cons]
    obtain ⟨h1, h2⟩ := List.pairwise_cons.mp h
    have r := hr i List.mem_cons_self
    have hl := h1 i List.mem_cons_self
    show ((decide (0 ≤ i) && decide (i ≤ 1000)) && (decide (l ≤ i) && upD i (sp.map D.int))) = true
    rw [decide_eq_true r.1, decide_eq_true r.2, decide_eq_true hl, upD_of h2 fun j hj => hr j (List.mem_cons_of_mem _ hj)]; rfl
theorem Spot.is {sp : List Int} {x : D} {m : Sto} (h : Spot sp) (e : seqL x m = some (sp.map D.int)) : spotD x m = true := by
  unfold spotD
  rw [e]
  have u : upD 0 (sp.map D.int) = true := upD_of (List.pairwise_cons.mpr ⟨fun i hi => (h.rg i hi).1, h.up⟩) h.rg
  show (decide (1 ≤ (sp.map D.int).length ∧ (sp.map D.int).length ≤ 6) && upD 0 (sp.map D.int)) = true
  rw [u, List.length_map, decide_eq_true ⟨h.h1, h.h6⟩]; rfl
/-- strictly rising -/
def rises : List Int → Bool
  | a :: b :: r => decide (a < b) && rises (b :: r)
  | _ => true
def marksD (x : D) (few : Int) (m : Sto) : Bool := match seqL x m with
  | some ds => decide (few ≤ (ds.length : Int) ∧ ds.length ≤ 8) && match intsOf ds with
    | some ns => ns.all (fun i => decide (0 ≤ i) && decide (i ≤ 1000)) && rises ns
    | none => false
  | none => false
structure Marks (few : Int) (ms : List Int) : Prop where
  h1 : few ≤ (ms.length : Int)
  h8 : ms.length ≤ 8
  up : ms.Pairwise (· < ·)
  rg : ∀ i ∈ ms, 0 ≤ i ∧ i ≤ 1000
theorem rises_of : ∀ {ms : List Int}, ms.Pairwise (· < ·) → rises ms = true
  | [], _ => rfl
  | [_], _ => rfl
  | a :: b :: r, h => by
    obtain ⟨h1, h2⟩ := List.pairwise_cons.mp h
    unfold rises
    rw [decide_eq_true (h1 b List.mem_cons_self), rises_of h2]; rfl
theorem Marks.is {few : Int} {ms : List Int} {x : D} {m : Sto} (h : Marks few ms) (e : seqL x m = some (ms.map D.int)) : marksD x few m = true := by
  unfold marksD
  rw [e]
  show (decide (few ≤ (((ms.map D.int).length : Nat) : Int) ∧ (ms.map D.int).length ≤ 8) && match intsOf (ms.map D.int) with | some ns => ns.all (fun i => decide (0 ≤ i) && decide (i ≤ 1000)) && rises ns | none => false) = true
  rw [intsOf_map, List.length_map, decide_eq_true ⟨h.h1, h.h8⟩]
  show (ms.all (fun i => decide (0 ≤ i) && decide (i ≤ 1000)) && rises ms) = true
  rw [rises_of h.up, Bool.and_true, List.all_eq_true]
  intro i hi
  have := h.rg i hi
  rw [decide_eq_true this.1, decide_eq_true this.2]; rfl
end DL
namespace DL
open PySem PySem.Spec PyProof.Rows L2
abbrev dv (t b : Int) : Rat := (t : Rat) / (b : Rat)
theorem icast_ne {b : Int} (h : b ≠ 0) : (b : Rat) ≠ 0 := fun z => h (by exact_mod_cast z)
theorem icast_inj {a b : Int} (h : (a : Rat) = (b : Rat)) : a = b := by exact_mod_cast h
theorem rat_eq (x : Rat) : x = dv x.num (x.den : Int) := by
  have h := Rat.num_divInt_den x
  rw [Rat.divInt_eq_div] at h
  exact h.symm
theorem den_pos (x : Rat) : (0 : Int) < (x.den : Int) := by have := x.den_pos; omega
theorem rat_cop (x : Rat) : Int.gcd x.num (x.den : Int) = 1 := x.reduced
theorem cross_of {t b t' b' : Int} (hb : b ≠ 0) (hb' : b' ≠ 0) (h : dv t b = dv t' b') : t * b' = t' * b := by
  have h1 := icast_ne hb
  have h2 := icast_ne hb'
  apply icast_inj
  rw [Rat.intCast_mul, Rat.intCast_mul]
  have h' : (t : Rat) / (b : Rat) = (t' : Rat) / (b' : Rat) := h
  grind
theorem low_rat {t b : Int} {x : Rat} (hb : b ≠ 0) (h : dv t b = x) : lowT t b = x.num ∧ lowB t b = (x.den : Int) := by
  have e : dv t b = dv x.num (x.den : Int) := h.trans (rat_eq x)
  have c := cross_of hb (Int.ne_of_gt (den_pos x)) e
  have u := low_unique (x := x.num) (y := (x.den : Int)) hb (den_pos x) (rat_cop x) (by rw [c, Int.mul_comm])
  exact ⟨u.1.symm, u.2.symm⟩
/-- a fraction's data -/
abbrev frQ (x : Rat) : D := fr x.num (x.den : Int)
theorem dv_add {a b c d : Int} (hb : b ≠ 0) (hd : d ≠ 0) : dv (a * d + c * b) (b * d) = dv a b + dv c d := by
  have h1 := icast_ne hb
  have h2 := icast_ne hd
  show ((a * d + c * b : Int) : Rat) / ((b * d : Int) : Rat) = (a : Rat) / (b : Rat) + (c : Rat) / (d : Rat)
  rw [Rat.intCast_add, Rat.intCast_mul, Rat.intCast_mul, Rat.intCast_mul]
  grind
/-- of bounded size -/
structure QS (n : Nat) (x : Rat) : Prop where
  st : Sm n x.num
  sb : Sm n (x.den : Int)
theorem QS.mono {k n : Nat} {x : Rat} (h : QS k x) (hk : k ≤ n) : QS n x := ⟨h.st.mono hk, h.sb.mono hk⟩
theorem qs_dv {t b : Int} {x : Rat} {n : Nat} (hb : b ≠ 0) (h : dv t b = x) (st : Sm n t) (sb : Sm n b) : QS n x := by
  obtain ⟨h1, h2⟩ := low_rat hb h
  exact ⟨h1 ▸ lowT_sm hb st, h2 ▸ lowB_sm hb sb⟩
theorem QS.add {k n : Nat} {x y : Rat} (h : QS k x) (h' : QS n y) : QS (k + n + 1) (x + y) := by
  have e : dv (x.num * y.den + y.num * x.den) ((x.den : Int) * y.den) = x + y := by
    rw [dv_add (Int.ne_of_gt (den_pos x)) (Int.ne_of_gt (den_pos y)), ← rat_eq, ← rat_eq]
  refine qs_dv (Int.mul_ne_zero (Int.ne_of_gt (den_pos x)) (Int.ne_of_gt (den_pos y))) e ?_ ((h.sb.mul h'.sb).mono (by omega))
  exact Sm.add (h.st.mul h'.sb) ((h'.st.mul h.sb).mono (by omega))
def updQ (f : Nat → Rat) (j : Nat) (w : Rat) : Nat → Rat := fun i => if i = j then f i + w else f i
/-- what the mark at j gets of a point -/
def at0 (ms : List Int) (i : Nat) : Int := ms.getD i 0
end DL
namespace DL
open PySem PySem.Spec PyProof.Rows L2
theorem at0_eq {ms : List Int} {i : Nat} (h : i < ms.length) : at0 ms i = ms[i] := by
  show ms.getD i 0 = ms[i]
  rw [List.getD_eq_getElem?_getD, List.getElem?_eq_getElem h]; rfl
theorem at0_lt {ms : List Int} (h : ms.Pairwise (· < ·)) {i j : Nat} (hij : i < j) (hj : j < ms.length) : at0 ms i < at0 ms j := by
  rw [at0_eq hj, at0_eq (by omega)]
  exact List.pairwise_iff_getElem.mp h i j _ _ hij
theorem at0_inj {ms : List Int} (h : ms.Pairwise (· < ·)) {i j : Nat} (hi : i < ms.length) (hj : j < ms.length) (e : at0 ms i = at0 ms j) : i = j := by
  rcases Nat.lt_trichotomy i j with z | z | z
  · have := at0_lt h z hj; omega
  · exact z
  · have := at0_lt h z hi; omega
theorem at0_mem {ms : List Int} {i : Nat} (h : i < ms.length) : at0 ms i ∈ ms := by rw [at0_eq h]; exact List.getElem_mem h
theorem keysI_any {k : Int} : ∀ {ds : List (L2.Key × D)} {ks : List Int}, keysI ds = some ks → ((ds.any fun kv => decide (kv.1 = (.inl k : L2.Key))) = true ↔ k ∈ ks)
  | [], _, e => by cases e; simp
  | (.inl i, d) :: ds, ks, e => by
    simp only [keysI, Option.map_eq_some_iff] at e
    obtain ⟨l, e, rfl⟩ := e
    rw [List.any_cons, Bool.or_eq_true, keysI_any e, decide_eq_true_eq, List.mem_cons]
    constructor
    · rintro (z | z)
      · exact .inl (Sum.inl.inj z).symm
      · exact .inr z
    · rintro (z | z)
      · exact .inl (by rw [z])
      · exact .inr z
  | (.inr x, d) :: ds, ks, e => by cases e
theorem keysI_of {ds es : List (L2.Key × D)} (h : es.map (·.1) = ds.map (·.1)) : keysI es = keysI ds := by
  induction ds generalizing es with
  | nil =>
    cases es with
    | nil => rfl
    | cons _ _ => cases h
  | cons e ds ih =>
    cases es with
    | nil => cases h
    | cons e' es =>
      obtain ⟨k, d⟩ := e
      obtain ⟨k', d'⟩ := e'
      simp only [List.map_cons, List.cons.injEq] at h
      obtain ⟨rfl, h⟩ := h
      cases k' with
      | inl i => simp only [keysI, ih h]
      | inr x => rfl
theorem keysI_app {k : Int} {y : D} : ∀ {ds : List (L2.Key × D)} {ks : List Int}, keysI ds = some ks → keysI (ds ++ [(.inl k, y)]) = some (ks ++ [k])
  | [], _, e => by cases e; rfl
  | (.inl i, d) :: ds, ks, e => by
    simp only [keysI, Option.map_eq_some_iff] at e
    obtain ⟨l, e, rfl⟩ := e
    simp only [List.cons_append, keysI, keysI_app e, Option.map_some]
  | (.inr x, d) :: ds, ks, e => by cases e
theorem keysI_put {k : Int} {y : D} {ds : List (L2.Key × D)} {ks : List Int} (e : keysI ds = some ks) : keysI (putKD (.inl k) y ds) = some (if k ∈ ks then ks else ks ++ [k]) := by
  unfold putKD
  by_cases h : k ∈ ks
  · rw [if_pos ((keysI_any e).mpr h), if_pos h, ← e]
    refine keysI_of ?_
    rw [List.map_map]
    congr 1
    funext kv
    show (if kv.1 = .inl k then (kv.1, y) else kv).1 = kv.1
    split <;> rfl
  · rw [if_neg fun z => h ((keysI_any e).mp z), if_neg h]
    exact keysI_app e
structure DicI (ms : List Int) (ds : List (L2.Key × D)) (f : Nat → Rat) (n : Nat) : Prop where
  val : ∀ i, i < ms.length → valD (.inl (at0 ms i)) ds = if 0 < f i then some (frQ (f i)) else none
  ks : ∃ ks, keysI ds = some ks ∧ ks.Nodup ∧ ∀ k ∈ ks, k ∈ ms
  nn : ∀ i, 0 ≤ f i
  sz : ∀ i, QS (12 * n + 12) (f i)
  ln : ds.length ≤ n
theorem DicI.put {ms : List Int} {ds : List (L2.Key × D)} {f : Nat → Rat} {n j : Nat} {w : Rat} (h : DicI ms ds f n) (hp : ms.Pairwise (· < ·)) (hj : j < ms.length) (hw : 0 < w) (hq : QS 11 w) :
    DicI ms (putKD (.inl (at0 ms j)) (frQ (f j + w)) ds) (updQ f j w) (n + 1) := by
  have fw : 0 < f j + w := by have := h.nn j; grind
  refine ⟨fun i hi => ?_, ?_, fun i => ?_, fun i => ?_, ?_⟩
  · rw [valD_put, h.val i hi]
    unfold updQ
    by_cases e : i = j
    · subst e
      rw [if_pos rfl, if_pos rfl, if_pos fw]
    · rw [if_neg e, if_neg fun z => e (at0_inj hp hi hj (Sum.inl.inj z))]
  · obtain ⟨ks, e, nd, hm⟩ := h.ks
    refine ⟨_, keysI_put e, ?_, ?_⟩
    · by_cases c : at0 ms j ∈ ks
      · rw [if_pos c]; exact nd
      · rw [if_neg c]
        rw [List.nodup_append]
        exact ⟨nd, by simp, fun a ha b hb => by rw [List.mem_singleton] at hb; rw [hb]; exact fun z => c (z ▸ ha)⟩
    · intro k hk
      split at hk
      · exact hm k hk
      · rcases List.mem_append.mp hk with z | z
        · exact hm k z
        · rw [List.mem_singleton] at z; rw [z]; exact at0_mem hj
  · unfold updQ
    split
    · have := h.nn i; grind
    · exact h.nn i
  · unfold updQ
    split
    · exact ((h.sz i).add hq).mono (by omega)
    · exact (h.sz i).mono (by omega)
  · unfold putKD
    split
    · rw [List.length_map]; have := h.ln; omega
    · rw [List.length_append, List.length_singleton]; have := h.ln; omega
theorem DicI.get {ms : List Int} {ds : List (L2.Key × D)} {f : Nat → Rat} {n j : Nat} (h : DicI ms ds f n) (hj : j < ms.length) : (valD (.inl (at0 ms j)) ds).getD (fr 0 1) = frQ (f j) := by
  rw [h.val j hj]
  by_cases c : 0 < f j
  · rw [if_pos c]; rfl
  · have : f j = 0 := by have := h.nn j; grind
    rw [if_neg c, this]; rfl
end DL
namespace DL
open PySem PySem.Spec PyProof.Rows L2
variable [Cl] [Lk]
def dReprE : FN
  | [.dic []], m, q => q (.str "{}") m
  | xs, m, q => dRepr xs m q
def rReprE : List V → Hp → VK → Prop := fun xs H Q => ∃ a, xs = [.ref a] ∧ H a = some (.dK []) ∧ Q (.str "{}") H
theorem call_reprE {X : Cx} (gd : X.A.guards = some []) (hu : X.A.units + 64 < cLine) : CallR X (.builtin "repr") rReprE := by
  intro pins s σ H xs us Q I r h
  obtain ⟨a, rfl, ha, q⟩ := h
  obtain ⟨u, rfl, rx⟩ := vals1 r
  cases rx
  obtain ⟨hz, hS, vs, rel, o, es, ep, ho, hx, hd, hk, hp, hn⟩ := (show ([] : List (L2.Key × V)).length ≤ sizeLine ∧ (a == sysModules) = false ∧ ∃ vs, KV [] vs ∧ s.heap.DictOf (mixKind X.prog X.w) a vs from I.hok a _ ha)
  cases rel
  have e0 : es.toList = [] := by
    obtain ⟨l⟩ := es
    have hp : Pairs (mixKind X.prog X.w) l [] := hp
    cases hp; rfl
  have rd : Reads s.heap (.ref a) (.dict []) (a :: [] ++ []) := Reads.dict ho hx.1 hd (by rw [e0]; exact .nil) (by rw [e0]; exact .nil)
  refine repr_of_reads' rd rfl (fun _ hm => ?_) gd (by show X.A.units + (PyData.depth (.dict []) + 1) < cLine; have : PyData.depth (.dict []) ≤ 2 := by decide
                                                       omega) (fun _ _ e => e) (fun h' tk tk2 kk => ⟨.str "{}", H, I.kept kk, ⟨tk, rfl⟩, q⟩) (by decide)
  have hm : sysModules ∈ [a] := hm
  rw [List.mem_singleton] at hm
  rw [← hm] at hS
  simp at hS
theorem o_reprE {K : PySem.W.Frag} : OpN K dReprE (fun xs H Q => rrRepr K xs H Q ∨ rReprE xs H Q) := by
  intro W F H m xs ds q Q rel ra h k
  unfold dReprE at h
  split at h
  · obtain ⟨v, rfl, rv⟩ := ra1 ra
    cases rv with
    | dic hh r =>
      cases r
      exact .inr ⟨_, rfl, rel.sub _ _ hh, k _ _ _ _ _ (.refl _) rel (.str _) h⟩
  · exact .inl (o_repr W F H m xs _ q Q rel ra h k)
theorem je_reprE {X : Cx} {a : Expr} {ta : DE} {p pos : Pos} {k : Nat} (hr : Room k X.A) (gd : X.A.guards = some []) (hg : Gl X "repr") (hm : X.mg "repr" = none) (ha : JE X a ta) (hs : starEach [a] X.env = (false, eval a X.env) :: starEach [] X.env := by rfl) (hp : (backTo pos (starEach [] X.env)).any (·.1) = false := by rfl) : JE X (.Call (.Name "repr" p) [a] [] pos) (dCallB dReprE (a1 ta)) :=
  je_callB (cr_or (call_reprD gd (by have := units65 hr; omega)) (call_reprE gd (by have := units65 hr; omega))) o_reprE hg hm (by decide +kernel) (ja_cons ha ja_nil hs) (by decide) (by decide) hs hp
end DL
namespace DL
open PySem PySem.Spec PyProof.Rows L2
/-- top below 2 ^ n, bottom below 2 ^ d -/
structure QZ (n d : Nat) (x : Rat) : Prop where
  st : Sm n x.num
  sb : Sm d (x.den : Int)
theorem QZ.mono {n d n' d' : Nat} {x : Rat} (h : QZ n d x) (hn : n ≤ n') (hd : d ≤ d') : QZ n' d' x := ⟨h.st.mono hn, h.sb.mono hd⟩
theorem qz_dv {t b : Int} {x : Rat} {n d : Nat} (hb : b ≠ 0) (h : dv t b = x) (st : Sm n t) (sb : Sm d b) : QZ n d x := by
  obtain ⟨h1, h2⟩ := low_rat hb h
  exact ⟨h1 ▸ lowT_sm hb st, h2 ▸ lowB_sm hb sb⟩
theorem dv_sub {a b c d : Int} (hb : b ≠ 0) (hd : d ≠ 0) : dv (a * d - c * b) (b * d) = dv a b - dv c d := by
  have h1 := icast_ne hb
  have h2 := icast_ne hd
  show ((a * d - c * b : Int) : Rat) / ((b * d : Int) : Rat) = (a : Rat) / (b : Rat) - (c : Rat) / (d : Rat)
  rw [Rat.intCast_sub, Rat.intCast_mul, Rat.intCast_mul, Rat.intCast_mul]
  grind
theorem dv_mul {a b c d : Int} (hb : b ≠ 0) (hd : d ≠ 0) : dv (a * c) (b * d) = dv a b * dv c d := by
  have h1 := icast_ne hb
  have h2 := icast_ne hd
  show ((a * c : Int) : Rat) / ((b * d : Int) : Rat) = (a : Rat) / (b : Rat) * ((c : Rat) / (d : Rat))
  rw [Rat.intCast_mul, Rat.intCast_mul]
  grind
theorem dn (x : Rat) : (x.den : Int) ≠ 0 := Int.ne_of_gt (den_pos x)
theorem QZ.add {n d n' d' k : Nat} {x y : Rat} (h : QZ n d x) (h' : QZ n' d' y) (h1 : n + d' ≤ k) (h2 : n' + d ≤ k) : QZ (k + 1) (d + d') (x + y) := by
  have e : dv (x.num * y.den + y.num * x.den) ((x.den : Int) * y.den) = x + y := by rw [dv_add (dn x) (dn y), ← rat_eq, ← rat_eq]
  exact qz_dv (Int.mul_ne_zero (dn x) (dn y)) e (Sm.add ((h.st.mul h'.sb).mono h1) ((h'.st.mul h.sb).mono h2)) (h.sb.mul h'.sb)
theorem QZ.sub {n d n' d' k : Nat} {x y : Rat} (h : QZ n d x) (h' : QZ n' d' y) (h1 : n + d' ≤ k) (h2 : n' + d ≤ k) : QZ (k + 1) (d + d') (x - y) := by
  have e : dv (x.num * y.den - y.num * x.den) ((x.den : Int) * y.den) = x - y := by rw [dv_sub (dn x) (dn y), ← rat_eq, ← rat_eq]
  exact qz_dv (Int.mul_ne_zero (dn x) (dn y)) e (Sm.sub ((h.st.mul h'.sb).mono h1) ((h'.st.mul h.sb).mono h2)) (h.sb.mul h'.sb)
theorem QZ.mul {n d n' d' : Nat} {x y : Rat} (h : QZ n d x) (h' : QZ n' d' y) : QZ (n + n') (d + d') (x * y) := by
  have e : dv (x.num * y.num) ((x.den : Int) * y.den) = x * y := by rw [dv_mul (dn x) (dn y), ← rat_eq, ← rat_eq]
  exact qz_dv (Int.mul_ne_zero (dn x) (dn y)) e (h.st.mul h'.st) (h.sb.mul h'.sb)
end DL
namespace DL
open PySem PySem.Spec PyProof.Rows L2
end DL
namespace DL
open PySem PySem.Spec PyProof.Rows L2
abbrev bareSet (w : World) : Obj := { data := .set #[] 0 (.fresh 0 0 (!w.params.followText "set-order")), cls := .type "set", dict := none }
section
variable {P : Program} {w : World} {K : Type} [DecidableEq K]
/-- no two stand for the same key -/
def Unl (N : KeyKind P w K) (l : List (Int × Value)) : Prop := l.Pairwise fun e f => ∀ k, N.is k e.2 = true → N.is k f.2 = true → False
def Mem (N : KeyKind P w K) (S : K → Bool) (l : List (Int × Value)) : Prop := ∀ k, S k = true ↔ ∃ e ∈ l, N.is k e.2 = true
theorem Unl.perm {N : KeyKind P w K} {l l' : List (Int × Value)} (p : l.Perm l') (u : Unl N l) : Unl N l' := (p.pairwise_iff (fun h k a b => h k b a)).mp u
theorem Mem.perm {N : KeyKind P w K} {S : K → Bool} {l l' : List (Int × Value)} (p : l.Perm l') (u : Mem N S l) : Mem N S l' := fun k => by
  rw [u k]
  exact ⟨fun ⟨e, h1, h2⟩ => ⟨e, p.mem_iff.mp h1, h2⟩, fun ⟨e, h1, h2⟩ => ⟨e, p.mem_iff.mpr h1, h2⟩⟩
structure Tab (w : World) (n : Nat) (es : Array (Int × Value)) (t : SetTable) : Prop where
  room : es.size < scanBound
  fit : t.fits es.size = true
  num : es.size = n
  ris : Ris t.place.toList
  led : w.params.followText "set-order" = true ∨ t.led = true
def SetG (N : KeyKind P w K) (h : Heap) (a : Addr) (S : K → Bool) (n : Nat) : Prop :=
  ∃ o es ep t, h.get? a = some o ∧ o.ExactSet ∧ o.data = .set es ep t ∧ ElemsOf N es.toList ∧ Unl N es.toList ∧ Mem N S es.toList ∧ Tab w n es t
variable {N : KeyKind P w K} {h h' : Heap} {a : Addr} {S : K → Bool} {n : Nat} {A : Around} {E : Value → Shared → Prop} {s : Shared}
theorem SetG.keep (R : SetG N h a S n) (k : ∀ o, h.get? a = some o → h'.get? a = some o) : SetG N h' a S n := by
  obtain ⟨o, es, ep, t, z, r⟩ := R
  exact ⟨o, es, ep, t, k o z, r⟩
theorem SetG.alike {S' : K → Bool} (R : SetG N h a S n) (e : ∀ k, S' k = S k) : SetG N h a S' n := by
  obtain rfl : S' = S := funext e
  exact R
theorem ElemsOf.perm' {l l' : List (Int × Value)} (p : l.Perm l') (u : ElemsOf N l) : ElemsOf N l' := fun e he => u e (p.mem_iff.mpr he)
theorem setG_bare {ns : List K} (z : h.get? a = some (bareSet w)) : SetG N h a (fun j => decide (j ∈ ns.take 0)) 0 := by
  refine ⟨_, #[], 0, _, z, ⟨rfl, rfl, rfl⟩, rfl, (by intro e he; cases he), List.Pairwise.nil, fun k => by simp, ⟨by decide, rfl, rfl, List.Pairwise.nil, ?_⟩⟩
  show _ ∨ (!w.params.followText "set-order") = true
  cases w.params.followText "set-order"
  · exact .inr rfl
  · exact .inl rfl
/-- the new element stands in the table: it is stored, the table perhaps laid anew -/
theorem setG_tail {g : Bool → Sem Unit} (free : ∀ (b : Bool) (s₁ : Shared) (Q' : Unit → Shared → Prop), Q' () s₁ → wpAny (model P w) A (g b) Q' E s₁)
    {o : Obj} {es xs : Array (Int × Value)} {ep : Nat} {t u : SetTable} (z : s.heap.get? a = some o) (ex : o.ExactSet) (dz : o.data = .set es ep t) (el : ElemsOf N xs.toList) (un : Unl N xs.toList) (me : Mem N S xs.toList) (T : Tab w n xs u)
    {old : Bool} {R : Option Bool → Shared → Prop} (fin : ∀ h', Heap.SameBut a s.heap h' → SetG N h' a S n → R (some true) { s with heap := h' }) :
    wpAny (model P w) A (do { storeSet a xs u; if (!old && u.tooFull) = true then (do { g (relayAll u xs (SetTable.grown xs.size)).2.2; storeSet a (relayAll u xs (SetTable.grown xs.size)).1 (relayAll u xs (SetTable.grown xs.size)).2.1; pure (some true) }) else pure (some true) }) R E s := by
  refine wpAny_bind (wpAny_storeSet_of z dz ?_ (fits_of_scanBound T.room))
  have z1 := store_at (es' := xs) (t' := u) z dz
  have b1 := Heap.SameBut.update s.heap a (Obj.putSet xs u)
  split
  · have p := relayAll_perm u xs (SetTable.grown xs.size)
    have f3 := relayAll_fits u xs (SetTable.grown xs.size)
    have r3 := relayAll_ris u xs (SetTable.grown xs.size)
    have l3 := relayAll_led u xs (SetTable.grown xs.size)
    generalize relayAll u xs (SetTable.grown xs.size) = Y at p f3 r3 l3 ⊢
    obtain ⟨ys, v, way⟩ := Y
    simp only at p f3 r3 l3 ⊢
    have sz : ys.size = xs.size := by rw [← Array.length_toList, p.length_eq, Array.length_toList]
    have rm : ys.size < scanBound := sz ▸ T.room
    refine wpAny_bind (free _ _ _ ?_)
    refine wpAny_bind (wpAny_storeSet_of z1 rfl ?_ (fits_of_scanBound rm))
    refine wpAny_pure (fin _ (b1.trans (Heap.SameBut.update _ a _)) ⟨_, ys, _, v, store_at (es' := ys) (t' := v) z1 rfl, ex, rfl, ElemsOf.perm' p.symm el, un.perm p.symm, me.perm p.symm, ⟨rm, f3, sz.trans T.num, r3, T.led.imp id fun q => l3.trans q⟩⟩)
  · exact wpAny_pure (fin _ b1 ⟨_, xs, _, u, z1, ex, rfl, el, un, me, T⟩)
theorem setG_add {k : K} {x : Value} {Q : Bool → Shared → Prop} (kx : N.is k x = true) (sc : x.scannable = true) (R : SetG N s.heap a S n) (room : n + 1 < scanBound)
    (fin : ∀ h', Heap.SameBut a s.heap h' → SetG N h' a (fun j => S j || decide (j = k)) (if S k = true then n else n + 1) → Q (!S k) { s with heap := h' }) : wpAny (model P w) A (setAddHashed a x (N.hash k)) Q E s := by
  obtain ⟨o, es, ep, t, z, ex, dz, el, un, me, T⟩ := R
  have kd : ∀ j, N.is j x = decide (j = k) := fun j => KeyKind.is_eq_decide kx j
  unfold setAddHashed setAddHashedIn
  refine wpAny_holding (wpAny_bind (wpAny_setState_of z dz T.fit ?_))
  simp only [byScan_of sc T.room el, ↓reduceIte]
  unfold setAddByScan
  refine wpAny_bind ?_
  refine wpAny_bind (wpAny_rule (wpAny_bind (wpAny_setScan_of kx z dz T.fit el ?_)))
  cases fi : List.findIdx? (fun e => N.is k e.2) es.toList with
  | some j =>
    simp only
    obtain ⟨hj, pj, _⟩ := List.findIdx?_eq_some_iff_getElem.mp fi
    have Sk : S k = true := (me k).2 ⟨es.toList[j], List.getElem_mem hj, pj⟩
    refine wpAny_pure (wpAny_pure ?_)
    have q := fin s.heap (Heap.SameBut.refl a s.heap) ⟨o, es, ep, t, z, ex, dz, el, un, fun i => by
      rw [Bool.or_eq_true, decide_eq_true_eq, ← me i]
      exact ⟨fun y => y.elim id (fun e => e ▸ Sk), .inl⟩, by rw [if_pos Sk]; exact T⟩
    rw [Sk] at q
    exact q
  | none =>
    simp only
    have no : ∀ e ∈ es.toList, N.is k e.2 = false := fun e he => by
      have c := List.findIdx?_eq_none_iff.mp fi e he
      cases q : N.is k e.2 with
      | false => rfl
      | true => rw [q] at c; cases c
    have Sk : S k = false := by
      cases q : S k with
      | false => rfl
      | true =>
        obtain ⟨e, he, c⟩ := (me k).1 q
        rw [no e he] at c; cases c
    have way : ∀ (b : Bool) {s₁ : Shared} {Q' : Unit → Shared → Prop}, Q' () s₁ → wpAny (model P w) A (match b with | true => rule "set.scan.the-table-gave-way" | false => pure ()) Q' E s₁ :=
      fun b s₁ Q' q => by cases b <;> first | exact wpAny_pure q | exact wpAny_rule q
    have pm := layNew_perm t es (N.hash k) x
    have f1 := layNew_fits t es (N.hash k) x
    have r1 := layNew_ris t es (N.hash k) x T.ris
    have l1 := layNew_led t es (N.hash k) x
    generalize layNew t es (N.hash k) x = Y at pm f1 r1 l1 ⊢
    obtain ⟨xs, u, was, gave⟩ := Y
    simp only at pm f1 r1 l1 ⊢
    rw [Array.toList_push] at pm
    have p : ((N.hash k, x) :: es.toList).Perm xs.toList := ((List.perm_append_singleton _ _).symm.trans pm.symm)
    have el1 : ElemsOf N xs.toList := ElemsOf.perm' p fun e he => by
      rcases List.mem_cons.mp he with y | y
      · rw [y]; exact ⟨⟨k, kx, rfl⟩, sc⟩
      · exact el e y
    have un1 : Unl N xs.toList := Unl.perm p (List.pairwise_cons.mpr ⟨fun e he j h1 h2 => (by
      rw [kd j, decide_eq_true_eq] at h1
      rw [h1, no e he] at h2
      cases h2), un⟩)
    have me1 : Mem N (fun j => S j || decide (j = k)) xs.toList := Mem.perm p fun i => by
      rw [Bool.or_eq_true, decide_eq_true_eq, me i]
      constructor
      · rintro (⟨e, h1, h2⟩ | rfl)
        · exact ⟨e, List.mem_cons_of_mem _ h1, h2⟩
        · exact ⟨_, List.mem_cons_self, kx⟩
      · rintro ⟨e, h1, h2⟩
        rcases List.mem_cons.mp h1 with y | y
        · rw [y] at h2
          have h2 : N.is i x = true := h2
          rw [kd i, decide_eq_true_eq] at h2
          exact .inr h2
        · exact .inl ⟨e, y, h2⟩
    have sz : xs.size = n + 1 := by rw [← Array.length_toList, ← p.length_eq, List.length_cons, Array.length_toList, T.num]
    have T1 : ∀ v : SetTable, v.fits xs.size = true → Ris v.place.toList → v.led = u.led → Tab w (n + 1) xs v := fun v f r l => ⟨sz ▸ room, f, sz, r, T.led.imp id fun q => by rw [l, l1]; exact q⟩
    have last : ∀ h', Heap.SameBut a s.heap h' → SetG N h' a (fun j => S j || decide (j = k)) (n + 1) → Q true { s with heap := h' } := fun h' sb r => by
      have q := fin h' sb
      rw [Sk] at q
      exact q r
    refine wpAny_bind (way _ ?_)
    split
    · refine wpAny_bind ?_
      rw [hashByValue_scannable 8 sc]
      refine wpAny_pure ?_
      refine setG_tail (n := n + 1) (S := fun j => S j || decide (j = k)) ?_ z ex dz el1 un1 me1 (T1 _ ?_ ?_ ?_) ?_
      · intro b s₁ Q' q; cases b <;> first | exact wpAny_pure q | exact wpAny_rule q
      · first | (split <;> first | exact f1 | exact SetTable.fits_plain_off f1) | exact f1
      · first | (split <;> exact r1) | exact r1
      · first | (split <;> rfl) | rfl
      · intro h' sb r; simp only; exact wpAny_pure (last h' sb r)
    · refine wpAny_bind (wpAny_pure ?_)
      simp only [↓reduceIte]
      refine setG_tail (n := n + 1) (S := fun j => S j || decide (j = k)) ?_ z ex dz el1 un1 me1 (T1 _ f1 r1 rfl) ?_
      · intro b s₁ Q' q; cases b <;> first | exact wpAny_pure q | exact wpAny_rule q
      · intro h' sb r; simp only; exact wpAny_pure (last h' sb r)
/-- the loop that fills it -/
theorem setG_fill {I : Addr} {fp wr : List Addr} {G : Array GenState → Array GenState → Prop} {c : Nat} {Pv : Nat → Value → Prop} {St : Nat → Shared → Prop} {R : Result → Shared → Prop} (W : WalksS P w A.in1 I fp wr G c Pv St) (B : Addr) (out : B ∉ fp)
    (ks : List K) (hc : c = ks.length) (room : ks.length + 1 < scanBound) (val : ∀ i v, Pv i v → ∃ k, ks[i]? = some k ∧ N.is k v = true ∧ v.scannable = true) : ∀ (j i : Nat) (s : Shared), c - i = j → i ≤ c → St i s → (∃ b, b ≤ i ∧ SetG N s.heap B (fun j => decide (j ∈ ks.take i)) b) →
    (∀ s' b, Moved (B :: wr) G s s' → b ≤ c → SetG N s'.heap B (fun j => decide (j ∈ ks)) b → R (.ok (.ret .none)) s') → codeAny (model P w) A (.builtin "set.update.loop" ⟨[.ref B, .ref I], []⟩) R s := by
  have out' : B ∉ wr := fun q => out (W.sub _ q)
  have more : ∀ b ∈ wr, b ∈ B :: wr := fun b hb => List.mem_cons_of_mem _ hb
  intro j
  induction j with
  | zero =>
    rintro i s hj hi st ⟨b, hb, g⟩ fin
    obtain rfl : i = c := by omega
    refine codeAny_builtin F.entry_set_update_loop ?_
    rw [Around.under_plainId F.plain_set_update_loop _]; show wpAny _ A.in1 (pyNext (.ref I) >>= _) _ _ s
    refine wpAny_bind (W.done s _ _ st fun s1 mv => ?_)
    show wpAny _ A.in1 (ret Value.none) _ _ s1
    rw [List.take_of_length_le (by omega)] at g
    exact wpAny_pure (fin s1 b (mv.mono more) hb (g.keep fun o e => mv.heap B o out' e))
  | succ j ih =>
    rintro i s hj hi st ⟨b, hb, g⟩ fin
    have lt : i < c := by omega
    refine codeAny_builtin F.entry_set_update_loop ?_
    rw [Around.under_plainId F.plain_set_update_loop _]; show wpAny _ A.in1 (pyNext (.ref I) >>= _) _ _ s
    refine wpAny_bind (W.item i s _ _ lt st fun v s1 pv st1 mv => ?_)
    obtain ⟨k, hk, kx, sc⟩ := val i v pv
    have g1 : SetG N s1.heap B (fun j => decide (j ∈ ks.take i)) b := g.keep fun o e => mv.heap B o out' e
    show wpAny _ A.in1 (holding [v] (setAdd B v) >>= _) _ _ s1
    refine wpAny_bind (wpAny_holding ?_)
    unfold setAdd
    refine wpAny_holding (wpAny_bind (N.pyHash (k := k) kx ?_))
    refine setG_add (s := { s1 with toks := s1.toks + 1 }) kx sc g1 (by omega) fun h' sb g2 => ?_
    have g3 : SetG N h' B (fun j => decide (j ∈ ks.take (i + 1))) (if decide (k ∈ ks.take i) = true then b else b + 1) := g2.alike fun j => by
      rw [List.take_add_one, hk]; simp [List.mem_append]
    have up : (if decide (k ∈ ks.take i) = true then b else b + 1) ≤ i + 1 := by split <;> omega
    refine wpAny_pure ⟨plainId_quiet F.plain_set_update_loop _, ih (i + 1) _ (by omega) lt (W.frame _ s1 _ _ st1 (Nat.le_succ _) fun x hx o e => ?_) ⟨_, up, g3⟩ fun s2 d mv2 hd g4 => ?_⟩
    · rw [sb.2 x (fun q : x = B => out (q ▸ hx))]; exact e
    · refine fin s2 d (Moved.trans W.gtrans ((mv.mono more).then_heap (Nat.le_succ _) fun x o hx e => ?_) mv2) hd g4
      rw [sb.2 x (fun q : x = B => hx (q ▸ List.mem_cons_self))]; exact e
/-- set(l) of a list -/
theorem set_list {l : Addr} {items : Array Value} (ks : List K) {Q : Value → Shared → Prop} (calm : A.handled = none) (hl : s.heap.IsList l items) (len : items.size = ks.length) (room : ks.length + 1 < scanBound)
    (val : ∀ (i : Nat) (v : Value), items[i]? = some v → ∃ k, ks[i]? = some k ∧ N.is k v = true ∧ v.scannable = true)
    (fin : ∀ (h' : Heap) (tk c : Nat), SetG N h' s.heap.objs.size (fun j => decide (j ∈ ks)) c → c ≤ ks.length → (∀ b o, s.heap.get? b = some o → h'.get? b = some o) → Q (.ref s.heap.objs.size) { s with heap := h', toks := tk }) :
    wpAny (model P w) A (call (.type "set") [.ref l]) Q E s := by
  obtain ⟨cc, tl, mro⟩ := F.called_set.mro
  have made := F.called_set.made
  have sub := F.called_set.sub
  refine wpAny_call (codeAny_of_tree ?_)
  show wpAny _ _ (callAny (.type "set") _) _ _ _
  refine wpAny_pure ⟨Code.quiet_builtin _ (by decide +kernel), codeAny_builtin F.entry_type_call ?_⟩
  rw [Around.under_plain (weight_type_call_type "set" [.ref l] []) rfl]
  have f1 := F.called_set.notType
  have f2 := F.called_set.canCreate
  have f3 := F.typeCall_set_1 (.ref l)
  repeat any_goals (first | assumption | wp_step)
  refine codeAny_mono (code_set_led1 (.ref l) (E := E) (Q₁ := fun obj s₁ => obj = .ref s.heap.objs.size ∧ s₁ = { s with heap := s.heap.push (bareSet w) }) ⟨rfl, rfl⟩) fun r s₁ got => ?_
  match r, got with
  | .error e, got => exact got
  | .ok (.ret obj), got =>
    obtain ⟨rfl, rfl⟩ := got
    have zS : (s.heap.push (bareSet w)).get? s.heap.objs.size = some (bareSet w) := Heap.get?_push_size _ rfl
    have tS : Shared.TypeIs { s with heap := s.heap.push (bareSet w) } (.ref s.heap.objs.size) "set" := ⟨_, zS, rfl⟩
    have il := F.called_set.init.lookup
    have ib := F.called_set.init.bind (.ref s.heap.objs.size)
    repeat any_goals (first | assumption | wp_step)
    refine codeAny_mono (codeAny_call_builtin (R := wants (fun r s₂ => r = .none ∧ ∃ h' tk c, s₂ = { s with heap := h', toks := tk } ∧ SetG N h' s.heap.objs.size (fun j => decide (j ∈ ks)) c ∧ c ≤ ks.length ∧ (∀ b o, s.heap.get? b = some o → h'.get? b = some o)) E) F.called_set.init.plain F.entry_set_init (check_set_init_1 tS ?_)) fun r₂ s₂ got₂ => ?_
    · obtain ⟨ol, hol, hcl, nl, hdl⟩ := hl
      obtain ⟨ocls, odict, odata, oslots⟩ := ol
      simp only at hcl hdl
      subst hcl hdl
      have hol1 : (s.heap.push (bareSet w)).get? l = some { cls := .type "list", dict := odict, data := .seq items nl, slots := oslots } := Heap.get?_push_of_some _ hol
      have n1 : (Value.type "list" == Value.type "dict") = false := by decide
      have hl1 : (s.heap.push (bareSet w)).IsList l items := ⟨_, hol1, rfl, nl, rfl⟩
      have g1 := F.sub_list_set
      have g2 := F.sub_list_frozenset
      unfold Builtin.«set.__init__» noKeywords Builtin.Frozenset.updateFrom
      generalize ePI : pyIter = PI
      wp_walk
      subst ePI
      refine wpAny_pyIter_list hl1 (wpAny_bind (wpAny_runValue ?_))
      have lS : l < s.heap.objs.size := Heap.lt_size hol
      have calm3 : A.in1.in1.in1.handled = none := by simp [calm]
      have sz1 : (s.heap.push (bareSet w)).objs.size = s.heap.objs.size + 1 := Heap.size_push ..
      have lI : l ≠ (s.heap.push (bareSet w)).objs.size := by rw [sz1]; exact Nat.ne_of_lt (Nat.lt_succ_of_lt lS)
      have outf : s.heap.objs.size ∉ [(s.heap.push (bareSet w)).objs.size, l] := by
        rw [sz1]
        intro q
        rcases List.mem_cons.mp q with q | q
        · exact absurd q (Nat.ne_of_lt (Nat.lt_succ_self _))
        · exact absurd (List.mem_singleton.mp q) (Nat.ne_of_gt lS)
      refine setG_fill (N := N) ((Walks.list calm3 _ l lI items).toS) s.heap.objs.size outf ks len room val (items.size - 0) 0 _ (by omega) (Nat.zero_le _) ⟨⟨_, Heap.get?_push_size _ rfl, rfl, rfl⟩, (hl1.push _)⟩ ?start ?last
      case start => exact ⟨0, Nat.le_refl 0, setG_bare (Heap.get?_push_of_some _ zS)⟩
      case last =>
        intro s' c mv hc g
        obtain ⟨h', gg, d', tk', os'⟩ := s'
        obtain rfl : gg = s.gens := mv.gens
        obtain rfl : d' = s.drawn := mv.drawn
        obtain rfl : os' = s.os := mv.os
        show wpAny _ _ _ _ _ _
        refine wpAny_pure ?_
        show wpAny _ _ (ret Value.none) _ _ _
        rw [len] at hc
        refine wpAny_pure ⟨rfl, h', tk', c, rfl, g, hc, fun b o e => ?_⟩
        have b0 : b < s.heap.objs.size := Heap.lt_size e
        refine mv.heap b o (fun q => ?_) (Heap.get?_push_of_some _ (Heap.get?_push_of_some _ e))
        rcases List.mem_cons.mp q with q | q
        · exact absurd q (Nat.ne_of_lt b0)
        · have q := List.mem_singleton.mp q
          rw [sz1] at q
          exact absurd q (Nat.ne_of_lt (Nat.lt_succ_of_lt b0))
    · match r₂, got₂ with
      | .error e, got₂ => exact got₂
      | .ok (.ret r), got₂ =>
        obtain ⟨rfl, h', tk, c, rfl, g, hc, kk⟩ := got₂
        repeat any_goals (first | assumption | wp_step)
        exact fin _ _ _ g hc kk
end
end DL
namespace DL
open PySem PySem.Spec PyProof.Rows L2
end DL
namespace DL
open PySem PySem.Spec PyProof.Rows L2
end DL
namespace DL
open PySem PySem.Spec PyProof.Rows L2
variable [Cl] [Lk]
abbrev DPs := List (L2.Key × DE)
inductive JPs (X : Cx) (pos : Pos) : List (Option Expr) → List Expr → DPs → Prop
  | nil : JPs X pos [] [] []
  | cons {k v : Expr} {ks : List (Option Expr)} {vs : List Expr} {kk : L2.Key} {t : DE} {ts : DPs} : PE X k (tC (kV kk)) → JE X v t → JPs X pos ks vs ts → JPs X pos (some k :: ks) (v :: vs) ((kk, t) :: ts)
theorem JPs.all {X : Cx} {pos : Pos} : ∀ {ks : List (Option Expr)} {vs : List Expr} {ts : DPs}, JPs X pos ks vs ts → ks.all (·.isSome) = true ∧ ks.length = vs.length ∧ ks.length = ts.length
  | _, _, _, .nil => ⟨rfl, rfl, rfl⟩
  | _, _, _, .cons a b r => ⟨by rw [List.all_cons]; simp [r.all.1], by rw [List.length_cons, List.length_cons, r.all.2.1], by rw [List.length_cons, List.length_cons, r.all.2.2]⟩
theorem eqG_nil {x : D} {ds : List D} {k c : Nat} {m : Sto} {q : D → Sto → Prop} {neg : Bool} (hx : seqL x m = some ds) (hd : ∀ d ∈ ds, Gd k c d) (hk : k < 60) (h : q (.bl (if neg then !ds.isEmpty else ds.isEmpty)) m) : dEqG neg x (.lst []) m q := by
  obtain ⟨v, e, p⟩ := gd_lstP hd
  refine eqG_py (c := _) (c' := 2) ((py_seq hx).trans e) py_nil (p.mono (by omega) (Nat.le_refl _)) (pd_nil.mono (by decide) (Nat.le_refl _)) ?_
  have ev : PyData.eqv v (.list []) = ds.isEmpty := by
    cases ds with
    | nil => rw [nilA] at e; cases e; rfl
    | cons d es => exact eqv_nil (by simp) e
  rw [ev]; exact h
end DL
namespace DL
open PySem PySem.Spec PyProof.Rows L2
mutual
inductive RdN (h : Heap) : Value → PyData → Prop
  | non : RdN h .none .none
  | bl (b : Bool) : RdN h (.bool b) (.bool b)
  | int (i : Int) (t : Tok) : RdN h (.int i t) (.int i)
  | str (x : Str) (t : Tok) : RdN h (.str x t) (.str x)
  | lst {a : Addr} {o : Obj} {vs : Array Value} {n : Nat} {xs : List PyData} : h.get? a = some o → o.cls = .type "list" → o.data = .seq vs n → RdNA h vs.toList xs → RdN h (.ref a) (.list xs)
  | tup {a : Addr} {o : Obj} {vs : Array Value} {n : Nat} {xs : List PyData} : h.get? a = some o → o.cls = .type "tuple" → o.data = .seq vs n → RdNA h vs.toList xs → RdN h (.ref a) (.tuple xs)
  | dic {a : Addr} {o : Obj} {es : Array DictEntry} {n : Nat} {l : List (PyData × PyData)} : h.get? a = some o → o.cls = .type "dict" → o.data = .dict es n → (a == sysModules) = false → RdNA h (es.toList.map (·.key)) (l.map (·.1)) → RdNA h (es.toList.map (·.val)) (l.map (·.2)) → RdN h (.ref a) (.dict l)
inductive RdNA (h : Heap) : List Value → List PyData → Prop
  | nil : RdNA h [] []
  | cons {v : Value} {vs : List Value} {d : PyData} {ds : List PyData} : RdN h v d → RdNA h vs ds → RdNA h (v :: vs) (d :: ds)
end
section
variable {h : Heap}
mutual
theorem RdN.reads : ∀ {v : Value} {d : PyData}, RdN h v d → ∃ as, Reads h v d as
  | _, _, .non => ⟨_, .none⟩
  | _, _, .bl b => ⟨_, .bool b⟩
  | _, _, .int i t => ⟨_, .int i t⟩
  | _, _, .str x t => ⟨_, .str x t⟩
  | _, _, .lst h1 h2 h3 r => let ⟨_, q⟩ := r.reads; ⟨_, .list h1 h2 h3 q⟩
  | _, _, .tup h1 h2 h3 r => let ⟨_, q⟩ := r.reads; ⟨_, .tuple h1 h2 h3 q⟩
  | _, _, .dic h1 h2 h3 _ r s => let ⟨_, q⟩ := r.reads; let ⟨_, p⟩ := s.reads; ⟨_, .dict h1 h2 h3 q p⟩
theorem RdNA.reads : ∀ {vs : List Value} {ds : List PyData}, RdNA h vs ds → ∃ as, ReadsAll h vs ds as
  | _, _, .nil => ⟨_, .nil⟩
  | _, _, .cons r s => let ⟨_, q⟩ := r.reads; let ⟨_, p⟩ := s.reads; ⟨_, .cons q p⟩
end
variable {P : Program} {w : World}
end
def keyP : L2.Key → PyData
  | .inl i => .int i
  | .inr x => .str x
mutual
inductive PyR (m : Sto) : D → PyData → Prop
  | non : PyR m .non .none
  | bl (b : Bool) : PyR m (.bl b) (.bool b)
  | int (i : Int) : PyR m (.int i) (.int i)
  | str (x : Str) : PyR m (.str x) (.str x)
  | tup {ds : List D} {ps : List PyData} : PyRA m ds ps → PyR m (.tup ds) (.tuple ps)
  | lst {ds : List D} {ps : List PyData} : PyRA m ds ps → PyR m (.lst ds) (.list ps)
  | fz {ds : List D} {ps : List PyData} : PyRA m ds ps → PyR m (.fz ds) (.list ps)
  | ptr {i : Nat} {ds : List D} {ps : List PyData} : m[i]? = some (.lst ds) → PyRA m ds ps → PyR m (.ptr i) (.list ps)
  | dic {kvs : List (L2.Key × D)} {l : List (PyData × PyData)} : PyRD m kvs l → PyR m (.dic kvs) (.dict l)
  | dptr {i : Nat} {kvs : List (L2.Key × D)} {l : List (PyData × PyData)} : m[i]? = some (.dic kvs) → PyRD m kvs l → PyR m (.ptr i) (.dict l)
inductive PyRA (m : Sto) : List D → List PyData → Prop
  | nil : PyRA m [] []
  | cons {d : D} {ds : List D} {p : PyData} {ps : List PyData} : PyR m d p → PyRA m ds ps → PyRA m (d :: ds) (p :: ps)
inductive PyRD (m : Sto) : List (L2.Key × D) → List (PyData × PyData) → Prop
  | nil : PyRD m [] []
  | cons {k : L2.Key} {d : D} {kvs : List (L2.Key × D)} {p : PyData} {l : List (PyData × PyData)} : PyR m d p → PyRD m kvs l → PyRD m ((k, d) :: kvs) ((keyP k, p) :: l)
end
variable [Cl] [Lk]
mutual
theorem dp_pyr {K : PySem.W.Frag} {W : Wd} {F H : Hp} {m : Sto} (rel : Rel K W F H m) : ∀ {d : D} {p : PyData} {x : V}, PyR m d p → p.hasDict = false → R K W x d → Dp K H x p
  | _, _, _, .non, _, r => by cases r; exact .non
  | _, _, _, .bl b, _, r => by cases r; exact .bl b
  | _, _, _, .int i, _, r => by cases r; exact .int i
  | _, _, _, .str x, _, r => by cases r; exact .str x
  | _, _, _, .tup q, n, r => by
    cases r with
    | tup hs ra => exact .tup (same_seqT rel.sub hs) (dpA_pyr rel q (by simpa only [PyData.hasDict] using n) ra)
  | _, _, _, .lst q, n, r => by
    cases r with
    | lst hs ra => exact .lst (SqL.of (rel.sub _ _ hs)) (dpA_pyr rel q (by simpa only [PyData.hasDict] using n) ra)
  | _, _, _, .fz q, n, r => by
    cases r with
    | fz hs ra => exact .lst (same_seqL rel.sub hs) (dpA_pyr rel q (by simpa only [PyData.hasDict] using n) ra)
  | _, _, _, .ptr hm q, n, r => by
    cases r with
    | ptr hb =>
      obtain ⟨b, h1, _, _, xs, h4, ra⟩ := rel.cell _ _ hm (fun z => by cases z)
      obtain rfl := Option.some.inj (h1.symm.trans hb)
      exact .lst (SqL.of h4) (dpA_pyr rel q (by simpa only [PyData.hasDict] using n) ra)
  | _, _, _, .dic q, n, r => by simp only [PyData.hasDict] at n; cases n
  | _, _, _, .dptr hm q, n, r => by simp only [PyData.hasDict] at n; cases n
theorem dpA_pyr {K : PySem.W.Frag} {W : Wd} {F H : Hp} {m : Sto} (rel : Rel K W F H m) : ∀ {ds : List D} {ps : List PyData} {xs : List V}, PyRA m ds ps → PyData.hasDictAll ps = false → RA K W xs ds → DpAll K H xs ps
  | _, _, _, .nil, _, r => by cases r; exact .nil
  | _, _, _, .cons q qs, n, r => by
    cases r with
    | cons r1 r2 =>
      rw [PyData.hasDictAll, Bool.or_eq_false_iff] at n
      have n' := n
      exact .cons (dp_pyr rel q n'.1 r1) (dpA_pyr rel qs n'.2 r2)
end
@[irreducible] def dEqS (neg : Bool) (x y : D) (m : Sto) (q : D → Sto → Prop) : Prop := ∃ a b, PyR m x a ∧ PyR m y b ∧ (a.hasDict = false ∧ SeqAt.shaped a = true) ∧ (b.hasDict = false ∧ SeqAt.shaped b = true) ∧ q (.bl (if neg then !PyData.eqv a b else PyData.eqv a b)) m
def dEqD : F2
  | .int i, .int j, m, q => q (.bl (decide (i = j))) m
  | .bl i, .bl j, m, q => q (.bl (decide (i = j))) m
  | .str i, .str j, m, q => q (.bl (decide (i = j))) m
  | x, y, m, q => dEqS false x y m q
theorem o_eqD {K : PySem.W.Frag} : Op2 K dEqD (rrEq K) := by
  intro W F H m x y d e q Q rel rx ry h k
  unfold dEqD at h
  split at h
  · cases rx; cases ry
    refine .inl ⟨rfl, ?_⟩
    rw [v_int]
    exact k _ _ _ _ _ (.refl _) rel (.bl _) h
  · cases rx; cases ry
    refine .inl ⟨rfl, ?_⟩
    rw [v_bl]
    exact k _ _ _ _ _ (.refl _) rel (.bl _) h
  · cases rx; cases ry
    refine .inl ⟨rfl, ?_⟩
    rw [v_str]
    exact k _ _ _ _ _ (.refl _) rel (.bl _) h
  · unfold dEqS at h
    obtain ⟨a, b, e1, e2, h1, h2, h⟩ := h
    exact .inr ⟨a, b, dp_pyr rel e1 h1.1 rx, dp_pyr rel e2 h2.1 ry, h1.2, h2.2, k _ _ _ _ _ (.refl _) rel (.bl _) h⟩
section
variable {X : Cx} {a b : Expr} {ta tb : DE} {p pos : Pos} {k : Nat}
/-- what can be shown -/
structure Sd (k c : Nat) (v : PyData) : Prop where
  dep : v.depth ≤ k
  sho : v.showable = true
  len : v.shown.length ≤ c
end
theorem Sd.mono {k c k' c' : Nat} {v : PyData} (h : Sd k c v) (hk : k ≤ k') (hc : c ≤ c') : Sd k' c' v := ⟨Nat.le_trans h.dep hk, h.sho, Nat.le_trans h.len hc⟩
/-- what may be shown, and what may be compared too -/
def Sh (m : Sto) (k c : Nat) (d : D) : Prop := ∃ v, PyR m d v ∧ Sd k c v
def Cm (m : Sto) (k c : Nat) (d : D) : Prop := ∃ v, PyR m d v ∧ Pd k c v
mutual
theorem pyr_py {m : Sto} : ∀ {d : D} {v : PyData}, py0 d = some v → PyR m d v
  | .non, _, e => by cases e; exact .non
  | .bl b, _, e => by cases e; exact .bl b
  | .int i, _, e => by cases e; exact .int i
  | .str x, _, e => by cases e; exact .str x
  | .tup ds, _, e => by
    simp only [py0, Option.map_eq_some_iff] at e
    obtain ⟨ps, e, rfl⟩ := e
    exact .tup (pyrA_py e)
  | .lst ds, _, e => by
    simp only [py0, Option.map_eq_some_iff] at e
    obtain ⟨ps, e, rfl⟩ := e
    exact .lst (pyrA_py e)
  | .fz ds, _, e => by
    simp only [py0, Option.map_eq_some_iff] at e
    obtain ⟨ps, e, rfl⟩ := e
    exact .fz (pyrA_py e)
  | .ptr _, _, e => by cases e
  | .ty _, _, e => by cases e
  | .dic _, _, e => by cases e
  | .adr _, _, e => by cases e
  | .gl _, _, e => by cases e
theorem pyrA_py {m : Sto} : ∀ {ds : List D} {ps : List PyData}, py0A ds = some ps → PyRA m ds ps
  | [], _, e => by cases e; exact .nil
  | d :: ds, ps, e => by
    unfold py0A at e
    cases e1 : py0 d with
    | none => rw [e1] at e; simp at e
    | some p =>
      cases e2 : py0A ds with
      | none => rw [e1, e2] at e; simp at e
      | some qs =>
        rw [e1, e2] at e
        cases e
        exact .cons (pyr_py e1) (pyrA_py e2)
end
theorem Gd.cm {m : Sto} {k c : Nat} {d : D} (h : Gd k c d) : Cm m k c d := let ⟨v, e, p⟩ := h; ⟨v, pyr_py e, p⟩
theorem Sh.mono {m : Sto} {k c k' c' : Nat} {d : D} (h : Sh m k c d) (hk : k ≤ k') (hc : c ≤ c') : Sh m k' c' d := let ⟨v, a, b⟩ := h; ⟨v, a, b.mono hk hc⟩
theorem Cm.mono {m : Sto} {k c k' c' : Nat} {d : D} (h : Cm m k c d) (hk : k ≤ k') (hc : c ≤ c') : Cm m k' c' d := let ⟨v, a, b⟩ := h; ⟨v, a, b.mono hk hc⟩
end DL
namespace DL
open PySem PySem.Spec PyProof.Rows L2
section
variable [Cl] {K : PySem.W.Frag} {mg : Str → Option Value} {c : Str} {C : Addr}
theorem xisb_nil (a : mg "ValueError" = none) : XIs K mg [] "ValueError" := ⟨.type "ValueError", .inr ⟨"ValueError", a, by decide +kernel, rfl, by decide⟩, fun _ z => nomatch z⟩
theorem xisb_cons {cs : List Str} (a : mg "ValueError" = none) (ad : Cl.ad c = some C) (ef : exfB K C = true) (e : PySem.W.kitOne K (.ref C) (.type "ValueError") = some true) (r : XIs K mg cs "ValueError") : XIs K mg (c :: cs) "ValueError" := by
  obtain ⟨u, h2, r⟩ := r.ex
  have hu : u = .type "ValueError" := by
    rcases h2 with ⟨D, h2, rfl⟩ | ⟨n, h2, h3, _⟩
    · rw [h2] at a; cases a
    · have : bootBuiltins "ValueError" = some (.type "ValueError") := by decide +kernel
      rw [this] at h3; exact (Option.some.inj h3).symm
  subst hu
  refine ⟨.type "ValueError", h2, fun x hx D hD => ?_⟩
  rcases List.mem_cons.mp hx with z | z
  · subst z
    rw [ad] at hD; cases hD
    refine ⟨exfB_ok ef, ?_⟩
    rw [e]
    unfold isX
    rw [show (("ValueError" : Str) == ("ValueError" : Str)) = true from beq_self_eq_true _, Bool.or_true]
  · exact r x z D hD
end
end DL
namespace DL
open PySem PySem.Spec PyProof.Rows L2
end DL
namespace DL
open PySem PySem.Spec PyProof.Rows L2
end DL
namespace DL
open PySem PySem.Spec PyProof.Rows L2
end DL
namespace DL
open PySem PySem.Spec PyProof.Rows L2
end DL
namespace DL
open PySem PySem.Spec PyProof.Rows L2
def rEqLen : R2 := fun x y H Q => ∃ a b xs ys, x = .ref a ∧ y = .ref b ∧ H a = some (.lst xs) ∧ H b = some (.lst ys) ∧ xs.length ≠ ys.length ∧ Q (.bl false) H
theorem op_eqLen {X : Cx} (hu : X.A.units + 64 < cLine) : OpR X (compareOp .Eq) rEqLen := by
  intro pins s σ H x y v u Q I rx ry h
  obtain ⟨a, b, xs, ys, rfl, rfl, ea, eb, hn, q⟩ := h
  obtain rfl : v = Value.ref a := rx
  obtain rfl : u = Value.ref b := ry
  obtain ⟨its, r1, p1, -⟩ := I.list (show SqL X.K H a xs from .inl (.inl ea))
  obtain ⟨its2, r2, p2, -⟩ := I.list (show SqL X.K H b ys from .inl (.inl eb))
  have l1 := r1.length
  have l2 := r2.length
  exact SeqAt.RcAt.lists_lengths p1.isList p2.isList (by simp only [List.size_toArray, bne_iff_ne, ne_eq]; omega) (by omega) X.prog X.w X.xe _ ⟨.bl false, H, I, rfl, q⟩
/-- xs == [] -/
@[irreducible] def dEqNilF (x y : D) (m : Sto) (q : D → Sto → Prop) : Prop := y = .lst [] ∧ onS (lstOf x m) fun ds => q (.bl ds.isEmpty) m
def dEqNil : F2 := dEqNilF
def rrEqNil (K : PySem.W.Frag) : R2 := fun x y H Q => rrEq K x y H Q ∨ rEqLen x y H Q
theorem o_eqNil [Cl] [Lk] {K : PySem.W.Frag} : Op2 K dEqNil (rrEqNil K) := by
  intro W F H m x y d e q Q rel rx ry h k
  unfold dEqNil dEqNilF at h
  obtain ⟨rfl, h⟩ := h
  obtain ⟨ds, e1, h⟩ := onS_some h
  cases ds with
  | nil =>
    have go : dEq d (.lst []) m q := by
      have z : dEqG false d (.lst []) m q := eqG_nil (k := 0) (c := 0) (show seqL d m = some [] by cases d <;> first | exact e1 | cases e1) (fun _ z => absurd z (List.not_mem_nil)) (by decide) h
      unfold dEq
      split <;> first | exact z | cases e1
    exact .inl (o_eq W F H m x y d _ q Q rel rx ry go k)
  | cons d0 ds =>
    obtain ⟨a, xs, rfl, g, ra⟩ := lstOf_at rel rx e1
    obtain ⟨b, ys, rfl, g2, rb⟩ := lstOf_at rel ry (ds := []) rfl
    exact .inr ⟨a, b, xs, ys, rfl, rfl, g, g2, by rw [ra.len, rb.len]; simp, k _ _ _ _ _ (.refl _) rel (.bl _) h⟩
section
variable [Cl] [Lk] {X : Cx} {a b : Expr} {ta tb : DE} {pos : Pos} {k : Nat}
theorem je_eqNil (hr : Room k X.A) (ha : JE X a ta) (hb : JE X b tb) : JE X (.Compare a [.Eq] [b] pos) (dBin dEqNil ta tb) := je_cmp ((op_eqAll (units64 hr)).or (op_eqLen (units64 hr))) o_eqNil ha hb (nobehind _ (by decide) (by decide))
end
theorem eqNil_i {x : D} {m : Sto} {ds : List D} {q : D → Sto → Prop} (e : lstOf x m = some ds) (h : q (.bl ds.isEmpty) m) : dEqNil x (.lst []) m q := by
  unfold dEqNil dEqNilF
  rw [e]
  exact ⟨rfl, h⟩
end DL
namespace DL
open PySem PySem.Spec PyProof.Rows L2
end DL
namespace DL
open PySem PySem.Spec PyProof.Rows L2
/-- what a set of tuples stores -/
abbrev stored {P : Program} {w : World} {κ : Type} [DecidableEq κ] (N : KeyKind P w κ) (L : List (Addr × List κ)) : List (Int × Value) := L.map fun p => (tupleKeyHash N p.2, Value.ref p.1)
abbrev hashes {P : Program} {w : World} {κ : Type} [DecidableEq κ] (N : KeyKind P w κ) (L : List (Addr × List κ)) : List Int := L.map fun p => tupleKeyHash N p.2
section
variable {P : Program} {w : World} {κ : Type} [DecidableEq κ]
structure Sits (N : KeyKind P w κ) (h : Heap) (L : List (Addr × List κ)) (es : Array (Int × Value)) (t : SetTable) : Prop where
  rows : es.toList = stored N L
  tab : TabOk t (hashes N L)
  nd : (L.map (·.2)).Nodup
  tup : ∀ p ∈ L, IsTupleKey N h p.2 p.1
  led : w.params.followText "set-order" = true ∨ t.led = true
  room : L.length * 5 < t.mask * 3
  few : L.length < 64
structure TSet (N : KeyKind P w κ) (h : Heap) (a : Addr) (L : List (Addr × List κ)) : Prop where
  ex : ∃ o es ep t, h.get? a = some o ∧ o.ExactSet ∧ o.data = .set es ep t ∧ Sits N h L es t
variable {N : KeyKind P w κ} {h h' : Heap} {a : Addr} {L : List (Addr × List κ)} {es : Array (Int × Value)} {t : SetTable}
theorem Sits.size (S : Sits N h L es t) : es.size = L.length := by
  rw [← Array.length_toList, S.rows, List.length_map]
theorem Sits.fits (S : Sits N h L es t) : t.fits es.size = true := by
  have a1 := S.tab.sz
  rw [List.length_map] at a1
  have a2 := S.size
  have a3 := S.room
  unfold SetTable.fits SetTable.fill
  rw [S.tab.dm, Bool.and_eq_true, beq_iff_eq, decide_eq_true_eq]
  refine ⟨?_, ?_⟩
  · omega
  · show t.place.size + 0 ≤ t.mask; omega
theorem Sits.at (S : Sits N h L es t) {i : Nat} {p : Addr × List κ} (e : L[i]? = some p) : es[i]? = some (tupleKeyHash N p.2, Value.ref p.1) := by
  rw [← Array.getElem?_toList, S.rows, List.getElem?_map, e]; rfl
theorem Sits.calm (S : Sits N h L es t) : ¬ t.gaveWay = true := by
  unfold SetTable.gaveWay
  rw [mask_odd S.tab.mok]
  decide
theorem Sits.keep (S : Sits N h L es t) (k : ∀ p ∈ L, IsTupleKey N h' p.2 p.1) : Sits N h' L es t := ⟨S.rows, S.tab, S.nd, k, S.led, S.room, S.few⟩
theorem TSet.keep (T : TSet N h a L) (ha : ∀ o, h.get? a = some o → h'.get? a = some o) (k : ∀ p ∈ L, IsTupleKey N h' p.2 p.1) : TSet N h' a L := by
  obtain ⟨o, es, ep, t, h1, h2, h3, S⟩ := T.ex
  exact ⟨o, es, ep, t, ha o h1, h2, h3, S.keep k⟩
variable {A : Around} {E : Value → Shared → Prop} {s : Shared}
end
end DL
namespace DL
open PySem PySem.Spec PyProof.Rows L2
/-- as many as there are unlike ones -/
def many {α : Type} [DecidableEq α] : List α → Nat
  | [] => 0
  | x :: xs => if x ∈ xs then many xs else many xs + 1
end DL
namespace DL
open PySem PySem.Spec PyProof.Rows L2
variable [Cl]
section
variable {P : Program} {w : World} {K : PySem.W.Frag} {mg : Str → Option Value} {base : Heap}
theorem Kn.up {k k' : Nat} {x : Str} {g : FN} (c : Kn P w K mg base k x g) (h : k ≤ k') : Kn P w K mg base k' x g := by
  obtain ⟨n, fa, fd, ps, G, h1, h2, h3, h4⟩ := c.ex
  exact ⟨n, fa, fd, ps, ⟨G.len, fun A outer s H args us vs Q E hr gd e0 hb r z => G.run A outer s H args us vs Q E (hr.mono h) gd e0 hb r z⟩, h1, h2, h3, h4⟩
end
end DL
namespace DL
open PySem PySem.Spec PyProof.Rows L2
section
variable {m m' : Sto} {d : D} {v : PyData}
theorem PyRA.len : ∀ {ds : List D} {vs : List PyData}, PyRA m ds vs → ds.length = vs.length
  | _, _, .nil => rfl
  | _, _, .cons _ r => by rw [List.length_cons, List.length_cons, PyRA.len r]
theorem PyRA.get : ∀ {ds : List D} {vs : List PyData} {i : Nat} {v : PyData}, PyRA m ds vs → vs[i]? = some v → ∃ d, ds[i]? = some d ∧ PyR m d v
  | _, _, _, _, .nil, e => by simp at e
  | _, _, 0, _, .cons h _, e => by
    simp only [List.getElem?_cons_zero, Option.some.injEq] at e
    subst e
    exact ⟨_, rfl, h⟩
  | _, _, i + 1, _, .cons _ r, e => by
    rw [List.getElem?_cons_succ] at e ⊢
    exact PyRA.get r e
theorem PyRA.getD : ∀ {ds : List D} {vs : List PyData} {i : Nat} {d : D}, PyRA m ds vs → ds[i]? = some d → ∃ v, vs[i]? = some v ∧ PyR m d v
  | _, _, _, _, .nil, e => by simp at e
  | _, _, 0, _, .cons h _, e => by
    simp only [List.getElem?_cons_zero, Option.some.injEq] at e
    subst e
    exact ⟨_, rfl, h⟩
  | _, _, i + 1, _, .cons _ r, e => by
    rw [List.getElem?_cons_succ] at e ⊢
    exact PyRA.getD r e
theorem PyRA.all : ∀ {ds : List D} {vs : List PyData}, PyRA m ds vs → ∀ d ∈ ds, ∃ v, v ∈ vs ∧ PyR m d v
  | _, _, .nil, _, z => nomatch z
  | _, _, .cons h r, d, z => by
    rcases List.mem_cons.mp z with e | z
    · subst e; exact ⟨_, List.mem_cons_self, h⟩
    · obtain ⟨v, h1, h2⟩ := PyRA.all r d z
      exact ⟨v, List.mem_cons_of_mem _ h1, h2⟩
theorem PyRA.app : ∀ {ds es : List D} {vs us : List PyData}, PyRA m ds vs → PyRA m es us → PyRA m (ds ++ es) (vs ++ us)
  | _, _, _, _, .nil, s => s
  | _, _, _, _, .cons h r, s => .cons h (PyRA.app r s)
theorem PyR.seq {vs : List PyData} (h : PyR m d (.list vs)) : ∃ ds, seqL d m = some ds ∧ PyRA m ds vs := by
  cases h with
  | lst r => exact ⟨_, rfl, r⟩
  | fz r => exact ⟨_, rfl, r⟩
  | ptr hm r => exact ⟨_, lstOf_ptr hm, r⟩
def btwP (v : PyData) (lo hi : Int) : Bool := match v with
  | .int i => decide (lo ≤ i) && decide (i ≤ hi)
  | _ => false
def upP : Int → List PyData → Bool
  | _, [] => true
  | l, .int i :: r => btwP (.int i) 0 1000 && (decide (l ≤ i) && upP i r)
  | _, _ => false
theorem PyRA.up : ∀ {ds : List D} {vs : List PyData} (l : Int), PyRA m ds vs → upD l ds = upP l vs
  | _, _, _, .nil => rfl
  | _, _, l, .cons (d := d) (p := p) h r => by
    cases h with
    | int i => show (_ && (_ && upD i _)) = (_ && (_ && upP i _)); rw [PyRA.up i r]; rfl
    | _ => rfl
end
mutual
/-- a thing that looks into the store within [lo, hi) alone -/
inductive PyIn (m : Sto) (lo hi : Nat) : D → PyData → Prop
  | non : PyIn m lo hi .non .none
  | bl (b : Bool) : PyIn m lo hi (.bl b) (.bool b)
  | int (i : Int) : PyIn m lo hi (.int i) (.int i)
  | str (x : Str) : PyIn m lo hi (.str x) (.str x)
  | tup {ds : List D} {vs : List PyData} : PyInA m lo hi ds vs → PyIn m lo hi (.tup ds) (.tuple vs)
  | lst {ds : List D} {vs : List PyData} : PyInA m lo hi ds vs → PyIn m lo hi (.lst ds) (.list vs)
  | fz {ds : List D} {vs : List PyData} : PyInA m lo hi ds vs → PyIn m lo hi (.fz ds) (.list vs)
  | ptr {i : Nat} {ds : List D} {vs : List PyData} : lo ≤ i → i < hi → m[i]? = some (.lst ds) → PyInA m lo hi ds vs → PyIn m lo hi (.ptr i) (.list vs)
inductive PyInA (m : Sto) (lo hi : Nat) : List D → List PyData → Prop
  | nil : PyInA m lo hi [] []
  | cons {d : D} {v : PyData} {ds : List D} {vs : List PyData} : PyIn m lo hi d v → PyInA m lo hi ds vs → PyInA m lo hi (d :: ds) (v :: vs)
end
mutual
theorem PyIn.r {m : Sto} {lo hi : Nat} : ∀ {d : D} {v : PyData}, PyIn m lo hi d v → PyR m d v
  | _, _, .non => .non
  | _, _, .bl b => .bl b
  | _, _, .int i => .int i
  | _, _, .str x => .str x
  | _, _, .tup r => .tup (PyInA.r r)
  | _, _, .lst r => .lst (PyInA.r r)
  | _, _, .fz r => .fz (PyInA.r r)
  | _, _, .ptr _ _ hm r => .ptr hm (PyInA.r r)
theorem PyInA.r {m : Sto} {lo hi : Nat} : ∀ {ds : List D} {vs : List PyData}, PyInA m lo hi ds vs → PyRA m ds vs
  | _, _, .nil => .nil
  | _, _, .cons h r => .cons (PyIn.r h) (PyInA.r r)
end
mutual
/-- in another store that is alike there -/
theorem PyIn.on {m m' : Sto} {lo hi lo' hi' : Nat} (hl : lo' ≤ lo) (hh : hi ≤ hi') (k : ∀ i c, lo ≤ i → i < hi → m[i]? = some c → m'[i]? = some c) : ∀ {d : D} {v : PyData}, PyIn m lo hi d v → PyIn m' lo' hi' d v
  | _, _, .non => .non
  | _, _, .bl b => .bl b
  | _, _, .int i => .int i
  | _, _, .str x => .str x
  | _, _, .tup r => .tup (PyInA.on hl hh k r)
  | _, _, .lst r => .lst (PyInA.on hl hh k r)
  | _, _, .fz r => .fz (PyInA.on hl hh k r)
  | _, _, .ptr h1 h2 hm r => .ptr (Nat.le_trans hl h1) (Nat.lt_of_lt_of_le h2 hh) (k _ _ h1 h2 hm) (PyInA.on hl hh k r)
theorem PyInA.on {m m' : Sto} {lo hi lo' hi' : Nat} (hl : lo' ≤ lo) (hh : hi ≤ hi') (k : ∀ i c, lo ≤ i → i < hi → m[i]? = some c → m'[i]? = some c) : ∀ {ds : List D} {vs : List PyData}, PyInA m lo hi ds vs → PyInA m' lo' hi' ds vs
  | _, _, .nil => .nil
  | _, _, .cons h r => .cons (PyIn.on hl hh k h) (PyInA.on hl hh k r)
end
theorem PyInA.len {m : Sto} {lo hi : Nat} {ds : List D} {vs : List PyData} (h : PyInA m lo hi ds vs) : ds.length = vs.length := h.r.len
theorem PyInA.get {m : Sto} {lo hi : Nat} : ∀ {ds : List D} {vs : List PyData} {i : Nat} {v : PyData}, PyInA m lo hi ds vs → vs[i]? = some v → ∃ d, ds[i]? = some d ∧ PyIn m lo hi d v
  | _, _, _, _, .nil, e => by simp at e
  | _, _, 0, _, .cons h _, e => by
    simp only [List.getElem?_cons_zero, Option.some.injEq] at e
    subst e
    exact ⟨_, rfl, h⟩
  | _, _, i + 1, _, .cons _ r, e => by
    rw [List.getElem?_cons_succ] at e ⊢
    exact PyInA.get r e
mutual
def al : PyData → Nat → D × Sto
  | .list vs, k => (.ptr (k + (alA vs k).2.length), (alA vs k).2 ++ [.lst (alA vs k).1])
  | .tuple vs, k => (.tup (alA vs k).1, (alA vs k).2)
  | .int i, _ => (.int i, [])
  | .str x, _ => (.str x, [])
  | .bool b, _ => (.bl b, [])
  | .none, _ => (.non, [])
  | .dict _, _ => (.non, [])
def alA : List PyData → Nat → List D × Sto
  | [], _ => ([], [])
  | v :: vs, k => ((al v k).1 :: (alA vs (k + (al v k).2.length)).1, (al v k).2 ++ (alA vs (k + (al v k).2.length)).2)
end
end DL
namespace DL
open PySem PySem.Spec PyProof.Rows L2
/-- a name of one to k small letters -/
def nameB (k : Nat) (x : Str) : Bool := decide (1 ≤ x.length) && decide (x.length ≤ k) && x.cps.toList.all fun c => decide (97 ≤ c) && decide (c ≤ 122)
abbrev NameS (k : Nat) (x : Str) : Prop := nameB k x = true
theorem NameS.of {k : Nat} {x : Str} (h1 : 1 ≤ x.length) (h2 : x.length ≤ k) (h3 : ∀ c ∈ x.cps.toList, 97 ≤ c ∧ c ≤ 122) : NameS k x := by
  unfold NameS nameB
  simp only [Bool.and_eq_true, decide_eq_true_eq, List.all_eq_true]
  exact ⟨⟨h1, h2⟩, h3⟩
def nameD (x : D) : Bool := match x with | .str z => nameB 8 z | _ => false
def nameP : PyData → Bool
  | .str x => nameB 8 x
  | _ => false
theorem PyR.name {m : Sto} {d : D} {v : PyData} (h : PyR m d v) : nameD d = nameP v := by cases h <;> rfl
def KS : List (Str × Nat) := [("thing", 8), ("told", 6), ("held", 7), ("made", 6), ("read", 5), ("off", 4), ("harmed", 4), ("mended", 4)]
mutual
/-- no number, no text is too great to be asked -/
def Tame : PyData → Prop
  | .int i => Sm 8900 i
  | .str x => x.length ≤ 16777216
  | .tuple vs => TameA vs
  | .list vs => TameA vs
  | _ => True
def TameA : List PyData → Prop
  | [] => True
  | v :: vs => Tame v ∧ TameA vs
end
theorem TameA.mem : ∀ {vs : List PyData}, TameA vs → ∀ v ∈ vs, Tame v
  | _ :: _, h, v, hv => by
    simp only [TameA] at h
    rcases List.mem_cons.mp hv with e | e
    · rw [e]; exact h.1
    · exact TameA.mem h.2 v e
theorem TameA.of : ∀ {vs : List PyData}, (∀ v ∈ vs, Tame v) → TameA vs
  | [], _ => by simp only [TameA]
  | v :: vs, h => by
    simp only [TameA]
    exact ⟨h v List.mem_cons_self, TameA.of fun u hu => h u (List.mem_cons_of_mem _ hu)⟩
end DL
namespace DL
open PySem PySem.Spec PyProof.Rows L2
theorem PyInA.app {m : Sto} {lo hi : Nat} : ∀ {ds es : List D} {vs us : List PyData}, PyInA m lo hi ds vs → PyInA m lo hi es us → PyInA m lo hi (ds ++ es) (vs ++ us)
  | _, _, _, _, .nil, s => s
  | _, _, _, _, .cons h r, s => .cons h (PyInA.app r s)
/-- a store is written at a place that is not looked at -/
theorem PyIn.set {m : Sto} {lo hi i : Nat} {c : Cell} {d : D} {v : PyData} (h : PyIn m lo hi d v) (hi' : i < lo ∨ hi ≤ i) : PyIn (m.set i c) lo hi d v := h.on (Nat.le_refl _) (Nat.le_refl _) fun j x h1 h2 e => by
  rw [List.getElem?_set_ne (by omega)]; exact e
theorem PyInA.set {m : Sto} {lo hi i : Nat} {c : Cell} {ds : List D} {vs : List PyData} (h : PyInA m lo hi ds vs) (hi' : i < lo ∨ hi ≤ i) : PyInA (m.set i c) lo hi ds vs := h.on (Nat.le_refl _) (Nat.le_refl _) fun j x h1 h2 e => by
  rw [List.getElem?_set_ne (by omega)]; exact e
theorem PyIn.app {m : Sto} {lo hi : Nat} {d : D} {v : PyData} (c : Sto) (h : PyIn m lo hi d v) : PyIn (m ++ c) lo hi d v := h.on (Nat.le_refl _) (Nat.le_refl _) fun _ _ _ _ e => get_app e
end DL
namespace DL
open PySem PySem.Spec PyProof.Rows L2
/-- the cells of a copy of v lie from k on -/
def AlAt (m : Sto) (k : Nat) (v : PyData) : Prop := ∀ i c, (al v k).2[i]? = some c → m[k + i]? = some c
def AlAtA (m : Sto) (k : Nat) (vs : List PyData) : Prop := ∀ i c, (alA vs k).2[i]? = some c → m[k + i]? = some c
theorem AlAtA.cons {m : Sto} {k : Nat} {v : PyData} {vs : List PyData} (h : AlAtA m k (v :: vs)) : AlAt m k v ∧ AlAtA m (k + (al v k).2.length) vs := by
  constructor
  · intro i c e
    refine h i c ?_
    simp only [alA]
    exact get_app e
  · intro i c e
    have z := h ((al v k).2.length + i) c (by
      simp only [alA]
      rw [List.getElem?_append_right (Nat.le_add_right _ _), Nat.add_sub_cancel_left]; exact e)
    rwa [← Nat.add_assoc] at z
theorem AlAtA.app {m : Sto} {k : Nat} {vs : List PyData} (c : Sto) (h : AlAtA m k vs) : AlAtA (m ++ c) k vs := fun i x e => get_app (h i x e)
theorem AlAt.app {m : Sto} {k : Nat} {v : PyData} (c : Sto) (h : AlAt m k v) : AlAt (m ++ c) k v := fun i x e => get_app (h i x e)
theorem AlAtA.set {m : Sto} {k j : Nat} {vs : List PyData} {x : Cell} (h : AlAtA m k vs) (hj : j < k ∨ k + (alA vs k).2.length ≤ j) : AlAtA (m.set j x) k vs := fun i c e => by
  have hi := (List.getElem?_eq_some_iff.mp e).1
  rw [List.getElem?_set_ne (by omega)]
  exact h i c e
theorem AlAt.set {m : Sto} {k j : Nat} {v : PyData} {x : Cell} (h : AlAt m k v) (hj : j < k ∨ k + (al v k).2.length ≤ j) : AlAt (m.set j x) k v := fun i c e => by
  have hi := (List.getElem?_eq_some_iff.mp e).1
  rw [List.getElem?_set_ne (by omega)]
  exact h i c e
end DL
namespace DL
open PySem PySem.Spec PyProof.Rows L2
end DL
namespace DL
open PySem PySem.Spec PyProof.Rows L2
end DL
namespace DL
open PySem PySem.Spec PyProof.Rows L2
end DL
namespace DL
open PySem PySem.Spec PyProof.Rows L2
mutual
/-- each dict is empty -/
def emD : PyData → Bool
  | .dict l => l.isEmpty
  | .list vs => emDA vs
  | .tuple vs => emDA vs
  | _ => true
def emDA : List PyData → Bool
  | [] => true
  | v :: vs => emD v && emDA vs
end
mutual
inductive RdX (h : Heap) : Value → PyData → Prop
  | non : RdX h .none .none
  | bl (b : Bool) : RdX h (.bool b) (.bool b)
  | int (i : Int) (t : Tok) : RdX h (.int i t) (.int i)
  | str (x : Str) (t : Tok) : RdX h (.str x t) (.str x)
  | lst {a : Addr} {vs : Array Value} {xs : List PyData} : h.IsList a vs → RdXA h vs.toList xs → RdX h (.ref a) (.list xs)
  | tup {a : Addr} {vs : Array Value} {xs : List PyData} : h.IsTuple a vs → RdXA h vs.toList xs → RdX h (.ref a) (.tuple xs)
  | dic {a : Addr} {o : Obj} {n : Nat} : h.get? a = some o → o.ExactDict → o.data = .dict #[] n → (a == sysModules) = false → RdX h (.ref a) (.dict [])
inductive RdXA (h : Heap) : List Value → List PyData → Prop
  | nil : RdXA h [] []
  | cons {v : Value} {vs : List Value} {d : PyData} {ds : List PyData} : RdX h v d → RdXA h vs ds → RdXA h (v :: vs) (d :: ds)
end
variable [Cl] [Lk]
section
variable {X : Cx} {pins : List (Addr × Obj)} {σ : L2.St} {H : Hp} {s : Shared} {W : Wd} {F : Hp} {m : Sto}
theorem pairs_nil {K : Type} [DecidableEq K] {prog : Program} {w : World} {knd : PySem.KeyKind prog w K} {es : List DictEntry} (h : Pairs knd es []) : es = [] := by cases h; rfl
mutual
theorem rdx_of (I : Inv X pins σ H s) (rel : Rel X.K W F H m) : ∀ {d : D} {p : PyData} {x : V} {u : Value}, PyR m d p → emD p = true → R X.K W x d → RelV x u → RdX s.heap u p
  | _, _, _, _, .non, _, r, ru => by cases r; cases ru; exact .non
  | _, _, _, _, .bl b, _, r, ru => by cases r; cases ru; exact .bl b
  | _, _, _, _, .int i, _, r, ru => by cases r; obtain ⟨t, rfl⟩ := ru; exact .int i t
  | _, _, _, _, .str x, _, r, ru => by cases r; obtain ⟨t, rfl⟩ := ru; exact .str x t
  | _, _, _, _, .tup q, e, r, ru => by
    cases r with
    | tup hs ra =>
      cases ru
      obtain ⟨its, rv, ⟨o, ho, hc, n, hd⟩, _⟩ := I.tuple (same_seqT rel.sub hs)
      exact .tup ⟨o, ho, hc, n, hd⟩ (rdxA_of I rel q (by simpa only [emD] using e) ra rv)
  | _, _, _, _, .lst q, e, r, ru => by
    cases r with
    | lst hs ra =>
      cases ru
      obtain ⟨its, rv, ⟨o, n, ho, hc, _, hd⟩, _⟩ := I.list (SqL.of (rel.sub _ _ hs))
      exact .lst ⟨o, ho, hc, n, hd⟩ (rdxA_of I rel q (by simpa only [emD] using e) ra rv)
  | _, _, _, _, .fz q, e, r, ru => by
    cases r with
    | fz hs ra =>
      cases ru
      obtain ⟨its, rv, ⟨o, n, ho, hc, _, hd⟩, _⟩ := I.list (same_seqL rel.sub hs)
      exact .lst ⟨o, ho, hc, n, hd⟩ (rdxA_of I rel q (by simpa only [emD] using e) ra rv)
  | _, _, _, _, .ptr hm q, e, r, ru => by
    cases r with
    | ptr hb =>
      cases ru
      obtain ⟨b, h1, _, _, xs, h4, ra⟩ := rel.cell _ _ hm (fun z => by cases z)
      obtain rfl := Option.some.inj (h1.symm.trans hb)
      obtain ⟨its, rv, ⟨o, n, ho, hc, _, hd⟩, _⟩ := I.list (SqL.of h4)
      exact .lst ⟨o, ho, hc, n, hd⟩ (rdxA_of I rel q (by simpa only [emD] using e) ra rv)
  | _, _, _, _, .dic q, e, r, ru => by
    cases q with
    | cons _ _ => simp [emD] at e
    | nil =>
      cases r with
      | dic hs rd =>
        cases ru
        obtain ⟨hz, hS, vs, kv, o, es, ep, ho, hx, hd, hk, hp, hn⟩ := I.hok _ _ (rel.sub _ _ hs)
        cases rd
        cases kv
        have z := pairs_nil hp
        have ez : es = #[] := by rw [← Array.toList_eq_nil_iff]; exact z
        subst ez
        exact .dic ho hx hd hS
  | _, _, _, _, .dptr hm q, e, r, ru => by
    cases q with
    | cons _ _ => simp [emD] at e
    | nil =>
      cases r with
      | ptr hb =>
        cases ru
        obtain ⟨b, h1, _, _, xs, h4, rd⟩ := rel.cell _ _ hm (fun z => by cases z)
        obtain rfl := Option.some.inj (h1.symm.trans hb)
        obtain ⟨hz, hS, vs, kv, o, es, ep, ho, hx, hd, hk, hp, hn⟩ := I.hok _ _ h4
        cases rd
        cases kv
        have z := pairs_nil hp
        have ez : es = #[] := by rw [← Array.toList_eq_nil_iff]; exact z
        subst ez
        exact .dic ho hx hd hS
theorem rdxA_of (I : Inv X pins σ H s) (rel : Rel X.K W F H m) : ∀ {ds : List D} {ps : List PyData} {xs : List V} {us : List Value}, PyRA m ds ps → emDA ps = true → RA X.K W xs ds → Vals xs us → RdXA s.heap us ps
  | _, _, _, _, .nil, _, r, ru => by cases r; cases ru; exact .nil
  | _, _, _, _, .cons q qs, e, r, ru => by
    simp only [emDA, Bool.and_eq_true] at e
    cases r with
    | cons r1 r2 =>
      cases ru with
      | cons u1 u2 => exact .cons (rdx_of I rel q e.1 r1 u1) (rdxA_of I rel qs e.2 r2 u2)
end
end
section
variable {P : Program} {w : World} {s : Shared}
theorem all_tt (n : Nat) : ((List.range n).all fun _ => true) = true := List.all_eq_true.mpr fun _ _ => rfl
theorem rdxA_len : ∀ {xs : List PyData} {vs : List Value}, RdXA s.heap vs xs → vs.length = xs.length
  | [], _, h => by cases h; rfl
  | _ :: _, _, h => by
    cases h with
    | cons h1 h2 => rw [List.length_cons, List.length_cons, rdxA_len h2]
theorem dict_of_empty {a : Addr} {o : Obj} {n : Nat} (h1 : s.heap.get? a = some o) (h2 : o.ExactDict) (h3 : o.data = .dict #[] n) : s.heap.DictOf (mixKind P w) a [] :=
  ⟨o, #[], n, h1, h2, h3, fun e he => by simp at he, .nil, List.nodup_nil⟩
mutual
theorem same_tree : ∀ {p : PyData} {a b : Value} (n : Nat), RdX s.heap a p → RdX s.heap b p → p.depth ≤ n → PySem.W.EqTree P w s n a b true
  | .none, _, _, n, h, g, _ => by cases h; cases g; exact .same
  | .bool x, _, _, n, h, g, _ => by cases h; cases g; exact .same
  | .int i, _, _, n, h, g, _ => by
    cases h with
    | int _ t => cases g with
      | int _ u => exact .leaf fun A _ => by have z := SeqAt.EqAt.int_int (A := A) (s := s) i t i u; simpa using z
  | .str i, _, _, n, h, g, _ => by
    cases h with
    | str _ t => cases g with
      | str _ u => exact .leaf fun A _ => by have z := SeqAt.EqAt.str_str (A := A) (s := s) i t i u; simpa using z
  | .list xs, _, _, n, h, g, d => by
    cases h with
    | @lst l vs _ h1 h2 => cases g with
      | @lst l' vs' _ g1 g2 =>
        by_cases e : l = l'
        · subst e; exact .same
        · simp only [PyData.depth] at d
          obtain ⟨n, rfl⟩ : ∃ k, n = k + 1 := ⟨n - 1, by omega⟩
          have l1 := rdxA_len h2
          have l2 := rdxA_len g2
          have z := PySem.W.EqTree.lists (prog := P) (w := w) (s := s) (n := n) (e := fun _ => true) e h1 g1 (by simp only [← Array.length_toList]; omega) fun j j1 j2 => by
            have t := same_treeA n h2 g2 (by omega) j (by simpa using j1) (by simpa using j2)
            simpa using t
          rwa [all_tt] at z
  | .tuple xs, _, _, n, h, g, d => by
    cases h with
    | @tup l vs _ h1 h2 => cases g with
      | @tup l' vs' _ g1 g2 =>
        by_cases e : l = l'
        · subst e; exact .same
        · simp only [PyData.depth] at d
          obtain ⟨n, rfl⟩ : ∃ k, n = k + 1 := ⟨n - 1, by omega⟩
          have l1 := rdxA_len h2
          have l2 := rdxA_len g2
          have z := PySem.W.EqTree.tuples (prog := P) (w := w) (s := s) (n := n) (e := fun _ => true) e h1 g1 fun j j1 j2 => by
            have t := same_treeA n h2 g2 (by omega) j (by simpa using j1) (by simpa using j2)
            simpa using t
          have ez : vs.size = vs'.size := by simp only [← Array.length_toList]; omega
          rw [all_tt, ez, Bool.true_and, beq_self_eq_true] at z
          exact z
  | .dict l, _, _, n, h, g, d => by
    cases h with
    | @dic a o k h1 h2 h3 h4 => cases g with
      | @dic b o' k' g1 g2 g3 g4 =>
        by_cases e : a = b
        · subst e; exact .same
        · simp only [PyData.depth] at d
          obtain ⟨n, rfl⟩ : ∃ k, n = k + 1 := ⟨n - 1, by omega⟩
          exact PySem.W.EqTree.dicts (prog := P) (w := w) (s := s) (n := n) (knd := mixKind P w) (ka := []) (kb := []) (e := fun _ => true) e h4 g4 (dict_of_empty h1 h2 h3) (dict_of_empty g1 g2 g3) fun k v y hm _ => by cases hm
theorem same_treeA : ∀ {ps : List PyData} {vs us : List Value} (n : Nat), RdXA s.heap vs ps → RdXA s.heap us ps → PyData.depthAll ps ≤ n → ∀ j (h1 : j < vs.length) (h2 : j < us.length), PySem.W.EqTree P w s n vs[j] us[j] true
  | [], _, _, n, h, g, _, j, h1, _ => by cases h; exact absurd h1 (Nat.not_lt_zero _)
  | p :: ps, _, _, n, h, g, d, j, h1, h2 => by
    simp only [PyData.depthAll] at d
    cases h with
    | cons a1 a2 => cases g with
      | cons b1 b2 => cases j with
        | zero => exact same_tree n a1 b1 (Nat.le_trans (Nat.le_max_left _ _) d)
        | succ j => exact same_treeA n a2 b2 (Nat.le_trans (Nat.le_max_right _ _) d) j (Nat.lt_of_succ_lt_succ h1) (Nat.lt_of_succ_lt_succ h2)
end
end
def rEqSame (X : Cx) : R2 := fun x y H Q => ∃ v, (∀ (pins : List (Addr × Obj)) (σ : L2.St) (s : Shared) (u : Value), Inv X pins σ H s → RelV x u → RdX s.heap u v) ∧ (∀ (pins : List (Addr × Obj)) (σ : L2.St) (s : Shared) (u : Value), Inv X pins σ H s → RelV y u → RdX s.heap u v) ∧ v.depth ≤ 60 ∧ Q (.bl true) H
section
variable {X : Cx}
theorem op_eqSame (hu : X.A.units + 64 < cLine) : OpR X (compareOp .Eq) (rEqSame X) := by
  intro pins s σ H x y a b Q I rx ry h
  obtain ⟨v, hx, hy, d, q⟩ := h
  have r1 := hx pins σ s a I rx
  have r2 := hy pins σ s b I ry
  have fin : EP X pins σ Q (.bool true) s := ⟨.bl true, H, I, rfl, q⟩
  cases r1 with
  | non => cases r2; exact SeqAt.RcAt.none_none X.prog X.w X.xe _ fin
  | bl c => cases r2; exact SeqAt.RcAt.bool_bool c c X.prog X.w X.xe _ (by simpa using fin)
  | int i t => cases r2 with
    | int _ u => exact SeqAt.RcAt.int_int i t i u X.prog X.w X.xe _ (by simpa using fin)
  | str i t => cases r2 with
    | str _ u => exact SeqAt.RcAt.str_str i t i u X.prog X.w X.xe _ (by simpa using fin)
  | @lst l vs xs h1 h2 => cases r2 with
    | @lst l' vs' _ g1 g2 =>
      have l1 := rdxA_len h2
      have l2 := rdxA_len g2
      simp only [PyData.depth] at d
      exact PySem.W.eq_listsT (n := 60) (e := fun _ => true) h1 g1 (by simp only [← Array.length_toList]; omega) (fun j j1 j2 => by
        have t := same_treeA (P := X.prog) (w := X.w) 60 h2 g2 (by omega) j (by simpa using j1) (by simpa using j2)
        simpa using t) (by omega) (by rw [all_tt]; exact fin)
  | @tup l vs xs h1 h2 => cases r2 with
    | @tup l' vs' _ g1 g2 =>
      have l1 := rdxA_len h2
      have l2 := rdxA_len g2
      have ez : vs.size = vs'.size := by simp only [← Array.length_toList]; omega
      simp only [PyData.depth] at d
      exact PySem.W.eq_tuplesT (n := 60) (e := fun _ => true) h1 g1 (fun j j1 j2 => by
        have t := same_treeA (P := X.prog) (w := X.w) 60 h2 g2 (by omega) j (by simpa using j1) (by simpa using j2)
        simpa using t) (by omega) (by rw [all_tt, ez, Bool.true_and, beq_self_eq_true]; exact fin)
  | @dic a o k h1 h2 h3 h4 => cases r2 with
    | @dic b o' k' g1 g2 g3 g4 =>
      exact PySem.W.eq_dictsT (n := 0) (knd := mixKind X.prog X.w) (ka := []) (kb := []) (e := fun _ => true) h4 g4 (dict_of_empty h1 h2 h3) (dict_of_empty g1 g2 g3) (fun k v y hm _ => by cases hm) (by omega) fin
end
/-- x == y for alike things with empty dicts in them, or as ever -/
@[irreducible] def dEqE : F2 := fun x y m q => dEqD x y m q ∨ ∃ v, PyR m x v ∧ PyR m y v ∧ emD v = true ∧ v.depth ≤ 60 ∧ q (.bl true) m
def rrEqE (X : Cx) : R2 := fun x y H Q => rrEq X.K x y H Q ∨ rEqSame X x y H Q
section
variable {X : Cx} {a b : Expr} {ta tb : DE} {pos : Pos} {k : Nat}
theorem o_eqE : Op2 X.K dEqE (rrEqE X) := by
  intro W F H m x y d e q Q rel rx ry h k
  unfold dEqE at h
  rcases h with h | ⟨v, h1, h2, e, d, h⟩
  · exact .inl (o_eqD W F H m x y _ _ q Q rel rx ry h k)
  · exact .inr ⟨v, fun pins σ s u I ru => rdx_of I rel h1 e rx ru, fun pins σ s u I ru => rdx_of I rel h2 e ry ru, d, k _ _ _ _ _ (.refl _) rel (.bl _) h⟩
theorem je_eqE (hr : Room k X.A) (ha : JE X a ta) (hb : JE X b tb) : JE X (.Compare a [.Eq] [b] pos) (dBin dEqE ta tb) := je_cmp ((op_eqAll (units64 hr)).or (op_eqSame (units64 hr))) o_eqE ha hb (nobehind _ (by decide) (by decide))
end
theorem eqE_same {x y : D} {m : Sto} {v : PyData} {q : D → Sto → Prop} (hx : PyR m x v) (hy : PyR m y v) (e : emD v = true) (d : v.depth ≤ 60) (h : q (.bl true) m) : dEqE x y m q := by
  unfold dEqE
  exact .inr ⟨v, hx, hy, e, d, h⟩
end DL
namespace DL
open PySem PySem.Spec PyProof.Rows L2
end DL
namespace DL
open PySem PySem.Spec PyProof.Rows L2
end DL
namespace DL
open PySem PySem.Spec PyProof.Rows L2
end DL
namespace DL
open PySem PySem.Spec PyProof.Rows L2
end DL
namespace DL
open PySem PySem.Spec PyProof.Rows L2
end DL
namespace DL
open PySem PySem.Spec PyProof.Rows L2
end DL
namespace DL
open PySem PySem.Spec PyProof.Rows L2
end DL
namespace DL
open PySem PySem.Spec PyProof.Rows L2
end DL
namespace DL
open PySem PySem.Spec PyProof.Rows L2
end DL
namespace DL
open PySem PySem.Spec PyProof.Rows L2
end DL
namespace DL
open PySem PySem.Spec PyProof.Rows L2
end DL
namespace DL
open PySem PySem.Spec PyProof.Rows L2
/-- a def that the module holds under another name -/
theorem kn_as [Cl] {P : Program} {w : World} {K : PySem.W.Frag} {mg : Str → Option Value} {base : Heap} {x y z : Str} {st : Stmt} {f : Addr} {fd : FuncData} {ps : List Str} {k n : Nat} {g : FN} (F : L2.Fun K x z st f fd) (hm : mg y = some (.ref f)) (b : Binds K fd ps []) (G : FnG P w K mg base k f fd ps (spOf K n g)) (ar : ∀ ds m q, g ds m q → ds.length = n) : Kn P w K mg base k y g :=
  ⟨n, f, fd, ps, G, hm, F.kp, b, ar⟩
end DL
namespace DL
open PySem PySem.Spec PyProof.Rows L2
end DL
namespace DL
open PySem PySem.Spec PyProof.Rows L2
end DL
namespace DL
open PySem PySem.Spec PyProof.Rows L2
section
variable {X : Cx} {pins : List (Addr × Obj)} {σ : L2.St} {H H2 : Hp} {s : Shared} {a : Addr} {oe : Obj}
theorem exH_ok {P : Program} {w : World} {h : Heap} {H : Hp} (e : h.get? a = some oe) : ObjOk P w H h a (exH oe) := ⟨e, oe, e⟩
theorem exH_get {P : Program} {w : World} {h : Heap} {H : Hp} (x : ObjOk P w H h a (exH oe)) : h.get? a = some oe := x.1
/-- known besides: an object that nobody changes -/
theorem hok_more {P : Program} {w : World} {h : Heap} (x : HOk P w H h) (n : H a = none) (e : h.get? a = some oe) : HOk P w (upd H a (exH oe)) h := fun b o q => by
  by_cases hb : b = a
  · subst hb
    rw [upd_same] at q
    cases q
    exact exH_ok e
  · rw [upd_ne hb] at q
    exact (x b o q).stay (fun c v _ z => z) (fun c z => by rw [upd_ne (ne_of_none z n)]; exact z) fun c xs z => by rw [upd_ne (ne_of_none z n)]; exact z
theorem un_more {fs ex : List Addr} {H0 : Hp} {h0 h : Heap} (u : Un fs ex H0 H h0 h) (n : H a = none) (e : h0.get? a = none) : Un fs ex H0 (upd H a (exH oe)) h0 h where
  keep := u.keep
  slot := u.slot
  free := fun b o q z hx => by rw [upd_ne (fun c => by rw [c, e] at q; cases q)]; exact u.free b o q z hx
  there := u.there
  tups := fun b xs q => by
    have z := u.tups b xs q
    rw [upd_ne (ne_of_none z n)]; exact z
  frzs := fun b o xs q => by
    have z := u.frzs b o xs q
    rw [upd_ne (ne_of_none z n)]; exact z
  tbls := fun b ps q => by
    obtain ⟨more, z⟩ := u.tbls b ps q
    exact ⟨more, by rw [upd_ne (ne_of_none z n)]; exact z⟩
end
section
variable {X : Cx} {x n : Str} {c : Value} {i : Nat} {body suite : List Stmt} {b₀ : Stmt} {np pos pos' : Pos} {tb : WX → TS} {ts : Addr → Value → Option Addr → TS} {Wout : WX}
/-- the ends of such a suite -/
def endsX (D : Ends) (i : Nat) (a : Addr) (cls : Value) (d : Option Addr) : Ends :=
  { nx := fun σ' H' => D.nx (σ'.set i none) H', rt := fun v H' => D.rt v H' ∨ (∀ oe, H' a = none → Zc cls d oe → (∃ vs, oe.data = .fields vs) → D.rt v (upd H' a (exH oe))), bk := fun σ' H' => D.bk (σ'.set i none) H', ct := fun σ' H' => D.ct (σ'.set i none) H' }
def wAsX (K : PySem.W.Frag) (c : Value) (i : Nat) (ts : Addr → Value → Option Addr → TS) (Wout : WX) (D : Ends) : WX := fun cls d σ H =>
  ∃ b, PySem.W.exmOne K cls c = some b ∧ (b = true → ∀ a, H a = none → ts a cls d (endsX D i a cls d) (σ.set i (some (.ref a))) H) ∧ (b = false → Wout cls d σ H)
theorem ps_try_asX (hs : X.stack = X.env :: X.outer) (hf : X.env.frame = some X.env.locals) (hN : X.N.Nodup) (hi : X.N[i]? = some n) (hln : X.env.kindOf n = some .local) (hx : X.ex = []) (hc : Names X x c) (tk : Takes X Wout)
    (hb : ∀ (W : WX) (pn : List (Addr × Obj)) (xe : Value → Shared → Prop), Takes (X.tr pn xe) W → PassesOwn (model X.prog X.w) X.A X.env xe → PSs (X.tr pn xe) body (tb W))
    (hsu : ∀ (a : Addr) (oe : Obj) (cls : Value) (d : Option Addr) (pn : List (Addr × Obj)), Zc cls d oe → (∃ vs, oe.data = .fields vs) → X.base.get? a = none → PSs (X.suite a ((a, oe) :: pn)) (b₀ :: suite) (ts a cls d)) :
    PS X (.Try body [.ExceptHandler (some (.Name x np)) (some n) (b₀ :: suite) pos'] [] [] pos) (fun D σ H => tb (wAsX X.K c i ts Wout D) D σ H) := by
  refine ⟨fun pins s σ H D I h => ?_⟩
  have ok := I.ok
  have hfr : X.A.frames = some (X.env :: X.outer) := by rw [ok.frames, hs]
  have hloc : Loc X.env.scope n := .inl hln
  refine wpAny_Try_except ?_
  refine wpAny_mono ((hb (wAsX X.K c i ts Wout D) (X.pn ++ pins) (fun e s₁ => wpAny (model X.prog X.w) X.A (noteFrame e X.env) (fun _ s₂ => wpAny (model X.prog X.w) X.A (setFlight e none) (fun _ s₃ =>
    wpAny (model X.prog X.w) X.A (handleBy e X.env [.ExceptHandler (some (.Name x np)) (some n) (b₀ :: suite) pos']) (SP X pins D) X.xe s₃) X.xe s₂) X.xe s₁) (fun u s' xx => ?_) PassesOwn.looking).run [] s σ H D (I.toTry _) h) (fun f s1 hsp => ?_) (fun e s1 he => he)
  · obtain ⟨a, B, sI, pins', σ', H', cls, d, rfl, J', nb, up, sky, na, os, ag, b, hb1, hyes, hno⟩ := xx
    have J : Inv X pins σ' H' sI := J'.ofTry ok
    have sky' : Sky B (X.env :: X.outer) a (Zc cls d) X.env.locals s'.heap := by rw [← hs]; exact sky
    have notB : B.get? a = none := by
      rcases sky' with z | z | z
      · exact z.2.1
      · exact z.2.1
      · exact z.2.1
    show wpAny _ X.A (noteFrame (.ref a) X.env) _ _ _
    refine Sky.land Zc.steady hfr hf sky' fun h3 fl3 up3 => ?_
    have J3 : Inv X pins σ' H' { s' with heap := h3 } := J.landed nb fl3.1 (up.trans up3) os ag
    obtain ⟨oe3, vs3, he3, hz3, hd3⟩ := fl3.there
    have nfr : a ∉ frs (X.env :: X.outer) := fun hm => by
      obtain ⟨_, o', e', hnf⟩ := fl3.2.2.1.mem hm
      rw [he3] at e'; cases e'
      exact hnf _ hd3
    have nL : a ≠ X.env.locals := fun z => nfr (List.mem_filterMap.mpr ⟨X.env, List.mem_cons_self, by rw [hf, z]⟩)
    have nF : a ∉ X.fs := fun hm => by
      obtain ⟨e, he, q⟩ := List.mem_filterMap.mp hm
      exact nfr (List.mem_filterMap.mpr ⟨e, List.mem_cons_of_mem _ he, q⟩)
    have notI : sI.heap.get? a = none := by
      cases q : sI.heap.get? a with
      | none => rfl
      | some o =>
        have z := nb a o q (by rw [hs]; exact nfr)
        rw [notB] at z; cases z
    have notBase : X.base.get? a = none := by
      cases q : X.base.get? a with
      | none => rfl
      | some o => have z := J.bk a o q; rw [notI] at z; cases z
    have not0 : X.s_0.heap.get? a = none := by
      cases q : X.s_0.heap.get? a with
      | none => rfl
      | some o =>
        obtain ⟨o', z⟩ := J.base.there a o q (by rw [hx]; simp)
        rw [notI] at z; cases z
    have notPin : ∀ p ∈ X.pn ++ pins, p.1 ≠ a := fun p hp z => by
      have y := (J.pin p hp).1
      rw [z, notI] at y; cases y
    have S3 := J3.suite he3 hd3 na nL nF
    have LT : PySem.W.Looks (model X.prog X.w) h3 (typeOf (.ref a)) cls := fun A Q E s k q => wpAny_typeOf_ref (k _ _ he3) (by rw [hz3.1]; exact q)
    have test : ∀ {y : Str} {v : Value} {p : Pos} {Q : Value → Shared → Prop} {E : Value → Shared → Prop}, Names X y v → Q v { s' with heap := h3 } → wpAny (model X.prog X.w) (X.A.mark (some (.ref a))) (eval (.Name y p) X.env) Q E { s' with heap := h3 } := fun {y v p Q E} hc q => by
      obtain ⟨hg, hdbg, hm | ⟨hm, hv, hnn⟩⟩ := hc
      · exact ld_glob (X := X.suite a ((a, oe3) :: (X.pn ++ pins))) S3 hg hm q hdbg
      · exact ld_blt (X := X.suite a ((a, oe3) :: (X.pn ++ pins))) S3 hg hm hv q hnn hdbg
    refine wpAny_handleBy_cons (codeAny_handlers_test ?_) (by intro q; cases q)
    refine test hc ((PySem.W.exm_one (M := model X.prog X.w) (J3.kIn) LT hb1).here ?_)
    cases b with
    | true =>
      refine codeAny_handlers_suite_as ?_
      refine HandSPX.lands_againZ fl3 fun h4 fl4 up4 => ?_
      have J4 : Inv X pins σ' H' { s' with heap := h4 } := J.landed nb fl4.1 ((up.trans up3).trans up4) os ag
      obtain ⟨oe4, vs4, he4, hz4, hd4⟩ := fl4.there
      have S4 := J4.suite he4 hd4 na nL nF
      refine store_ok (X := X.suite a ((a, oe4) :: (X.pn ++ pins))) (v := .ref a) S4 hN hi hloc rfl (fun s5 S5 => ?_) (.inr hln)
      refine wpAny_mono ((hsu a oe4 cls d (X.pn ++ pins) hz4 ⟨_, hd4⟩ notBase).run [] s5 _ H' _ S5 (hyes rfl a na)) (fun f s6 hsp => ?_) (fun _ _ z => False.elim z)
      have pinned : ∀ {σ6 : L2.St} {H6 : Hp}, Inv (X.suite a ((a, oe4) :: (X.pn ++ pins))) [] σ6 H6 s6 → Inv X ((a, oe4) :: pins) σ6 H6 s6 := fun {σ6 H6} S6 =>
        ⟨ok, S6.os, S6.bare, S6.base, S6.loc, S6.cell, S6.free, S6.freeC, fun p hp => S6.pin p (by
          rw [List.append_nil]
          rcases List.mem_append.mp hp with z | z
          · exact List.mem_cons_of_mem _ (List.mem_append_left _ z)
          · rcases List.mem_cons.mp z with z | z
            · rw [z]; exact List.mem_cons_self
            · exact List.mem_cons_of_mem _ (List.mem_append_right _ z)), S6.hok, S6.len⟩
      have unpin : ∀ {σ7 : L2.St} {H7 : Hp} {s7 : Shared}, Inv X ((a, oe4) :: pins) σ7 H7 s7 → Inv X pins σ7 H7 s7 := fun {σ7 H7 s7} J7 =>
        ⟨ok, J7.os, J7.bare, J7.base, J7.loc, J7.cell, J7.free, J7.freeC, fun p hp => J7.pin p (by
          rcases List.mem_append.mp hp with z | z
          · exact List.mem_append_left _ z
          · exact List.mem_append_right _ (List.mem_cons_of_mem _ z)), J7.hok, J7.len⟩
      have told : ∀ {σ7 : L2.St} {H7 : Hp} {s7 : Shared}, Inv X ((a, oe4) :: pins) σ7 H7 s7 → Inv X pins σ7 (upd H7 a (exH oe4)) s7 := fun {σ7 H7 s7} J7 => by
        obtain ⟨g7, n7, _, _, c7⟩ := J7.pin (a, oe4) (List.mem_append_right _ List.mem_cons_self)
        refine ⟨ok, J7.os, J7.bare, un_more J7.base n7 not0, J7.loc, J7.cell, ?_, fun y q e => ?_, fun p hp => ?_, hok_more J7.hok n7 g7, J7.len⟩
        · rw [upd_ne (Ne.symm nL)]; exact J7.free
        · have ne : q ≠ a := fun z => by
            obtain ⟨v, oc, g, hd⟩ := J7.cell y q e
            rw [z, show s7.heap.get? a = some oe4 from g7] at g
            cases g
            exact c7 v hd
          rw [upd_ne ne]; exact J7.freeC y q e
        · obtain ⟨q1, q2, q3⟩ := (unpin J7).pin p hp
          exact ⟨q1, by rw [upd_ne (notPin p hp)]; exact q2, q3⟩
      have end_ : ∀ {σ6 : L2.St} {H6 : Hp} {Q : Shared → Prop}, Inv (X.suite a ((a, oe4) :: (X.pn ++ pins))) [] σ6 H6 s6 → (∀ s7, Inv X ((a, oe4) :: pins) (σ6.set i none) H6 s7 → Q s7) →
          wpAny (model X.prog X.w) X.A (do bindName X.env n .none; unbindBehindTheSuite X.env n pos') (fun _ s7 => Q s7) X.xe s6 := fun {σ6 H6 Q} S6 hq => gone_ok (pinned S6) hN hi hln hq
      cases f with
      | next => obtain ⟨σ6, H6, S6, q6⟩ := hsp; exact end_ S6 fun s7 J7 => ⟨_, _, unpin J7, q6⟩
      | brk => obtain ⟨σ6, H6, S6, q6⟩ := hsp; exact end_ S6 fun s7 J7 => ⟨_, _, unpin J7, q6⟩
      | cont => obtain ⟨σ6, H6, S6, q6⟩ := hsp; exact end_ S6 fun s7 J7 => ⟨_, _, unpin J7, q6⟩
      | ret u =>
        obtain ⟨v6, σ6, H6, S6, r6, q6⟩ := hsp
        rcases q6 with q6 | q6
        · exact end_ S6 fun s7 J7 => ⟨_, _, _, unpin J7, r6, q6⟩
        · exact end_ S6 fun s7 J7 => ⟨_, _, _, told J7, r6, q6 oe4 (S6.pin (a, oe4) (by simp)).2.1 hz4 ⟨_, hd4⟩⟩
    | false =>
      show wpAny _ X.A (handleBy (.ref a) X.env []) _ _ _
      refine wpAny_handleBy_nil ?_
      obtain ⟨k1, k2, k3, oe, vs, T, oT, ts', he, hz, hd, h1, hr⟩ := id fl3
      unfold PySem.passOn
      refine wpAny_bind (wpAny_field he hd h1 ?_)
      rw [if_neg (show ¬ ((Value.ref T == Value.none) = true) from by simp)]
      have fin : wpAny (model X.prog X.w) X.A (setFlight (.ref a) X.env.frame) (fun _ s4 => wpAny (model X.prog X.w) X.A (throw (.ref a) : Sem Flow) (SP X pins D) X.xe s4) X.xe { s' with heap := h3 } := by
        rw [hf]
        refine HandSPX.setFlight_upZ fl3 fun h4 hh4 up4 => wpAny_throw (tk _ _ ?_)
        exact ⟨a, B, sI, pins, σ', H', cls, d, rfl, J, nb, (up.trans up3).trans up4, .inr (.inr (by rw [hs]; exact hh4)), na, os, ag, hno rfl⟩
      first
        | exact wpAny_bind (wpAny_pure (wpAny_bind fin))
        | exact wpAny_bind fin
  · cases f with
    | next => obtain ⟨σ', H', J', q⟩ := hsp; exact wpAny_execs_nil ⟨σ', H', J'.ofTry ok, q⟩
    | brk => obtain ⟨σ', H', J', q⟩ := hsp; exact ⟨σ', H', J'.ofTry ok, q⟩
    | cont => obtain ⟨σ', H', J', q⟩ := hsp; exact ⟨σ', H', J'.ofTry ok, q⟩
    | ret u => obtain ⟨v, σ', H', J', r, q⟩ := hsp; exact ⟨v, σ', H', J'.ofTry ok, r, q⟩
end
section
variable [Cl]
/-- the ends within a suite that may tell the exception itself -/
def undX (i : Nat) (ex : Exn) (a : Addr) (d : DEnds) : DEnds := { nx := fun r m => d.nx (forget r i) m, rt := fun v m => match v with | .adr b => b = a ∧ d.rt (.ptr m.length) (m ++ [.exc ex.c ex.f]) | v => d.rt v m, bk := fun r m => d.bk (forget r i) m, ct := fun r m => d.ct (forget r i) m }
/-- try: body, except c as n (slot i): suite, which may tell the exception -/
def dTryAsX (cs : List Str) (c : Str) (i : Nat) (tb : WD → DS) (hd : Exn → Addr → DS) (w : WD) : DS := fun d r m =>
  tb (fun ex r1 m1 => ex.c ∈ cs ∧ (isX ex.c c = true → ∀ a, hd ex a (undX i ex a d) (put r1 i (.adr a)) m1) ∧ (isX ex.c c = false → w ex r1 m1)) d r m
theorem exc_cell {K : PySem.W.Frag} {W : Wd} {H : Hp} {cls : Value} {d : Option Addr} {ex : Exn} {oe : Obj} {a : Addr} (rx : RX K W cls d ex) (hz : Zc cls d oe) (hf : ∃ vs, oe.data = .fields vs) : CellR K W (upd H a (exH oe)) a (.exc ex.c ex.f) := by
  obtain ⟨C, ad, rfl, h⟩ := rx
  refine ⟨C, oe, ad, upd_same, hz.1, hf, ?_⟩
  rw [hz.2]
  exact h
end
section
variable [Cl] [Lk] {X : Cx} {c n : Str} {cs : List Str} {i : Nat} {body suite : List Stmt} {b₀ : Stmt} {np pos pos' : Pos} {tb : WD → DS} {w : WD}
theorem lift_undX {L : Lk} {K : PySem.W.Frag} {W : Wd} {F : Hp} {d : DEnds} {E : Ends} {i : Nat} {ex : Exn} {a : Addr} {cls : Value} {dd : Option Addr} (rx : RX K W cls dd ex) (k : @LiftD _ L K W F d E) : @LiftD _ L K W F (undX i ex a d) (endsX E i a cls dd) := by
  refine @LiftD.mk _ L K W F _ _ (fun W' H' m' s' r' l rl rs => @LiftD.nx _ L _ _ _ _ _ k W' H' m' _ _ l rl (rs.forget i)) (fun W' H' m' v x l rl rv h => ?_)
    (fun W' H' m' s' r' l rl rs => @LiftD.bk _ L _ _ _ _ _ k W' H' m' _ _ l rl (rs.forget i)) (fun W' H' m' s' r' l rl rs => @LiftD.ct _ L _ _ _ _ _ k W' H' m' _ _ l rl (rs.forget i))
  cases x with
  | adr b =>
    obtain ⟨rfl, h⟩ := h
    cases rv
    refine .inr fun oe hn hz hf => ?_
    have l2 : W'.Le ⟨W'.be ++ [b], W'.st⟩ := hot_le
    exact @LiftD.rt _ L _ _ _ _ _ k _ _ _ _ _ (l.trans l2) (@Rel.of _ L _ _ _ _ _ _ _ _ rl l2 ((to0 rl).hot hn (exc_cell (rx.mono l) hz hf))) (.ptr (hot_at (to0 rl))) h
  | _ => exact .inl (@LiftD.rt _ L _ _ _ _ _ k W' H' m' v _ l rl rv h)
theorem js_tryAsX {hd : Exn → Addr → DS} (T : XSub X.K X.mg cs c) (hs : X.stack = X.env :: X.outer) (hf : X.env.frame = some X.env.locals) (hN : X.N.Nodup) (hi : X.N[i]? = some n) (hln : X.env.kindOf n = some .local) (hx : X.ex = []) (hg : Gl X c) (hdb : (c == ("__debug__" : Str)) = false) (tk : TakesD X w)
    (hb : ∀ [Lk] (wd : WD) (pn : List (Addr × Obj)) (xe : Value → Shared → Prop), TakesD (X.tr pn xe) wd → PassesOwn (model X.prog X.w) X.A X.env xe → JSs (X.tr pn xe) body (tb wd))
    (hsu : ∀ [Lk] (ex : Exn) (a : Addr) (oe : Obj) (cls : Value) (d : Option Addr) (pn : List (Addr × Obj)), ex.c ∈ cs → Zc cls d oe → (∃ vs, oe.data = .fields vs) → RX X.K Lk.W0 cls d ex → JSs (X.suite a ((a, oe) :: pn)) (b₀ :: suite) (hd ex a)) :
    JS X (.Try body [.ExceptHandler (some (.Name c np)) (some n) (b₀ :: suite) pos'] [] [] pos) (dTryAsX cs c i tb hd w) := by
  obtain ⟨C', hm, T⟩ := T.ex
  refine ps_wk (ps_try_asX (i := i) (Wout := liftW X.K w) (ts := fun a cls d E σ H => ∃ (L : Lk) (ex : Exn), ex.c ∈ cs ∧ RX X.K L.W0 cls d ex ∧ @liftS _ L X.K (hd ex a) E σ H) hs hf hN hi hln hx ⟨hg, hdb, .inl hm⟩ tk (body_wk hb) fun a oe cls d pn hz hfl _ => ⟨fun p s σ H D I ⟨L, ex, hin, rx, h⟩ => (@hsu L ex a oe cls d pn hin hz hfl rx).run p s σ H D I h⟩) ?_
  rintro E s H ⟨W, F, m, r, d, rel, rs, h, L⟩
  refine ⟨⟨W, F⟩, _, ?_, W, F, m, r, d, rel_new (to0 rel), rs, h, lift_on rel (.refl _) L⟩
  rintro cls dd σ H1 ⟨W1, m1, r1, ex, l1, rel1, rs1, rx, hin, hyes, hno⟩
  obtain ⟨C, ad, rfl, rxx⟩ := id rx
  have l1' : W.Le W1 := l1
  have rel1' : Rel0 X.K W1 F H1 m1 := rel1
  refine ⟨isX ex.c c, T _ hin C ad, fun q a na => ?_, fun q => ?_⟩
  · exact ⟨⟨W1, F⟩, ex, hin, rx, W1, F, m1, _, undX i ex a d, rel_new rel1', rs1.put (.adr a) i, hyes q a, lift_undX rx (lift_on rel l1' L)⟩
  · exact ⟨W1, m1, r1, ex, rel.lw.trans l1', rel1'.less rel.lf, rs1, rx, hno q⟩
end
/-- e.f of a kept exception of one of the classes cs -/
def dXatC (cs : List Str) (f : Str) (te : DE) : DE := fun r m q => te r m fun x m1 => match x with
  | .ptr j => match m1[j]? with
    | some (.exc c fs) => c ∈ cs ∧ onS (fs.lookup f) fun v => q v m1
    | _ => False
  | _ => False
/-- isinstance(e, c') of a kept exception -/
def dXisC (cs : List Str) (c' : Str) (te : DE) : DE := fun r m q => te r m fun x m1 => match x with
  | .ptr j => match m1[j]? with
    | some (.exc c _) => c ∈ cs ∧ q (.bl (isX c c')) m1
    | _ => False
  | _ => False
section
variable [Cl] [Lk] {X : Cx} {e : Expr} {te : DE} {pos : Pos} {cs : List Str}
theorem exc_at {K : PySem.W.Frag} {W : Wd} {F H : Hp} {m : Sto} {v : V} {j : Nat} {c : Str} {fs : List (Str × D)} (rel : Rel K W F H m) (rv : R K W v (.ptr j)) (hm : m[j]? = some (.exc c fs)) :
    ∃ a C oe, v = .ref a ∧ Cl.ad c = some C ∧ H a = some (exH oe) ∧ oe.cls = .ref C ∧ (∃ vs, oe.data = .fields vs) ∧ ((fs = [] ∧ oe.dict = none) ∨ ∃ dd xs, oe.dict = some dd ∧ W.st dd = some (.xd xs) ∧ RF K W xs fs) := by
  cases rv with
  | ptr hb =>
    obtain ⟨b, h1, _, _, C, oe, h⟩ := rel.toRel0.cell j _ hm (fun z => by cases z)
    have eb := Option.some.inj (h1.symm.trans hb)
    subst eb
    exact ⟨_, C, oe, rfl, h⟩
theorem pe_xfH {f : Str} {te : TE} (he : PE X e te) (hb : attributeBase e f X.env (eval e X.env) = eval e X.env := by rfl) :
    PE X (.Attribute e f pos) (fun σ H Q => te σ H fun x H1 => ∃ a C oe dd fs v, x = .ref a ∧ H1 a = some (exH oe) ∧ oe.cls = .ref C ∧ (∃ vs, oe.data = .fields vs) ∧ oe.dict = some dd ∧ H1 dd = some (.xd fs) ∧ fs.lookup f = some v ∧ XfC X.K C ∧ PySem.W.findIn X.K (.ref C) f = some none ∧ Q v H1) := by
  refine ⟨fun pins s σ H Q I h => attr_of hb (thn (he.run pins s σ H _ I h) fun u s1 hh => ?_)⟩
  obtain ⟨x, H1, I1, rx, a, C, oe, dd, fs, v, rfl, ea, ec, ⟨vs, hd⟩, ed, eD, l, T, hno, q⟩ := hh
  obtain rfl : u = Value.ref a := rx
  have ha : s1.heap.get? a = some oe := exH_get (I1.hok a _ ea)
  obtain ⟨mA, hns, hr⟩ : ObjOk X.prog X.w H1 s1.heap dd (.xd fs) := I1.hok dd _ eD
  obtain ⟨od, ho, hl⟩ := lookIn_ns hns
  obtain ⟨u, hu, ru⟩ := RelO.some_of (v := v) (o := mA f) (by rw [← l]; exact hr f)
  have J : PySem.W.InstAt s1.heap a oe C (some od) := ⟨ha, ec, by unfold PySem.W.notCls; rw [hd] <;> rfl, by rw [ed]; exact ho⟩
  exact HandSPX.exc_get I1.kIn J T.ga T.gg T.exC (PySem.W.findObj_own T.hdC hno rfl (by rw [hl, hu])) (handed_of ru) ⟨v, H1, I1.tok _, ru, q⟩
theorem je_xatC {f : Str} (T : XAt X.K cs f) (he : JE X e te) (hb : attributeBase e f X.env (eval e X.env) = eval e X.env := by rfl) : JE X (.Attribute e f pos) (dXatC cs f te) := by
  refine pe_wk (pe_xfH he hb) ?_
  rintro s H Q ⟨W, F, m, r, q, rel, rs, h, k⟩
  refine ⟨W, F, m, r, _, rel, rs, h, fun W1 H1 m1 v x l1 rel1 rv hq => ?_⟩
  cases x with
  | ptr j =>
    cases hm : m1[j]? with
    | none => simp only [hm] at hq
    | some cl =>
      cases cl with
      | exc c fs =>
        simp only [hm] at hq
        obtain ⟨hc, hq⟩ := hq
        obtain ⟨y, e1, hq⟩ := onS_some hq
        obtain ⟨a, C, oe, rfl, ad, ea, ec, hf, ho⟩ := exc_at rel1 rv hm
        obtain ⟨T1, T2⟩ := T.ex _ hc C ad
        rcases ho with ⟨e2, _⟩ | ⟨dd, xs, e2, e3, rf⟩
        · rw [e2] at e1; cases e1
        obtain ⟨u, e4, ru⟩ := rf.look e1
        exact ⟨a, C, oe, dd, xs, u, rfl, ea, ec, hf, e2, rel1.sub _ _ e3, e4, T1, T2, k _ _ _ _ _ l1 rel1 ru hq⟩
      | _ => simp only [hm] at hq
  | _ => exact hq.elim
theorem je_xisC {c' : Str} {p p2 : Pos} (T : XIs X.K X.mg cs c') (hg : Gl X "isinstance") (hm : X.mg "isinstance" = none) (hg2 : Gl X c')
    (he : JE X e te) (hdb : (c' == ("__debug__" : Str)) = false := by decide) (hs : starEach [e, .Name c' p2] X.env = (false, eval e X.env) :: starEach [.Name c' p2] X.env := by rfl)
    (hs2 : starEach [.Name c' p2] X.env = (false, eval (.Name c' p2) X.env) :: starEach [] X.env := by rfl) (hp : (backTo pos (starEach [.Name c' p2] X.env)).any (·.1) = false := by rfl) :
    JE X (.Call (.Name "isinstance" p) [e, .Name c' p2] [] pos) (dXisC cs c' te) := by
  obtain ⟨u, hu, T⟩ := T.ex
  have cv : ∃ v : V, (∀ u', RelV v u' → u' = u) ∧ PE X (.Name c' p2) (tC v) := by
    rcases hu with ⟨C', h1, rfl⟩ | ⟨n, h1, h2, rfl, h3⟩
    · exact ⟨.ref C', fun _ z => z, pe_glob hg2 h1 rfl hdb⟩
    · exact ⟨.ty n, fun _ z => z, pe_bltn (v := .ty n) hg2 h1 h2 rfl h3 hdb⟩
  obtain ⟨v', hv', pe2⟩ := cv
  have call : CallR X (.builtin "isinstance") (fun xs H Q => ∃ a C oe b, xs = [.ref a, v'] ∧ H a = some (exH oe) ∧ oe.cls = .ref C ∧ (∃ vs, oe.data = .fields vs) ∧ (∀ dd, oe.dict = some dd → ∃ fs, H dd = some (.xd fs)) ∧ ExF X.K C ∧ PySem.W.kitOne X.K (.ref C) u = some b ∧ Q (.bl b) H) := by
    rintro pins s σ H xs us Q I r ⟨a, C, oe, b, rfl, ea, ec, ⟨vs, hv⟩, hd, EF, T, q⟩
    obtain ⟨u0, u1, rfl, ra, rb⟩ : ∃ u0 u1, us = [u0, u1] ∧ RelV (.ref a) u0 ∧ RelV v' u1 := by
      cases r with
      | cons h1 h2 =>
        cases h2 with
        | cons h2 h3 => cases h3; exact ⟨_, _, rfl, h1, h2⟩
    cases (show u0 = Value.ref a from ra)
    cases hv' _ rb
    have hget : s.heap.get? a = some oe := exH_get (I.hok a _ ea)
    have J : ∃ od, PySem.W.InstAt s.heap a oe C od := by
      cases hdd : oe.dict with
      | none => exact ⟨none, hget, ec, by unfold PySem.W.notCls; rw [hv] <;> rfl, by rw [hdd]; trivial⟩
      | some dd =>
        obtain ⟨fs, hfs⟩ := hd dd hdd
        have ok : ObjOk X.prog X.w H s.heap dd (.xd fs) := I.hok dd _ hfs
        obtain ⟨mA, hns, _⟩ := ok
        obtain ⟨od, ho, _⟩ := lookIn_ns hns
        exact ⟨some od, hget, ec, by unfold PySem.W.notCls; rw [hv] <;> rfl, by rw [hdd]; exact ho⟩
    obtain ⟨od, J⟩ := J
    exact PySem.W.kia_one (PySem.W.kitx_exc EF.cl EF.xf.ga EF.xf.gg EF.xf.exC EF.ca EF.cn EF.ct EF.cm) I.kIn J T (fun z => nomatch z) fun tk => ⟨.bl _, H, I.kept (t' := tk) fun _ _ z => z, rfl, q⟩
  refine pe_wk (pe_callB call hg hm (by decide +kernel) (pa_cons he (pa_cons pe2 pa_nil hs2) hs) (by decide) (by decide) hs hp) ?_
  rintro s H Q ⟨W, F, m, r, q, rel, rs, h, k⟩
  refine ⟨W, F, m, r, _, rel, rs, h, fun W1 H1 m1 v x l1 rel1 rv hq => ?_⟩
  cases x with
  | ptr j =>
    cases hm : m1[j]? with
    | none => simp only [hm] at hq
    | some cl =>
      cases cl with
      | exc c fs =>
        simp only [hm] at hq
        obtain ⟨hc, hq⟩ := hq
        obtain ⟨a, C, oe, rfl, ad, ea, ec, hf, ho⟩ := exc_at rel1 rv hm
        obtain ⟨EF, T⟩ := T _ hc C ad
        refine ⟨a, C, oe, _, rfl, ea, ec, hf, fun dd hdd => ?_, EF, T, k _ _ _ _ _ l1 rel1 (.bl _) hq⟩
        rcases ho with ⟨_, e2⟩ | ⟨dd', xs, e2, e3, rf⟩
        · rw [e2] at hdd; cases hdd
        · rw [e2] at hdd; cases hdd
          exact ⟨xs, rel1.sub _ _ e3⟩
      | _ => simp only [hm] at hq
  | _ => exact hq.elim
end
end DL
namespace DL
open PySem PySem.Spec PyProof.Rows L2
end DL
namespace HK
open PySem PySem.Spec PyProof.Rows L2 He
section
variable {ex : List (List Ck)} {fn : List FnD} {ts : List (Str × List Str)} {w : World} {K : PySem.W.Frag}
theorem Says3.fact (c : Says3 ex fn ts w K) (i j : Nat) {r : List Ck} {f : Ck} (h : ex[i]? = some r := by rfl) (h2 : r[j]? = some f := by rfl) : f K = true := by
  have c1 := (ba (show ((ex.all fun r => r.all fun f => f K) && fn.all fun d => (Fa.code d.at_ d.qual).ok K) = true from congrArg (fun z : Al3 => z.1) c)).1
  exact List.all_eq_true.mp (List.all_eq_true.mp c1 r (List.mem_of_getElem? h)) f (List.mem_of_getElem? h2)
theorem Says3.def_ (c : Says3 ex fn ts w K) (i : Nat) {d : FnD} (h : fn[i]? = some d := by rfl) :
    ∃ oc od osl kV doc pm an cdv ct, K.lookup (fAd K d.at_) = some ⟨oc, od, .func (PySem.W.fnOf d.name d.qual d.params d.body d.scope .none kV doc pm an cdv ct), osl⟩ ∧ PySem.W.codeIn K cdv d.qual = true := by
  have c2 := (ba (show ((ex.all fun r => r.all fun f => f K) && fn.all fun d => (Fa.code d.at_ d.qual).ok K) = true from congrArg (fun z : Al3 => z.1) c)).2
  have e : fn.map (fun d => fnObs K d.at_) = fn.map FnD.val := congrArg (fun z : Al3 => z.2.1) c
  have e2 : (fn.map fun d => fnObs K d.at_)[i]? = (fn.map FnD.val)[i]? := by rw [e]
  rw [List.getElem?_map, List.getElem?_map, h] at e2
  exact fn_ok (Option.some.inj e2) (List.all_eq_true.mp c2 d (List.mem_of_getElem? h))
theorem Says3.tab (c : Says3 ex fn ts w K) (i : Nat) {t : Str × List Str} (h : ts[i]? = some t := by rfl) : dicW K (ga K t.1) = some (keysIn w.params t.2) := by
  have e : ts.map (fun t => dicW K (ga K t.1)) = ts.map fun t => some (keysIn w.params t.2) := congrArg (fun z : Al3 => z.2.2) c
  have e2 : (ts.map fun t => dicW K (ga K t.1))[i]? = (ts.map fun t => some (keysIn w.params t.2))[i]? := by rw [e]
  rw [List.getElem?_map, List.getElem?_map, h] at e2
  exact Option.some.inj e2
end
theorem isO_ok {a b : Option Value} (h : isO a b = true) : a = b := of_decide_eq_true h
theorem isB_ok {a b : Option Bool} (h : isB a b = true) : a = b := of_decide_eq_true h
theorem isC_ok {a : Option PySem.W.CFound} {v : Value} (h : isC a v = true) : a = some (.val v) := by
  unfold isC at h
  split at h
  · rw [of_decide_eq_true h]
  · cases h
theorem walkH {l : PySem.W.OpenLaw} {k : Nat} {q : Program} {loose : List Str} {XP : (Str → Option Value) → Heap → Prop} {d : DefRec} {n : Nat} {ex : List (List Ck)} {fn : List FnD} {ts : List (Str × List Str)} {x : Str}
    (hn : l.most = some 63) (hdf : d.params.defaults = []) (hr : Room k callerA) (hd : d.name = ("law" : Str))
    (F : ∀ (w : World) (K : PySem.W.Frag) (mg : Str → Option Value) (fa : Addr) (h : Heap), K.In h → h.Ns mainGlobals mg → mg ("law" : Str) = some (.ref fa) → Says3 ex fn ts w K →
      ∃ (_ : DL.Cl) (fd : FuncData), (∀ (s : Shared) (u : Value), BindsTo s fd ⟨[u], []⟩ [(x, u)]) ∧ ∀ base : Heap, K.In base → base.Ns mainGlobals mg → DL.FnG l.prog w K mg base k fa fd [x] (DL.spOf K 1 DL.lawD)) :
    PySem.W.WalkO q loose XP (hook3 n ex fn ts).says l.row.toRowW d [] (fun f vs => PySem.call f vs) := by
  apply Att.attach_call hn hdf
  intro w s0 s1 mg mb fa o pm cd doc a vs ns G Y ho hd' hcd hmg hobj hints hlen hg
  obtain ⟨K, inK, c⟩ := Y
  rw [hd] at hmg
  obtain ⟨_, fd, hb, hF⟩ := F w K mg fa _ inK G.T.g hmg c
  exact DL.law_end inK G.T.g G.T.b G.T.builtins G.T.nolimit hg hobj hints hlen hr hF hb
end HK
namespace K17
open PySem PySem.Spec PyProof.Rows L2 DL
abbrev N_law_bag : List Str := ["_law_script", "_law_cell"]
theorem sc_law_bag : FnScope N_law_bag ["_law_script"] (defScope s_law_bag) := ⟨rfl, rfl, rfl, by decide +kernel, rfl, by decide +kernel, by decide +kernel⟩
abbrev N_law_take : List Str := ["_law_bag_here", "_law_many", "_law_cell", "_law_value", "_law_first", "_law_second"]
theorem sc_law_take : FnScope N_law_take ["_law_bag_here", "_law_many"] (defScope s_law_take) := ⟨rfl, rfl, rfl, by decide +kernel, rfl, by decide +kernel, by decide +kernel⟩
abbrev N_law_alike : List Str := ["_law_found", "_law_due"]
theorem sc_law_alike : FnScope N_law_alike ["_law_found", "_law_due"] (defScope s_law_alike) := ⟨rfl, rfl, rfl, by decide +kernel, rfl, by decide +kernel, by decide +kernel⟩
abbrev N_law_bare : List Str := ["_law_which"]
theorem sc_law_bare : FnScope N_law_bare ["_law_which"] (defScope s_law_bare) := ⟨rfl, rfl, rfl, by decide +kernel, rfl, by decide +kernel, by decide +kernel⟩
abbrev N_law_raised : List Str := ["_law_which", "_law_thing"]
theorem sc_law_raised : FnScope N_law_raised ["_law_which", "_law_thing"] (defScope s_law_raised) := ⟨rfl, rfl, rfl, by decide +kernel, rfl, by decide +kernel, by decide +kernel⟩
abbrev N_law_field : List Str := ["_law_which", "_law_e"]
theorem sc_law_field : FnScope N_law_field ["_law_which", "_law_e"] (defScope s_law_field) := ⟨rfl, rfl, rfl, by decide +kernel, rfl, by decide +kernel, by decide +kernel⟩
abbrev N_law_flags : List Str := ["_law_e", "_law_some"]
theorem sc_law_flags : FnScope N_law_flags ["_law_e"] (defScope s_law_flags) := ⟨rfl, rfl, rfl, by decide +kernel, rfl, by decide +kernel, by decide +kernel⟩
abbrev N_law_caught : List Str := ["_law_which", "_law_thing", "_law_e"]
theorem sc_law_caught : FnScope N_law_caught ["_law_which", "_law_thing"] (defScope s_law_caught) := ⟨rfl, rfl, rfl, by decide +kernel, rfl, by decide +kernel, by decide +kernel⟩
abbrev N_law_right : List Str := ["_law_which", "_law_thing", "_law_e", "_law_k", "_law_one"]
theorem sc_law_right : FnScope N_law_right ["_law_which", "_law_thing", "_law_e"] (defScope s_law_right) := ⟨rfl, rfl, rfl, by decide +kernel, rfl, by decide +kernel, by decide +kernel⟩
abbrev N_law : List Str := ["_law_script", "_law_bag_here", "_law_first", "_law_step", "_law_kept", "_law_k", "_law_way", "_law_some", "_law_which", "_law_one"]
theorem sc_law : FnScope N_law ["_law_script"] (defScope s_law) := ⟨rfl, rfl, rfl, by decide +kernel, rfl, by decide +kernel, by decide +kernel⟩
theorem sc_NoSpot___init : FnScope ["self"] ["self"] (defScope s_NoSpot___init) := ⟨rfl, rfl, rfl, by decide +kernel, rfl, by decide +kernel, by decide +kernel⟩
theorem sc_NoText___init : FnScope ["self"] ["self"] (defScope s_NoText___init) := ⟨rfl, rfl, rfl, by decide +kernel, rfl, by decide +kernel, by decide +kernel⟩
theorem sc_NoDeed___init : FnScope ["self"] ["self"] (defScope s_NoDeed___init) := ⟨rfl, rfl, rfl, by decide +kernel, rfl, by decide +kernel, by decide +kernel⟩
theorem sc_NoRow___init : FnScope ["self"] ["self"] (defScope s_NoRow___init) := ⟨rfl, rfl, rfl, by decide +kernel, rfl, by decide +kernel, by decide +kernel⟩
theorem sc_Wrong___init : FnScope ["self", "at"] ["self", "at"] (defScope s_Wrong___init) := ⟨rfl, rfl, rfl, by decide +kernel, rfl, by decide +kernel, by decide +kernel⟩
theorem sc_NoChain___init : FnScope ["self", "at"] ["self", "at"] (defScope s_NoChain___init) := ⟨rfl, rfl, rfl, by decide +kernel, rfl, by decide +kernel, by decide +kernel⟩
theorem sc_NoOffer___init : FnScope ["self", "at"] ["self", "at"] (defScope s_NoOffer___init) := ⟨rfl, rfl, rfl, by decide +kernel, rfl, by decide +kernel, by decide +kernel⟩
theorem sc_Twice___init : FnScope ["self", "key"] ["self", "key"] (defScope s_Twice___init) := ⟨rfl, rfl, rfl, by decide +kernel, rfl, by decide +kernel, by decide +kernel⟩
theorem sc_NoPaper___init : FnScope ["self", "key"] ["self", "key"] (defScope s_NoPaper___init) := ⟨rfl, rfl, rfl, by decide +kernel, rfl, by decide +kernel, by decide +kernel⟩
theorem sc_NoOff___init : FnScope ["self", "key"] ["self", "key"] (defScope s_NoOff___init) := ⟨rfl, rfl, rfl, by decide +kernel, rfl, by decide +kernel, by decide +kernel⟩
theorem sc_NoReading___init : FnScope ["self", "key"] ["self", "key"] (defScope s_NoReading___init) := ⟨rfl, rfl, rfl, by decide +kernel, rfl, by decide +kernel, by decide +kernel⟩
theorem sc_TooMany___init : FnScope ["self", "most"] ["self", "most"] (defScope s_TooMany___init) := ⟨rfl, rfl, rfl, by decide +kernel, rfl, by decide +kernel, by decide +kernel⟩
theorem sc_NoThing___init : FnScope ["self", "name"] ["self", "name"] (defScope s_NoThing___init) := ⟨rfl, rfl, rfl, by decide +kernel, rfl, by decide +kernel, by decide +kernel⟩
abbrev t_law_bag : DS := DL.t_law_bag
abbrev g_law_bag : FN := DL.g_law_bag
theorem ar_law_bag : ∀ ds m q, g_law_bag ds m q → ds.length = 1 := DL.ar_law_bag
abbrev t_law_take : DS := DL.tk0
abbrev g_law_take : FN := DL.g_law_take
theorem ar_law_take : ∀ ds m q, g_law_take ds m q → ds.length = 2 := DL.ar_law_take
theorem ix_last {α : Type} {L : List α} {x : α} : ixN (L ++ [x]).length (-1) = some L.length := by
  unfold ixN
  rw [if_neg (by omega), List.length_append, List.length_singleton, if_pos (by omega)]
  congr 1
  omega
theorem at_last {α : Type} {L : List α} {x : α} : atI (L ++ [x]) (-1) = some x := by
  unfold atI
  rw [ix_last]
  simp
inductive Od : D → Prop
  | int (i : Int) : Sm 70 i → Od (.int i)
  | ab : Od (.str "ab")
  | em : Od (.str "")
  | non : Od .non
  | bl (b : Bool) : Od (.bl b)
  | lst : Od (.lst [.int 3])
  | tup : Od (.tup [.int 3, .non])
  | dic : Od (.dic [])
theorem sm3 : Sm 70 3 := sm (k := 2) (by decide) (by decide)
theorem od_gd {x : D} (h : Od x) : x = .dic [] ∨ (Gd 60 sizeLine x ∧ ∃ v, py0 x = some v ∧ emD v = true ∧ v.depth ≤ 60 ∧ dReprE [x] = dRepr [x]) := by
  have z : ∀ {k c : Nat} {d : D}, Gd k c d → k ≤ 60 → c ≤ 100000 → Gd 60 sizeLine d := fun g a b => g.mono a (by rw [sizeLine_eq]; omega)
  cases h with
  | int i s => exact .inr ⟨z (gd_int s (by decide)) (by decide) (by decide), .int i, rfl, rfl, Nat.zero_le _, rfl⟩
  | ab => exact .inr ⟨z (k := 0) (c := 100) ⟨.str "ab", rfl, by decide +kernel, by decide +kernel, by decide +kernel, by decide +kernel⟩ (by decide) (by decide), .str "ab", rfl, rfl, Nat.zero_le _, rfl⟩
  | em => exact .inr ⟨z (k := 0) (c := 100) ⟨.str "", rfl, by decide +kernel, by decide +kernel, by decide +kernel, by decide +kernel⟩ (by decide) (by decide), .str "", rfl, rfl, Nat.zero_le _, rfl⟩
  | non => exact .inr ⟨z gd_non (by decide) (by decide), .none, rfl, rfl, Nat.zero_le _, rfl⟩
  | bl b => exact .inr ⟨z gd_bl (by decide) (by decide), .bool b, rfl, rfl, Nat.zero_le _, rfl⟩
  | lst => exact .inr ⟨z (gd_lst (k := 0) (c := 100) fun d hd => by simp only [List.mem_cons, List.not_mem_nil, or_false] at hd; subst hd; exact (gd_int sm3 (by decide)).mono (by decide) (by decide)) (by decide) (by decide), _, rfl, rfl, by decide, rfl⟩
  | tup => exact .inr ⟨z (gd_tup (k := 0) (c := 100) fun d hd => by
      simp only [List.mem_cons, List.not_mem_nil, or_false] at hd
      rcases hd with rfl | rfl
      · exact (gd_int sm3 (by decide)).mono (by decide) (by decide)
      · exact gd_non.mono (by decide) (by decide)) (by decide) (by decide), _, rfl, rfl, by decide, rfl⟩
  | dic => exact .inl rfl
def clN (n : Nat) : Str := match n with
  | 0 => "Wrong" | 1 => "NoChain" | 2 => "NoOffer" | 3 => "Twice" | 4 => "NoPaper" | 5 => "NoOff" | 6 => "NoReading" | 7 => "TooMany" | 8 => "NoThing" | 9 => "NoSpot" | 10 => "NoText" | 11 => "NoDeed" | _ => "NoRow"
def fsN (n : Nat) (x : D) : List (Str × D) := match n with
  | 0 => [("at", x)] | 1 => [("at", x)] | 2 => [("at", x)] | 3 => [("key", x)] | 4 => [("key", x)] | 5 => [("key", x)] | 6 => [("key", x)] | 7 => [("most", x)] | 8 => [("name", x)] | _ => []
abbrev excOf (n : Nat) (x : D) : Exn := ⟨clN n, fsN n x⟩
theorem lit13 {n : Nat} (h : n ≤ 12) : n = 0 ∨ n = 1 ∨ n = 2 ∨ n = 3 ∨ n = 4 ∨ n = 5 ∨ n = 6 ∨ n = 7 ∨ n = 8 ∨ n = 9 ∨ n = 10 ∨ n = 11 ∨ n = 12 := by omega
@[irreducible] def g_law_alike : FN := fun dz m q => ∃ (x : D), dz = [x, x] ∧ (Od x ∧ q (.bl true) m)
theorem ar_law_alike : ∀ ds m q, g_law_alike ds m q → ds.length = 2 := by
  unfold g_law_alike
  rintro _ m q ⟨_, rfl, _⟩; rfl
theorem i_law_alike {x : D} {m : Sto} {q : D → Sto → Prop} (h : Od x ∧ q (.bl true) m) : g_law_alike [x, x] m q := by unfold g_law_alike; exact ⟨x, rfl, h⟩
def t_law_alike : DS :=
    (dRet (dAnd (dBin dEqE (dVar 0) (dVar 1)) (dBin dEqE (dCallB dReprE (a1 (dVar 0))) (dCallB dReprE (a1 (dVar 1))))))
theorem r_law_alike (dz : List D) (m : Sto) (q : D → Sto → Prop) (hl : dz.length = 2) (h : g_law_alike dz m q) : t_law_alike { nx := fun _ m' => q .non m', rt := q } (startD N_law_alike dz) m := by
  unfold g_law_alike at h
  obtain ⟨x, rfl, h⟩ := h
  unfold t_law_alike
  obtain ⟨g, h⟩ := h
  rcases od_gd g with rfl | ⟨⟨v, e, p⟩, v', e', em, dp, dr⟩
  · ((conv => whnf); (try (set_option simprocs false in dsimp only [])))
    refine eqE_same (v := .dict []) (.dic .nil) (.dic .nil) rfl (by decide) ?_
    ((conv => whnf); (repeat ((first | refine ⟨Nat.le_of_ble_eq_true rfl, ?_⟩ | refine bt ?_ | refine bf ?_); (conv => whnf))); (try (set_option simprocs false in dsimp only [])))
    exact eqE_same (.str _) (.str _) rfl (by decide) h
  · rw [e] at e'
    cases e'
    ((conv => whnf); (try (set_option simprocs false in dsimp only [])))
    refine eqE_same (pyr_py e) (pyr_py e) em dp ?_
    have go : ∀ Q : D → Sto → Prop, Q (.str v.shown) m → dReprE [x] m Q := fun Q hQ => by
      rw [dr]
      exact dRepr_i (py_of e) p hQ
    refine bt ?_
    show dReprE [x] m _
    refine go _ ?_
    show dReprE [x] m _
    refine go _ ?_
    exact eqE_same (.str _) (.str _) rfl (by simp [PyData.depth]) h
@[irreducible] def g_law_bare : FNX := fun dz m q xq => ∃ (n : Nat) (x : D), dz = [.int n] ∧ ((9 ≤ n ∧ n ≤ 12) ∧ xq (excOf n x) m)
theorem ar_law_bare : ∀ ds m q xq, g_law_bare ds m q xq → ds.length = 1 := by
  unfold g_law_bare
  rintro _ m q xq ⟨_, _, rfl, _⟩; rfl
theorem i_law_bare {n : Nat} {x : D} {m : Sto} {q : D → Sto → Prop} {xq : Exn → Sto → Prop} (h : (9 ≤ n ∧ n ≤ 12) ∧ xq (excOf n x) m) : g_law_bare [.int n] m q xq := by unfold g_law_bare; exact ⟨n, x, rfl, h⟩
def t_law_bare (wd : WD) : DS :=
    (dSeq (dIf (dTest (dBin dEq (dVar 0) (dC (.int 9)))) (dRaise0 wd "NoSpot") dNext)
    (dSeq (dIf (dTest (dBin dEq (dVar 0) (dC (.int 10)))) (dRaise0 wd "NoText") dNext)
    (dSeq (dIf (dTest (dBin dEq (dVar 0) (dC (.int 11)))) (dRaise0 wd "NoDeed") dNext)
    (dRaise0 wd "NoRow"))))
theorem r_law_bare (dz : List D) (m : Sto) (q : D → Sto → Prop) (xq : Exn → Sto → Prop) (hl : dz.length = 1) (h : g_law_bare dz m q xq) : t_law_bare (fun ex _ m' => xq ex m') { nx := fun _ m' => q .non m', rt := q } (startD N_law_bare dz) m := by
  unfold g_law_bare at h
  obtain ⟨n, x, rfl, h⟩ := h
  unfold t_law_bare
  obtain ⟨hn, h⟩ := h
  obtain rfl | rfl | rfl | rfl : n = 9 ∨ n = 10 ∨ n = 11 ∨ n = 12 := by omega
  all_goals (((conv => whnf); (repeat ((first | refine ⟨Nat.le_of_ble_eq_true rfl, ?_⟩ | refine bt ?_ | refine bf ?_); (conv => whnf))); (try (set_option simprocs false in dsimp only []))); exact h)
@[irreducible] def g_law_raised : FNX := fun dz m q xq => ∃ (n : Nat) (x : D), dz = [.int n, x] ∧ (n ≤ 12 ∧ xq (excOf n x) m)
theorem ar_law_raised : ∀ ds m q xq, g_law_raised ds m q xq → ds.length = 2 := by
  unfold g_law_raised
  rintro _ m q xq ⟨_, _, rfl, _⟩; rfl
theorem i_law_raised {n : Nat} {x : D} {m : Sto} {q : D → Sto → Prop} {xq : Exn → Sto → Prop} (h : n ≤ 12 ∧ xq (excOf n x) m) : g_law_raised [.int n, x] m q xq := by unfold g_law_raised; exact ⟨n, x, rfl, h⟩
def t_law_raised (wd : WD) : DS :=
    (dSeq (dIf (dTest (dBin dEq (dVar 0) (dC (.int 0)))) (dRaise1 wd "Wrong" "at" (dVar 1)) dNext)
    (dSeq (dIf (dTest (dBin dEq (dVar 0) (dC (.int 1)))) (dRaise1 wd "NoChain" "at" (dVar 1)) dNext)
    (dSeq (dIf (dTest (dBin dEq (dVar 0) (dC (.int 2)))) (dRaise1 wd "NoOffer" "at" (dVar 1)) dNext)
    (dSeq (dIf (dTest (dBin dEq (dVar 0) (dC (.int 3)))) (dRaise1 wd "Twice" "key" (dVar 1)) dNext)
    (dSeq (dIf (dTest (dBin dEq (dVar 0) (dC (.int 4)))) (dRaise1 wd "NoPaper" "key" (dVar 1)) dNext)
    (dSeq (dIf (dTest (dBin dEq (dVar 0) (dC (.int 5)))) (dRaise1 wd "NoOff" "key" (dVar 1)) dNext)
    (dSeq (dIf (dTest (dBin dEq (dVar 0) (dC (.int 6)))) (dRaise1 wd "NoReading" "key" (dVar 1)) dNext)
    (dSeq (dIf (dTest (dBin dEq (dVar 0) (dC (.int 7)))) (dRaise1 wd "TooMany" "most" (dVar 1)) dNext)
    (dSeq (dIf (dTest (dBin dEq (dVar 0) (dC (.int 8)))) (dRaise1 wd "NoThing" "name" (dVar 1)) dNext)
    (dDrop (dCallX g_law_bare wd (dCons (dVar 0) dNil))))))))))))
theorem r_law_raised (dz : List D) (m : Sto) (q : D → Sto → Prop) (xq : Exn → Sto → Prop) (hl : dz.length = 2) (h : g_law_raised dz m q xq) : t_law_raised (fun ex _ m' => xq ex m') { nx := fun _ m' => q .non m', rt := q } (startD N_law_raised dz) m := by
  unfold g_law_raised at h
  obtain ⟨n, x, rfl, h⟩ := h
  unfold t_law_raised
  obtain ⟨hn, h⟩ := h
  rcases lit13 hn with rfl | rfl | rfl | rfl | rfl | rfl | rfl | rfl | rfl | rfl | rfl | rfl | rfl
  all_goals (first | (((conv => whnf); (repeat ((first | refine ⟨Nat.le_of_ble_eq_true rfl, ?_⟩ | refine bt ?_ | refine bf ?_); (conv => whnf))); (try (set_option simprocs false in dsimp only []))); exact h) | (((conv => whnf); (repeat ((first | refine ⟨Nat.le_of_ble_eq_true rfl, ?_⟩ | refine bt ?_ | refine bf ?_); (conv => whnf))); (try (set_option simprocs false in dsimp only []))); exact i_law_bare (x := x) ⟨by decide, h⟩))
abbrev KS : List Str := ["Wrong", "NoChain", "NoOffer", "Twice", "NoPaper", "NoOff", "NoReading", "TooMany", "NoThing", "NoSpot", "NoText", "NoDeed", "NoRow"]
theorem exc_in {n : Nat} (hn : n ≤ 12) : clN n ∈ KS := by
  rcases lit13 hn with rfl | rfl | rfl | rfl | rfl | rfl | rfl | rfl | rfl | rfl | rfl | rfl | rfl <;> decide
theorem exc_chain (c : Str) : isX c "ChainError" = true := by unfold isX; simp
theorem exc_value (c : Str) : isX c "ValueError" = true := by unfold isX; simp
@[irreducible] def g_law_caught : FN := fun dz m q => ∃ (n : Nat) (x : D), dz = [.int n, x] ∧ (n ≤ 12 ∧ q (.ptr m.length) (m ++ [.exc (clN n) (fsN n x)]))
theorem ar_law_caught : ∀ ds m q, g_law_caught ds m q → ds.length = 2 := by
  unfold g_law_caught
  rintro _ m q ⟨_, _, rfl, _⟩; rfl
theorem i_law_caught {n : Nat} {x : D} {m : Sto} {q : D → Sto → Prop} (h : n ≤ 12 ∧ q (.ptr m.length) (m ++ [.exc (clN n) (fsN n x)])) : g_law_caught [.int n, x] m q := by unfold g_law_caught; exact ⟨n, x, rfl, h⟩
def t_law_caught : DS :=
    (dSeq (dTryAsX ["Wrong", "NoChain", "NoOffer", "Twice", "NoPaper", "NoOff", "NoReading", "TooMany", "NoThing", "NoSpot", "NoText", "NoDeed", "NoRow"] "ChainError" 2 (fun w1 => (dDrop (dCallX g_law_raised w1 (dCons (dVar 0) (dCons (dVar 1) dNil))))) (fun ex1 xa1 => (dRet (dVar 2))) noW)
    (dRet (dC .non)))
theorem r_law_caught (dz : List D) (m : Sto) (q : D → Sto → Prop) (hl : dz.length = 2) (h : g_law_caught dz m q) : t_law_caught { nx := fun _ m' => q .non m', rt := q } (startD N_law_caught dz) m := by
  unfold g_law_caught at h
  obtain ⟨n, x, rfl, h⟩ := h
  unfold t_law_caught
  obtain ⟨hn, h⟩ := h
  ((conv => whnf); (try (set_option simprocs false in dsimp only [])))
  refine i_law_raised ⟨hn, exc_in hn, fun _ a => ?_, fun z => absurd ((exc_chain _).symm.trans z) (by decide)⟩
  ((conv => whnf); (try (set_option simprocs false in dsimp only [])))
  exact ⟨rfl, h⟩
@[irreducible] def g_law_field : FN := fun dz m q => ∃ (n : Nat) (x : D) (j : Nat), dz = [.int n, .ptr j] ∧ (n ≤ 12 ∧ m[j]? = some (.exc (clN n) (fsN n x)) ∧ q (.lst (if n ≤ 8 then [x] else [])) m)
theorem ar_law_field : ∀ ds m q, g_law_field ds m q → ds.length = 2 := by
  unfold g_law_field
  rintro _ m q ⟨_, _, _, rfl, _⟩; rfl
theorem i_law_field {n : Nat} {x : D} {j : Nat} {m : Sto} {q : D → Sto → Prop} (h : n ≤ 12 ∧ m[j]? = some (.exc (clN n) (fsN n x)) ∧ q (.lst (if n ≤ 8 then [x] else [])) m) : g_law_field [.int n, .ptr j] m q := by unfold g_law_field; exact ⟨n, x, j, rfl, h⟩
def t_law_field : DS :=
    (dSeq (dIf (dTest (dBin dLt (dVar 0) (dC (.int 3)))) (dRet (dLst (dCons (dXatC ["Wrong", "NoChain", "NoOffer"] "at" (dVar 1)) dNil))) dNext)
    (dSeq (dIf (dTest (dBin dLt (dVar 0) (dC (.int 7)))) (dRet (dLst (dCons (dXatC ["Twice", "NoPaper", "NoOff", "NoReading"] "key" (dVar 1)) dNil))) dNext)
    (dSeq (dIf (dTest (dBin dEq (dVar 0) (dC (.int 7)))) (dRet (dLst (dCons (dXatC ["TooMany"] "most" (dVar 1)) dNil))) dNext)
    (dSeq (dIf (dTest (dBin dEq (dVar 0) (dC (.int 8)))) (dRet (dLst (dCons (dXatC ["NoThing"] "name" (dVar 1)) dNil))) dNext)
    (dRet (dLst dNil))))))
theorem r_law_field (dz : List D) (m : Sto) (q : D → Sto → Prop) (hl : dz.length = 2) (h : g_law_field dz m q) : t_law_field { nx := fun _ m' => q .non m', rt := q } (startD N_law_field dz) m := by
  unfold g_law_field at h
  obtain ⟨n, x, j, rfl, h⟩ := h
  unfold t_law_field
  obtain ⟨hn, e, h⟩ := h
  rcases lit13 hn with rfl | rfl | rfl | rfl | rfl | rfl | rfl | rfl | rfl | rfl | rfl | rfl | rfl
  all_goals (first | (((conv => whnf); (repeat ((first | refine ⟨Nat.le_of_ble_eq_true rfl, ?_⟩ | refine bt ?_ | refine bf ?_); (conv => whnf))); (try (set_option simprocs false in dsimp only []))); exact h) | (((conv => whnf); (repeat ((first | refine ⟨Nat.le_of_ble_eq_true rfl, ?_⟩ | refine bt ?_ | refine bf ?_); (conv => whnf))); (try (set_option simprocs false in dsimp only []))); rw [e]; ((conv => whnf); (repeat ((first | refine ⟨Nat.le_of_ble_eq_true rfl, ?_⟩ | refine bt ?_ | refine bf ?_); (conv => whnf))); (try (set_option simprocs false in dsimp only []))); refine ⟨by decide, ?_⟩; ((conv => whnf); (repeat ((first | refine ⟨Nat.le_of_ble_eq_true rfl, ?_⟩ | refine bt ?_ | refine bf ?_); (conv => whnf))); (try (set_option simprocs false in dsimp only []))); exact h))
def flagsD (n : Nat) : List D := (List.range 13).map fun k : Nat => D.bl (decide ((k : Int) = (n : Int)))
@[irreducible] def g_law_flags : FN := fun dz m q => ∃ (n : Nat) (x : D) (j : Nat), dz = [.ptr j] ∧ (n ≤ 12 ∧ m[j]? = some (.exc (clN n) (fsN n x)) ∧ q (.lst (flagsD n)) m)
theorem ar_law_flags : ∀ ds m q, g_law_flags ds m q → ds.length = 1 := by
  unfold g_law_flags
  rintro _ m q ⟨_, _, _, rfl, _⟩; rfl
theorem i_law_flags {n : Nat} {x : D} {j : Nat} {m : Sto} {q : D → Sto → Prop} (h : n ≤ 12 ∧ m[j]? = some (.exc (clN n) (fsN n x)) ∧ q (.lst (flagsD n)) m) : g_law_flags [.ptr j] m q := by unfold g_law_flags; exact ⟨n, x, j, rfl, h⟩
def t_law_flags : DS :=
    (dSeq (dAsg (dLst (dCons (dXisC ["Wrong", "NoChain", "NoOffer", "Twice", "NoPaper", "NoOff", "NoReading", "TooMany", "NoThing", "NoSpot", "NoText", "NoDeed", "NoRow"] "Wrong" (dVar 0)) (dCons (dXisC ["Wrong", "NoChain", "NoOffer", "Twice", "NoPaper", "NoOff", "NoReading", "TooMany", "NoThing", "NoSpot", "NoText", "NoDeed", "NoRow"] "NoChain" (dVar 0)) (dCons (dXisC ["Wrong", "NoChain", "NoOffer", "Twice", "NoPaper", "NoOff", "NoReading", "TooMany", "NoThing", "NoSpot", "NoText", "NoDeed", "NoRow"] "NoOffer" (dVar 0)) (dCons (dXisC ["Wrong", "NoChain", "NoOffer", "Twice", "NoPaper", "NoOff", "NoReading", "TooMany", "NoThing", "NoSpot", "NoText", "NoDeed", "NoRow"] "Twice" (dVar 0)) dNil))))) (gN 1))
    (dSeq (dAsg (dBin dAdd (dVar 1) (dLst (dCons (dXisC ["Wrong", "NoChain", "NoOffer", "Twice", "NoPaper", "NoOff", "NoReading", "TooMany", "NoThing", "NoSpot", "NoText", "NoDeed", "NoRow"] "NoPaper" (dVar 0)) (dCons (dXisC ["Wrong", "NoChain", "NoOffer", "Twice", "NoPaper", "NoOff", "NoReading", "TooMany", "NoThing", "NoSpot", "NoText", "NoDeed", "NoRow"] "NoOff" (dVar 0)) (dCons (dXisC ["Wrong", "NoChain", "NoOffer", "Twice", "NoPaper", "NoOff", "NoReading", "TooMany", "NoThing", "NoSpot", "NoText", "NoDeed", "NoRow"] "NoReading" (dVar 0)) (dCons (dXisC ["Wrong", "NoChain", "NoOffer", "Twice", "NoPaper", "NoOff", "NoReading", "TooMany", "NoThing", "NoSpot", "NoText", "NoDeed", "NoRow"] "TooMany" (dVar 0)) dNil)))))) (gN 1))
    (dSeq (dAsg (dBin dAdd (dVar 1) (dLst (dCons (dXisC ["Wrong", "NoChain", "NoOffer", "Twice", "NoPaper", "NoOff", "NoReading", "TooMany", "NoThing", "NoSpot", "NoText", "NoDeed", "NoRow"] "NoThing" (dVar 0)) (dCons (dXisC ["Wrong", "NoChain", "NoOffer", "Twice", "NoPaper", "NoOff", "NoReading", "TooMany", "NoThing", "NoSpot", "NoText", "NoDeed", "NoRow"] "NoSpot" (dVar 0)) (dCons (dXisC ["Wrong", "NoChain", "NoOffer", "Twice", "NoPaper", "NoOff", "NoReading", "TooMany", "NoThing", "NoSpot", "NoText", "NoDeed", "NoRow"] "NoText" (dVar 0)) (dCons (dXisC ["Wrong", "NoChain", "NoOffer", "Twice", "NoPaper", "NoOff", "NoReading", "TooMany", "NoThing", "NoSpot", "NoText", "NoDeed", "NoRow"] "NoDeed" (dVar 0)) dNil)))))) (gN 1))
    (dRet (dBin dAdd (dVar 1) (dLst (dCons (dXisC ["Wrong", "NoChain", "NoOffer", "Twice", "NoPaper", "NoOff", "NoReading", "TooMany", "NoThing", "NoSpot", "NoText", "NoDeed", "NoRow"] "NoRow" (dVar 0)) dNil)))))))
theorem r_law_flags (dz : List D) (m : Sto) (q : D → Sto → Prop) (hl : dz.length = 1) (h : g_law_flags dz m q) : t_law_flags { nx := fun _ m' => q .non m', rt := q } (startD N_law_flags dz) m := by
  unfold g_law_flags at h
  obtain ⟨n, x, j, rfl, h⟩ := h
  unfold t_law_flags
  obtain ⟨hn, e, h⟩ := h
  have hin := exc_in hn
  have fl : flagsD n = [.bl (isX (clN n) "Wrong"), .bl (isX (clN n) "NoChain"), .bl (isX (clN n) "NoOffer"), .bl (isX (clN n) "Twice"), .bl (isX (clN n) "NoPaper"), .bl (isX (clN n) "NoOff"), .bl (isX (clN n) "NoReading"), .bl (isX (clN n) "TooMany"), .bl (isX (clN n) "NoThing"), .bl (isX (clN n) "NoSpot"), .bl (isX (clN n) "NoText"), .bl (isX (clN n) "NoDeed"), .bl (isX (clN n) "NoRow")] := by
    rcases lit13 hn with rfl | rfl | rfl | rfl | rfl | rfl | rfl | rfl | rfl | rfl | rfl | rfl | rfl
    all_goals rfl
  rw [fl] at h
  ((conv => whnf); (repeat ((first | refine ⟨Nat.le_of_ble_eq_true rfl, ?_⟩ | refine bt ?_ | refine bf ?_); (conv => whnf))); (try (set_option simprocs false in dsimp only [])))
  iterate 13 (rw [e]; refine ⟨hin, ?_⟩; ((conv => whnf); (repeat ((first | refine ⟨Nat.le_of_ble_eq_true rfl, ?_⟩ | refine bt ?_ | refine bf ?_); (conv => whnf))); (try (set_option simprocs false in dsimp only []))))
  exact h
def onB (n : Nat) : D → D
  | .int i => .bl (decide (i = (n : Int)))
  | d => d
theorem gd_flags (n : Nat) : Gd 60 sizeLine (.lst (flagsD n)) := by
  refine (gd_lst (k := 0) (c := 5) fun d hd => ?_).mono (by decide) ?_
  · obtain ⟨k, _, rfl⟩ := List.mem_map.mp hd
    exact gd_bl
  · unfold flagsD
    rw [List.length_map, List.length_range, sizeLine_eq]
    decide
@[irreducible] def g_law_right : FN := fun dz m q => ∃ (n : Nat) (x : D) (j : Nat), dz = [.int n, x, .ptr j] ∧ (n ≤ 12 ∧ Od x ∧ m[j]? = some (.exc (clN n) (fsN n x)) ∧ q (.bl true) m)
theorem ar_law_right : ∀ ds m q, g_law_right ds m q → ds.length = 3 := by
  unfold g_law_right
  rintro _ m q ⟨_, _, _, rfl, _⟩; rfl
theorem i_law_right {n : Nat} {x : D} {j : Nat} {m : Sto} {q : D → Sto → Prop} (h : n ≤ 12 ∧ Od x ∧ m[j]? = some (.exc (clN n) (fsN n x)) ∧ q (.bl true) m) : g_law_right [.int n, x, .ptr j] m q := by unfold g_law_right; exact ⟨n, x, j, rfl, h⟩
def t_law_right : DS :=
    (dSeq (dIf (dTOr (dTest (dBin dIsN (dVar 2) (dC .non))) (dTOr (dTNot (dTest (dXisC ["Wrong", "NoChain", "NoOffer", "Twice", "NoPaper", "NoOff", "NoReading", "TooMany", "NoThing", "NoSpot", "NoText", "NoDeed", "NoRow"] "ValueError" (dVar 2)))) (dTest (dBin dNe (dCallB g_law_flags (dCons (dVar 2) dNil)) (dLc 3 (dRange1 (dC (.int 13))) dYes (dBin dEq (dVar 3) (dVar 0))))))) (dRet (dC (.bl false))) dNext)
    (dRet (dBin dEqNil (dLc 4 (dIter (dCallB g_law_field (dCons (dVar 0) (dCons (dVar 2) dNil)))) (dTNot (dTest (dCallB g_law_alike (dCons (dVar 4) (dCons (dVar 1) dNil))))) (dVar 4)) (dLst dNil))))
theorem r_law_right (dz : List D) (m : Sto) (q : D → Sto → Prop) (hl : dz.length = 3) (h : g_law_right dz m q) : t_law_right { nx := fun _ m' => q .non m', rt := q } (startD N_law_right dz) m := by
  unfold g_law_right at h
  obtain ⟨n, x, j, rfl, h⟩ := h
  unfold t_law_right
  obtain ⟨hn, ox, e, h⟩ := h
  have hin := exc_in hn
  ((conv => whnf); (repeat ((first | refine ⟨Nat.le_of_ble_eq_true rfl, ?_⟩ | refine bt ?_ | refine bf ?_); (conv => whnf))); (try (set_option simprocs false in dsimp only [])))
  rw [e]
  refine ⟨hin, ?_⟩
  rw [exc_value]
  ((conv => whnf); (repeat ((first | refine ⟨Nat.le_of_ble_eq_true rfl, ?_⟩ | refine bt ?_ | refine bf ?_); (conv => whnf))); (try (set_option simprocs false in dsimp only [])))
  refine i_law_flags ⟨hn, e, ?_⟩
  ((conv => whnf); (repeat ((first | refine ⟨Nat.le_of_ble_eq_true rfl, ?_⟩ | refine bt ?_ | refine bf ?_); (conv => whnf))); (try (set_option simprocs false in dsimp only [])))
  refine ⟨⟨by decide, by decide⟩, by rw [List.length_map, List.length_range]; decide, ?_⟩
  refine lc_map (onB n) (fun y hy N hN => ?_) ?_ ?_
  · obtain ⟨k, _, rfl⟩ := List.mem_map.mp hy
    ((conv => whnf); (try (set_option simprocs false in dsimp only [])))
    have e2 : onB n (.int (0 + (k : Int))) = .bl (decide (0 + (k : Int) = (n : Int))) := rfl
    rw [e2] at hN
    exact hN
  · exact trivial
  have ef : ((List.range 13).map fun k : Nat => D.int (0 + (k : Int))).map (onB n) = flagsD n := by
    unfold flagsD
    rw [List.map_map]
    exact List.map_congr_left fun k _ => by show D.bl (decide (0 + (k : Int) = (n : Int))) = _; rw [Int.zero_add]
  have ef' : ((List.range (13 : Int).toNat).map fun k : Nat => D.int (0 + (k : Int))).map (onB n) = flagsD n := ef
  obtain ⟨v, p1, p2⟩ := gd_flags n
  (first | rw [ef] | rw [ef'])
  ((conv => whnf); (try (set_option simprocs false in dsimp only [])))
  refine dNe_same (py_of p1) (py_of p1) p2 ?_
  refine bf ?_
  ((conv => whnf); (try (set_option simprocs false in dsimp only [])))
  refine i_law_field ⟨hn, e, ?_⟩
  have fin : ∀ ds : List D, (∀ y ∈ ds, y = x) → lcI 4 (dTNot (dTest (dCallB g_law_alike (dCons (dVar 4) (dCons (dVar 1) dNil))))) (dVar 4) (okP none) ds (forget (startD N_law_right [D.int n, x, D.ptr j]) 4) [] m fun acc m1 => dLst dNil (startD N_law_right [D.int n, x, D.ptr j]) m1 fun y m2 => dEqNil (D.lst acc) y m2 q := fun ds hd => by
    refine lc_indT (fun xs acc m' => acc = [] ∧ m' = m ∧ ∀ y ∈ xs, y = x) ?_ (fun _ _ _ _ => trivial) ?_ _ _ _ ⟨rfl, rfl, hd⟩
    · rintro y xs acc m' N N0 ⟨rfl, rfl, hy⟩ k1 k2
      obtain rfl := hy y List.mem_cons_self
      ((conv => whnf); (try (set_option simprocs false in dsimp only [])))
      refine i_law_alike ⟨ox, ?_⟩
      ((conv => whnf); (try (set_option simprocs false in dsimp only [])))
      exact ⟨fun z => (Bool.false_ne_true z).elim, fun _ => k2 _ ⟨rfl, rfl, fun z hz => hy z (List.mem_cons_of_mem _ hz)⟩⟩
    · rintro acc m' ⟨rfl, rfl, _⟩
      ((conv => whnf); (try (set_option simprocs false in dsimp only [])))
      refine ⟨by decide, ?_⟩
      exact eqNil_i rfl h
  by_cases h8 : n ≤ 8
  · rw [if_pos h8]
    ((conv => whnf); (repeat ((first | refine ⟨Nat.le_of_ble_eq_true rfl, ?_⟩ | refine bt ?_ | refine bf ?_); (conv => whnf))); (try (set_option simprocs false in dsimp only [])))
    exact fin _ fun y hy => List.mem_singleton.mp hy
  · rw [if_neg h8]
    ((conv => whnf); (repeat ((first | refine ⟨Nat.le_of_ble_eq_true rfl, ?_⟩ | refine bt ?_ | refine bf ?_); (conv => whnf))); (try (set_option simprocs false in dsimp only [])))
    exact fin _ fun y hy => absurd hy List.not_mem_nil
def entD (e : Nat × D × Nat) : D := .tup [.int e.1, e.2.1, .ptr (e.2.2 + 2)]
structure EntOk (dn : Sto) (e : Nat × D × Nat) : Prop where
  n : e.1 ≤ 12
  od : Od e.2.1
  at_ : dn[e.2.2]? = some (.exc (clN e.1) (fsN e.1 e.2.1))
theorem od_at {i j v : Int} (hi : Sm 70 i) (hj : Sm 70 j) (h0 : 0 ≤ v) (h1 : v < 10) : ∃ x, atI [D.int i, .int j, .str "ab", .str "", .non, .bl true, .bl false, .lst [.int 3], .tup [.int 3, .non], .dic []] v = some x ∧ Od x := by
  obtain rfl | rfl | rfl | rfl | rfl | rfl | rfl | rfl | rfl | rfl : v = 0 ∨ v = 1 ∨ v = 2 ∨ v = 3 ∨ v = 4 ∨ v = 5 ∨ v = 6 ∨ v = 7 ∨ v = 8 ∨ v = 9 := by omega
  · exact ⟨_, rfl, .int _ hi⟩
  · exact ⟨_, rfl, .int _ hj⟩
  · exact ⟨_, rfl, .ab⟩
  · exact ⟨_, rfl, .em⟩
  · exact ⟨_, rfl, .non⟩
  · exact ⟨_, rfl, .bl _⟩
  · exact ⟨_, rfl, .bl _⟩
  · exact ⟨_, rfl, .lst⟩
  · exact ⟨_, rfl, .tup⟩
  · exact ⟨_, rfl, .dic⟩
def b_law_1 : DS :=
    (dSeq (dAsg (dCallB g_law_take (dCons (dVar 1) (dCons (dC (.int 10)) dNil))) (gN 6))
    (dSeq (dAsg (dLst (dCons (dCallB g_law_take (dCons (dVar 1) (dCons (dBin dPow (dC (.int 10)) (dC (.int 18))) dNil))) (dCons (dBin dSub (dC (.int 0)) (dCallB g_law_take (dCons (dVar 1) (dCons (dC (.int 70)) dNil)))) (dCons (dC (.str "ab")) (dCons (dC (.str "")) (dCons (dC .non) (dCons (dC (.bl true)) (dCons (dC (.bl false)) (dCons (dLst (dCons (dC (.int 3)) dNil)) (dCons (dTup (dCons (dC (.int 3)) (dCons (dC .non) dNil))) (dCons dDic dNil))))))))))) (gN 7))
    (dSeq (dAsg (dBin dMod (dBin dAdd (dVar 2) (dBin dMul (dVar 5) (dVar 3))) (dC (.int 13))) (gN 8))
    (dSeq (dDrop (dApp (dVar 4) (dTup (dCons (dVar 8) (dCons (dBin dIx (dVar 7) (dVar 6)) (dCons (dCallB g_law_caught (dCons (dVar 8) (dCons (dBin dIx (dVar 7) (dVar 6)) dNil))) dNil))))))
    (dIf (dTNot (dTest (dCallB g_law_right (dCons (dVar 8) (dCons (dBin dIx (dVar 7) (dVar 6)) (dCons (dBin dIx (dBin dIx (dVar 4) (dUn dNeg (dC (.int 1)))) (dC (.int 2))) dNil)))))) (dRet (dC (.bl false))) dNext)))))
def t_law : DS :=
    (dSeq (dAsg (dCallB g_law_bag (dCons (dVar 0) dNil)) (gN 1))
    (dSeq (dAsg (dCallB g_law_take (dCons (dVar 1) (dCons (dC (.int 13)) dNil))) (gN 2))
    (dSeq (dAsg (dBin dAdd (dC (.int 1)) (dCallB g_law_take (dCons (dVar 1) (dCons (dC (.int 12)) dNil)))) (gN 3))
    (dSeq (dAsg (dLstP dNil) (gN 4))
    (dSeq (dFor (dRange1 (dC (.int 26))) (gN 5) b_law_1)
    (dRet (dBin dEqNil (dLc 9 (dIter (dVar 4)) (dTNot (dTest (dCallB g_law_right (dCons (dBin dIx (dVar 9) (dC (.int 0))) (dCons (dBin dIx (dVar 9) (dC (.int 1))) (dCons (dBin dIx (dVar 9) (dC (.int 2))) dNil)))))) (dVar 9)) (dLst dNil))))))))
theorem r_law (ds : List D) (m : Sto) (q : D → Sto → Prop) (hl : ds.length = 1) (h : lawD ds m q) : t_law { nx := fun _ m' => q .non m', rt := q } (startD N_law ds) m := by
  obtain ⟨ns, rfl, hn, rfl, h⟩ := h
  unfold t_law
  ((conv => whnf); (try (set_option simprocs false in dsimp only [])))
  refine i_law_bag hn fun c hc => ?_
  ((conv => whnf); (repeat ((first | refine ⟨Nat.le_of_ble_eq_true rfl, ?_⟩ | refine bt ?_ | refine bf ?_); (conv => whnf))); (try (set_option simprocs false in dsimp only [])))
  refine take_at hc (by decide) (sm (k := 64) (by decide) (by decide)) fun v2 c2 lo_v2 up_v2 hc_v2 => ?_
  have u2 : v2 < 13 := up_v2
  ((conv => whnf); (try (set_option simprocs false in dsimp only [])))
  refine take_at hc_v2 (by decide) (sm (k := 64) (by decide) (by decide)) fun v3 c3 lo_v3 up_v3 hc_v3 => ?_
  have u3 : v3 < 12 := up_v3
  ((conv => whnf); (repeat ((first | refine ⟨Nat.le_of_ble_eq_true rfl, ?_⟩ | refine bt ?_ | refine bf ?_); (conv => whnf))); (try (set_option simprocs false in dsimp only [])))
  refine ⟨⟨by decide, by decide⟩, ?_⟩
  refine forD_ind (fun us r m' => ∃ x5 x6 x7 x8 x9, ∃ c, ∃ L : List (Nat × D × Nat), ∃ dn, r = [some (.fz (ns.map D.int)), some (.ptr 0), some (.int v2), some (.int (1 + v3)), some (.ptr 1), x5, x6, x7, x8, x9] ∧ m' = c :: Cell.lst (L.map entD) :: dn ∧ BagOk c ∧ (∀ e ∈ L, EntOk dn e) ∧ L.length + us.length ≤ 26 ∧ ∀ u ∈ us, ∃ k : Nat, u = .int k ∧ k ≤ 26) ?_ (fun _ _ _ _ => trivial) ?_ _ _ _ ⟨_, _, _, _, _, _, [], [], rfl, rfl, hc_v3, (fun _ z => absurd z List.not_mem_nil), by rw [List.length_map, List.length_range]; decide, fun u hu => ?_⟩
  · rintro u us r m' N ⟨x5, x6, x7, x8, x9, c, L, dn, rfl, rfl, hc, hL, hlen, hu⟩ kk
    obtain ⟨k, rfl, hk⟩ := hu u List.mem_cons_self
    rw [List.length_cons] at hlen
    unfold b_law_1
    ((conv => whnf); (try (set_option simprocs false in dsimp only [])))
    refine take_at hc (by decide) (sm (k := 64) (by decide) (by decide)) fun v6 c6 lo_v6 up_v6 hc_v6 => ?_
    ((conv => whnf); (try (set_option simprocs false in dsimp only [])))
    refine ⟨⟨by decide, by decide, by decide⟩, ?_⟩
    ((conv => whnf); (try (set_option simprocs false in dsimp only [])))
    refine take_at hc_v6 (by decide) (sm (k := 64) (by decide) (by decide)) fun v7 c7 lo7 up7 hc7 => ?_
    have u7 : v7 < 1000000000000000000 := up7
    ((conv => whnf); (try (set_option simprocs false in dsimp only [])))
    refine take_at hc7 (by decide) (sm (k := 64) (by decide) (by decide)) fun v8 c8 lo_v8 up_v8 hc_v8 => ?_
    have u8 : v8 < 70 := up_v8
    ((conv => whnf); (repeat ((first | refine ⟨Nat.le_of_ble_eq_true rfl, ?_⟩ | refine bt ?_ | refine bf ?_); (conv => whnf))); (try (set_option simprocs false in dsimp only [])))
    obtain ⟨x, ex, ox⟩ := od_at (i := v7) (j := 0 - v8) (sm_le 70 (by omega) (by omega)) (sm_le 70 (by omega) (by omega)) lo_v6 up_v6
    refine ⟨mulL (by omega) (by omega), ?_⟩
    ((conv => whnf); (try (set_option simprocs false in dsimp only [])))
    refine ⟨by decide, ?_⟩
    obtain ⟨nn, en, n12⟩ : ∃ nn : Nat, (v2 + k * (1 + v3)) % 13 = nn ∧ nn ≤ 12 := ⟨((v2 + k * (1 + v3)) % 13).toNat, by omega, by omega⟩
    ((conv => whnf); (try (set_option simprocs false in dsimp only [])))
    rw [en, ex]
    ((conv => whnf); (try (set_option simprocs false in dsimp only [])))
    rw [ex]
    ((conv => whnf); (try (set_option simprocs false in dsimp only [])))
    refine i_law_caught ⟨n12, ?_⟩
    ((conv => whnf); (repeat ((first | refine ⟨Nat.le_of_ble_eq_true rfl, ?_⟩ | refine bt ?_ | refine bf ?_); (conv => whnf))); (try (set_option simprocs false in dsimp only [])))
    refine ⟨by rw [List.length_map]; omega, ?_⟩
    have en2 : D.tup [.int nn, x, .ptr (c8 :: Cell.lst (L.map entD) :: dn).length] = entD (nn, x, dn.length) := rfl
    have es : (c8 :: Cell.lst (L.map entD) :: dn ++ [Cell.exc (clN nn) (fsN nn x)]).set 1 (Cell.lst (L.map entD ++ [entD (nn, x, dn.length)])) = c8 :: Cell.lst ((L ++ [(nn, x, dn.length)]).map entD) :: (dn ++ [Cell.exc (clN nn) (fsN nn x)]) := by
      rw [List.map_append]; rfl
    have at2 : (dn ++ [Cell.exc (clN nn) (fsN nn x)])[dn.length]? = some (.exc (clN nn) (fsN nn x)) := by simp
    rw [en2, es]
    ((conv => whnf); (try (set_option simprocs false in dsimp only [])))
    rw [ex]
    ((conv => whnf); (try (set_option simprocs false in dsimp only [])))
    rw [List.map_append]
    rw [show (List.map entD [(nn, x, dn.length)]) = [entD (nn, x, dn.length)] from rfl, at_last]
    ((conv => whnf); (repeat ((first | refine ⟨Nat.le_of_ble_eq_true rfl, ?_⟩ | refine bt ?_ | refine bf ?_); (conv => whnf))); (try (set_option simprocs false in dsimp only [])))
    refine i_law_right ⟨n12, ox, at2, ?_⟩
    refine bf ?_
    refine kk _ _ ⟨_, _, _, _, _, c8, L ++ [(nn, x, dn.length)], dn ++ [Cell.exc (clN nn) (fsN nn x)], rfl, by rw [List.map_append]; rfl, hc_v8, fun e he => ?_, by rw [List.length_append, List.length_singleton]; omega, fun u hu' => hu u (List.mem_cons_of_mem _ hu')⟩
    rcases List.mem_append.mp he with he | he
    · exact ⟨(hL e he).n, (hL e he).od, get_app (hL e he).at_⟩
    · rw [List.mem_singleton.mp he]
      exact ⟨n12, ox, at2⟩
  · rintro r m' ⟨x5, x6, x7, x8, x9, c, L, dn, rfl, rfl, hc, hL, hlen, hu⟩
    ((conv => whnf); (try (set_option simprocs false in dsimp only [])))
    rw [List.length_nil] at hlen
    refine ⟨by rw [List.length_map]; omega, ?_⟩
    refine lc_indT (fun xs acc m' => acc = [] ∧ m' = c :: Cell.lst (L.map entD) :: dn ∧ ∀ y ∈ xs, ∃ e, y = entD e ∧ EntOk dn e) ?_ (fun _ _ _ ⟨_, e, _⟩ => by rw [e]; rfl) ?_ _ _ _ ⟨rfl, rfl, fun y hy => ?_⟩
    · rintro y xs acc m' N N0 ⟨rfl, rfl, hy⟩ k1 k2
      obtain ⟨e, rfl, ok⟩ := hy y List.mem_cons_self
      ((conv => whnf); (try (set_option simprocs false in dsimp only [])))
      refine i_law_right ⟨ok.n, ok.od, ok.at_, ?_⟩
      ((conv => whnf); (try (set_option simprocs false in dsimp only [])))
      exact ⟨fun z => (Bool.false_ne_true z).elim, fun _ => k2 _ ⟨rfl, rfl, fun z hz => hy z (List.mem_cons_of_mem _ hz)⟩⟩
    · rintro acc m' ⟨rfl, rfl, _⟩
      ((conv => whnf); (try (set_option simprocs false in dsimp only [])))
      refine ⟨by decide, ?_⟩
      exact eqNil_i rfl (h _)
    · obtain ⟨e, he, rfl⟩ := List.mem_map.mp hy
      exact ⟨e, rfl, hL e he⟩
  · obtain ⟨k, hk, rfl⟩ := List.mem_map.mp hu
    exact ⟨k, by rw [Int.zero_add], by have : k < 26 := List.mem_range.mp hk; omega⟩
abbrev g_law : FN := lawD
end K17
namespace K17
open PySem PySem.Spec PyProof.Rows L2 DL
theorem r_law_bag (ds : List D) (m : Sto) (q : D → Sto → Prop) (hl : ds.length = 1) (h : g_law_bag ds m q) : t_law_bag { nx := fun _ m' => q .non m', rt := q } (startD N_law_bag ds) m := DL.r_law_bag _ _ ds m q hl h
theorem r_law_take (ds : List D) (m : Sto) (q : D → Sto → Prop) (hl : ds.length = 2) (h : g_law_take ds m q) : t_law_take { nx := fun _ m' => q .non m', rt := q } (startD N_law_take ds) m := DL.take_all _ rfl ds m q h
section
variable [Cl] {P : Program} {w : World} {K : PySem.W.Frag} {mg : Str → Option Value} {base : Heap}
theorem xk_NoSpot {C CE fa : Addr} {fd : FuncData} (F : L2.Fun K "__init__" "NoSpot.__init__" s_NoSpot___init fa fd) (ad : Cl.ad "NoSpot" = some C) (hm : mg "NoSpot" = some (.ref C)) (ef : exfB K C = true) (iC : PySem.W.findIn K (.ref C) "__init__" = some (some (.ref fa))) (tI : PySem.W.typeIn K (.ref fa) = some (.type "function")) (b : Binds K fd ["self"] []) (mc : mg "ChainError" = some (.ref CE)) (ga : PySem.W.specialIn K (.ref CE) "__getattribute__" = some (some (.builtin "type.__getattribute__"))) (rd : PySem.W.readsIn K CE (.type "type") = true) (vV : PySem.W.findCls K (.ref CE) (.type "type") "__init__" = some (.val (.builtin "ValueError.__init__"))) : XK0 P w K mg base "NoSpot" :=
  xk0_mk (txt := "it does not fit") F sc_NoSpot___init ad hm ef iC tI b (fun cdv A outer s H E => (pss_one (ps_expr (pe_ceinit rfl mc ga rd vV (pa_cons (pe_var (i := 0) rfl (.inl rfl)) (pa_cons pe_str pa_nil))))))
theorem xk_NoText {C CE fa : Addr} {fd : FuncData} (F : L2.Fun K "__init__" "NoText.__init__" s_NoText___init fa fd) (ad : Cl.ad "NoText" = some C) (hm : mg "NoText" = some (.ref C)) (ef : exfB K C = true) (iC : PySem.W.findIn K (.ref C) "__init__" = some (some (.ref fa))) (tI : PySem.W.typeIn K (.ref fa) = some (.type "function")) (b : Binds K fd ["self"] []) (mc : mg "ChainError" = some (.ref CE)) (ga : PySem.W.specialIn K (.ref CE) "__getattribute__" = some (some (.builtin "type.__getattribute__"))) (rd : PySem.W.readsIn K CE (.type "type") = true) (vV : PySem.W.findCls K (.ref CE) (.type "type") "__init__" = some (.val (.builtin "ValueError.__init__"))) : XK0 P w K mg base "NoText" :=
  xk0_mk (txt := "no such text") F sc_NoText___init ad hm ef iC tI b (fun cdv A outer s H E => (pss_one (ps_expr (pe_ceinit rfl mc ga rd vV (pa_cons (pe_var (i := 0) rfl (.inl rfl)) (pa_cons pe_str pa_nil))))))
theorem xk_NoDeed {C CE fa : Addr} {fd : FuncData} (F : L2.Fun K "__init__" "NoDeed.__init__" s_NoDeed___init fa fd) (ad : Cl.ad "NoDeed" = some C) (hm : mg "NoDeed" = some (.ref C)) (ef : exfB K C = true) (iC : PySem.W.findIn K (.ref C) "__init__" = some (some (.ref fa))) (tI : PySem.W.typeIn K (.ref fa) = some (.type "function")) (b : Binds K fd ["self"] []) (mc : mg "ChainError" = some (.ref CE)) (ga : PySem.W.specialIn K (.ref CE) "__getattribute__" = some (some (.builtin "type.__getattribute__"))) (rd : PySem.W.readsIn K CE (.type "type") = true) (vV : PySem.W.findCls K (.ref CE) (.type "type") "__init__" = some (.val (.builtin "ValueError.__init__"))) : XK0 P w K mg base "NoDeed" :=
  xk0_mk (txt := "nothing to take back") F sc_NoDeed___init ad hm ef iC tI b (fun cdv A outer s H E => (pss_one (ps_expr (pe_ceinit rfl mc ga rd vV (pa_cons (pe_var (i := 0) rfl (.inl rfl)) (pa_cons pe_str pa_nil))))))
theorem xk_NoRow {C CE fa : Addr} {fd : FuncData} (F : L2.Fun K "__init__" "NoRow.__init__" s_NoRow___init fa fd) (ad : Cl.ad "NoRow" = some C) (hm : mg "NoRow" = some (.ref C)) (ef : exfB K C = true) (iC : PySem.W.findIn K (.ref C) "__init__" = some (some (.ref fa))) (tI : PySem.W.typeIn K (.ref fa) = some (.type "function")) (b : Binds K fd ["self"] []) (mc : mg "ChainError" = some (.ref CE)) (ga : PySem.W.specialIn K (.ref CE) "__getattribute__" = some (some (.builtin "type.__getattribute__"))) (rd : PySem.W.readsIn K CE (.type "type") = true) (vV : PySem.W.findCls K (.ref CE) (.type "type") "__init__" = some (.val (.builtin "ValueError.__init__"))) : XK0 P w K mg base "NoRow" :=
  xk0_mk (txt := "no such row") F sc_NoRow___init ad hm ef iC tI b (fun cdv A outer s H E => (pss_one (ps_expr (pe_ceinit rfl mc ga rd vV (pa_cons (pe_var (i := 0) rfl (.inl rfl)) (pa_cons pe_str pa_nil))))))
theorem xk_Wrong {C CE fa : Addr} {fd : FuncData} (F : L2.Fun K "__init__" "Wrong.__init__" s_Wrong___init fa fd) (ad : Cl.ad "Wrong" = some C) (hm : mg "Wrong" = some (.ref C)) (ef : exfB K C = true) (iC : PySem.W.findIn K (.ref C) "__init__" = some (some (.ref fa))) (tI : PySem.W.typeIn K (.ref fa) = some (.type "function")) (b : Binds K fd ["self", "at"] []) (no : PySem.W.findIn K (.ref C) "at" = some none) (mc : mg "ChainError" = some (.ref CE)) (ga : PySem.W.specialIn K (.ref CE) "__getattribute__" = some (some (.builtin "type.__getattribute__"))) (rd : PySem.W.readsIn K CE (.type "type") = true) (vV : PySem.W.findCls K (.ref CE) (.type "type") "__init__" = some (.val (.builtin "ValueError.__init__"))) : XK1 P w K mg base "Wrong" "at" :=
  xk1_mk (txt := "not what this place wants") F sc_Wrong___init ad hm ef iC tI b no (fun cdv A outer s H E => (pss_cons (ps_expr (pe_ceinit rfl mc ga rd vV (pa_cons (pe_var (i := 0) rfl (.inl rfl)) (pa_cons pe_str pa_nil)))) (pss_one (ps_ost (pe_var (i := 0) rfl (.inl rfl)) (pe_var (i := 1) rfl (.inl rfl))))))
theorem xk_NoChain {C CE fa : Addr} {fd : FuncData} (F : L2.Fun K "__init__" "NoChain.__init__" s_NoChain___init fa fd) (ad : Cl.ad "NoChain" = some C) (hm : mg "NoChain" = some (.ref C)) (ef : exfB K C = true) (iC : PySem.W.findIn K (.ref C) "__init__" = some (some (.ref fa))) (tI : PySem.W.typeIn K (.ref fa) = some (.type "function")) (b : Binds K fd ["self", "at"] []) (no : PySem.W.findIn K (.ref C) "at" = some none) (mc : mg "ChainError" = some (.ref CE)) (ga : PySem.W.specialIn K (.ref CE) "__getattribute__" = some (some (.builtin "type.__getattribute__"))) (rd : PySem.W.readsIn K CE (.type "type") = true) (vV : PySem.W.findCls K (.ref CE) (.type "type") "__init__" = some (.val (.builtin "ValueError.__init__"))) : XK1 P w K mg base "NoChain" "at" :=
  xk1_mk (txt := "no chain") F sc_NoChain___init ad hm ef iC tI b no (fun cdv A outer s H E => (pss_cons (ps_expr (pe_ceinit rfl mc ga rd vV (pa_cons (pe_var (i := 0) rfl (.inl rfl)) (pa_cons pe_str pa_nil)))) (pss_one (ps_ost (pe_var (i := 0) rfl (.inl rfl)) (pe_var (i := 1) rfl (.inl rfl))))))
theorem xk_NoOffer {C CE fa : Addr} {fd : FuncData} (F : L2.Fun K "__init__" "NoOffer.__init__" s_NoOffer___init fa fd) (ad : Cl.ad "NoOffer" = some C) (hm : mg "NoOffer" = some (.ref C)) (ef : exfB K C = true) (iC : PySem.W.findIn K (.ref C) "__init__" = some (some (.ref fa))) (tI : PySem.W.typeIn K (.ref fa) = some (.type "function")) (b : Binds K fd ["self", "at"] []) (no : PySem.W.findIn K (.ref C) "at" = some none) (mc : mg "ChainError" = some (.ref CE)) (ga : PySem.W.specialIn K (.ref CE) "__getattribute__" = some (some (.builtin "type.__getattribute__"))) (rd : PySem.W.readsIn K CE (.type "type") = true) (vV : PySem.W.findCls K (.ref CE) (.type "type") "__init__" = some (.val (.builtin "ValueError.__init__"))) : XK1 P w K mg base "NoOffer" "at" :=
  xk1_mk (txt := "it can't be held") F sc_NoOffer___init ad hm ef iC tI b no (fun cdv A outer s H E => (pss_cons (ps_expr (pe_ceinit rfl mc ga rd vV (pa_cons (pe_var (i := 0) rfl (.inl rfl)) (pa_cons pe_str pa_nil)))) (pss_one (ps_ost (pe_var (i := 0) rfl (.inl rfl)) (pe_var (i := 1) rfl (.inl rfl))))))
theorem xk_Twice {C CE fa : Addr} {fd : FuncData} (F : L2.Fun K "__init__" "Twice.__init__" s_Twice___init fa fd) (ad : Cl.ad "Twice" = some C) (hm : mg "Twice" = some (.ref C)) (ef : exfB K C = true) (iC : PySem.W.findIn K (.ref C) "__init__" = some (some (.ref fa))) (tI : PySem.W.typeIn K (.ref fa) = some (.type "function")) (b : Binds K fd ["self", "key"] []) (no : PySem.W.findIn K (.ref C) "key" = some none) (mc : mg "ChainError" = some (.ref CE)) (ga : PySem.W.specialIn K (.ref CE) "__getattribute__" = some (some (.builtin "type.__getattribute__"))) (rd : PySem.W.readsIn K CE (.type "type") = true) (vV : PySem.W.findCls K (.ref CE) (.type "type") "__init__" = some (.val (.builtin "ValueError.__init__"))) : XK1 P w K mg base "Twice" "key" :=
  xk1_mk (txt := "it is kept already") F sc_Twice___init ad hm ef iC tI b no (fun cdv A outer s H E => (pss_cons (ps_expr (pe_ceinit rfl mc ga rd vV (pa_cons (pe_var (i := 0) rfl (.inl rfl)) (pa_cons pe_str pa_nil)))) (pss_one (ps_ost (pe_var (i := 0) rfl (.inl rfl)) (pe_var (i := 1) rfl (.inl rfl))))))
theorem xk_NoPaper {C CE fa : Addr} {fd : FuncData} (F : L2.Fun K "__init__" "NoPaper.__init__" s_NoPaper___init fa fd) (ad : Cl.ad "NoPaper" = some C) (hm : mg "NoPaper" = some (.ref C)) (ef : exfB K C = true) (iC : PySem.W.findIn K (.ref C) "__init__" = some (some (.ref fa))) (tI : PySem.W.typeIn K (.ref fa) = some (.type "function")) (b : Binds K fd ["self", "key"] []) (no : PySem.W.findIn K (.ref C) "key" = some none) (mc : mg "ChainError" = some (.ref CE)) (ga : PySem.W.specialIn K (.ref CE) "__getattribute__" = some (some (.builtin "type.__getattribute__"))) (rd : PySem.W.readsIn K CE (.type "type") = true) (vV : PySem.W.findCls K (.ref CE) (.type "type") "__init__" = some (.val (.builtin "ValueError.__init__"))) : XK1 P w K mg base "NoPaper" "key" :=
  xk1_mk (txt := "no such paper") F sc_NoPaper___init ad hm ef iC tI b no (fun cdv A outer s H E => (pss_cons (ps_expr (pe_ceinit rfl mc ga rd vV (pa_cons (pe_var (i := 0) rfl (.inl rfl)) (pa_cons pe_str pa_nil)))) (pss_one (ps_ost (pe_var (i := 0) rfl (.inl rfl)) (pe_var (i := 1) rfl (.inl rfl))))))
theorem xk_NoOff {C CE fa : Addr} {fd : FuncData} (F : L2.Fun K "__init__" "NoOff.__init__" s_NoOff___init fa fd) (ad : Cl.ad "NoOff" = some C) (hm : mg "NoOff" = some (.ref C)) (ef : exfB K C = true) (iC : PySem.W.findIn K (.ref C) "__init__" = some (some (.ref fa))) (tI : PySem.W.typeIn K (.ref fa) = some (.type "function")) (b : Binds K fd ["self", "key"] []) (no : PySem.W.findIn K (.ref C) "key" = some none) (mc : mg "ChainError" = some (.ref CE)) (ga : PySem.W.specialIn K (.ref CE) "__getattribute__" = some (some (.builtin "type.__getattribute__"))) (rd : PySem.W.readsIn K CE (.type "type") = true) (vV : PySem.W.findCls K (.ref CE) (.type "type") "__init__" = some (.val (.builtin "ValueError.__init__"))) : XK1 P w K mg base "NoOff" "key" :=
  xk1_mk (txt := "no such off paper") F sc_NoOff___init ad hm ef iC tI b no (fun cdv A outer s H E => (pss_cons (ps_expr (pe_ceinit rfl mc ga rd vV (pa_cons (pe_var (i := 0) rfl (.inl rfl)) (pa_cons pe_str pa_nil)))) (pss_one (ps_ost (pe_var (i := 0) rfl (.inl rfl)) (pe_var (i := 1) rfl (.inl rfl))))))
theorem xk_NoReading {C CE fa : Addr} {fd : FuncData} (F : L2.Fun K "__init__" "NoReading.__init__" s_NoReading___init fa fd) (ad : Cl.ad "NoReading" = some C) (hm : mg "NoReading" = some (.ref C)) (ef : exfB K C = true) (iC : PySem.W.findIn K (.ref C) "__init__" = some (some (.ref fa))) (tI : PySem.W.typeIn K (.ref fa) = some (.type "function")) (b : Binds K fd ["self", "key"] []) (no : PySem.W.findIn K (.ref C) "key" = some none) (mc : mg "ChainError" = some (.ref CE)) (ga : PySem.W.specialIn K (.ref CE) "__getattribute__" = some (some (.builtin "type.__getattribute__"))) (rd : PySem.W.readsIn K CE (.type "type") = true) (vV : PySem.W.findCls K (.ref CE) (.type "type") "__init__" = some (.val (.builtin "ValueError.__init__"))) : XK1 P w K mg base "NoReading" "key" :=
  xk1_mk (txt := "no such reading") F sc_NoReading___init ad hm ef iC tI b no (fun cdv A outer s H E => (pss_cons (ps_expr (pe_ceinit rfl mc ga rd vV (pa_cons (pe_var (i := 0) rfl (.inl rfl)) (pa_cons pe_str pa_nil)))) (pss_one (ps_ost (pe_var (i := 0) rfl (.inl rfl)) (pe_var (i := 1) rfl (.inl rfl))))))
theorem xk_TooMany {C CE fa : Addr} {fd : FuncData} (F : L2.Fun K "__init__" "TooMany.__init__" s_TooMany___init fa fd) (ad : Cl.ad "TooMany" = some C) (hm : mg "TooMany" = some (.ref C)) (ef : exfB K C = true) (iC : PySem.W.findIn K (.ref C) "__init__" = some (some (.ref fa))) (tI : PySem.W.typeIn K (.ref fa) = some (.type "function")) (b : Binds K fd ["self", "most"] []) (no : PySem.W.findIn K (.ref C) "most" = some none) (mc : mg "ChainError" = some (.ref CE)) (ga : PySem.W.specialIn K (.ref CE) "__getattribute__" = some (some (.builtin "type.__getattribute__"))) (rd : PySem.W.readsIn K CE (.type "type") = true) (vV : PySem.W.findCls K (.ref CE) (.type "type") "__init__" = some (.val (.builtin "ValueError.__init__"))) : XK1 P w K mg base "TooMany" "most" :=
  xk1_mk (txt := "too many") F sc_TooMany___init ad hm ef iC tI b no (fun cdv A outer s H E => (pss_cons (ps_expr (pe_ceinit rfl mc ga rd vV (pa_cons (pe_var (i := 0) rfl (.inl rfl)) (pa_cons pe_str pa_nil)))) (pss_one (ps_ost (pe_var (i := 0) rfl (.inl rfl)) (pe_var (i := 1) rfl (.inl rfl))))))
theorem xk_NoThing {C CE fa : Addr} {fd : FuncData} (F : L2.Fun K "__init__" "NoThing.__init__" s_NoThing___init fa fd) (ad : Cl.ad "NoThing" = some C) (hm : mg "NoThing" = some (.ref C)) (ef : exfB K C = true) (iC : PySem.W.findIn K (.ref C) "__init__" = some (some (.ref fa))) (tI : PySem.W.typeIn K (.ref fa) = some (.type "function")) (b : Binds K fd ["self", "name"] []) (no : PySem.W.findIn K (.ref C) "name" = some none) (mc : mg "ChainError" = some (.ref CE)) (ga : PySem.W.specialIn K (.ref CE) "__getattribute__" = some (some (.builtin "type.__getattribute__"))) (rd : PySem.W.readsIn K CE (.type "type") = true) (vV : PySem.W.findCls K (.ref CE) (.type "type") "__init__" = some (.val (.builtin "ValueError.__init__"))) : XK1 P w K mg base "NoThing" "name" :=
  xk1_mk (txt := "no such thing") F sc_NoThing___init ad hm ef iC tI b no (fun cdv A outer s H E => (pss_cons (ps_expr (pe_ceinit rfl mc ga rd vV (pa_cons (pe_var (i := 0) rfl (.inl rfl)) (pa_cons pe_str pa_nil)))) (pss_one (ps_ost (pe_var (i := 0) rfl (.inl rfl)) (pe_var (i := 1) rfl (.inl rfl))))))
theorem ok_law_bag {fa : Addr} {fd : FuncData} (F : L2.Fun K "_law_bag" "_law_bag" s_law_bag fa fd) (z_abs : mg "abs" = none) : FnG P w K mg base 1 fa fd ["_law_script"] (spOf K 1 g_law_bag) :=
  defG F sc_law_bag rfl (t := t_law_bag) (fun cdv A outer s H E hr gd =>
    (jss_one (js_ret (je_lstP (ja_cons je_int (ja_cons je_int (ja_cons je_int (ja_cons (je_lc 1 rfl sc_law_bag.nd (ji_any (je_slice (je_var 0) jo_none (jo_some je_int))) (blkOk_by (own := [("_law_cell", 1)]) (N := N_law_bag) (sc := defScope s_law_bag) (by decide +kernel)) (fun _ _ _ _ _ => (pg_name (i := 1) sc_law_bag.nd rfl (Or.inl rfl))) (fun _ _ _ _ _ => jts_nil) (fun _ _ _ _ _ => (je_abs rfl z_abs (je_var 1)))) ja_nil)))))))) r_law_bag
theorem ok_law_take {fa : Addr} {fd : FuncData} (F : L2.Fun K "_law_take" "_law_take" s_law_take fa fd) (z_len : mg "len" = none) : FnG P w K mg base 1 fa fd ["_law_bag_here", "_law_many"] (spOf K 2 g_law_take) :=
  defG F sc_law_take rfl (t := t_law_take) (fun cdv A outer s H E hr gd =>
    (jss_cons (js_if (jt_eq hr (je_ix (je_var 0) je_int) je_int) (jss_cons (js_set 2 sc_law_take.nd je_int)
    (jss_cons (js_if (jt_lt (je_ix (je_var 0) je_int) (je_len rfl z_len (je_ix (je_var 0) je_int))) (jss_one (js_set 2 sc_law_take.nd (je_ix (je_ix (je_var 0) je_int) (je_ix (je_var 0) je_int)))) jss_nil)
    (jss_cons (js_augIx (je_var 0) je_int je_int pip_add)
    (jss_cons (js_if (jt_ge (je_var 2) je_int) (jss_one (js_asg (je_var 2) (jg_ix (je_var 0) je_int))) jss_nil)
    (jss_one (js_asg (je_mod (je_add (je_add (je_mul (je_ix (je_var 0) je_int) je_int) (je_mod (je_var 2) je_int)) (je_mul je_int (je_ix (je_var 0) je_int))) je_int) (jg_ix (je_var 0) je_int))))))) jss_nil)
    (jss_cons (js_if (jt_gt (je_ix (je_var 0) je_int) je_int) (jss_cons (js_set 3 sc_law_take.nd (je_mod (je_ix (je_var 0) je_int) (je_var 1)))
    (jss_cons (js_asg (je_div (je_ix (je_var 0) je_int) (je_var 1)) (jg_ix (je_var 0) je_int))
    (jss_one (js_ret (je_var 3))))) jss_nil)
    (jss_cons (js_set 4 sc_law_take.nd (je_mod (je_mul (je_add (je_ix (je_var 0) je_int) je_int) je_int) je_int))
    (jss_cons (js_set 5 sc_law_take.nd (je_mod (je_mul (je_mod (je_mul (je_var 4) (je_var 4)) je_int) je_int) je_int))
    (jss_cons (js_if (jt_gt (je_var 1) je_int) (jss_one (js_ret (je_mod (je_add (je_mul (je_var 5) je_int) (je_var 4)) (je_var 1)))) jss_nil)
    (jss_one (js_ret (je_mod (je_div (je_var 5) je_int) (je_var 1)))))))))) r_law_take
theorem ok_law_alike {fa : Addr} {fd : FuncData} (F : L2.Fun K "_law_alike" "_law_alike" s_law_alike fa fd) (z_repr : mg "repr" = none) : FnG P w K mg base 1 fa fd ["_law_found", "_law_due"] (spOf K 2 g_law_alike) :=
  defG F sc_law_alike rfl (t := t_law_alike) (fun cdv A outer s H E hr gd =>
    (jss_one (js_ret (je_and (je_eqE hr (je_var 0) (je_var 1)) (je_one (je_eqE hr (je_reprE hr gd rfl z_repr (je_var 0)) (je_reprE hr gd rfl z_repr (je_var 1)))))))) r_law_alike
theorem ok_law_bare {fa : Addr} {fd : FuncData} (F : L2.Fun K "_law_bare" "_law_bare" s_law_bare fa fd) (x_NoSpot : XK0 P w K mg base "NoSpot") (x_NoText : XK0 P w K mg base "NoText") (x_NoDeed : XK0 P w K mg base "NoDeed") (x_NoRow : XK0 P w K mg base "NoRow") : FnG P w K mg base 3 fa fd ["_law_which"] (spOfX K 1 g_law_bare) :=
  defGX F sc_law_bare rfl (t := t_law_bare) (fun wd cdv A outer s H E hr gd tk =>
    (jss_cons (js_if (jt_eq hr (je_var 0) je_int) (jss_one (js_raise0 x_NoSpot rfl tk hr (by decide) rfl)) jss_nil)
    (jss_cons (js_if (jt_eq hr (je_var 0) je_int) (jss_one (js_raise0 x_NoText rfl tk hr (by decide) rfl)) jss_nil)
    (jss_cons (js_if (jt_eq hr (je_var 0) je_int) (jss_one (js_raise0 x_NoDeed rfl tk hr (by decide) rfl)) jss_nil)
    (jss_one (js_raise0 x_NoRow rfl tk hr (by decide) rfl)))))) r_law_bare
theorem ok_law_raised {fa : Addr} {fd : FuncData} (F : L2.Fun K "_law_raised" "_law_raised" s_law_raised fa fd) (x_Wrong : XK1 P w K mg base "Wrong" "at") (x_NoChain : XK1 P w K mg base "NoChain" "at") (x_NoOffer : XK1 P w K mg base "NoOffer" "at") (x_Twice : XK1 P w K mg base "Twice" "key") (x_NoPaper : XK1 P w K mg base "NoPaper" "key") (x_NoOff : XK1 P w K mg base "NoOff" "key") (x_NoReading : XK1 P w K mg base "NoReading" "key") (x_TooMany : XK1 P w K mg base "TooMany" "most") (x_NoThing : XK1 P w K mg base "NoThing" "name") (cx_law_bare : KnX P w K mg base 3 "_law_bare" g_law_bare) : FnG P w K mg base 4 fa fd ["_law_which", "_law_thing"] (spOfX K 2 g_law_raised) :=
  defGX F sc_law_raised rfl (t := t_law_raised) (fun wd cdv A outer s H E hr gd tk =>
    (jss_cons (js_if (jt_eq hr (je_var 0) je_int) (jss_one (js_raise1 x_Wrong rfl tk hr (by decide) rfl (je_var 1))) jss_nil)
    (jss_cons (js_if (jt_eq hr (je_var 0) je_int) (jss_one (js_raise1 x_NoChain rfl tk hr (by decide) rfl (je_var 1))) jss_nil)
    (jss_cons (js_if (jt_eq hr (je_var 0) je_int) (jss_one (js_raise1 x_NoOffer rfl tk hr (by decide) rfl (je_var 1))) jss_nil)
    (jss_cons (js_if (jt_eq hr (je_var 0) je_int) (jss_one (js_raise1 x_Twice rfl tk hr (by decide) rfl (je_var 1))) jss_nil)
    (jss_cons (js_if (jt_eq hr (je_var 0) je_int) (jss_one (js_raise1 x_NoPaper rfl tk hr (by decide) rfl (je_var 1))) jss_nil)
    (jss_cons (js_if (jt_eq hr (je_var 0) je_int) (jss_one (js_raise1 x_NoOff rfl tk hr (by decide) rfl (je_var 1))) jss_nil)
    (jss_cons (js_if (jt_eq hr (je_var 0) je_int) (jss_one (js_raise1 x_NoReading rfl tk hr (by decide) rfl (je_var 1))) jss_nil)
    (jss_cons (js_if (jt_eq hr (je_var 0) je_int) (jss_one (js_raise1 x_TooMany rfl tk hr (by decide) rfl (je_var 1))) jss_nil)
    (jss_cons (js_if (jt_eq hr (je_var 0) je_int) (jss_one (js_raise1 x_NoThing rfl tk hr (by decide) rfl (je_var 1))) jss_nil)
    (jss_one (js_expr (je_callX cx_law_bare tk hr (by decide) gd rfl (ja_cons (je_var 0) ja_nil)))))))))))))) r_law_raised
theorem ok_law_field {fa : Addr} {fd : FuncData} (F : L2.Fun K "_law_field" "_law_field" s_law_field fa fd) (xk_at : XAt K ["Wrong", "NoChain", "NoOffer"] "at") (xk_key : XAt K ["Twice", "NoPaper", "NoOff", "NoReading"] "key") (xk_most : XAt K ["TooMany"] "most") (xk_name : XAt K ["NoThing"] "name") : FnG P w K mg base 1 fa fd ["_law_which", "_law_e"] (spOf K 2 g_law_field) :=
  defG F sc_law_field rfl (t := t_law_field) (fun cdv A outer s H E hr gd =>
    (jss_cons (js_if (jt_lt (je_var 0) je_int) (jss_one (js_ret (je_lst (ja_cons (je_xatC xk_at (je_var 1)) ja_nil)))) jss_nil)
    (jss_cons (js_if (jt_lt (je_var 0) je_int) (jss_one (js_ret (je_lst (ja_cons (je_xatC xk_key (je_var 1)) ja_nil)))) jss_nil)
    (jss_cons (js_if (jt_eq hr (je_var 0) je_int) (jss_one (js_ret (je_lst (ja_cons (je_xatC xk_most (je_var 1)) ja_nil)))) jss_nil)
    (jss_cons (js_if (jt_eq hr (je_var 0) je_int) (jss_one (js_ret (je_lst (ja_cons (je_xatC xk_name (je_var 1)) ja_nil)))) jss_nil)
    (jss_one (js_ret (je_lst ja_nil)))))))) r_law_field
theorem ok_law_flags {fa : Addr} {fd : FuncData} (F : L2.Fun K "_law_flags" "_law_flags" s_law_flags fa fd) (z_isinstance : mg "isinstance" = none) (xi_Twice : XIs K mg ["Wrong", "NoChain", "NoOffer", "Twice", "NoPaper", "NoOff", "NoReading", "TooMany", "NoThing", "NoSpot", "NoText", "NoDeed", "NoRow"] "Twice") (xi_NoOffer : XIs K mg ["Wrong", "NoChain", "NoOffer", "Twice", "NoPaper", "NoOff", "NoReading", "TooMany", "NoThing", "NoSpot", "NoText", "NoDeed", "NoRow"] "NoOffer") (xi_NoChain : XIs K mg ["Wrong", "NoChain", "NoOffer", "Twice", "NoPaper", "NoOff", "NoReading", "TooMany", "NoThing", "NoSpot", "NoText", "NoDeed", "NoRow"] "NoChain") (xi_Wrong : XIs K mg ["Wrong", "NoChain", "NoOffer", "Twice", "NoPaper", "NoOff", "NoReading", "TooMany", "NoThing", "NoSpot", "NoText", "NoDeed", "NoRow"] "Wrong") (xi_TooMany : XIs K mg ["Wrong", "NoChain", "NoOffer", "Twice", "NoPaper", "NoOff", "NoReading", "TooMany", "NoThing", "NoSpot", "NoText", "NoDeed", "NoRow"] "TooMany") (xi_NoReading : XIs K mg ["Wrong", "NoChain", "NoOffer", "Twice", "NoPaper", "NoOff", "NoReading", "TooMany", "NoThing", "NoSpot", "NoText", "NoDeed", "NoRow"] "NoReading") (xi_NoOff : XIs K mg ["Wrong", "NoChain", "NoOffer", "Twice", "NoPaper", "NoOff", "NoReading", "TooMany", "NoThing", "NoSpot", "NoText", "NoDeed", "NoRow"] "NoOff") (xi_NoPaper : XIs K mg ["Wrong", "NoChain", "NoOffer", "Twice", "NoPaper", "NoOff", "NoReading", "TooMany", "NoThing", "NoSpot", "NoText", "NoDeed", "NoRow"] "NoPaper") (xi_NoDeed : XIs K mg ["Wrong", "NoChain", "NoOffer", "Twice", "NoPaper", "NoOff", "NoReading", "TooMany", "NoThing", "NoSpot", "NoText", "NoDeed", "NoRow"] "NoDeed") (xi_NoText : XIs K mg ["Wrong", "NoChain", "NoOffer", "Twice", "NoPaper", "NoOff", "NoReading", "TooMany", "NoThing", "NoSpot", "NoText", "NoDeed", "NoRow"] "NoText") (xi_NoSpot : XIs K mg ["Wrong", "NoChain", "NoOffer", "Twice", "NoPaper", "NoOff", "NoReading", "TooMany", "NoThing", "NoSpot", "NoText", "NoDeed", "NoRow"] "NoSpot") (xi_NoThing : XIs K mg ["Wrong", "NoChain", "NoOffer", "Twice", "NoPaper", "NoOff", "NoReading", "TooMany", "NoThing", "NoSpot", "NoText", "NoDeed", "NoRow"] "NoThing") (xi_NoRow : XIs K mg ["Wrong", "NoChain", "NoOffer", "Twice", "NoPaper", "NoOff", "NoReading", "TooMany", "NoThing", "NoSpot", "NoText", "NoDeed", "NoRow"] "NoRow") : FnG P w K mg base 1 fa fd ["_law_e"] (spOf K 1 g_law_flags) :=
  defG F sc_law_flags rfl (t := t_law_flags) (fun cdv A outer s H E hr gd =>
    (jss_cons (js_set 1 sc_law_flags.nd (je_lst (ja_cons (je_xisC xi_Wrong rfl z_isinstance rfl (je_var 0)) (ja_cons (je_xisC xi_NoChain rfl z_isinstance rfl (je_var 0)) (ja_cons (je_xisC xi_NoOffer rfl z_isinstance rfl (je_var 0)) (ja_cons (je_xisC xi_Twice rfl z_isinstance rfl (je_var 0)) ja_nil))))))
    (jss_cons (js_set 1 sc_law_flags.nd (je_add (je_var 1) (je_lst (ja_cons (je_xisC xi_NoPaper rfl z_isinstance rfl (je_var 0)) (ja_cons (je_xisC xi_NoOff rfl z_isinstance rfl (je_var 0)) (ja_cons (je_xisC xi_NoReading rfl z_isinstance rfl (je_var 0)) (ja_cons (je_xisC xi_TooMany rfl z_isinstance rfl (je_var 0)) ja_nil)))))))
    (jss_cons (js_set 1 sc_law_flags.nd (je_add (je_var 1) (je_lst (ja_cons (je_xisC xi_NoThing rfl z_isinstance rfl (je_var 0)) (ja_cons (je_xisC xi_NoSpot rfl z_isinstance rfl (je_var 0)) (ja_cons (je_xisC xi_NoText rfl z_isinstance rfl (je_var 0)) (ja_cons (je_xisC xi_NoDeed rfl z_isinstance rfl (je_var 0)) ja_nil)))))))
    (jss_one (js_ret (je_add (je_var 1) (je_lst (ja_cons (je_xisC xi_NoRow rfl z_isinstance rfl (je_var 0)) ja_nil))))))))) r_law_flags
theorem ok_law_caught {fa : Addr} {fd : FuncData} (F : L2.Fun K "_law_caught" "_law_caught" s_law_caught fa fd) (xs_ChainError : XSub K mg ["Wrong", "NoChain", "NoOffer", "Twice", "NoPaper", "NoOff", "NoReading", "TooMany", "NoThing", "NoSpot", "NoText", "NoDeed", "NoRow"] "ChainError") (cx_law_raised : KnX P w K mg base 4 "_law_raised" g_law_raised) : FnG P w K mg base 5 fa fd ["_law_which", "_law_thing"] (spOf K 2 g_law_caught) :=
  defG F sc_law_caught rfl (t := t_law_caught) (fun cdv A outer s H E hr gd =>
    (jss_cons (js_tryAsX (i := 2) xs_ChainError rfl rfl sc_law_caught.nd rfl rfl rfl rfl (by decide) takesD_no (fun wd1 pn1 xe1 tk1 po1 => (jss_one (js_expr (je_callX cx_law_raised tk1 hr (by decide) gd rfl (ja_cons (je_var 0) (ja_cons (je_var 1) ja_nil)))))) (fun ex1 xa1 oe1 cls1 dd1 pm1 hin1 hz1 hf1 rx1 => (jss_one (js_ret (je_var 2)))))
    (jss_one (js_ret je_non)))) r_law_caught
theorem ok_law_right {fa : Addr} {fd : FuncData} (F : L2.Fun K "_law_right" "_law_right" s_law_right fa fd) (z_isinstance : mg "isinstance" = none) (z_ValueError : mg "ValueError" = none) (z_range : mg "range" = none) (c_law_flags : Kn P w K mg base 1 "_law_flags" g_law_flags) (c_law_field : Kn P w K mg base 1 "_law_field" g_law_field) (c_law_alike : Kn P w K mg base 1 "_law_alike" g_law_alike) (xi_ValueError : XIs K mg ["Wrong", "NoChain", "NoOffer", "Twice", "NoPaper", "NoOff", "NoReading", "TooMany", "NoThing", "NoSpot", "NoText", "NoDeed", "NoRow"] "ValueError") : FnG P w K mg base 2 fa fd ["_law_which", "_law_thing", "_law_e"] (spOf K 3 g_law_right) :=
  defG F sc_law_right rfl (t := t_law_right) (fun cdv A outer s H E hr gd =>
    (jss_cons (js_if (PW.pt (jw_or (jt_isN (je_var 2) je_non) (jw_or (jt_not (jt_val (je_xisC xi_ValueError rfl z_isinstance rfl (je_var 2)))) (jw_or1 (jt_ne hr (je_call c_law_flags hr (by decide) gd rfl (ja_cons (je_var 2) ja_nil)) (je_lc 3 rfl sc_law_right.nd (ji_range1 rfl z_range je_int) (blkOk_by (own := [("_law_k", 3)]) (N := N_law_right) (sc := defScope s_law_right) (by decide +kernel)) (fun _ _ _ _ _ => (pg_name (i := 3) sc_law_right.nd rfl (Or.inl rfl))) (fun _ _ _ _ _ => jts_nil) (fun _ _ _ _ _ => (je_eq hr (je_var 3) (je_var 0))))))))) (jss_one (js_ret je_bl)) jss_nil)
    (jss_one (js_ret (je_eqNil hr (je_lc 4 rfl sc_law_right.nd (ji_any (je_call c_law_field hr (by decide) gd rfl (ja_cons (je_var 0) (ja_cons (je_var 2) ja_nil)))) (blkOk_by (own := [("_law_one", 4)]) (N := N_law_right) (sc := defScope s_law_right) (by decide +kernel)) (fun _ _ _ _ _ => (pg_name (i := 4) sc_law_right.nd rfl (Or.inl rfl))) (fun _ _ _ _ _ => jts_one (jt_not (jt_val (je_call c_law_alike hr (by decide) gd rfl (ja_cons (je_var 4) (ja_cons (je_var 1) ja_nil)))))) (fun _ _ _ _ _ => (je_var 4))) (je_lst ja_nil)))))) r_law_right
theorem ok_law {fa : Addr} {fd : FuncData} (F : L2.Fun K "law" "law" s_law fa fd) (z_range : mg "range" = none) (c_law_bag : Kn P w K mg base 1 "_law_bag" g_law_bag) (c_law_take : Kn P w K mg base 1 "_law_take" g_law_take) (c_law_caught : Kn P w K mg base 5 "_law_caught" g_law_caught) (c_law_right : Kn P w K mg base 2 "_law_right" g_law_right) : FnG P w K mg base 6 fa fd ["_law_script"] (spOf K 1 g_law) :=
  defG F sc_law rfl (t := t_law) (fun cdv A outer s H E hr gd =>
    (jss_cons (js_set 1 sc_law.nd (je_call c_law_bag hr (by decide) gd rfl (ja_cons (je_var 0) ja_nil)))
    (jss_cons (js_set 2 sc_law.nd (je_call c_law_take hr (by decide) gd rfl (ja_cons (je_var 1) (ja_cons je_int ja_nil))))
    (jss_cons (js_set 3 sc_law.nd (je_add je_int (je_call c_law_take hr (by decide) gd rfl (ja_cons (je_var 1) (ja_cons je_int ja_nil)))))
    (jss_cons (js_set 4 sc_law.nd (je_lstP ja_nil))
    (jss_cons (js_for PassesOwn.never rfl (ji_range1 rfl z_range je_int) (jg_name 5 sc_law.nd) (jss_cons (js_set 6 sc_law.nd (je_call c_law_take hr (by decide) gd rfl (ja_cons (je_var 1) (ja_cons je_int ja_nil))))
    (jss_cons (js_set 7 sc_law.nd (je_lst (ja_cons (je_call c_law_take hr (by decide) gd rfl (ja_cons (je_var 1) (ja_cons (je_pow je_int je_int) ja_nil))) (ja_cons (je_sub je_int (je_call c_law_take hr (by decide) gd rfl (ja_cons (je_var 1) (ja_cons je_int ja_nil)))) (ja_cons je_str (ja_cons je_str (ja_cons je_non (ja_cons je_bl (ja_cons je_bl (ja_cons (je_lst (ja_cons je_int ja_nil)) (ja_cons (je_tup (ja_cons je_int (ja_cons je_non ja_nil))) (ja_cons je_dic ja_nil))))))))))))
    (jss_cons (js_set 8 sc_law.nd (je_mod (je_add (je_var 2) (je_mul (je_var 5) (je_var 3))) je_int))
    (jss_cons (js_expr (je_append (je_var 4) (je_tup (ja_cons (je_var 8) (ja_cons (je_ix (je_var 7) (je_var 6)) (ja_cons (je_call c_law_caught hr (by decide) gd rfl (ja_cons (je_var 8) (ja_cons (je_ix (je_var 7) (je_var 6)) ja_nil))) ja_nil))))))
    (jss_one (js_if (jt_not (jt_val (je_call c_law_right hr (by decide) gd rfl (ja_cons (je_var 8) (ja_cons (je_ix (je_var 7) (je_var 6)) (ja_cons (je_ix (je_ix (je_var 4) (je_neg je_int)) je_int) ja_nil)))))) (jss_one (js_ret je_bl)) jss_nil)))))))
    (jss_one (js_ret (je_eqNil hr (je_lc 9 rfl sc_law.nd (ji_any (je_var 4)) (blkOk_by (own := [("_law_one", 9)]) (N := N_law) (sc := defScope s_law) (by decide +kernel)) (fun _ _ _ _ _ => (pg_name (i := 9) sc_law.nd rfl (Or.inl rfl))) (fun _ _ _ _ _ => jts_one (jt_not (jt_val (je_call c_law_right hr (by decide) gd rfl (ja_cons (je_ix (je_var 9) je_int) (ja_cons (je_ix (je_var 9) je_int) (ja_cons (je_ix (je_var 9) je_int) ja_nil))))))) (fun _ _ _ _ _ => (je_var 9))) (je_lst ja_nil)))))))))) r_law
end
theorem all_mk {l : PySem.W.OpenLaw} {w : World} {K : PySem.W.Frag} {h : Heap} {mg : Str → Option Value} {fa f0 f1 f2 f3 f4 f5 f6 f7 f8 f9 f10 f11 f12 f13 f14 f15 f16 f17 f18 f19 f20 f21 f22 C_NoSpot C_ChainError C_NoText C_NoDeed C_NoRow C_Wrong C_NoChain C_NoOffer C_Twice C_NoPaper C_NoOff C_NoReading C_TooMany C_NoThing : Addr} (X : K.In h) (G : h.Ns mainGlobals mg) (hfa : mg "law" = some (.ref fa))
    {od0 an0 od1 an1 od2 an2 od3 an3 od4 an4 od5 an5 od6 an6 od7 an7 od8 an8 od9 an9 od10 an10 od11 an11 od12 an12 od13 an13 od14 an14 od15 an15 od16 an16 od17 an17 od18 an18 od19 an19 od20 an20 od21 an21 od22 an22 : Option Addr} {sl0 sl1 sl2 sl3 sl4 sl5 sl6 sl7 sl8 sl9 sl10 sl11 sl12 sl13 sl14 sl15 sl16 sl17 sl18 sl19 sl20 sl21 sl22 : Array (Option Value)} {oc0 kV0 dc0 pm0 cd0 ct0 oc1 kV1 dc1 pm1 cd1 ct1 oc2 kV2 dc2 pm2 cd2 ct2 oc3 kV3 dc3 pm3 cd3 ct3 oc4 kV4 dc4 pm4 cd4 ct4 oc5 kV5 dc5 pm5 cd5 ct5 oc6 kV6 dc6 pm6 cd6 ct6 oc7 kV7 dc7 pm7 cd7 ct7 oc8 kV8 dc8 pm8 cd8 ct8 oc9 kV9 dc9 pm9 cd9 ct9 oc10 kV10 dc10 pm10 cd10 ct10 oc11 kV11 dc11 pm11 cd11 ct11 oc12 kV12 dc12 pm12 cd12 ct12 oc13 kV13 dc13 pm13 cd13 ct13 oc14 kV14 dc14 pm14 cd14 ct14 oc15 kV15 dc15 pm15 cd15 ct15 oc16 kV16 dc16 pm16 cd16 ct16 oc17 kV17 dc17 pm17 cd17 ct17 oc18 kV18 dc18 pm18 cd18 ct18 oc19 kV19 dc19 pm19 cd19 ct19 oc20 kV20 dc20 pm20 cd20 ct20 oc21 kV21 dc21 pm21 cd21 ct21 oc22 kV22 dc22 pm22 cd22 ct22 : Value}
    (a_NoSpot : PySem.W.nsIn K mainGlobals "NoSpot" = some (some (.ref C_NoSpot)))
    (a_ChainError : PySem.W.nsIn K mainGlobals "ChainError" = some (some (.ref C_ChainError)))
    (a_NoText : PySem.W.nsIn K mainGlobals "NoText" = some (some (.ref C_NoText)))
    (a_NoDeed : PySem.W.nsIn K mainGlobals "NoDeed" = some (some (.ref C_NoDeed)))
    (a_NoRow : PySem.W.nsIn K mainGlobals "NoRow" = some (some (.ref C_NoRow)))
    (a_Wrong : PySem.W.nsIn K mainGlobals "Wrong" = some (some (.ref C_Wrong)))
    (a_NoChain : PySem.W.nsIn K mainGlobals "NoChain" = some (some (.ref C_NoChain)))
    (a_NoOffer : PySem.W.nsIn K mainGlobals "NoOffer" = some (some (.ref C_NoOffer)))
    (a_Twice : PySem.W.nsIn K mainGlobals "Twice" = some (some (.ref C_Twice)))
    (a_NoPaper : PySem.W.nsIn K mainGlobals "NoPaper" = some (some (.ref C_NoPaper)))
    (a_NoOff : PySem.W.nsIn K mainGlobals "NoOff" = some (some (.ref C_NoOff)))
    (a_NoReading : PySem.W.nsIn K mainGlobals "NoReading" = some (some (.ref C_NoReading)))
    (a_TooMany : PySem.W.nsIn K mainGlobals "TooMany" = some (some (.ref C_TooMany)))
    (a_NoThing : PySem.W.nsIn K mainGlobals "NoThing" = some (some (.ref C_NoThing)))
    (a0 : PySem.W.nsIn K mainGlobals "_law_bag" = some (some (.ref f0)))
    (l0 : K.lookup f0 = some ⟨oc0, od0, .func (PySem.W.fnOf "_law_bag" "_law_bag" (defArgs s_law_bag) (defBody s_law_bag) (defScope s_law_bag) .none kV0 dc0 pm0 an0 cd0 ct0), sl0⟩)
    (c0 : PySem.W.codeIn K cd0 "_law_bag" = true)
    (k0 : PySem.W.keepIn K (.ref f0) = true)
    (a1 : PySem.W.nsIn K mainGlobals "_law_take" = some (some (.ref f1)))
    (l1 : K.lookup f1 = some ⟨oc1, od1, .func (PySem.W.fnOf "_law_take" "_law_take" (defArgs s_law_take) (defBody s_law_take) (defScope s_law_take) .none kV1 dc1 pm1 an1 cd1 ct1), sl1⟩)
    (c1 : PySem.W.codeIn K cd1 "_law_take" = true)
    (k1 : PySem.W.keepIn K (.ref f1) = true)
    (a2 : PySem.W.nsIn K mainGlobals "_law_alike" = some (some (.ref f2)))
    (l2 : K.lookup f2 = some ⟨oc2, od2, .func (PySem.W.fnOf "_law_alike" "_law_alike" (defArgs s_law_alike) (defBody s_law_alike) (defScope s_law_alike) .none kV2 dc2 pm2 an2 cd2 ct2), sl2⟩)
    (c2 : PySem.W.codeIn K cd2 "_law_alike" = true)
    (k2 : PySem.W.keepIn K (.ref f2) = true)
    (a3 : PySem.W.nsIn K mainGlobals "_law_bare" = some (some (.ref f3)))
    (l3 : K.lookup f3 = some ⟨oc3, od3, .func (PySem.W.fnOf "_law_bare" "_law_bare" (defArgs s_law_bare) (defBody s_law_bare) (defScope s_law_bare) .none kV3 dc3 pm3 an3 cd3 ct3), sl3⟩)
    (c3 : PySem.W.codeIn K cd3 "_law_bare" = true)
    (k3 : PySem.W.keepIn K (.ref f3) = true)
    (a4 : PySem.W.nsIn K mainGlobals "_law_raised" = some (some (.ref f4)))
    (l4 : K.lookup f4 = some ⟨oc4, od4, .func (PySem.W.fnOf "_law_raised" "_law_raised" (defArgs s_law_raised) (defBody s_law_raised) (defScope s_law_raised) .none kV4 dc4 pm4 an4 cd4 ct4), sl4⟩)
    (c4 : PySem.W.codeIn K cd4 "_law_raised" = true)
    (k4 : PySem.W.keepIn K (.ref f4) = true)
    (a5 : PySem.W.nsIn K mainGlobals "_law_field" = some (some (.ref f5)))
    (l5 : K.lookup f5 = some ⟨oc5, od5, .func (PySem.W.fnOf "_law_field" "_law_field" (defArgs s_law_field) (defBody s_law_field) (defScope s_law_field) .none kV5 dc5 pm5 an5 cd5 ct5), sl5⟩)
    (c5 : PySem.W.codeIn K cd5 "_law_field" = true)
    (k5 : PySem.W.keepIn K (.ref f5) = true)
    (a6 : PySem.W.nsIn K mainGlobals "_law_flags" = some (some (.ref f6)))
    (l6 : K.lookup f6 = some ⟨oc6, od6, .func (PySem.W.fnOf "_law_flags" "_law_flags" (defArgs s_law_flags) (defBody s_law_flags) (defScope s_law_flags) .none kV6 dc6 pm6 an6 cd6 ct6), sl6⟩)
    (c6 : PySem.W.codeIn K cd6 "_law_flags" = true)
    (k6 : PySem.W.keepIn K (.ref f6) = true)
    (a7 : PySem.W.nsIn K mainGlobals "_law_caught" = some (some (.ref f7)))
    (l7 : K.lookup f7 = some ⟨oc7, od7, .func (PySem.W.fnOf "_law_caught" "_law_caught" (defArgs s_law_caught) (defBody s_law_caught) (defScope s_law_caught) .none kV7 dc7 pm7 an7 cd7 ct7), sl7⟩)
    (c7 : PySem.W.codeIn K cd7 "_law_caught" = true)
    (k7 : PySem.W.keepIn K (.ref f7) = true)
    (a8 : PySem.W.nsIn K mainGlobals "_law_right" = some (some (.ref f8)))
    (l8 : K.lookup f8 = some ⟨oc8, od8, .func (PySem.W.fnOf "_law_right" "_law_right" (defArgs s_law_right) (defBody s_law_right) (defScope s_law_right) .none kV8 dc8 pm8 an8 cd8 ct8), sl8⟩)
    (c8 : PySem.W.codeIn K cd8 "_law_right" = true)
    (k8 : PySem.W.keepIn K (.ref f8) = true)
    (a9 : PySem.W.nsIn K mainGlobals "law" = some (some (.ref f9)))
    (l9 : K.lookup f9 = some ⟨oc9, od9, .func (PySem.W.fnOf "law" "law" (defArgs s_law) (defBody s_law) (defScope s_law) .none kV9 dc9 pm9 an9 cd9 ct9), sl9⟩)
    (c9 : PySem.W.codeIn K cd9 "law" = true)
    (k9 : PySem.W.keepIn K (.ref f9) = true)
    (a10 : PySem.W.findIn K (.ref C_NoSpot) "__init__" = some (some (.ref f10)))
    (l10 : K.lookup f10 = some ⟨oc10, od10, .func (PySem.W.fnOf "__init__" "NoSpot.__init__" (defArgs s_NoSpot___init) (defBody s_NoSpot___init) (defScope s_NoSpot___init) .none kV10 dc10 pm10 an10 cd10 ct10), sl10⟩)
    (c10 : PySem.W.codeIn K cd10 "NoSpot.__init__" = true)
    (k10 : PySem.W.keepIn K (.ref f10) = true)
    (a11 : PySem.W.findIn K (.ref C_NoText) "__init__" = some (some (.ref f11)))
    (l11 : K.lookup f11 = some ⟨oc11, od11, .func (PySem.W.fnOf "__init__" "NoText.__init__" (defArgs s_NoText___init) (defBody s_NoText___init) (defScope s_NoText___init) .none kV11 dc11 pm11 an11 cd11 ct11), sl11⟩)
    (c11 : PySem.W.codeIn K cd11 "NoText.__init__" = true)
    (k11 : PySem.W.keepIn K (.ref f11) = true)
    (a12 : PySem.W.findIn K (.ref C_NoDeed) "__init__" = some (some (.ref f12)))
    (l12 : K.lookup f12 = some ⟨oc12, od12, .func (PySem.W.fnOf "__init__" "NoDeed.__init__" (defArgs s_NoDeed___init) (defBody s_NoDeed___init) (defScope s_NoDeed___init) .none kV12 dc12 pm12 an12 cd12 ct12), sl12⟩)
    (c12 : PySem.W.codeIn K cd12 "NoDeed.__init__" = true)
    (k12 : PySem.W.keepIn K (.ref f12) = true)
    (a13 : PySem.W.findIn K (.ref C_NoRow) "__init__" = some (some (.ref f13)))
    (l13 : K.lookup f13 = some ⟨oc13, od13, .func (PySem.W.fnOf "__init__" "NoRow.__init__" (defArgs s_NoRow___init) (defBody s_NoRow___init) (defScope s_NoRow___init) .none kV13 dc13 pm13 an13 cd13 ct13), sl13⟩)
    (c13 : PySem.W.codeIn K cd13 "NoRow.__init__" = true)
    (k13 : PySem.W.keepIn K (.ref f13) = true)
    (a14 : PySem.W.findIn K (.ref C_Wrong) "__init__" = some (some (.ref f14)))
    (l14 : K.lookup f14 = some ⟨oc14, od14, .func (PySem.W.fnOf "__init__" "Wrong.__init__" (defArgs s_Wrong___init) (defBody s_Wrong___init) (defScope s_Wrong___init) .none kV14 dc14 pm14 an14 cd14 ct14), sl14⟩)
    (c14 : PySem.W.codeIn K cd14 "Wrong.__init__" = true)
    (k14 : PySem.W.keepIn K (.ref f14) = true)
    (a15 : PySem.W.findIn K (.ref C_NoChain) "__init__" = some (some (.ref f15)))
    (l15 : K.lookup f15 = some ⟨oc15, od15, .func (PySem.W.fnOf "__init__" "NoChain.__init__" (defArgs s_NoChain___init) (defBody s_NoChain___init) (defScope s_NoChain___init) .none kV15 dc15 pm15 an15 cd15 ct15), sl15⟩)
    (c15 : PySem.W.codeIn K cd15 "NoChain.__init__" = true)
    (k15 : PySem.W.keepIn K (.ref f15) = true)
    (a16 : PySem.W.findIn K (.ref C_NoOffer) "__init__" = some (some (.ref f16)))
    (l16 : K.lookup f16 = some ⟨oc16, od16, .func (PySem.W.fnOf "__init__" "NoOffer.__init__" (defArgs s_NoOffer___init) (defBody s_NoOffer___init) (defScope s_NoOffer___init) .none kV16 dc16 pm16 an16 cd16 ct16), sl16⟩)
    (c16 : PySem.W.codeIn K cd16 "NoOffer.__init__" = true)
    (k16 : PySem.W.keepIn K (.ref f16) = true)
    (a17 : PySem.W.findIn K (.ref C_Twice) "__init__" = some (some (.ref f17)))
    (l17 : K.lookup f17 = some ⟨oc17, od17, .func (PySem.W.fnOf "__init__" "Twice.__init__" (defArgs s_Twice___init) (defBody s_Twice___init) (defScope s_Twice___init) .none kV17 dc17 pm17 an17 cd17 ct17), sl17⟩)
    (c17 : PySem.W.codeIn K cd17 "Twice.__init__" = true)
    (k17 : PySem.W.keepIn K (.ref f17) = true)
    (a18 : PySem.W.findIn K (.ref C_NoPaper) "__init__" = some (some (.ref f18)))
    (l18 : K.lookup f18 = some ⟨oc18, od18, .func (PySem.W.fnOf "__init__" "NoPaper.__init__" (defArgs s_NoPaper___init) (defBody s_NoPaper___init) (defScope s_NoPaper___init) .none kV18 dc18 pm18 an18 cd18 ct18), sl18⟩)
    (c18 : PySem.W.codeIn K cd18 "NoPaper.__init__" = true)
    (k18 : PySem.W.keepIn K (.ref f18) = true)
    (a19 : PySem.W.findIn K (.ref C_NoOff) "__init__" = some (some (.ref f19)))
    (l19 : K.lookup f19 = some ⟨oc19, od19, .func (PySem.W.fnOf "__init__" "NoOff.__init__" (defArgs s_NoOff___init) (defBody s_NoOff___init) (defScope s_NoOff___init) .none kV19 dc19 pm19 an19 cd19 ct19), sl19⟩)
    (c19 : PySem.W.codeIn K cd19 "NoOff.__init__" = true)
    (k19 : PySem.W.keepIn K (.ref f19) = true)
    (a20 : PySem.W.findIn K (.ref C_NoReading) "__init__" = some (some (.ref f20)))
    (l20 : K.lookup f20 = some ⟨oc20, od20, .func (PySem.W.fnOf "__init__" "NoReading.__init__" (defArgs s_NoReading___init) (defBody s_NoReading___init) (defScope s_NoReading___init) .none kV20 dc20 pm20 an20 cd20 ct20), sl20⟩)
    (c20 : PySem.W.codeIn K cd20 "NoReading.__init__" = true)
    (k20 : PySem.W.keepIn K (.ref f20) = true)
    (a21 : PySem.W.findIn K (.ref C_TooMany) "__init__" = some (some (.ref f21)))
    (l21 : K.lookup f21 = some ⟨oc21, od21, .func (PySem.W.fnOf "__init__" "TooMany.__init__" (defArgs s_TooMany___init) (defBody s_TooMany___init) (defScope s_TooMany___init) .none kV21 dc21 pm21 an21 cd21 ct21), sl21⟩)
    (c21 : PySem.W.codeIn K cd21 "TooMany.__init__" = true)
    (k21 : PySem.W.keepIn K (.ref f21) = true)
    (a22 : PySem.W.findIn K (.ref C_NoThing) "__init__" = some (some (.ref f22)))
    (l22 : K.lookup f22 = some ⟨oc22, od22, .func (PySem.W.fnOf "__init__" "NoThing.__init__" (defArgs s_NoThing___init) (defBody s_NoThing___init) (defScope s_NoThing___init) .none kV22 dc22 pm22 an22 cd22 ct22), sl22⟩)
    (c22 : PySem.W.codeIn K cd22 "NoThing.__init__" = true)
    (k22 : PySem.W.keepIn K (.ref f22) = true)
    (z_abs : PySem.W.nsIn K mainGlobals "abs" = some none)
    (z_len : PySem.W.nsIn K mainGlobals "len" = some none)
    (z_repr : PySem.W.nsIn K mainGlobals "repr" = some none)
    (z_isinstance : PySem.W.nsIn K mainGlobals "isinstance" = some none)
    (z_ValueError : PySem.W.nsIn K mainGlobals "ValueError" = some none)
    (z_range : PySem.W.nsIn K mainGlobals "range" = some none)
    (ef_NoSpot : exfB K C_NoSpot = true)
    (tI10 : PySem.W.typeIn K (.ref f10) = some (.type "function"))
    (ga_ChainError : PySem.W.specialIn K (.ref C_ChainError) "__getattribute__" = some (some (.builtin "type.__getattribute__")))
    (rd_ChainError : PySem.W.readsIn K C_ChainError (.type "type") = true)
    (fv_ChainError : PySem.W.findCls K (.ref C_ChainError) (.type "type") "__init__" = some (.val (.builtin "ValueError.__init__")))
    (ef_NoText : exfB K C_NoText = true)
    (tI11 : PySem.W.typeIn K (.ref f11) = some (.type "function"))
    (ef_NoDeed : exfB K C_NoDeed = true)
    (tI12 : PySem.W.typeIn K (.ref f12) = some (.type "function"))
    (ef_NoRow : exfB K C_NoRow = true)
    (tI13 : PySem.W.typeIn K (.ref f13) = some (.type "function"))
    (no_Wrong : PySem.W.findIn K (.ref C_Wrong) "at" = some none)
    (ef_Wrong : exfB K C_Wrong = true)
    (tI14 : PySem.W.typeIn K (.ref f14) = some (.type "function"))
    (no_NoChain : PySem.W.findIn K (.ref C_NoChain) "at" = some none)
    (ef_NoChain : exfB K C_NoChain = true)
    (tI15 : PySem.W.typeIn K (.ref f15) = some (.type "function"))
    (no_NoOffer : PySem.W.findIn K (.ref C_NoOffer) "at" = some none)
    (ef_NoOffer : exfB K C_NoOffer = true)
    (tI16 : PySem.W.typeIn K (.ref f16) = some (.type "function"))
    (no_Twice : PySem.W.findIn K (.ref C_Twice) "key" = some none)
    (ef_Twice : exfB K C_Twice = true)
    (tI17 : PySem.W.typeIn K (.ref f17) = some (.type "function"))
    (no_NoPaper : PySem.W.findIn K (.ref C_NoPaper) "key" = some none)
    (ef_NoPaper : exfB K C_NoPaper = true)
    (tI18 : PySem.W.typeIn K (.ref f18) = some (.type "function"))
    (no_NoOff : PySem.W.findIn K (.ref C_NoOff) "key" = some none)
    (ef_NoOff : exfB K C_NoOff = true)
    (tI19 : PySem.W.typeIn K (.ref f19) = some (.type "function"))
    (no_NoReading : PySem.W.findIn K (.ref C_NoReading) "key" = some none)
    (ef_NoReading : exfB K C_NoReading = true)
    (tI20 : PySem.W.typeIn K (.ref f20) = some (.type "function"))
    (no_TooMany : PySem.W.findIn K (.ref C_TooMany) "most" = some none)
    (ef_TooMany : exfB K C_TooMany = true)
    (tI21 : PySem.W.typeIn K (.ref f21) = some (.type "function"))
    (no_NoThing : PySem.W.findIn K (.ref C_NoThing) "name" = some none)
    (ef_NoThing : exfB K C_NoThing = true)
    (tI22 : PySem.W.typeIn K (.ref f22) = some (.type "function"))
    (no_NoOffer_at : PySem.W.findIn K (.ref C_NoOffer) "at" = some none)
    (no_NoChain_at : PySem.W.findIn K (.ref C_NoChain) "at" = some none)
    (no_Wrong_at : PySem.W.findIn K (.ref C_Wrong) "at" = some none)
    (no_NoReading_key : PySem.W.findIn K (.ref C_NoReading) "key" = some none)
    (no_NoOff_key : PySem.W.findIn K (.ref C_NoOff) "key" = some none)
    (no_NoPaper_key : PySem.W.findIn K (.ref C_NoPaper) "key" = some none)
    (no_Twice_key : PySem.W.findIn K (.ref C_Twice) "key" = some none)
    (no_TooMany_most : PySem.W.findIn K (.ref C_TooMany) "most" = some none)
    (no_NoThing_name : PySem.W.findIn K (.ref C_NoThing) "name" = some none)
    (xi_NoRow_Twice : PySem.W.kitOne K (.ref C_NoRow) (.ref C_Twice) = some (isX "NoRow" "Twice"))
    (xi_NoDeed_Twice : PySem.W.kitOne K (.ref C_NoDeed) (.ref C_Twice) = some (isX "NoDeed" "Twice"))
    (xi_NoText_Twice : PySem.W.kitOne K (.ref C_NoText) (.ref C_Twice) = some (isX "NoText" "Twice"))
    (xi_NoSpot_Twice : PySem.W.kitOne K (.ref C_NoSpot) (.ref C_Twice) = some (isX "NoSpot" "Twice"))
    (xi_NoThing_Twice : PySem.W.kitOne K (.ref C_NoThing) (.ref C_Twice) = some (isX "NoThing" "Twice"))
    (xi_TooMany_Twice : PySem.W.kitOne K (.ref C_TooMany) (.ref C_Twice) = some (isX "TooMany" "Twice"))
    (xi_NoReading_Twice : PySem.W.kitOne K (.ref C_NoReading) (.ref C_Twice) = some (isX "NoReading" "Twice"))
    (xi_NoOff_Twice : PySem.W.kitOne K (.ref C_NoOff) (.ref C_Twice) = some (isX "NoOff" "Twice"))
    (xi_NoPaper_Twice : PySem.W.kitOne K (.ref C_NoPaper) (.ref C_Twice) = some (isX "NoPaper" "Twice"))
    (xi_Twice_Twice : PySem.W.kitOne K (.ref C_Twice) (.ref C_Twice) = some (isX "Twice" "Twice"))
    (xi_NoOffer_Twice : PySem.W.kitOne K (.ref C_NoOffer) (.ref C_Twice) = some (isX "NoOffer" "Twice"))
    (xi_NoChain_Twice : PySem.W.kitOne K (.ref C_NoChain) (.ref C_Twice) = some (isX "NoChain" "Twice"))
    (xi_Wrong_Twice : PySem.W.kitOne K (.ref C_Wrong) (.ref C_Twice) = some (isX "Wrong" "Twice"))
    (xi_NoRow_NoOffer : PySem.W.kitOne K (.ref C_NoRow) (.ref C_NoOffer) = some (isX "NoRow" "NoOffer"))
    (xi_NoDeed_NoOffer : PySem.W.kitOne K (.ref C_NoDeed) (.ref C_NoOffer) = some (isX "NoDeed" "NoOffer"))
    (xi_NoText_NoOffer : PySem.W.kitOne K (.ref C_NoText) (.ref C_NoOffer) = some (isX "NoText" "NoOffer"))
    (xi_NoSpot_NoOffer : PySem.W.kitOne K (.ref C_NoSpot) (.ref C_NoOffer) = some (isX "NoSpot" "NoOffer"))
    (xi_NoThing_NoOffer : PySem.W.kitOne K (.ref C_NoThing) (.ref C_NoOffer) = some (isX "NoThing" "NoOffer"))
    (xi_TooMany_NoOffer : PySem.W.kitOne K (.ref C_TooMany) (.ref C_NoOffer) = some (isX "TooMany" "NoOffer"))
    (xi_NoReading_NoOffer : PySem.W.kitOne K (.ref C_NoReading) (.ref C_NoOffer) = some (isX "NoReading" "NoOffer"))
    (xi_NoOff_NoOffer : PySem.W.kitOne K (.ref C_NoOff) (.ref C_NoOffer) = some (isX "NoOff" "NoOffer"))
    (xi_NoPaper_NoOffer : PySem.W.kitOne K (.ref C_NoPaper) (.ref C_NoOffer) = some (isX "NoPaper" "NoOffer"))
    (xi_Twice_NoOffer : PySem.W.kitOne K (.ref C_Twice) (.ref C_NoOffer) = some (isX "Twice" "NoOffer"))
    (xi_NoOffer_NoOffer : PySem.W.kitOne K (.ref C_NoOffer) (.ref C_NoOffer) = some (isX "NoOffer" "NoOffer"))
    (xi_NoChain_NoOffer : PySem.W.kitOne K (.ref C_NoChain) (.ref C_NoOffer) = some (isX "NoChain" "NoOffer"))
    (xi_Wrong_NoOffer : PySem.W.kitOne K (.ref C_Wrong) (.ref C_NoOffer) = some (isX "Wrong" "NoOffer"))
    (xi_NoRow_NoChain : PySem.W.kitOne K (.ref C_NoRow) (.ref C_NoChain) = some (isX "NoRow" "NoChain"))
    (xi_NoDeed_NoChain : PySem.W.kitOne K (.ref C_NoDeed) (.ref C_NoChain) = some (isX "NoDeed" "NoChain"))
    (xi_NoText_NoChain : PySem.W.kitOne K (.ref C_NoText) (.ref C_NoChain) = some (isX "NoText" "NoChain"))
    (xi_NoSpot_NoChain : PySem.W.kitOne K (.ref C_NoSpot) (.ref C_NoChain) = some (isX "NoSpot" "NoChain"))
    (xi_NoThing_NoChain : PySem.W.kitOne K (.ref C_NoThing) (.ref C_NoChain) = some (isX "NoThing" "NoChain"))
    (xi_TooMany_NoChain : PySem.W.kitOne K (.ref C_TooMany) (.ref C_NoChain) = some (isX "TooMany" "NoChain"))
    (xi_NoReading_NoChain : PySem.W.kitOne K (.ref C_NoReading) (.ref C_NoChain) = some (isX "NoReading" "NoChain"))
    (xi_NoOff_NoChain : PySem.W.kitOne K (.ref C_NoOff) (.ref C_NoChain) = some (isX "NoOff" "NoChain"))
    (xi_NoPaper_NoChain : PySem.W.kitOne K (.ref C_NoPaper) (.ref C_NoChain) = some (isX "NoPaper" "NoChain"))
    (xi_Twice_NoChain : PySem.W.kitOne K (.ref C_Twice) (.ref C_NoChain) = some (isX "Twice" "NoChain"))
    (xi_NoOffer_NoChain : PySem.W.kitOne K (.ref C_NoOffer) (.ref C_NoChain) = some (isX "NoOffer" "NoChain"))
    (xi_NoChain_NoChain : PySem.W.kitOne K (.ref C_NoChain) (.ref C_NoChain) = some (isX "NoChain" "NoChain"))
    (xi_Wrong_NoChain : PySem.W.kitOne K (.ref C_Wrong) (.ref C_NoChain) = some (isX "Wrong" "NoChain"))
    (xi_NoRow_Wrong : PySem.W.kitOne K (.ref C_NoRow) (.ref C_Wrong) = some (isX "NoRow" "Wrong"))
    (xi_NoDeed_Wrong : PySem.W.kitOne K (.ref C_NoDeed) (.ref C_Wrong) = some (isX "NoDeed" "Wrong"))
    (xi_NoText_Wrong : PySem.W.kitOne K (.ref C_NoText) (.ref C_Wrong) = some (isX "NoText" "Wrong"))
    (xi_NoSpot_Wrong : PySem.W.kitOne K (.ref C_NoSpot) (.ref C_Wrong) = some (isX "NoSpot" "Wrong"))
    (xi_NoThing_Wrong : PySem.W.kitOne K (.ref C_NoThing) (.ref C_Wrong) = some (isX "NoThing" "Wrong"))
    (xi_TooMany_Wrong : PySem.W.kitOne K (.ref C_TooMany) (.ref C_Wrong) = some (isX "TooMany" "Wrong"))
    (xi_NoReading_Wrong : PySem.W.kitOne K (.ref C_NoReading) (.ref C_Wrong) = some (isX "NoReading" "Wrong"))
    (xi_NoOff_Wrong : PySem.W.kitOne K (.ref C_NoOff) (.ref C_Wrong) = some (isX "NoOff" "Wrong"))
    (xi_NoPaper_Wrong : PySem.W.kitOne K (.ref C_NoPaper) (.ref C_Wrong) = some (isX "NoPaper" "Wrong"))
    (xi_Twice_Wrong : PySem.W.kitOne K (.ref C_Twice) (.ref C_Wrong) = some (isX "Twice" "Wrong"))
    (xi_NoOffer_Wrong : PySem.W.kitOne K (.ref C_NoOffer) (.ref C_Wrong) = some (isX "NoOffer" "Wrong"))
    (xi_NoChain_Wrong : PySem.W.kitOne K (.ref C_NoChain) (.ref C_Wrong) = some (isX "NoChain" "Wrong"))
    (xi_Wrong_Wrong : PySem.W.kitOne K (.ref C_Wrong) (.ref C_Wrong) = some (isX "Wrong" "Wrong"))
    (xi_NoRow_TooMany : PySem.W.kitOne K (.ref C_NoRow) (.ref C_TooMany) = some (isX "NoRow" "TooMany"))
    (xi_NoDeed_TooMany : PySem.W.kitOne K (.ref C_NoDeed) (.ref C_TooMany) = some (isX "NoDeed" "TooMany"))
    (xi_NoText_TooMany : PySem.W.kitOne K (.ref C_NoText) (.ref C_TooMany) = some (isX "NoText" "TooMany"))
    (xi_NoSpot_TooMany : PySem.W.kitOne K (.ref C_NoSpot) (.ref C_TooMany) = some (isX "NoSpot" "TooMany"))
    (xi_NoThing_TooMany : PySem.W.kitOne K (.ref C_NoThing) (.ref C_TooMany) = some (isX "NoThing" "TooMany"))
    (xi_TooMany_TooMany : PySem.W.kitOne K (.ref C_TooMany) (.ref C_TooMany) = some (isX "TooMany" "TooMany"))
    (xi_NoReading_TooMany : PySem.W.kitOne K (.ref C_NoReading) (.ref C_TooMany) = some (isX "NoReading" "TooMany"))
    (xi_NoOff_TooMany : PySem.W.kitOne K (.ref C_NoOff) (.ref C_TooMany) = some (isX "NoOff" "TooMany"))
    (xi_NoPaper_TooMany : PySem.W.kitOne K (.ref C_NoPaper) (.ref C_TooMany) = some (isX "NoPaper" "TooMany"))
    (xi_Twice_TooMany : PySem.W.kitOne K (.ref C_Twice) (.ref C_TooMany) = some (isX "Twice" "TooMany"))
    (xi_NoOffer_TooMany : PySem.W.kitOne K (.ref C_NoOffer) (.ref C_TooMany) = some (isX "NoOffer" "TooMany"))
    (xi_NoChain_TooMany : PySem.W.kitOne K (.ref C_NoChain) (.ref C_TooMany) = some (isX "NoChain" "TooMany"))
    (xi_Wrong_TooMany : PySem.W.kitOne K (.ref C_Wrong) (.ref C_TooMany) = some (isX "Wrong" "TooMany"))
    (xi_NoRow_NoReading : PySem.W.kitOne K (.ref C_NoRow) (.ref C_NoReading) = some (isX "NoRow" "NoReading"))
    (xi_NoDeed_NoReading : PySem.W.kitOne K (.ref C_NoDeed) (.ref C_NoReading) = some (isX "NoDeed" "NoReading"))
    (xi_NoText_NoReading : PySem.W.kitOne K (.ref C_NoText) (.ref C_NoReading) = some (isX "NoText" "NoReading"))
    (xi_NoSpot_NoReading : PySem.W.kitOne K (.ref C_NoSpot) (.ref C_NoReading) = some (isX "NoSpot" "NoReading"))
    (xi_NoThing_NoReading : PySem.W.kitOne K (.ref C_NoThing) (.ref C_NoReading) = some (isX "NoThing" "NoReading"))
    (xi_TooMany_NoReading : PySem.W.kitOne K (.ref C_TooMany) (.ref C_NoReading) = some (isX "TooMany" "NoReading"))
    (xi_NoReading_NoReading : PySem.W.kitOne K (.ref C_NoReading) (.ref C_NoReading) = some (isX "NoReading" "NoReading"))
    (xi_NoOff_NoReading : PySem.W.kitOne K (.ref C_NoOff) (.ref C_NoReading) = some (isX "NoOff" "NoReading"))
    (xi_NoPaper_NoReading : PySem.W.kitOne K (.ref C_NoPaper) (.ref C_NoReading) = some (isX "NoPaper" "NoReading"))
    (xi_Twice_NoReading : PySem.W.kitOne K (.ref C_Twice) (.ref C_NoReading) = some (isX "Twice" "NoReading"))
    (xi_NoOffer_NoReading : PySem.W.kitOne K (.ref C_NoOffer) (.ref C_NoReading) = some (isX "NoOffer" "NoReading"))
    (xi_NoChain_NoReading : PySem.W.kitOne K (.ref C_NoChain) (.ref C_NoReading) = some (isX "NoChain" "NoReading"))
    (xi_Wrong_NoReading : PySem.W.kitOne K (.ref C_Wrong) (.ref C_NoReading) = some (isX "Wrong" "NoReading"))
    (xi_NoRow_NoOff : PySem.W.kitOne K (.ref C_NoRow) (.ref C_NoOff) = some (isX "NoRow" "NoOff"))
    (xi_NoDeed_NoOff : PySem.W.kitOne K (.ref C_NoDeed) (.ref C_NoOff) = some (isX "NoDeed" "NoOff"))
    (xi_NoText_NoOff : PySem.W.kitOne K (.ref C_NoText) (.ref C_NoOff) = some (isX "NoText" "NoOff"))
    (xi_NoSpot_NoOff : PySem.W.kitOne K (.ref C_NoSpot) (.ref C_NoOff) = some (isX "NoSpot" "NoOff"))
    (xi_NoThing_NoOff : PySem.W.kitOne K (.ref C_NoThing) (.ref C_NoOff) = some (isX "NoThing" "NoOff"))
    (xi_TooMany_NoOff : PySem.W.kitOne K (.ref C_TooMany) (.ref C_NoOff) = some (isX "TooMany" "NoOff"))
    (xi_NoReading_NoOff : PySem.W.kitOne K (.ref C_NoReading) (.ref C_NoOff) = some (isX "NoReading" "NoOff"))
    (xi_NoOff_NoOff : PySem.W.kitOne K (.ref C_NoOff) (.ref C_NoOff) = some (isX "NoOff" "NoOff"))
    (xi_NoPaper_NoOff : PySem.W.kitOne K (.ref C_NoPaper) (.ref C_NoOff) = some (isX "NoPaper" "NoOff"))
    (xi_Twice_NoOff : PySem.W.kitOne K (.ref C_Twice) (.ref C_NoOff) = some (isX "Twice" "NoOff"))
    (xi_NoOffer_NoOff : PySem.W.kitOne K (.ref C_NoOffer) (.ref C_NoOff) = some (isX "NoOffer" "NoOff"))
    (xi_NoChain_NoOff : PySem.W.kitOne K (.ref C_NoChain) (.ref C_NoOff) = some (isX "NoChain" "NoOff"))
    (xi_Wrong_NoOff : PySem.W.kitOne K (.ref C_Wrong) (.ref C_NoOff) = some (isX "Wrong" "NoOff"))
    (xi_NoRow_NoPaper : PySem.W.kitOne K (.ref C_NoRow) (.ref C_NoPaper) = some (isX "NoRow" "NoPaper"))
    (xi_NoDeed_NoPaper : PySem.W.kitOne K (.ref C_NoDeed) (.ref C_NoPaper) = some (isX "NoDeed" "NoPaper"))
    (xi_NoText_NoPaper : PySem.W.kitOne K (.ref C_NoText) (.ref C_NoPaper) = some (isX "NoText" "NoPaper"))
    (xi_NoSpot_NoPaper : PySem.W.kitOne K (.ref C_NoSpot) (.ref C_NoPaper) = some (isX "NoSpot" "NoPaper"))
    (xi_NoThing_NoPaper : PySem.W.kitOne K (.ref C_NoThing) (.ref C_NoPaper) = some (isX "NoThing" "NoPaper"))
    (xi_TooMany_NoPaper : PySem.W.kitOne K (.ref C_TooMany) (.ref C_NoPaper) = some (isX "TooMany" "NoPaper"))
    (xi_NoReading_NoPaper : PySem.W.kitOne K (.ref C_NoReading) (.ref C_NoPaper) = some (isX "NoReading" "NoPaper"))
    (xi_NoOff_NoPaper : PySem.W.kitOne K (.ref C_NoOff) (.ref C_NoPaper) = some (isX "NoOff" "NoPaper"))
    (xi_NoPaper_NoPaper : PySem.W.kitOne K (.ref C_NoPaper) (.ref C_NoPaper) = some (isX "NoPaper" "NoPaper"))
    (xi_Twice_NoPaper : PySem.W.kitOne K (.ref C_Twice) (.ref C_NoPaper) = some (isX "Twice" "NoPaper"))
    (xi_NoOffer_NoPaper : PySem.W.kitOne K (.ref C_NoOffer) (.ref C_NoPaper) = some (isX "NoOffer" "NoPaper"))
    (xi_NoChain_NoPaper : PySem.W.kitOne K (.ref C_NoChain) (.ref C_NoPaper) = some (isX "NoChain" "NoPaper"))
    (xi_Wrong_NoPaper : PySem.W.kitOne K (.ref C_Wrong) (.ref C_NoPaper) = some (isX "Wrong" "NoPaper"))
    (xi_NoRow_NoDeed : PySem.W.kitOne K (.ref C_NoRow) (.ref C_NoDeed) = some (isX "NoRow" "NoDeed"))
    (xi_NoDeed_NoDeed : PySem.W.kitOne K (.ref C_NoDeed) (.ref C_NoDeed) = some (isX "NoDeed" "NoDeed"))
    (xi_NoText_NoDeed : PySem.W.kitOne K (.ref C_NoText) (.ref C_NoDeed) = some (isX "NoText" "NoDeed"))
    (xi_NoSpot_NoDeed : PySem.W.kitOne K (.ref C_NoSpot) (.ref C_NoDeed) = some (isX "NoSpot" "NoDeed"))
    (xi_NoThing_NoDeed : PySem.W.kitOne K (.ref C_NoThing) (.ref C_NoDeed) = some (isX "NoThing" "NoDeed"))
    (xi_TooMany_NoDeed : PySem.W.kitOne K (.ref C_TooMany) (.ref C_NoDeed) = some (isX "TooMany" "NoDeed"))
    (xi_NoReading_NoDeed : PySem.W.kitOne K (.ref C_NoReading) (.ref C_NoDeed) = some (isX "NoReading" "NoDeed"))
    (xi_NoOff_NoDeed : PySem.W.kitOne K (.ref C_NoOff) (.ref C_NoDeed) = some (isX "NoOff" "NoDeed"))
    (xi_NoPaper_NoDeed : PySem.W.kitOne K (.ref C_NoPaper) (.ref C_NoDeed) = some (isX "NoPaper" "NoDeed"))
    (xi_Twice_NoDeed : PySem.W.kitOne K (.ref C_Twice) (.ref C_NoDeed) = some (isX "Twice" "NoDeed"))
    (xi_NoOffer_NoDeed : PySem.W.kitOne K (.ref C_NoOffer) (.ref C_NoDeed) = some (isX "NoOffer" "NoDeed"))
    (xi_NoChain_NoDeed : PySem.W.kitOne K (.ref C_NoChain) (.ref C_NoDeed) = some (isX "NoChain" "NoDeed"))
    (xi_Wrong_NoDeed : PySem.W.kitOne K (.ref C_Wrong) (.ref C_NoDeed) = some (isX "Wrong" "NoDeed"))
    (xi_NoRow_NoText : PySem.W.kitOne K (.ref C_NoRow) (.ref C_NoText) = some (isX "NoRow" "NoText"))
    (xi_NoDeed_NoText : PySem.W.kitOne K (.ref C_NoDeed) (.ref C_NoText) = some (isX "NoDeed" "NoText"))
    (xi_NoText_NoText : PySem.W.kitOne K (.ref C_NoText) (.ref C_NoText) = some (isX "NoText" "NoText"))
    (xi_NoSpot_NoText : PySem.W.kitOne K (.ref C_NoSpot) (.ref C_NoText) = some (isX "NoSpot" "NoText"))
    (xi_NoThing_NoText : PySem.W.kitOne K (.ref C_NoThing) (.ref C_NoText) = some (isX "NoThing" "NoText"))
    (xi_TooMany_NoText : PySem.W.kitOne K (.ref C_TooMany) (.ref C_NoText) = some (isX "TooMany" "NoText"))
    (xi_NoReading_NoText : PySem.W.kitOne K (.ref C_NoReading) (.ref C_NoText) = some (isX "NoReading" "NoText"))
    (xi_NoOff_NoText : PySem.W.kitOne K (.ref C_NoOff) (.ref C_NoText) = some (isX "NoOff" "NoText"))
    (xi_NoPaper_NoText : PySem.W.kitOne K (.ref C_NoPaper) (.ref C_NoText) = some (isX "NoPaper" "NoText"))
    (xi_Twice_NoText : PySem.W.kitOne K (.ref C_Twice) (.ref C_NoText) = some (isX "Twice" "NoText"))
    (xi_NoOffer_NoText : PySem.W.kitOne K (.ref C_NoOffer) (.ref C_NoText) = some (isX "NoOffer" "NoText"))
    (xi_NoChain_NoText : PySem.W.kitOne K (.ref C_NoChain) (.ref C_NoText) = some (isX "NoChain" "NoText"))
    (xi_Wrong_NoText : PySem.W.kitOne K (.ref C_Wrong) (.ref C_NoText) = some (isX "Wrong" "NoText"))
    (xi_NoRow_NoSpot : PySem.W.kitOne K (.ref C_NoRow) (.ref C_NoSpot) = some (isX "NoRow" "NoSpot"))
    (xi_NoDeed_NoSpot : PySem.W.kitOne K (.ref C_NoDeed) (.ref C_NoSpot) = some (isX "NoDeed" "NoSpot"))
    (xi_NoText_NoSpot : PySem.W.kitOne K (.ref C_NoText) (.ref C_NoSpot) = some (isX "NoText" "NoSpot"))
    (xi_NoSpot_NoSpot : PySem.W.kitOne K (.ref C_NoSpot) (.ref C_NoSpot) = some (isX "NoSpot" "NoSpot"))
    (xi_NoThing_NoSpot : PySem.W.kitOne K (.ref C_NoThing) (.ref C_NoSpot) = some (isX "NoThing" "NoSpot"))
    (xi_TooMany_NoSpot : PySem.W.kitOne K (.ref C_TooMany) (.ref C_NoSpot) = some (isX "TooMany" "NoSpot"))
    (xi_NoReading_NoSpot : PySem.W.kitOne K (.ref C_NoReading) (.ref C_NoSpot) = some (isX "NoReading" "NoSpot"))
    (xi_NoOff_NoSpot : PySem.W.kitOne K (.ref C_NoOff) (.ref C_NoSpot) = some (isX "NoOff" "NoSpot"))
    (xi_NoPaper_NoSpot : PySem.W.kitOne K (.ref C_NoPaper) (.ref C_NoSpot) = some (isX "NoPaper" "NoSpot"))
    (xi_Twice_NoSpot : PySem.W.kitOne K (.ref C_Twice) (.ref C_NoSpot) = some (isX "Twice" "NoSpot"))
    (xi_NoOffer_NoSpot : PySem.W.kitOne K (.ref C_NoOffer) (.ref C_NoSpot) = some (isX "NoOffer" "NoSpot"))
    (xi_NoChain_NoSpot : PySem.W.kitOne K (.ref C_NoChain) (.ref C_NoSpot) = some (isX "NoChain" "NoSpot"))
    (xi_Wrong_NoSpot : PySem.W.kitOne K (.ref C_Wrong) (.ref C_NoSpot) = some (isX "Wrong" "NoSpot"))
    (xi_NoRow_NoThing : PySem.W.kitOne K (.ref C_NoRow) (.ref C_NoThing) = some (isX "NoRow" "NoThing"))
    (xi_NoDeed_NoThing : PySem.W.kitOne K (.ref C_NoDeed) (.ref C_NoThing) = some (isX "NoDeed" "NoThing"))
    (xi_NoText_NoThing : PySem.W.kitOne K (.ref C_NoText) (.ref C_NoThing) = some (isX "NoText" "NoThing"))
    (xi_NoSpot_NoThing : PySem.W.kitOne K (.ref C_NoSpot) (.ref C_NoThing) = some (isX "NoSpot" "NoThing"))
    (xi_NoThing_NoThing : PySem.W.kitOne K (.ref C_NoThing) (.ref C_NoThing) = some (isX "NoThing" "NoThing"))
    (xi_TooMany_NoThing : PySem.W.kitOne K (.ref C_TooMany) (.ref C_NoThing) = some (isX "TooMany" "NoThing"))
    (xi_NoReading_NoThing : PySem.W.kitOne K (.ref C_NoReading) (.ref C_NoThing) = some (isX "NoReading" "NoThing"))
    (xi_NoOff_NoThing : PySem.W.kitOne K (.ref C_NoOff) (.ref C_NoThing) = some (isX "NoOff" "NoThing"))
    (xi_NoPaper_NoThing : PySem.W.kitOne K (.ref C_NoPaper) (.ref C_NoThing) = some (isX "NoPaper" "NoThing"))
    (xi_Twice_NoThing : PySem.W.kitOne K (.ref C_Twice) (.ref C_NoThing) = some (isX "Twice" "NoThing"))
    (xi_NoOffer_NoThing : PySem.W.kitOne K (.ref C_NoOffer) (.ref C_NoThing) = some (isX "NoOffer" "NoThing"))
    (xi_NoChain_NoThing : PySem.W.kitOne K (.ref C_NoChain) (.ref C_NoThing) = some (isX "NoChain" "NoThing"))
    (xi_Wrong_NoThing : PySem.W.kitOne K (.ref C_Wrong) (.ref C_NoThing) = some (isX "Wrong" "NoThing"))
    (xi_NoRow_NoRow : PySem.W.kitOne K (.ref C_NoRow) (.ref C_NoRow) = some (isX "NoRow" "NoRow"))
    (xi_NoDeed_NoRow : PySem.W.kitOne K (.ref C_NoDeed) (.ref C_NoRow) = some (isX "NoDeed" "NoRow"))
    (xi_NoText_NoRow : PySem.W.kitOne K (.ref C_NoText) (.ref C_NoRow) = some (isX "NoText" "NoRow"))
    (xi_NoSpot_NoRow : PySem.W.kitOne K (.ref C_NoSpot) (.ref C_NoRow) = some (isX "NoSpot" "NoRow"))
    (xi_NoThing_NoRow : PySem.W.kitOne K (.ref C_NoThing) (.ref C_NoRow) = some (isX "NoThing" "NoRow"))
    (xi_TooMany_NoRow : PySem.W.kitOne K (.ref C_TooMany) (.ref C_NoRow) = some (isX "TooMany" "NoRow"))
    (xi_NoReading_NoRow : PySem.W.kitOne K (.ref C_NoReading) (.ref C_NoRow) = some (isX "NoReading" "NoRow"))
    (xi_NoOff_NoRow : PySem.W.kitOne K (.ref C_NoOff) (.ref C_NoRow) = some (isX "NoOff" "NoRow"))
    (xi_NoPaper_NoRow : PySem.W.kitOne K (.ref C_NoPaper) (.ref C_NoRow) = some (isX "NoPaper" "NoRow"))
    (xi_Twice_NoRow : PySem.W.kitOne K (.ref C_Twice) (.ref C_NoRow) = some (isX "Twice" "NoRow"))
    (xi_NoOffer_NoRow : PySem.W.kitOne K (.ref C_NoOffer) (.ref C_NoRow) = some (isX "NoOffer" "NoRow"))
    (xi_NoChain_NoRow : PySem.W.kitOne K (.ref C_NoChain) (.ref C_NoRow) = some (isX "NoChain" "NoRow"))
    (xi_Wrong_NoRow : PySem.W.kitOne K (.ref C_Wrong) (.ref C_NoRow) = some (isX "Wrong" "NoRow"))
    (xs_NoRow_ChainError : PySem.W.exmOne K (.ref C_NoRow) (.ref C_ChainError) = some (isX "NoRow" "ChainError"))
    (xs_NoDeed_ChainError : PySem.W.exmOne K (.ref C_NoDeed) (.ref C_ChainError) = some (isX "NoDeed" "ChainError"))
    (xs_NoText_ChainError : PySem.W.exmOne K (.ref C_NoText) (.ref C_ChainError) = some (isX "NoText" "ChainError"))
    (xs_NoSpot_ChainError : PySem.W.exmOne K (.ref C_NoSpot) (.ref C_ChainError) = some (isX "NoSpot" "ChainError"))
    (xs_NoThing_ChainError : PySem.W.exmOne K (.ref C_NoThing) (.ref C_ChainError) = some (isX "NoThing" "ChainError"))
    (xs_TooMany_ChainError : PySem.W.exmOne K (.ref C_TooMany) (.ref C_ChainError) = some (isX "TooMany" "ChainError"))
    (xs_NoReading_ChainError : PySem.W.exmOne K (.ref C_NoReading) (.ref C_ChainError) = some (isX "NoReading" "ChainError"))
    (xs_NoOff_ChainError : PySem.W.exmOne K (.ref C_NoOff) (.ref C_ChainError) = some (isX "NoOff" "ChainError"))
    (xs_NoPaper_ChainError : PySem.W.exmOne K (.ref C_NoPaper) (.ref C_ChainError) = some (isX "NoPaper" "ChainError"))
    (xs_Twice_ChainError : PySem.W.exmOne K (.ref C_Twice) (.ref C_ChainError) = some (isX "Twice" "ChainError"))
    (xs_NoOffer_ChainError : PySem.W.exmOne K (.ref C_NoOffer) (.ref C_ChainError) = some (isX "NoOffer" "ChainError"))
    (xs_NoChain_ChainError : PySem.W.exmOne K (.ref C_NoChain) (.ref C_ChainError) = some (isX "NoChain" "ChainError"))
    (xs_Wrong_ChainError : PySem.W.exmOne K (.ref C_Wrong) (.ref C_ChainError) = some (isX "Wrong" "ChainError"))
    (xv_NoRow : PySem.W.kitOne K (.ref C_NoRow) (.type "ValueError") = some true)
    (xv_NoDeed : PySem.W.kitOne K (.ref C_NoDeed) (.type "ValueError") = some true)
    (xv_NoText : PySem.W.kitOne K (.ref C_NoText) (.type "ValueError") = some true)
    (xv_NoSpot : PySem.W.kitOne K (.ref C_NoSpot) (.type "ValueError") = some true)
    (xv_NoThing : PySem.W.kitOne K (.ref C_NoThing) (.type "ValueError") = some true)
    (xv_TooMany : PySem.W.kitOne K (.ref C_TooMany) (.type "ValueError") = some true)
    (xv_NoReading : PySem.W.kitOne K (.ref C_NoReading) (.type "ValueError") = some true)
    (xv_NoOff : PySem.W.kitOne K (.ref C_NoOff) (.type "ValueError") = some true)
    (xv_NoPaper : PySem.W.kitOne K (.ref C_NoPaper) (.type "ValueError") = some true)
    (xv_Twice : PySem.W.kitOne K (.ref C_Twice) (.type "ValueError") = some true)
    (xv_NoOffer : PySem.W.kitOne K (.ref C_NoOffer) (.type "ValueError") = some true)
    (xv_NoChain : PySem.W.kitOne K (.ref C_NoChain) (.type "ValueError") = some true)
    (xv_Wrong : PySem.W.kitOne K (.ref C_Wrong) (.type "ValueError") = some true) :
    ∃ (_ : Cl) (fd : FuncData), (∀ (s : Shared) (v : Value), BindsTo s fd ⟨[v], []⟩ [("_law_script", v)]) ∧ ∀ base : Heap, K.In base → base.Ns mainGlobals mg → FnG l.prog w K mg base 6 fa fd ["_law_script"] (spOf K 1 lawD) := by
  letI : Cl := clOf mg
  have e := hfa.symm.trans (PySem.W.mg_of X G a9)
  cases e
  have F0 := fun_mk (st := s_law_bag) l0 c0 k0
  have F1 := fun_mk (st := s_law_take) l1 c1 k1
  have F2 := fun_mk (st := s_law_alike) l2 c2 k2
  have F3 := fun_mk (st := s_law_bare) l3 c3 k3
  have F4 := fun_mk (st := s_law_raised) l4 c4 k4
  have F5 := fun_mk (st := s_law_field) l5 c5 k5
  have F6 := fun_mk (st := s_law_flags) l6 c6 k6
  have F7 := fun_mk (st := s_law_caught) l7 c7 k7
  have F8 := fun_mk (st := s_law_right) l8 c8 k8
  have F9 := fun_mk (st := s_law) l9 c9 k9
  have F10 := fun_mk (st := s_NoSpot___init) l10 c10 k10
  have F11 := fun_mk (st := s_NoText___init) l11 c11 k11
  have F12 := fun_mk (st := s_NoDeed___init) l12 c12 k12
  have F13 := fun_mk (st := s_NoRow___init) l13 c13 k13
  have F14 := fun_mk (st := s_Wrong___init) l14 c14 k14
  have F15 := fun_mk (st := s_NoChain___init) l15 c15 k15
  have F16 := fun_mk (st := s_NoOffer___init) l16 c16 k16
  have F17 := fun_mk (st := s_Twice___init) l17 c17 k17
  have F18 := fun_mk (st := s_NoPaper___init) l18 c18 k18
  have F19 := fun_mk (st := s_NoOff___init) l19 c19 k19
  have F20 := fun_mk (st := s_NoReading___init) l20 c20 k20
  have F21 := fun_mk (st := s_TooMany___init) l21 c21 k21
  have F22 := fun_mk (st := s_NoThing___init) l22 c22 k22
  have b0 := F0.binds (ps := ["_law_script"]) fun _ _ _ _ _ _ us hl => match us, hl with | [_], _ => rfl
  have b1 := F1.binds (ps := ["_law_bag_here", "_law_many"]) fun _ _ _ _ _ _ us hl => match us, hl with | [_, _], _ => rfl
  have b2 := F2.binds (ps := ["_law_found", "_law_due"]) fun _ _ _ _ _ _ us hl => match us, hl with | [_, _], _ => rfl
  have b3 := F3.binds (ps := ["_law_which"]) fun _ _ _ _ _ _ us hl => match us, hl with | [_], _ => rfl
  have b4 := F4.binds (ps := ["_law_which", "_law_thing"]) fun _ _ _ _ _ _ us hl => match us, hl with | [_, _], _ => rfl
  have b5 := F5.binds (ps := ["_law_which", "_law_e"]) fun _ _ _ _ _ _ us hl => match us, hl with | [_, _], _ => rfl
  have b6 := F6.binds (ps := ["_law_e"]) fun _ _ _ _ _ _ us hl => match us, hl with | [_], _ => rfl
  have b7 := F7.binds (ps := ["_law_which", "_law_thing"]) fun _ _ _ _ _ _ us hl => match us, hl with | [_, _], _ => rfl
  have b8 := F8.binds (ps := ["_law_which", "_law_thing", "_law_e"]) fun _ _ _ _ _ _ us hl => match us, hl with | [_, _, _], _ => rfl
  have b10 := F10.binds (ps := ["self"]) fun _ _ _ _ _ _ us hl => match us, hl with | [_], _ => rfl
  have b11 := F11.binds (ps := ["self"]) fun _ _ _ _ _ _ us hl => match us, hl with | [_], _ => rfl
  have b12 := F12.binds (ps := ["self"]) fun _ _ _ _ _ _ us hl => match us, hl with | [_], _ => rfl
  have b13 := F13.binds (ps := ["self"]) fun _ _ _ _ _ _ us hl => match us, hl with | [_], _ => rfl
  have b14 := F14.binds (ps := ["self", "at"]) fun _ _ _ _ _ _ us hl => match us, hl with | [_, _], _ => rfl
  have b15 := F15.binds (ps := ["self", "at"]) fun _ _ _ _ _ _ us hl => match us, hl with | [_, _], _ => rfl
  have b16 := F16.binds (ps := ["self", "at"]) fun _ _ _ _ _ _ us hl => match us, hl with | [_, _], _ => rfl
  have b17 := F17.binds (ps := ["self", "key"]) fun _ _ _ _ _ _ us hl => match us, hl with | [_, _], _ => rfl
  have b18 := F18.binds (ps := ["self", "key"]) fun _ _ _ _ _ _ us hl => match us, hl with | [_, _], _ => rfl
  have b19 := F19.binds (ps := ["self", "key"]) fun _ _ _ _ _ _ us hl => match us, hl with | [_, _], _ => rfl
  have b20 := F20.binds (ps := ["self", "key"]) fun _ _ _ _ _ _ us hl => match us, hl with | [_, _], _ => rfl
  have b21 := F21.binds (ps := ["self", "most"]) fun _ _ _ _ _ _ us hl => match us, hl with | [_, _], _ => rfl
  have b22 := F22.binds (ps := ["self", "name"]) fun _ _ _ _ _ _ us hl => match us, hl with | [_, _], _ => rfl
  refine ⟨clOf mg, PySem.W.fnOf "law" "law" (defArgs s_law) (defBody s_law) (defScope s_law) .none kV9 dc9 pm9 an9 cd9 ct9, fun s v => .of_eq rfl, fun base _ _ => ?_⟩
  have y_abs : mg "abs" = none := PySem.W.mg_none_of X G z_abs
  have y_len : mg "len" = none := PySem.W.mg_none_of X G z_len
  have y_repr : mg "repr" = none := PySem.W.mg_none_of X G z_repr
  have y_isinstance : mg "isinstance" = none := PySem.W.mg_none_of X G z_isinstance
  have y_ValueError : mg "ValueError" = none := PySem.W.mg_none_of X G z_ValueError
  have y_range : mg "range" = none := PySem.W.mg_none_of X G z_range
  have kn_law_bag : Kn l.prog w K mg base 1 "_law_bag" g_law_bag := kn_as F0 (PySem.W.mg_of X G a0) b0 (ok_law_bag F0 y_abs) ar_law_bag
  have kn_law_take : Kn l.prog w K mg base 1 "_law_take" g_law_take := kn_as F1 (PySem.W.mg_of X G a1) b1 (ok_law_take F1 y_len) ar_law_take
  have kn_law_alike : Kn l.prog w K mg base 1 "_law_alike" g_law_alike := kn_as F2 (PySem.W.mg_of X G a2) b2 (ok_law_alike F2 y_repr) ar_law_alike
  have h_x_NoSpot : XK0 l.prog w K mg base "NoSpot" := (xk_NoSpot F10 (clOf_ad (PySem.W.mg_of X G a_NoSpot)) (PySem.W.mg_of X G a_NoSpot) ef_NoSpot a10 tI10 b10 (PySem.W.mg_of X G a_ChainError) ga_ChainError rd_ChainError fv_ChainError)
  have h_x_NoText : XK0 l.prog w K mg base "NoText" := (xk_NoText F11 (clOf_ad (PySem.W.mg_of X G a_NoText)) (PySem.W.mg_of X G a_NoText) ef_NoText a11 tI11 b11 (PySem.W.mg_of X G a_ChainError) ga_ChainError rd_ChainError fv_ChainError)
  have h_x_NoDeed : XK0 l.prog w K mg base "NoDeed" := (xk_NoDeed F12 (clOf_ad (PySem.W.mg_of X G a_NoDeed)) (PySem.W.mg_of X G a_NoDeed) ef_NoDeed a12 tI12 b12 (PySem.W.mg_of X G a_ChainError) ga_ChainError rd_ChainError fv_ChainError)
  have h_x_NoRow : XK0 l.prog w K mg base "NoRow" := (xk_NoRow F13 (clOf_ad (PySem.W.mg_of X G a_NoRow)) (PySem.W.mg_of X G a_NoRow) ef_NoRow a13 tI13 b13 (PySem.W.mg_of X G a_ChainError) ga_ChainError rd_ChainError fv_ChainError)
  have h_cx_law_bare : KnX l.prog w K mg base 3 "_law_bare" g_law_bare := knX_of F3 (PySem.W.mg_of X G a3) b3 (ok_law_bare F3 h_x_NoSpot h_x_NoText h_x_NoDeed h_x_NoRow) ar_law_bare
  have h_x_Wrong : XK1 l.prog w K mg base "Wrong" "at" := (xk_Wrong F14 (clOf_ad (PySem.W.mg_of X G a_Wrong)) (PySem.W.mg_of X G a_Wrong) ef_Wrong a14 tI14 b14 no_Wrong (PySem.W.mg_of X G a_ChainError) ga_ChainError rd_ChainError fv_ChainError)
  have h_x_NoChain : XK1 l.prog w K mg base "NoChain" "at" := (xk_NoChain F15 (clOf_ad (PySem.W.mg_of X G a_NoChain)) (PySem.W.mg_of X G a_NoChain) ef_NoChain a15 tI15 b15 no_NoChain (PySem.W.mg_of X G a_ChainError) ga_ChainError rd_ChainError fv_ChainError)
  have h_x_NoOffer : XK1 l.prog w K mg base "NoOffer" "at" := (xk_NoOffer F16 (clOf_ad (PySem.W.mg_of X G a_NoOffer)) (PySem.W.mg_of X G a_NoOffer) ef_NoOffer a16 tI16 b16 no_NoOffer (PySem.W.mg_of X G a_ChainError) ga_ChainError rd_ChainError fv_ChainError)
  have h_x_Twice : XK1 l.prog w K mg base "Twice" "key" := (xk_Twice F17 (clOf_ad (PySem.W.mg_of X G a_Twice)) (PySem.W.mg_of X G a_Twice) ef_Twice a17 tI17 b17 no_Twice (PySem.W.mg_of X G a_ChainError) ga_ChainError rd_ChainError fv_ChainError)
  have h_x_NoPaper : XK1 l.prog w K mg base "NoPaper" "key" := (xk_NoPaper F18 (clOf_ad (PySem.W.mg_of X G a_NoPaper)) (PySem.W.mg_of X G a_NoPaper) ef_NoPaper a18 tI18 b18 no_NoPaper (PySem.W.mg_of X G a_ChainError) ga_ChainError rd_ChainError fv_ChainError)
  have h_x_NoOff : XK1 l.prog w K mg base "NoOff" "key" := (xk_NoOff F19 (clOf_ad (PySem.W.mg_of X G a_NoOff)) (PySem.W.mg_of X G a_NoOff) ef_NoOff a19 tI19 b19 no_NoOff (PySem.W.mg_of X G a_ChainError) ga_ChainError rd_ChainError fv_ChainError)
  have h_x_NoReading : XK1 l.prog w K mg base "NoReading" "key" := (xk_NoReading F20 (clOf_ad (PySem.W.mg_of X G a_NoReading)) (PySem.W.mg_of X G a_NoReading) ef_NoReading a20 tI20 b20 no_NoReading (PySem.W.mg_of X G a_ChainError) ga_ChainError rd_ChainError fv_ChainError)
  have h_x_TooMany : XK1 l.prog w K mg base "TooMany" "most" := (xk_TooMany F21 (clOf_ad (PySem.W.mg_of X G a_TooMany)) (PySem.W.mg_of X G a_TooMany) ef_TooMany a21 tI21 b21 no_TooMany (PySem.W.mg_of X G a_ChainError) ga_ChainError rd_ChainError fv_ChainError)
  have h_x_NoThing : XK1 l.prog w K mg base "NoThing" "name" := (xk_NoThing F22 (clOf_ad (PySem.W.mg_of X G a_NoThing)) (PySem.W.mg_of X G a_NoThing) ef_NoThing a22 tI22 b22 no_NoThing (PySem.W.mg_of X G a_ChainError) ga_ChainError rd_ChainError fv_ChainError)
  have h_cx_law_raised : KnX l.prog w K mg base 4 "_law_raised" g_law_raised := knX_of F4 (PySem.W.mg_of X G a4) b4 (ok_law_raised F4 h_x_Wrong h_x_NoChain h_x_NoOffer h_x_Twice h_x_NoPaper h_x_NoOff h_x_NoReading h_x_TooMany h_x_NoThing h_cx_law_bare) ar_law_raised
  have h_xk_at : XAt K ["Wrong", "NoChain", "NoOffer"] "at" := (xat_cons (clOf_ad (PySem.W.mg_of X G a_Wrong)) ef_Wrong no_Wrong_at (xat_cons (clOf_ad (PySem.W.mg_of X G a_NoChain)) ef_NoChain no_NoChain_at (xat_cons (clOf_ad (PySem.W.mg_of X G a_NoOffer)) ef_NoOffer no_NoOffer_at xat_nil)))
  have h_xk_key : XAt K ["Twice", "NoPaper", "NoOff", "NoReading"] "key" := (xat_cons (clOf_ad (PySem.W.mg_of X G a_Twice)) ef_Twice no_Twice_key (xat_cons (clOf_ad (PySem.W.mg_of X G a_NoPaper)) ef_NoPaper no_NoPaper_key (xat_cons (clOf_ad (PySem.W.mg_of X G a_NoOff)) ef_NoOff no_NoOff_key (xat_cons (clOf_ad (PySem.W.mg_of X G a_NoReading)) ef_NoReading no_NoReading_key xat_nil))))
  have h_xk_most : XAt K ["TooMany"] "most" := (xat_cons (clOf_ad (PySem.W.mg_of X G a_TooMany)) ef_TooMany no_TooMany_most xat_nil)
  have h_xk_name : XAt K ["NoThing"] "name" := (xat_cons (clOf_ad (PySem.W.mg_of X G a_NoThing)) ef_NoThing no_NoThing_name xat_nil)
  have kn_law_field : Kn l.prog w K mg base 1 "_law_field" g_law_field := kn_as F5 (PySem.W.mg_of X G a5) b5 (ok_law_field F5 h_xk_at h_xk_key h_xk_most h_xk_name) ar_law_field
  have h_xi_Twice : XIs K mg ["Wrong", "NoChain", "NoOffer", "Twice", "NoPaper", "NoOff", "NoReading", "TooMany", "NoThing", "NoSpot", "NoText", "NoDeed", "NoRow"] "Twice" := (xis_cons (PySem.W.mg_of X G a_Twice) (clOf_ad (PySem.W.mg_of X G a_Wrong)) ef_Wrong xi_Wrong_Twice (xis_cons (PySem.W.mg_of X G a_Twice) (clOf_ad (PySem.W.mg_of X G a_NoChain)) ef_NoChain xi_NoChain_Twice (xis_cons (PySem.W.mg_of X G a_Twice) (clOf_ad (PySem.W.mg_of X G a_NoOffer)) ef_NoOffer xi_NoOffer_Twice (xis_cons (PySem.W.mg_of X G a_Twice) (clOf_ad (PySem.W.mg_of X G a_Twice)) ef_Twice xi_Twice_Twice (xis_cons (PySem.W.mg_of X G a_Twice) (clOf_ad (PySem.W.mg_of X G a_NoPaper)) ef_NoPaper xi_NoPaper_Twice (xis_cons (PySem.W.mg_of X G a_Twice) (clOf_ad (PySem.W.mg_of X G a_NoOff)) ef_NoOff xi_NoOff_Twice (xis_cons (PySem.W.mg_of X G a_Twice) (clOf_ad (PySem.W.mg_of X G a_NoReading)) ef_NoReading xi_NoReading_Twice (xis_cons (PySem.W.mg_of X G a_Twice) (clOf_ad (PySem.W.mg_of X G a_TooMany)) ef_TooMany xi_TooMany_Twice (xis_cons (PySem.W.mg_of X G a_Twice) (clOf_ad (PySem.W.mg_of X G a_NoThing)) ef_NoThing xi_NoThing_Twice (xis_cons (PySem.W.mg_of X G a_Twice) (clOf_ad (PySem.W.mg_of X G a_NoSpot)) ef_NoSpot xi_NoSpot_Twice (xis_cons (PySem.W.mg_of X G a_Twice) (clOf_ad (PySem.W.mg_of X G a_NoText)) ef_NoText xi_NoText_Twice (xis_cons (PySem.W.mg_of X G a_Twice) (clOf_ad (PySem.W.mg_of X G a_NoDeed)) ef_NoDeed xi_NoDeed_Twice (xis_cons (PySem.W.mg_of X G a_Twice) (clOf_ad (PySem.W.mg_of X G a_NoRow)) ef_NoRow xi_NoRow_Twice (xis_nil (PySem.W.mg_of X G a_Twice)))))))))))))))
  have h_xi_NoOffer : XIs K mg ["Wrong", "NoChain", "NoOffer", "Twice", "NoPaper", "NoOff", "NoReading", "TooMany", "NoThing", "NoSpot", "NoText", "NoDeed", "NoRow"] "NoOffer" := (xis_cons (PySem.W.mg_of X G a_NoOffer) (clOf_ad (PySem.W.mg_of X G a_Wrong)) ef_Wrong xi_Wrong_NoOffer (xis_cons (PySem.W.mg_of X G a_NoOffer) (clOf_ad (PySem.W.mg_of X G a_NoChain)) ef_NoChain xi_NoChain_NoOffer (xis_cons (PySem.W.mg_of X G a_NoOffer) (clOf_ad (PySem.W.mg_of X G a_NoOffer)) ef_NoOffer xi_NoOffer_NoOffer (xis_cons (PySem.W.mg_of X G a_NoOffer) (clOf_ad (PySem.W.mg_of X G a_Twice)) ef_Twice xi_Twice_NoOffer (xis_cons (PySem.W.mg_of X G a_NoOffer) (clOf_ad (PySem.W.mg_of X G a_NoPaper)) ef_NoPaper xi_NoPaper_NoOffer (xis_cons (PySem.W.mg_of X G a_NoOffer) (clOf_ad (PySem.W.mg_of X G a_NoOff)) ef_NoOff xi_NoOff_NoOffer (xis_cons (PySem.W.mg_of X G a_NoOffer) (clOf_ad (PySem.W.mg_of X G a_NoReading)) ef_NoReading xi_NoReading_NoOffer (xis_cons (PySem.W.mg_of X G a_NoOffer) (clOf_ad (PySem.W.mg_of X G a_TooMany)) ef_TooMany xi_TooMany_NoOffer (xis_cons (PySem.W.mg_of X G a_NoOffer) (clOf_ad (PySem.W.mg_of X G a_NoThing)) ef_NoThing xi_NoThing_NoOffer (xis_cons (PySem.W.mg_of X G a_NoOffer) (clOf_ad (PySem.W.mg_of X G a_NoSpot)) ef_NoSpot xi_NoSpot_NoOffer (xis_cons (PySem.W.mg_of X G a_NoOffer) (clOf_ad (PySem.W.mg_of X G a_NoText)) ef_NoText xi_NoText_NoOffer (xis_cons (PySem.W.mg_of X G a_NoOffer) (clOf_ad (PySem.W.mg_of X G a_NoDeed)) ef_NoDeed xi_NoDeed_NoOffer (xis_cons (PySem.W.mg_of X G a_NoOffer) (clOf_ad (PySem.W.mg_of X G a_NoRow)) ef_NoRow xi_NoRow_NoOffer (xis_nil (PySem.W.mg_of X G a_NoOffer)))))))))))))))
  have h_xi_NoChain : XIs K mg ["Wrong", "NoChain", "NoOffer", "Twice", "NoPaper", "NoOff", "NoReading", "TooMany", "NoThing", "NoSpot", "NoText", "NoDeed", "NoRow"] "NoChain" := (xis_cons (PySem.W.mg_of X G a_NoChain) (clOf_ad (PySem.W.mg_of X G a_Wrong)) ef_Wrong xi_Wrong_NoChain (xis_cons (PySem.W.mg_of X G a_NoChain) (clOf_ad (PySem.W.mg_of X G a_NoChain)) ef_NoChain xi_NoChain_NoChain (xis_cons (PySem.W.mg_of X G a_NoChain) (clOf_ad (PySem.W.mg_of X G a_NoOffer)) ef_NoOffer xi_NoOffer_NoChain (xis_cons (PySem.W.mg_of X G a_NoChain) (clOf_ad (PySem.W.mg_of X G a_Twice)) ef_Twice xi_Twice_NoChain (xis_cons (PySem.W.mg_of X G a_NoChain) (clOf_ad (PySem.W.mg_of X G a_NoPaper)) ef_NoPaper xi_NoPaper_NoChain (xis_cons (PySem.W.mg_of X G a_NoChain) (clOf_ad (PySem.W.mg_of X G a_NoOff)) ef_NoOff xi_NoOff_NoChain (xis_cons (PySem.W.mg_of X G a_NoChain) (clOf_ad (PySem.W.mg_of X G a_NoReading)) ef_NoReading xi_NoReading_NoChain (xis_cons (PySem.W.mg_of X G a_NoChain) (clOf_ad (PySem.W.mg_of X G a_TooMany)) ef_TooMany xi_TooMany_NoChain (xis_cons (PySem.W.mg_of X G a_NoChain) (clOf_ad (PySem.W.mg_of X G a_NoThing)) ef_NoThing xi_NoThing_NoChain (xis_cons (PySem.W.mg_of X G a_NoChain) (clOf_ad (PySem.W.mg_of X G a_NoSpot)) ef_NoSpot xi_NoSpot_NoChain (xis_cons (PySem.W.mg_of X G a_NoChain) (clOf_ad (PySem.W.mg_of X G a_NoText)) ef_NoText xi_NoText_NoChain (xis_cons (PySem.W.mg_of X G a_NoChain) (clOf_ad (PySem.W.mg_of X G a_NoDeed)) ef_NoDeed xi_NoDeed_NoChain (xis_cons (PySem.W.mg_of X G a_NoChain) (clOf_ad (PySem.W.mg_of X G a_NoRow)) ef_NoRow xi_NoRow_NoChain (xis_nil (PySem.W.mg_of X G a_NoChain)))))))))))))))
  have h_xi_Wrong : XIs K mg ["Wrong", "NoChain", "NoOffer", "Twice", "NoPaper", "NoOff", "NoReading", "TooMany", "NoThing", "NoSpot", "NoText", "NoDeed", "NoRow"] "Wrong" := (xis_cons (PySem.W.mg_of X G a_Wrong) (clOf_ad (PySem.W.mg_of X G a_Wrong)) ef_Wrong xi_Wrong_Wrong (xis_cons (PySem.W.mg_of X G a_Wrong) (clOf_ad (PySem.W.mg_of X G a_NoChain)) ef_NoChain xi_NoChain_Wrong (xis_cons (PySem.W.mg_of X G a_Wrong) (clOf_ad (PySem.W.mg_of X G a_NoOffer)) ef_NoOffer xi_NoOffer_Wrong (xis_cons (PySem.W.mg_of X G a_Wrong) (clOf_ad (PySem.W.mg_of X G a_Twice)) ef_Twice xi_Twice_Wrong (xis_cons (PySem.W.mg_of X G a_Wrong) (clOf_ad (PySem.W.mg_of X G a_NoPaper)) ef_NoPaper xi_NoPaper_Wrong (xis_cons (PySem.W.mg_of X G a_Wrong) (clOf_ad (PySem.W.mg_of X G a_NoOff)) ef_NoOff xi_NoOff_Wrong (xis_cons (PySem.W.mg_of X G a_Wrong) (clOf_ad (PySem.W.mg_of X G a_NoReading)) ef_NoReading xi_NoReading_Wrong (xis_cons (PySem.W.mg_of X G a_Wrong) (clOf_ad (PySem.W.mg_of X G a_TooMany)) ef_TooMany xi_TooMany_Wrong (xis_cons (PySem.W.mg_of X G a_Wrong) (clOf_ad (PySem.W.mg_of X G a_NoThing)) ef_NoThing xi_NoThing_Wrong (xis_cons (PySem.W.mg_of X G a_Wrong) (clOf_ad (PySem.W.mg_of X G a_NoSpot)) ef_NoSpot xi_NoSpot_Wrong (xis_cons (PySem.W.mg_of X G a_Wrong) (clOf_ad (PySem.W.mg_of X G a_NoText)) ef_NoText xi_NoText_Wrong (xis_cons (PySem.W.mg_of X G a_Wrong) (clOf_ad (PySem.W.mg_of X G a_NoDeed)) ef_NoDeed xi_NoDeed_Wrong (xis_cons (PySem.W.mg_of X G a_Wrong) (clOf_ad (PySem.W.mg_of X G a_NoRow)) ef_NoRow xi_NoRow_Wrong (xis_nil (PySem.W.mg_of X G a_Wrong)))))))))))))))
  have h_xi_TooMany : XIs K mg ["Wrong", "NoChain", "NoOffer", "Twice", "NoPaper", "NoOff", "NoReading", "TooMany", "NoThing", "NoSpot", "NoText", "NoDeed", "NoRow"] "TooMany" := (xis_cons (PySem.W.mg_of X G a_TooMany) (clOf_ad (PySem.W.mg_of X G a_Wrong)) ef_Wrong xi_Wrong_TooMany (xis_cons (PySem.W.mg_of X G a_TooMany) (clOf_ad (PySem.W.mg_of X G a_NoChain)) ef_NoChain xi_NoChain_TooMany (xis_cons (PySem.W.mg_of X G a_TooMany) (clOf_ad (PySem.W.mg_of X G a_NoOffer)) ef_NoOffer xi_NoOffer_TooMany (xis_cons (PySem.W.mg_of X G a_TooMany) (clOf_ad (PySem.W.mg_of X G a_Twice)) ef_Twice xi_Twice_TooMany (xis_cons (PySem.W.mg_of X G a_TooMany) (clOf_ad (PySem.W.mg_of X G a_NoPaper)) ef_NoPaper xi_NoPaper_TooMany (xis_cons (PySem.W.mg_of X G a_TooMany) (clOf_ad (PySem.W.mg_of X G a_NoOff)) ef_NoOff xi_NoOff_TooMany (xis_cons (PySem.W.mg_of X G a_TooMany) (clOf_ad (PySem.W.mg_of X G a_NoReading)) ef_NoReading xi_NoReading_TooMany (xis_cons (PySem.W.mg_of X G a_TooMany) (clOf_ad (PySem.W.mg_of X G a_TooMany)) ef_TooMany xi_TooMany_TooMany (xis_cons (PySem.W.mg_of X G a_TooMany) (clOf_ad (PySem.W.mg_of X G a_NoThing)) ef_NoThing xi_NoThing_TooMany (xis_cons (PySem.W.mg_of X G a_TooMany) (clOf_ad (PySem.W.mg_of X G a_NoSpot)) ef_NoSpot xi_NoSpot_TooMany (xis_cons (PySem.W.mg_of X G a_TooMany) (clOf_ad (PySem.W.mg_of X G a_NoText)) ef_NoText xi_NoText_TooMany (xis_cons (PySem.W.mg_of X G a_TooMany) (clOf_ad (PySem.W.mg_of X G a_NoDeed)) ef_NoDeed xi_NoDeed_TooMany (xis_cons (PySem.W.mg_of X G a_TooMany) (clOf_ad (PySem.W.mg_of X G a_NoRow)) ef_NoRow xi_NoRow_TooMany (xis_nil (PySem.W.mg_of X G a_TooMany)))))))))))))))
  have h_xi_NoReading : XIs K mg ["Wrong", "NoChain", "NoOffer", "Twice", "NoPaper", "NoOff", "NoReading", "TooMany", "NoThing", "NoSpot", "NoText", "NoDeed", "NoRow"] "NoReading" := (xis_cons (PySem.W.mg_of X G a_NoReading) (clOf_ad (PySem.W.mg_of X G a_Wrong)) ef_Wrong xi_Wrong_NoReading (xis_cons (PySem.W.mg_of X G a_NoReading) (clOf_ad (PySem.W.mg_of X G a_NoChain)) ef_NoChain xi_NoChain_NoReading (xis_cons (PySem.W.mg_of X G a_NoReading) (clOf_ad (PySem.W.mg_of X G a_NoOffer)) ef_NoOffer xi_NoOffer_NoReading (xis_cons (PySem.W.mg_of X G a_NoReading) (clOf_ad (PySem.W.mg_of X G a_Twice)) ef_Twice xi_Twice_NoReading (xis_cons (PySem.W.mg_of X G a_NoReading) (clOf_ad (PySem.W.mg_of X G a_NoPaper)) ef_NoPaper xi_NoPaper_NoReading (xis_cons (PySem.W.mg_of X G a_NoReading) (clOf_ad (PySem.W.mg_of X G a_NoOff)) ef_NoOff xi_NoOff_NoReading (xis_cons (PySem.W.mg_of X G a_NoReading) (clOf_ad (PySem.W.mg_of X G a_NoReading)) ef_NoReading xi_NoReading_NoReading (xis_cons (PySem.W.mg_of X G a_NoReading) (clOf_ad (PySem.W.mg_of X G a_TooMany)) ef_TooMany xi_TooMany_NoReading (xis_cons (PySem.W.mg_of X G a_NoReading) (clOf_ad (PySem.W.mg_of X G a_NoThing)) ef_NoThing xi_NoThing_NoReading (xis_cons (PySem.W.mg_of X G a_NoReading) (clOf_ad (PySem.W.mg_of X G a_NoSpot)) ef_NoSpot xi_NoSpot_NoReading (xis_cons (PySem.W.mg_of X G a_NoReading) (clOf_ad (PySem.W.mg_of X G a_NoText)) ef_NoText xi_NoText_NoReading (xis_cons (PySem.W.mg_of X G a_NoReading) (clOf_ad (PySem.W.mg_of X G a_NoDeed)) ef_NoDeed xi_NoDeed_NoReading (xis_cons (PySem.W.mg_of X G a_NoReading) (clOf_ad (PySem.W.mg_of X G a_NoRow)) ef_NoRow xi_NoRow_NoReading (xis_nil (PySem.W.mg_of X G a_NoReading)))))))))))))))
  have h_xi_NoOff : XIs K mg ["Wrong", "NoChain", "NoOffer", "Twice", "NoPaper", "NoOff", "NoReading", "TooMany", "NoThing", "NoSpot", "NoText", "NoDeed", "NoRow"] "NoOff" := (xis_cons (PySem.W.mg_of X G a_NoOff) (clOf_ad (PySem.W.mg_of X G a_Wrong)) ef_Wrong xi_Wrong_NoOff (xis_cons (PySem.W.mg_of X G a_NoOff) (clOf_ad (PySem.W.mg_of X G a_NoChain)) ef_NoChain xi_NoChain_NoOff (xis_cons (PySem.W.mg_of X G a_NoOff) (clOf_ad (PySem.W.mg_of X G a_NoOffer)) ef_NoOffer xi_NoOffer_NoOff (xis_cons (PySem.W.mg_of X G a_NoOff) (clOf_ad (PySem.W.mg_of X G a_Twice)) ef_Twice xi_Twice_NoOff (xis_cons (PySem.W.mg_of X G a_NoOff) (clOf_ad (PySem.W.mg_of X G a_NoPaper)) ef_NoPaper xi_NoPaper_NoOff (xis_cons (PySem.W.mg_of X G a_NoOff) (clOf_ad (PySem.W.mg_of X G a_NoOff)) ef_NoOff xi_NoOff_NoOff (xis_cons (PySem.W.mg_of X G a_NoOff) (clOf_ad (PySem.W.mg_of X G a_NoReading)) ef_NoReading xi_NoReading_NoOff (xis_cons (PySem.W.mg_of X G a_NoOff) (clOf_ad (PySem.W.mg_of X G a_TooMany)) ef_TooMany xi_TooMany_NoOff (xis_cons (PySem.W.mg_of X G a_NoOff) (clOf_ad (PySem.W.mg_of X G a_NoThing)) ef_NoThing xi_NoThing_NoOff (xis_cons (PySem.W.mg_of X G a_NoOff) (clOf_ad (PySem.W.mg_of X G a_NoSpot)) ef_NoSpot xi_NoSpot_NoOff (xis_cons (PySem.W.mg_of X G a_NoOff) (clOf_ad (PySem.W.mg_of X G a_NoText)) ef_NoText xi_NoText_NoOff (xis_cons (PySem.W.mg_of X G a_NoOff) (clOf_ad (PySem.W.mg_of X G a_NoDeed)) ef_NoDeed xi_NoDeed_NoOff (xis_cons (PySem.W.mg_of X G a_NoOff) (clOf_ad (PySem.W.mg_of X G a_NoRow)) ef_NoRow xi_NoRow_NoOff (xis_nil (PySem.W.mg_of X G a_NoOff)))))))))))))))
  have h_xi_NoPaper : XIs K mg ["Wrong", "NoChain", "NoOffer", "Twice", "NoPaper", "NoOff", "NoReading", "TooMany", "NoThing", "NoSpot", "NoText", "NoDeed", "NoRow"] "NoPaper" := (xis_cons (PySem.W.mg_of X G a_NoPaper) (clOf_ad (PySem.W.mg_of X G a_Wrong)) ef_Wrong xi_Wrong_NoPaper (xis_cons (PySem.W.mg_of X G a_NoPaper) (clOf_ad (PySem.W.mg_of X G a_NoChain)) ef_NoChain xi_NoChain_NoPaper (xis_cons (PySem.W.mg_of X G a_NoPaper) (clOf_ad (PySem.W.mg_of X G a_NoOffer)) ef_NoOffer xi_NoOffer_NoPaper (xis_cons (PySem.W.mg_of X G a_NoPaper) (clOf_ad (PySem.W.mg_of X G a_Twice)) ef_Twice xi_Twice_NoPaper (xis_cons (PySem.W.mg_of X G a_NoPaper) (clOf_ad (PySem.W.mg_of X G a_NoPaper)) ef_NoPaper xi_NoPaper_NoPaper (xis_cons (PySem.W.mg_of X G a_NoPaper) (clOf_ad (PySem.W.mg_of X G a_NoOff)) ef_NoOff xi_NoOff_NoPaper (xis_cons (PySem.W.mg_of X G a_NoPaper) (clOf_ad (PySem.W.mg_of X G a_NoReading)) ef_NoReading xi_NoReading_NoPaper (xis_cons (PySem.W.mg_of X G a_NoPaper) (clOf_ad (PySem.W.mg_of X G a_TooMany)) ef_TooMany xi_TooMany_NoPaper (xis_cons (PySem.W.mg_of X G a_NoPaper) (clOf_ad (PySem.W.mg_of X G a_NoThing)) ef_NoThing xi_NoThing_NoPaper (xis_cons (PySem.W.mg_of X G a_NoPaper) (clOf_ad (PySem.W.mg_of X G a_NoSpot)) ef_NoSpot xi_NoSpot_NoPaper (xis_cons (PySem.W.mg_of X G a_NoPaper) (clOf_ad (PySem.W.mg_of X G a_NoText)) ef_NoText xi_NoText_NoPaper (xis_cons (PySem.W.mg_of X G a_NoPaper) (clOf_ad (PySem.W.mg_of X G a_NoDeed)) ef_NoDeed xi_NoDeed_NoPaper (xis_cons (PySem.W.mg_of X G a_NoPaper) (clOf_ad (PySem.W.mg_of X G a_NoRow)) ef_NoRow xi_NoRow_NoPaper (xis_nil (PySem.W.mg_of X G a_NoPaper)))))))))))))))
  have h_xi_NoDeed : XIs K mg ["Wrong", "NoChain", "NoOffer", "Twice", "NoPaper", "NoOff", "NoReading", "TooMany", "NoThing", "NoSpot", "NoText", "NoDeed", "NoRow"] "NoDeed" := (xis_cons (PySem.W.mg_of X G a_NoDeed) (clOf_ad (PySem.W.mg_of X G a_Wrong)) ef_Wrong xi_Wrong_NoDeed (xis_cons (PySem.W.mg_of X G a_NoDeed) (clOf_ad (PySem.W.mg_of X G a_NoChain)) ef_NoChain xi_NoChain_NoDeed (xis_cons (PySem.W.mg_of X G a_NoDeed) (clOf_ad (PySem.W.mg_of X G a_NoOffer)) ef_NoOffer xi_NoOffer_NoDeed (xis_cons (PySem.W.mg_of X G a_NoDeed) (clOf_ad (PySem.W.mg_of X G a_Twice)) ef_Twice xi_Twice_NoDeed (xis_cons (PySem.W.mg_of X G a_NoDeed) (clOf_ad (PySem.W.mg_of X G a_NoPaper)) ef_NoPaper xi_NoPaper_NoDeed (xis_cons (PySem.W.mg_of X G a_NoDeed) (clOf_ad (PySem.W.mg_of X G a_NoOff)) ef_NoOff xi_NoOff_NoDeed (xis_cons (PySem.W.mg_of X G a_NoDeed) (clOf_ad (PySem.W.mg_of X G a_NoReading)) ef_NoReading xi_NoReading_NoDeed (xis_cons (PySem.W.mg_of X G a_NoDeed) (clOf_ad (PySem.W.mg_of X G a_TooMany)) ef_TooMany xi_TooMany_NoDeed (xis_cons (PySem.W.mg_of X G a_NoDeed) (clOf_ad (PySem.W.mg_of X G a_NoThing)) ef_NoThing xi_NoThing_NoDeed (xis_cons (PySem.W.mg_of X G a_NoDeed) (clOf_ad (PySem.W.mg_of X G a_NoSpot)) ef_NoSpot xi_NoSpot_NoDeed (xis_cons (PySem.W.mg_of X G a_NoDeed) (clOf_ad (PySem.W.mg_of X G a_NoText)) ef_NoText xi_NoText_NoDeed (xis_cons (PySem.W.mg_of X G a_NoDeed) (clOf_ad (PySem.W.mg_of X G a_NoDeed)) ef_NoDeed xi_NoDeed_NoDeed (xis_cons (PySem.W.mg_of X G a_NoDeed) (clOf_ad (PySem.W.mg_of X G a_NoRow)) ef_NoRow xi_NoRow_NoDeed (xis_nil (PySem.W.mg_of X G a_NoDeed)))))))))))))))
  have h_xi_NoText : XIs K mg ["Wrong", "NoChain", "NoOffer", "Twice", "NoPaper", "NoOff", "NoReading", "TooMany", "NoThing", "NoSpot", "NoText", "NoDeed", "NoRow"] "NoText" := (xis_cons (PySem.W.mg_of X G a_NoText) (clOf_ad (PySem.W.mg_of X G a_Wrong)) ef_Wrong xi_Wrong_NoText (xis_cons (PySem.W.mg_of X G a_NoText) (clOf_ad (PySem.W.mg_of X G a_NoChain)) ef_NoChain xi_NoChain_NoText (xis_cons (PySem.W.mg_of X G a_NoText) (clOf_ad (PySem.W.mg_of X G a_NoOffer)) ef_NoOffer xi_NoOffer_NoText (xis_cons (PySem.W.mg_of X G a_NoText) (clOf_ad (PySem.W.mg_of X G a_Twice)) ef_Twice xi_Twice_NoText (xis_cons (PySem.W.mg_of X G a_NoText) (clOf_ad (PySem.W.mg_of X G a_NoPaper)) ef_NoPaper xi_NoPaper_NoText (xis_cons (PySem.W.mg_of X G a_NoText) (clOf_ad (PySem.W.mg_of X G a_NoOff)) ef_NoOff xi_NoOff_NoText (xis_cons (PySem.W.mg_of X G a_NoText) (clOf_ad (PySem.W.mg_of X G a_NoReading)) ef_NoReading xi_NoReading_NoText (xis_cons (PySem.W.mg_of X G a_NoText) (clOf_ad (PySem.W.mg_of X G a_TooMany)) ef_TooMany xi_TooMany_NoText (xis_cons (PySem.W.mg_of X G a_NoText) (clOf_ad (PySem.W.mg_of X G a_NoThing)) ef_NoThing xi_NoThing_NoText (xis_cons (PySem.W.mg_of X G a_NoText) (clOf_ad (PySem.W.mg_of X G a_NoSpot)) ef_NoSpot xi_NoSpot_NoText (xis_cons (PySem.W.mg_of X G a_NoText) (clOf_ad (PySem.W.mg_of X G a_NoText)) ef_NoText xi_NoText_NoText (xis_cons (PySem.W.mg_of X G a_NoText) (clOf_ad (PySem.W.mg_of X G a_NoDeed)) ef_NoDeed xi_NoDeed_NoText (xis_cons (PySem.W.mg_of X G a_NoText) (clOf_ad (PySem.W.mg_of X G a_NoRow)) ef_NoRow xi_NoRow_NoText (xis_nil (PySem.W.mg_of X G a_NoText)))))))))))))))
  have h_xi_NoSpot : XIs K mg ["Wrong", "NoChain", "NoOffer", "Twice", "NoPaper", "NoOff", "NoReading", "TooMany", "NoThing", "NoSpot", "NoText", "NoDeed", "NoRow"] "NoSpot" := (xis_cons (PySem.W.mg_of X G a_NoSpot) (clOf_ad (PySem.W.mg_of X G a_Wrong)) ef_Wrong xi_Wrong_NoSpot (xis_cons (PySem.W.mg_of X G a_NoSpot) (clOf_ad (PySem.W.mg_of X G a_NoChain)) ef_NoChain xi_NoChain_NoSpot (xis_cons (PySem.W.mg_of X G a_NoSpot) (clOf_ad (PySem.W.mg_of X G a_NoOffer)) ef_NoOffer xi_NoOffer_NoSpot (xis_cons (PySem.W.mg_of X G a_NoSpot) (clOf_ad (PySem.W.mg_of X G a_Twice)) ef_Twice xi_Twice_NoSpot (xis_cons (PySem.W.mg_of X G a_NoSpot) (clOf_ad (PySem.W.mg_of X G a_NoPaper)) ef_NoPaper xi_NoPaper_NoSpot (xis_cons (PySem.W.mg_of X G a_NoSpot) (clOf_ad (PySem.W.mg_of X G a_NoOff)) ef_NoOff xi_NoOff_NoSpot (xis_cons (PySem.W.mg_of X G a_NoSpot) (clOf_ad (PySem.W.mg_of X G a_NoReading)) ef_NoReading xi_NoReading_NoSpot (xis_cons (PySem.W.mg_of X G a_NoSpot) (clOf_ad (PySem.W.mg_of X G a_TooMany)) ef_TooMany xi_TooMany_NoSpot (xis_cons (PySem.W.mg_of X G a_NoSpot) (clOf_ad (PySem.W.mg_of X G a_NoThing)) ef_NoThing xi_NoThing_NoSpot (xis_cons (PySem.W.mg_of X G a_NoSpot) (clOf_ad (PySem.W.mg_of X G a_NoSpot)) ef_NoSpot xi_NoSpot_NoSpot (xis_cons (PySem.W.mg_of X G a_NoSpot) (clOf_ad (PySem.W.mg_of X G a_NoText)) ef_NoText xi_NoText_NoSpot (xis_cons (PySem.W.mg_of X G a_NoSpot) (clOf_ad (PySem.W.mg_of X G a_NoDeed)) ef_NoDeed xi_NoDeed_NoSpot (xis_cons (PySem.W.mg_of X G a_NoSpot) (clOf_ad (PySem.W.mg_of X G a_NoRow)) ef_NoRow xi_NoRow_NoSpot (xis_nil (PySem.W.mg_of X G a_NoSpot)))))))))))))))
  have h_xi_NoThing : XIs K mg ["Wrong", "NoChain", "NoOffer", "Twice", "NoPaper", "NoOff", "NoReading", "TooMany", "NoThing", "NoSpot", "NoText", "NoDeed", "NoRow"] "NoThing" := (xis_cons (PySem.W.mg_of X G a_NoThing) (clOf_ad (PySem.W.mg_of X G a_Wrong)) ef_Wrong xi_Wrong_NoThing (xis_cons (PySem.W.mg_of X G a_NoThing) (clOf_ad (PySem.W.mg_of X G a_NoChain)) ef_NoChain xi_NoChain_NoThing (xis_cons (PySem.W.mg_of X G a_NoThing) (clOf_ad (PySem.W.mg_of X G a_NoOffer)) ef_NoOffer xi_NoOffer_NoThing (xis_cons (PySem.W.mg_of X G a_NoThing) (clOf_ad (PySem.W.mg_of X G a_Twice)) ef_Twice xi_Twice_NoThing (xis_cons (PySem.W.mg_of X G a_NoThing) (clOf_ad (PySem.W.mg_of X G a_NoPaper)) ef_NoPaper xi_NoPaper_NoThing (xis_cons (PySem.W.mg_of X G a_NoThing) (clOf_ad (PySem.W.mg_of X G a_NoOff)) ef_NoOff xi_NoOff_NoThing (xis_cons (PySem.W.mg_of X G a_NoThing) (clOf_ad (PySem.W.mg_of X G a_NoReading)) ef_NoReading xi_NoReading_NoThing (xis_cons (PySem.W.mg_of X G a_NoThing) (clOf_ad (PySem.W.mg_of X G a_TooMany)) ef_TooMany xi_TooMany_NoThing (xis_cons (PySem.W.mg_of X G a_NoThing) (clOf_ad (PySem.W.mg_of X G a_NoThing)) ef_NoThing xi_NoThing_NoThing (xis_cons (PySem.W.mg_of X G a_NoThing) (clOf_ad (PySem.W.mg_of X G a_NoSpot)) ef_NoSpot xi_NoSpot_NoThing (xis_cons (PySem.W.mg_of X G a_NoThing) (clOf_ad (PySem.W.mg_of X G a_NoText)) ef_NoText xi_NoText_NoThing (xis_cons (PySem.W.mg_of X G a_NoThing) (clOf_ad (PySem.W.mg_of X G a_NoDeed)) ef_NoDeed xi_NoDeed_NoThing (xis_cons (PySem.W.mg_of X G a_NoThing) (clOf_ad (PySem.W.mg_of X G a_NoRow)) ef_NoRow xi_NoRow_NoThing (xis_nil (PySem.W.mg_of X G a_NoThing)))))))))))))))
  have h_xi_NoRow : XIs K mg ["Wrong", "NoChain", "NoOffer", "Twice", "NoPaper", "NoOff", "NoReading", "TooMany", "NoThing", "NoSpot", "NoText", "NoDeed", "NoRow"] "NoRow" := (xis_cons (PySem.W.mg_of X G a_NoRow) (clOf_ad (PySem.W.mg_of X G a_Wrong)) ef_Wrong xi_Wrong_NoRow (xis_cons (PySem.W.mg_of X G a_NoRow) (clOf_ad (PySem.W.mg_of X G a_NoChain)) ef_NoChain xi_NoChain_NoRow (xis_cons (PySem.W.mg_of X G a_NoRow) (clOf_ad (PySem.W.mg_of X G a_NoOffer)) ef_NoOffer xi_NoOffer_NoRow (xis_cons (PySem.W.mg_of X G a_NoRow) (clOf_ad (PySem.W.mg_of X G a_Twice)) ef_Twice xi_Twice_NoRow (xis_cons (PySem.W.mg_of X G a_NoRow) (clOf_ad (PySem.W.mg_of X G a_NoPaper)) ef_NoPaper xi_NoPaper_NoRow (xis_cons (PySem.W.mg_of X G a_NoRow) (clOf_ad (PySem.W.mg_of X G a_NoOff)) ef_NoOff xi_NoOff_NoRow (xis_cons (PySem.W.mg_of X G a_NoRow) (clOf_ad (PySem.W.mg_of X G a_NoReading)) ef_NoReading xi_NoReading_NoRow (xis_cons (PySem.W.mg_of X G a_NoRow) (clOf_ad (PySem.W.mg_of X G a_TooMany)) ef_TooMany xi_TooMany_NoRow (xis_cons (PySem.W.mg_of X G a_NoRow) (clOf_ad (PySem.W.mg_of X G a_NoThing)) ef_NoThing xi_NoThing_NoRow (xis_cons (PySem.W.mg_of X G a_NoRow) (clOf_ad (PySem.W.mg_of X G a_NoSpot)) ef_NoSpot xi_NoSpot_NoRow (xis_cons (PySem.W.mg_of X G a_NoRow) (clOf_ad (PySem.W.mg_of X G a_NoText)) ef_NoText xi_NoText_NoRow (xis_cons (PySem.W.mg_of X G a_NoRow) (clOf_ad (PySem.W.mg_of X G a_NoDeed)) ef_NoDeed xi_NoDeed_NoRow (xis_cons (PySem.W.mg_of X G a_NoRow) (clOf_ad (PySem.W.mg_of X G a_NoRow)) ef_NoRow xi_NoRow_NoRow (xis_nil (PySem.W.mg_of X G a_NoRow)))))))))))))))
  have kn_law_flags : Kn l.prog w K mg base 1 "_law_flags" g_law_flags := kn_as F6 (PySem.W.mg_of X G a6) b6 (ok_law_flags F6 y_isinstance h_xi_Twice h_xi_NoOffer h_xi_NoChain h_xi_Wrong h_xi_TooMany h_xi_NoReading h_xi_NoOff h_xi_NoPaper h_xi_NoDeed h_xi_NoText h_xi_NoSpot h_xi_NoThing h_xi_NoRow) ar_law_flags
  have h_xs_ChainError : XSub K mg ["Wrong", "NoChain", "NoOffer", "Twice", "NoPaper", "NoOff", "NoReading", "TooMany", "NoThing", "NoSpot", "NoText", "NoDeed", "NoRow"] "ChainError" := (XSub.cons (PySem.W.mg_of X G a_ChainError) (clOf_ad (PySem.W.mg_of X G a_Wrong)) xs_Wrong_ChainError (XSub.cons (PySem.W.mg_of X G a_ChainError) (clOf_ad (PySem.W.mg_of X G a_NoChain)) xs_NoChain_ChainError (XSub.cons (PySem.W.mg_of X G a_ChainError) (clOf_ad (PySem.W.mg_of X G a_NoOffer)) xs_NoOffer_ChainError (XSub.cons (PySem.W.mg_of X G a_ChainError) (clOf_ad (PySem.W.mg_of X G a_Twice)) xs_Twice_ChainError (XSub.cons (PySem.W.mg_of X G a_ChainError) (clOf_ad (PySem.W.mg_of X G a_NoPaper)) xs_NoPaper_ChainError (XSub.cons (PySem.W.mg_of X G a_ChainError) (clOf_ad (PySem.W.mg_of X G a_NoOff)) xs_NoOff_ChainError (XSub.cons (PySem.W.mg_of X G a_ChainError) (clOf_ad (PySem.W.mg_of X G a_NoReading)) xs_NoReading_ChainError (XSub.cons (PySem.W.mg_of X G a_ChainError) (clOf_ad (PySem.W.mg_of X G a_TooMany)) xs_TooMany_ChainError (XSub.cons (PySem.W.mg_of X G a_ChainError) (clOf_ad (PySem.W.mg_of X G a_NoThing)) xs_NoThing_ChainError (XSub.cons (PySem.W.mg_of X G a_ChainError) (clOf_ad (PySem.W.mg_of X G a_NoSpot)) xs_NoSpot_ChainError (XSub.cons (PySem.W.mg_of X G a_ChainError) (clOf_ad (PySem.W.mg_of X G a_NoText)) xs_NoText_ChainError (XSub.cons (PySem.W.mg_of X G a_ChainError) (clOf_ad (PySem.W.mg_of X G a_NoDeed)) xs_NoDeed_ChainError (XSub.cons (PySem.W.mg_of X G a_ChainError) (clOf_ad (PySem.W.mg_of X G a_NoRow)) xs_NoRow_ChainError (XSub.nil (PySem.W.mg_of X G a_ChainError)))))))))))))))
  have kn_law_caught : Kn l.prog w K mg base 5 "_law_caught" g_law_caught := kn_as F7 (PySem.W.mg_of X G a7) b7 (ok_law_caught F7 h_xs_ChainError h_cx_law_raised) ar_law_caught
  have h_xi_ValueError : XIs K mg ["Wrong", "NoChain", "NoOffer", "Twice", "NoPaper", "NoOff", "NoReading", "TooMany", "NoThing", "NoSpot", "NoText", "NoDeed", "NoRow"] "ValueError" := (xisb_cons y_ValueError (clOf_ad (PySem.W.mg_of X G a_Wrong)) ef_Wrong xv_Wrong (xisb_cons y_ValueError (clOf_ad (PySem.W.mg_of X G a_NoChain)) ef_NoChain xv_NoChain (xisb_cons y_ValueError (clOf_ad (PySem.W.mg_of X G a_NoOffer)) ef_NoOffer xv_NoOffer (xisb_cons y_ValueError (clOf_ad (PySem.W.mg_of X G a_Twice)) ef_Twice xv_Twice (xisb_cons y_ValueError (clOf_ad (PySem.W.mg_of X G a_NoPaper)) ef_NoPaper xv_NoPaper (xisb_cons y_ValueError (clOf_ad (PySem.W.mg_of X G a_NoOff)) ef_NoOff xv_NoOff (xisb_cons y_ValueError (clOf_ad (PySem.W.mg_of X G a_NoReading)) ef_NoReading xv_NoReading (xisb_cons y_ValueError (clOf_ad (PySem.W.mg_of X G a_TooMany)) ef_TooMany xv_TooMany (xisb_cons y_ValueError (clOf_ad (PySem.W.mg_of X G a_NoThing)) ef_NoThing xv_NoThing (xisb_cons y_ValueError (clOf_ad (PySem.W.mg_of X G a_NoSpot)) ef_NoSpot xv_NoSpot (xisb_cons y_ValueError (clOf_ad (PySem.W.mg_of X G a_NoText)) ef_NoText xv_NoText (xisb_cons y_ValueError (clOf_ad (PySem.W.mg_of X G a_NoDeed)) ef_NoDeed xv_NoDeed (xisb_cons y_ValueError (clOf_ad (PySem.W.mg_of X G a_NoRow)) ef_NoRow xv_NoRow (xisb_nil y_ValueError))))))))))))))
  have kn_law_right : Kn l.prog w K mg base 2 "_law_right" g_law_right := kn_as F8 (PySem.W.mg_of X G a8) b8 (ok_law_right F8 y_isinstance y_ValueError y_range kn_law_flags kn_law_field kn_law_alike h_xi_ValueError) ar_law_right
  exact ok_law (P := l.prog) (w := w) (base := base) F9 y_range kn_law_bag kn_law_take kn_law_caught kn_law_right
theorem hk_facts {w : World} {K : PySem.W.Frag} {h : Heap} {mg : Str → Option Value} {fa : Addr} (X : K.In h) (G : h.Ns mainGlobals mg) (hfa : mg ("law" : Str) = some (.ref fa)) (c : HK.Says3 hk_ex hk_fn hk_ts w K) :
    ∃ (_ : Cl) (fd : FuncData), (∀ (s : Shared) (v : Value), BindsTo s fd ⟨[v], []⟩ [("_law_script", v)]) ∧ ∀ base : Heap, K.In base → base.Ns mainGlobals mg → FnG (PySem.Challenge.rw_truechain_k17_refusals_apart).prog w K mg base 6 fa fd ["_law_script"] (spOf K 1 lawD) := by
  obtain ⟨oc0, od0, sl0, kV0, dc0, pm0, an0, cd0, ct0, l0, c0⟩ := c.def_ 0
  obtain ⟨oc1, od1, sl1, kV1, dc1, pm1, an1, cd1, ct1, l1, c1⟩ := c.def_ 1
  obtain ⟨oc2, od2, sl2, kV2, dc2, pm2, an2, cd2, ct2, l2, c2⟩ := c.def_ 2
  obtain ⟨oc3, od3, sl3, kV3, dc3, pm3, an3, cd3, ct3, l3, c3⟩ := c.def_ 3
  obtain ⟨oc4, od4, sl4, kV4, dc4, pm4, an4, cd4, ct4, l4, c4⟩ := c.def_ 4
  obtain ⟨oc5, od5, sl5, kV5, dc5, pm5, an5, cd5, ct5, l5, c5⟩ := c.def_ 5
  obtain ⟨oc6, od6, sl6, kV6, dc6, pm6, an6, cd6, ct6, l6, c6⟩ := c.def_ 6
  obtain ⟨oc7, od7, sl7, kV7, dc7, pm7, an7, cd7, ct7, l7, c7⟩ := c.def_ 7
  obtain ⟨oc8, od8, sl8, kV8, dc8, pm8, an8, cd8, ct8, l8, c8⟩ := c.def_ 8
  obtain ⟨oc9, od9, sl9, kV9, dc9, pm9, an9, cd9, ct9, l9, c9⟩ := c.def_ 9
  obtain ⟨oc10, od10, sl10, kV10, dc10, pm10, an10, cd10, ct10, l10, c10⟩ := c.def_ 10
  obtain ⟨oc11, od11, sl11, kV11, dc11, pm11, an11, cd11, ct11, l11, c11⟩ := c.def_ 11
  obtain ⟨oc12, od12, sl12, kV12, dc12, pm12, an12, cd12, ct12, l12, c12⟩ := c.def_ 12
  obtain ⟨oc13, od13, sl13, kV13, dc13, pm13, an13, cd13, ct13, l13, c13⟩ := c.def_ 13
  obtain ⟨oc14, od14, sl14, kV14, dc14, pm14, an14, cd14, ct14, l14, c14⟩ := c.def_ 14
  obtain ⟨oc15, od15, sl15, kV15, dc15, pm15, an15, cd15, ct15, l15, c15⟩ := c.def_ 15
  obtain ⟨oc16, od16, sl16, kV16, dc16, pm16, an16, cd16, ct16, l16, c16⟩ := c.def_ 16
  obtain ⟨oc17, od17, sl17, kV17, dc17, pm17, an17, cd17, ct17, l17, c17⟩ := c.def_ 17
  obtain ⟨oc18, od18, sl18, kV18, dc18, pm18, an18, cd18, ct18, l18, c18⟩ := c.def_ 18
  obtain ⟨oc19, od19, sl19, kV19, dc19, pm19, an19, cd19, ct19, l19, c19⟩ := c.def_ 19
  obtain ⟨oc20, od20, sl20, kV20, dc20, pm20, an20, cd20, ct20, l20, c20⟩ := c.def_ 20
  obtain ⟨oc21, od21, sl21, kV21, dc21, pm21, an21, cd21, ct21, l21, c21⟩ := c.def_ 21
  obtain ⟨oc22, od22, sl22, kV22, dc22, pm22, an22, cd22, ct22, l22, c22⟩ := c.def_ 22
  exact all_mk (l := PySem.Challenge.rw_truechain_k17_refusals_apart) (w := w) X G hfa
    (He.eqO_ok (c.fact 0 0)) (He.eqO_ok (c.fact 0 1)) (He.eqO_ok (c.fact 0 2)) (He.eqO_ok (c.fact 0 3)) (He.eqO_ok (c.fact 0 4)) (He.eqO_ok (c.fact 0 5)) (He.eqO_ok (c.fact 0 6)) (He.eqO_ok (c.fact 0 7))
    (He.eqO_ok (c.fact 0 8)) (He.eqO_ok (c.fact 0 9)) (He.eqO_ok (c.fact 0 10)) (He.eqO_ok (c.fact 0 11)) (He.eqO_ok (c.fact 0 12)) (He.eqO_ok (c.fact 0 13)) (He.eqO_ok (c.fact 0 14)) l0
    c0 (c.fact 0 15) (He.eqO_ok (c.fact 0 16)) l1 c1 (c.fact 0 17) (He.eqO_ok (c.fact 0 18)) l2
    c2 (c.fact 0 19) (He.eqO_ok (c.fact 0 20)) l3 c3 (c.fact 0 21) (He.eqO_ok (c.fact 0 22)) l4
    c4 (c.fact 0 23) (He.eqO_ok (c.fact 0 24)) l5 c5 (c.fact 0 25) (He.eqO_ok (c.fact 0 26)) l6
    c6 (c.fact 0 27) (He.eqO_ok (c.fact 0 28)) l7 c7 (c.fact 0 29) (He.eqO_ok (c.fact 0 30)) l8
    c8 (c.fact 0 31) (He.eqO_ok (c.fact 0 32)) l9 c9 (c.fact 0 33) (He.eqO_ok (c.fact 0 34)) l10
    c10 (c.fact 0 35) (He.eqO_ok (c.fact 0 36)) l11 c11 (c.fact 0 37) (He.eqO_ok (c.fact 0 38)) l12
    c12 (c.fact 0 39) (He.eqO_ok (c.fact 0 40)) l13 c13 (c.fact 0 41) (He.eqO_ok (c.fact 0 42)) l14
    c14 (c.fact 0 43) (He.eqO_ok (c.fact 0 44)) l15 c15 (c.fact 0 45) (He.eqO_ok (c.fact 0 46)) l16
    c16 (c.fact 0 47) (He.eqO_ok (c.fact 0 48)) l17 c17 (c.fact 0 49) (He.eqO_ok (c.fact 0 50)) l18
    c18 (c.fact 0 51) (He.eqO_ok (c.fact 0 52)) l19 c19 (c.fact 0 53) (He.eqO_ok (c.fact 0 54)) l20
    c20 (c.fact 0 55) (He.eqO_ok (c.fact 0 56)) l21 c21 (c.fact 0 57) (He.eqO_ok (c.fact 0 58)) l22
    c22 (c.fact 0 59) (He.eqO_ok (c.fact 0 60)) (He.eqO_ok (c.fact 0 61)) (He.eqO_ok (c.fact 0 62)) (He.eqO_ok (c.fact 0 63)) (He.eqO_ok (c.fact 0 64)) (He.eqO_ok (c.fact 0 65))
    (c.fact 0 66) (HK.isO_ok (c.fact 0 67)) (He.eqO_ok (c.fact 0 68)) (c.fact 0 69) (HK.isC_ok (c.fact 0 70)) (c.fact 0 71) (HK.isO_ok (c.fact 0 72)) (c.fact 0 73)
    (HK.isO_ok (c.fact 0 74)) (c.fact 0 75) (HK.isO_ok (c.fact 0 76)) (He.eqO_ok (c.fact 0 77)) (c.fact 0 78) (HK.isO_ok (c.fact 0 79)) (He.eqO_ok (c.fact 0 80)) (c.fact 0 81)
    (HK.isO_ok (c.fact 0 82)) (He.eqO_ok (c.fact 0 83)) (c.fact 0 84) (HK.isO_ok (c.fact 0 85)) (He.eqO_ok (c.fact 0 86)) (c.fact 0 87) (HK.isO_ok (c.fact 0 88)) (He.eqO_ok (c.fact 0 89))
    (c.fact 0 90) (HK.isO_ok (c.fact 0 91)) (He.eqO_ok (c.fact 0 92)) (c.fact 0 93) (HK.isO_ok (c.fact 0 94)) (He.eqO_ok (c.fact 0 95)) (c.fact 0 96) (HK.isO_ok (c.fact 0 97))
    (He.eqO_ok (c.fact 0 98)) (c.fact 0 99) (HK.isO_ok (c.fact 0 100)) (He.eqO_ok (c.fact 0 101)) (c.fact 0 102) (HK.isO_ok (c.fact 0 103)) (He.eqO_ok (c.fact 0 104)) (He.eqO_ok (c.fact 0 105))
    (He.eqO_ok (c.fact 0 106)) (He.eqO_ok (c.fact 0 107)) (He.eqO_ok (c.fact 0 108)) (He.eqO_ok (c.fact 0 109)) (He.eqO_ok (c.fact 0 110)) (He.eqO_ok (c.fact 0 111)) (He.eqO_ok (c.fact 0 112)) (HK.isB_ok (c.fact 0 113))
    (HK.isB_ok (c.fact 0 114)) (HK.isB_ok (c.fact 0 115)) (HK.isB_ok (c.fact 0 116)) (HK.isB_ok (c.fact 0 117)) (HK.isB_ok (c.fact 0 118)) (HK.isB_ok (c.fact 0 119)) (HK.isB_ok (c.fact 0 120)) (HK.isB_ok (c.fact 0 121))
    (HK.isB_ok (c.fact 0 122)) (HK.isB_ok (c.fact 0 123)) (HK.isB_ok (c.fact 0 124)) (HK.isB_ok (c.fact 0 125)) (HK.isB_ok (c.fact 0 126)) (HK.isB_ok (c.fact 0 127)) (HK.isB_ok (c.fact 0 128)) (HK.isB_ok (c.fact 0 129))
    (HK.isB_ok (c.fact 0 130)) (HK.isB_ok (c.fact 0 131)) (HK.isB_ok (c.fact 0 132)) (HK.isB_ok (c.fact 0 133)) (HK.isB_ok (c.fact 0 134)) (HK.isB_ok (c.fact 0 135)) (HK.isB_ok (c.fact 0 136)) (HK.isB_ok (c.fact 0 137))
    (HK.isB_ok (c.fact 0 138)) (HK.isB_ok (c.fact 0 139)) (HK.isB_ok (c.fact 0 140)) (HK.isB_ok (c.fact 0 141)) (HK.isB_ok (c.fact 0 142)) (HK.isB_ok (c.fact 0 143)) (HK.isB_ok (c.fact 0 144)) (HK.isB_ok (c.fact 0 145))
    (HK.isB_ok (c.fact 0 146)) (HK.isB_ok (c.fact 0 147)) (HK.isB_ok (c.fact 0 148)) (HK.isB_ok (c.fact 0 149)) (HK.isB_ok (c.fact 0 150)) (HK.isB_ok (c.fact 0 151)) (HK.isB_ok (c.fact 0 152)) (HK.isB_ok (c.fact 0 153))
    (HK.isB_ok (c.fact 0 154)) (HK.isB_ok (c.fact 0 155)) (HK.isB_ok (c.fact 0 156)) (HK.isB_ok (c.fact 0 157)) (HK.isB_ok (c.fact 0 158)) (HK.isB_ok (c.fact 0 159)) (HK.isB_ok (c.fact 0 160)) (HK.isB_ok (c.fact 0 161))
    (HK.isB_ok (c.fact 0 162)) (HK.isB_ok (c.fact 0 163)) (HK.isB_ok (c.fact 0 164)) (HK.isB_ok (c.fact 0 165)) (HK.isB_ok (c.fact 0 166)) (HK.isB_ok (c.fact 0 167)) (HK.isB_ok (c.fact 0 168)) (HK.isB_ok (c.fact 0 169))
    (HK.isB_ok (c.fact 0 170)) (HK.isB_ok (c.fact 0 171)) (HK.isB_ok (c.fact 0 172)) (HK.isB_ok (c.fact 0 173)) (HK.isB_ok (c.fact 0 174)) (HK.isB_ok (c.fact 0 175)) (HK.isB_ok (c.fact 0 176)) (HK.isB_ok (c.fact 0 177))
    (HK.isB_ok (c.fact 0 178)) (HK.isB_ok (c.fact 0 179)) (HK.isB_ok (c.fact 0 180)) (HK.isB_ok (c.fact 0 181)) (HK.isB_ok (c.fact 0 182)) (HK.isB_ok (c.fact 0 183)) (HK.isB_ok (c.fact 0 184)) (HK.isB_ok (c.fact 0 185))
    (HK.isB_ok (c.fact 0 186)) (HK.isB_ok (c.fact 0 187)) (HK.isB_ok (c.fact 0 188)) (HK.isB_ok (c.fact 0 189)) (HK.isB_ok (c.fact 0 190)) (HK.isB_ok (c.fact 0 191)) (HK.isB_ok (c.fact 0 192)) (HK.isB_ok (c.fact 0 193))
    (HK.isB_ok (c.fact 0 194)) (HK.isB_ok (c.fact 0 195)) (HK.isB_ok (c.fact 0 196)) (HK.isB_ok (c.fact 0 197)) (HK.isB_ok (c.fact 0 198)) (HK.isB_ok (c.fact 0 199)) (HK.isB_ok (c.fact 0 200)) (HK.isB_ok (c.fact 0 201))
    (HK.isB_ok (c.fact 0 202)) (HK.isB_ok (c.fact 0 203)) (HK.isB_ok (c.fact 0 204)) (HK.isB_ok (c.fact 0 205)) (HK.isB_ok (c.fact 0 206)) (HK.isB_ok (c.fact 0 207)) (HK.isB_ok (c.fact 0 208)) (HK.isB_ok (c.fact 0 209))
    (HK.isB_ok (c.fact 0 210)) (HK.isB_ok (c.fact 0 211)) (HK.isB_ok (c.fact 0 212)) (HK.isB_ok (c.fact 0 213)) (HK.isB_ok (c.fact 0 214)) (HK.isB_ok (c.fact 0 215)) (HK.isB_ok (c.fact 0 216)) (HK.isB_ok (c.fact 0 217))
    (HK.isB_ok (c.fact 0 218)) (HK.isB_ok (c.fact 0 219)) (HK.isB_ok (c.fact 0 220)) (HK.isB_ok (c.fact 0 221)) (HK.isB_ok (c.fact 0 222)) (HK.isB_ok (c.fact 0 223)) (HK.isB_ok (c.fact 0 224)) (HK.isB_ok (c.fact 0 225))
    (HK.isB_ok (c.fact 0 226)) (HK.isB_ok (c.fact 0 227)) (HK.isB_ok (c.fact 0 228)) (HK.isB_ok (c.fact 0 229)) (HK.isB_ok (c.fact 0 230)) (HK.isB_ok (c.fact 0 231)) (HK.isB_ok (c.fact 0 232)) (HK.isB_ok (c.fact 0 233))
    (HK.isB_ok (c.fact 0 234)) (HK.isB_ok (c.fact 0 235)) (HK.isB_ok (c.fact 0 236)) (HK.isB_ok (c.fact 0 237)) (HK.isB_ok (c.fact 0 238)) (HK.isB_ok (c.fact 0 239)) (HK.isB_ok (c.fact 0 240)) (HK.isB_ok (c.fact 0 241))
    (HK.isB_ok (c.fact 0 242)) (HK.isB_ok (c.fact 0 243)) (HK.isB_ok (c.fact 0 244)) (HK.isB_ok (c.fact 0 245)) (HK.isB_ok (c.fact 0 246)) (HK.isB_ok (c.fact 0 247)) (HK.isB_ok (c.fact 0 248)) (HK.isB_ok (c.fact 0 249))
    (HK.isB_ok (c.fact 0 250)) (HK.isB_ok (c.fact 0 251)) (HK.isB_ok (c.fact 0 252)) (HK.isB_ok (c.fact 0 253)) (HK.isB_ok (c.fact 0 254)) (HK.isB_ok (c.fact 0 255)) (HK.isB_ok (c.fact 0 256)) (HK.isB_ok (c.fact 0 257))
    (HK.isB_ok (c.fact 0 258)) (HK.isB_ok (c.fact 0 259)) (HK.isB_ok (c.fact 0 260)) (HK.isB_ok (c.fact 0 261)) (HK.isB_ok (c.fact 0 262)) (HK.isB_ok (c.fact 0 263)) (HK.isB_ok (c.fact 0 264)) (HK.isB_ok (c.fact 0 265))
    (HK.isB_ok (c.fact 0 266)) (HK.isB_ok (c.fact 0 267)) (HK.isB_ok (c.fact 0 268)) (HK.isB_ok (c.fact 0 269)) (HK.isB_ok (c.fact 0 270)) (HK.isB_ok (c.fact 0 271)) (HK.isB_ok (c.fact 0 272)) (HK.isB_ok (c.fact 0 273))
    (HK.isB_ok (c.fact 0 274)) (HK.isB_ok (c.fact 0 275)) (HK.isB_ok (c.fact 0 276)) (HK.isB_ok (c.fact 0 277)) (HK.isB_ok (c.fact 0 278)) (HK.isB_ok (c.fact 0 279)) (HK.isB_ok (c.fact 0 280)) (HK.isB_ok (c.fact 0 281))
    (HK.isB_ok (c.fact 0 282)) (HK.isB_ok (c.fact 0 283)) (HK.isB_ok (c.fact 0 284)) (HK.isB_ok (c.fact 0 285)) (HK.isB_ok (c.fact 0 286)) (HK.isB_ok (c.fact 0 287)) (HK.isB_ok (c.fact 0 288)) (HK.isB_ok (c.fact 0 289))
    (HK.isB_ok (c.fact 0 290)) (HK.isB_ok (c.fact 0 291)) (HK.isB_ok (c.fact 0 292)) (HK.isB_ok (c.fact 0 293)) (HK.isB_ok (c.fact 0 294)) (HK.isB_ok (c.fact 0 295)) (HK.isB_ok (c.fact 0 296)) (HK.isB_ok (c.fact 0 297))
    (HK.isB_ok (c.fact 0 298)) (HK.isB_ok (c.fact 0 299)) (HK.isB_ok (c.fact 0 300)) (HK.isB_ok (c.fact 0 301)) (HK.isB_ok (c.fact 0 302)) (HK.isB_ok (c.fact 0 303)) (HK.isB_ok (c.fact 0 304)) (HK.isB_ok (c.fact 0 305))
    (HK.isB_ok (c.fact 0 306)) (HK.isB_ok (c.fact 0 307))
end K17
open PySem PySem.W PyProof.Rows
set_option maxHeartbeats 0 in
theorem PySem.Challenge.cw_truechain_k17_refusals_apart_holds : PySem.Challenge.rw_truechain_k17_refusals_apart.Holds := by
  w_on; o_law
  refine HandSHeadRun.head_any (r := (PySem.W.OpenLaw.row PySem.Challenge.rw_truechain_k17_refusals_apart)) (q := PySem.W.view (PySem.W.OpenLaw.row PySem.Challenge.rw_truechain_k17_refusals_apart).prog [25]) (H := HK.hook3 6 K17.hk_ex K17.hk_fn K17.hk_ts) (ob := HK.ob3 6 K17.hk_ex K17.hk_fn K17.hk_ts) (M := 60000) (loose := K17.hk_names) (d := HandSHeadRun.topDef (PySem.W.OpenLaw.row PySem.Challenge.rw_truechain_k17_refusals_apart).prog 25) (kwd := []) (HK.ob3_eq _ _ _ _)
    (by kernel_rfl) (fun s => by kernel_rfl) K17.hk_run (by kernel_rfl) (by kernel_rfl) (by kernel_rfl) (by rfl) (by first | assumption | decide +kernel) (by decide +kernel) ⟨rfl, rfl, rfl, rfl, rfl, by decide +kernel⟩ ?hw ?hc
  case hw => w_witness2
  case hc => exact HK.walkH (l := PySem.Challenge.rw_truechain_k17_refusals_apart) (k := 6) (x := "_law_script") rfl (by kernel_rfl) ⟨rfl, by decide, by decide⟩ (by kernel_rfl) fun w K mg fa h X G hfa c => K17.hk_facts X G hfa c
