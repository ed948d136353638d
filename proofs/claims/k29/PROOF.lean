import PyProof.Rows.All
import Wide.All
import OpenK.AllK
import Wide.FinOn
import KE.KStateDown
import KE.KExcIs
import HandS.ExcField
import HandS.ExcInit
import HandS.Words
import HandS.Head0
import HandS.Head1
import HandS.Head2
import HandS.HeadHook1
import HandS.HeadHook2
import HandS.HeadHook3
import PySem.Challenge.RW_truechain_k29_marks_again_shared
import HandS.ForMost
import HandS.Wide
import HandS.WideBits
import HandS.IsInst
import HandS.Deep
import HandS.Conv
import HandS.Exc
import HandS.TupAny
import HandS.Style
import HandS.More
import HandS.ExcOwn
import HandS.TryOnly
import HandS.TryMany
import HandS.SortInts
import HandS.TupLe
import HandS.Strs
import HandS.Text
import HandS.Flow
import HandS.Dict
import KE.Datum
import HandS.WordsExc
import HandS.SetFor
import HandS.TupSets
import HandS.FStr
import KE.KEqNest
import KE.KRevSl
import KE.GoesMore
import KE.GoesZip
import HandS.Iter
import HandS.Flt
import HandS.WordsDict
import HandS.SortKw
import KE.SortKeyHeap
import KE.SortData
import HandS.HotCalls
set_option Elab.async false
set_option linter.all false
set_option maxRecDepth 100000
set_option maxHeartbeats 4000000
namespace DL
open PySem PySem.Spec PyProof.Rows L2
def isX (c c' : Str) : Bool := c == c' || c' == ("ChainError" : Str) || c' == ("ValueError" : Str)
def clsB (K : PySem.W.Frag) (C : Addr) : Bool :=
  PySem.W.plainGet K C Str.empty && (PySem.W.hasDictIn K C && (PySem.W.plainOver K C && decide (PySem.W.findIn K (.ref C) "__setattr__" = some (some (.builtin "object.__setattr__")))))
def metB (K : PySem.W.Frag) (C f : Addr) (m : Str) : Bool := decide (PySem.W.findIn K (.ref C) m = some (some (.ref f))) && (PySem.W.isFn K (.ref f) && PySem.W.keepIn K (.ref f))
def makB (K : PySem.W.Frag) (C f : Addr) : Bool := PySem.W.makesIn K C && (decide (PySem.W.findIn K (.ref C) "__init__" = some (some (.ref f))) && (PySem.W.isFn K (.ref f) && PySem.W.keepIn K (.ref C)))
def isoB (K : PySem.W.Frag) (C : Addr) : Bool := decide (PySem.W.findIn K (.ref C) "__class__" = some (some (.builtin "object.__class__"))) && (decide (PySem.W.specialIn K (.builtin "object.__class__") "__get__" = some (some (.builtin "getset_descriptor.__get__"))) &&
  (decide (PySem.W.takesIn K (.builtin "object.__class__") = some true) && decide (PySem.W.mroIn K C (.type "object") = some true)))
def oexIn (K : PySem.W.Frag) (C : Addr) : Bool := match K.lookup C with
  | some ⟨.type "type", _, .cls cd, sl⟩ => (match cd.mro, sl.toList with
    | .ref C' :: bm, [_, _, _, _, some (.builtin n), _] => C' == C && (n == "ValueError.__new__" && (!cd.hasDel && (cd.hasDict && PySem.HandSPX.refsVE bm)))
    | _, _ => false)
  | _ => false
def exfB (K : PySem.W.Frag) (C : Addr) : Bool := oexIn K C && (decide (PySem.W.findIn K (.ref C) "__setattr__" = some (some (.builtin "object.__setattr__"))) && (decide (PySem.W.subIn K (.ref C) (.type "BaseException") = some true) &&
  (decide (PySem.W.typeIn K (.ref C) = some (.type "type")) && (PySem.W.keepIn K (.ref C) && (xfB K C && ((PySem.W.clsIn K C).isSome && isoB K C))))))
end DL
namespace HK
open PySem PySem.Spec PyProof.Rows L2 He
/-- what an object leads to: a def's code, a class's table, what tables hold -/
def kids (o : Obj) : List Addr := match o.data with
  | .seq its _ => its.toList.flatMap refV
  | .dict es _ => es.toList.flatMap fun e => refV e.val
  | .func fd => refV fd.code ++ refV fd.defaults
  | .cls cd => [cd.ns]
  | .fields vs => vs.toList.flatMap refV
  | _ => []
def lev (g : Addr → Option Obj) : Nat → List Addr → List Addr
  | 0, as => as
  | n + 1, as => as ++ lev g n (as.flatMap fun a => match g a with
    | some o => kids o
    | none => [])
def partK (n : Nat) (g : Addr → Option Obj) : PySem.W.Frag := frG g (lev g n [mainGlobals, PySem.cStatics])
abbrev Ck : Type := PySem.W.Frag → Bool
/-- where a table lies, its keys -/
abbrev Al3 : Type := Bool × List FnV × List (Option (List (Option (Str × Int))))
def obs3 (ex : List (List Ck)) (fn : List FnD) (ts : List (Str × List Str)) (K : PySem.W.Frag) : Al3 :=
  ((ex.all fun r => r.all fun f => f K) && fn.all fun d => (Fa.code d.at_ d.qual).ok K, fn.map fun d => fnObs K d.at_, ts.map fun t => dicW K (ga K t.1))
def val3 (fn : List FnD) (ts : List (Str × List Str)) (w : World) : Al3 := (true, fn.map FnD.val, ts.map fun t => some (keysIn w.params t.2))
def Says3 (ex : List (List Ck)) (fn : List FnD) (ts : List (Str × List Str)) (w : World) (K : PySem.W.Frag) : Prop := obs3 ex fn ts K = val3 fn ts w
def hook3 (n : Nat) (ex : List (List Ck)) (fn : List FnD) (ts : List (Str × List Str)) : PySem.W.Hook where
  α := Al3
  obs := fun s => obs3 ex fn ts (partK n s.heap.get?)
  val := fun w => val3 fn ts w
  says := fun w h => ∃ K : PySem.W.Frag, K.In h ∧ Says3 ex fn ts w K
  of := fun _ _ e => ⟨_, frG_in, e⟩
  keeps := fun _ _ _ ⟨K, hK, c⟩ k => ⟨K, PySem.W.Frag.In.keeps hK k, c⟩
def ob3 (n : Nat) (ex : List (List Ck)) (fn : List FnD) (ts : List (Str × List Str)) (s : PySem.W.SharedT) : Al3 := obs3 ex fn ts (partK n (HandSHeadRun.getT s))
theorem ob3_eq (n : Nat) (ex : List (List Ck)) (fn : List FnD) (ts : List (Str × List Str)) (s : PySem.W.SharedT) : ob3 n ex fn ts s = (hook3 n ex fn ts).obs s.abs := by
  have e : HandSHeadRun.getT s = s.abs.heap.get? := funext (HandSHeadRun.getT_eq s)
  unfold ob3
  rw [e] <;> rfl
section
variable {r : PySem.W.OpenRow} {q : Program} {M n : Nat} {loose : List Str} {ex : List (List Ck)} {fn : List FnD} {ts : List (Str × List Str)}
/-- the state behind the top, seen by f -/
abbrev Seen (r : PySem.W.OpenRow) (M : Nat) {α : Type} (f : World → PySem.W.SharedT → α) (v : World → α) (w : World) : Prop :=
  ∀ os : OsState, (HandSHeadRun.endF (HandSHeadRun.stepQ (HandSHeadRun.denQ HandSHeadRun.tabQ) r.prog w) M r.prog w os).map (f w) = some (v w)
noncomputable abbrev lookS (r : PySem.W.OpenRow) (q : Program) (loose : List Str) (w : World) (s : PySem.W.SharedT) := (HandSHeadRun.looksF r.prog (PySem.W.boot_heap w.params) s.abs, HandSHeadRun.seenQ q loose (importedModules r.prog.main.body) (fun s => PySem.W.xlAt q [] s && PySem.W.recOk r.toRowW.records s) s.abs)
abbrev goodS (q : Program) (loose : List Str) (w : World) := (true, PySem.W.openGood q loose)
abbrev exS (n : Nat) (ex : List (List Ck)) (w : World) (s : PySem.W.SharedT) : Bool := ex.all fun r => r.all fun f => f (partK n (HandSHeadRun.getT s))
abbrev cdS (n : Nat) (fn : List FnD) (ts : List (Str × List Str)) (w : World) (s : PySem.W.SharedT) : Bool × List FnV × List (Option (List (Option (Str × Int)))) := (fn.all fun d => (Fa.code d.at_ d.qual).ok (partK n (HandSHeadRun.getT s)), fn.map fun d => fnObs (partK n (HandSHeadRun.getT s)) d.at_,
  ts.map fun t => dicW (partK n (HandSHeadRun.getT s)) (ga (partK n (HandSHeadRun.getT s)) t.1))
abbrev yesS (w : World) : Bool := true
theorem run_parts (w : World) (hA : Seen r M (lookS r q loose) (goodS q loose) w) (hB : ∀ e ∈ ex, Seen r M (exS n [e]) yesS w) (hC : Seen r M (cdS n fn ts) (fun w => (true, fn.map FnD.val, ts.map fun t => some (keysIn w.params t.2))) w) :
    HandSHeadRun.RunEq r q (hook3 n ex fn ts) (ob3 n ex fn ts) M loose w := by
  intro os
  obtain ⟨s, hs, a⟩ := Option.map_eq_some_iff.mp (hA os)
  have c := hC os
  rw [hs] at c ⊢
  have c := Option.some.inj c
  obtain ⟨a1, a2⟩ := Prod.mk.inj a
  obtain ⟨c1, c2⟩ := Prod.mk.inj c
  obtain ⟨c2, d⟩ := Prod.mk.inj c2
  have e : (ex.all fun r => r.all fun f => f (partK n (HandSHeadRun.getT s))) = true := List.all_eq_true.mpr fun x hx => by
    have b := hB x hx os
    rw [hs] at b
    have b : ([x].all fun r => r.all fun f => f (partK n (HandSHeadRun.getT s))) = true := Option.some.inj b
    exact List.all_eq_true.mp b x List.mem_cons_self
  show some _ = some _
  congr 1
  refine Prod.ext a1 (Prod.ext a2 ?_)
  show obs3 ex fn ts (partK n (HandSHeadRun.getT s)) = val3 fn ts w
  unfold obs3 val3
  rw [e, c1, c2]
  exact Prod.ext rfl (Prod.ext rfl d)
end
/-- the module's name x is a dict of these values, in order -/
def dicB (K : PySem.W.Frag) (x : Str) (kvs : List (Str × V)) : Bool := eqO (PySem.W.nsIn K mainGlobals x) (some (some (.ref (ga K x)))) && (match K.lookup (ga K x) with
  | some ⟨_, _, .dict es _, _⟩ => relAll (kvs.map (·.2)) (es.toList.map (·.val))
  | _ => false)
def isO (a b : Option Value) : Bool := decide (a = b)
def isB (a b : Option Bool) : Bool := decide (a = b)
def isC (a : Option PySem.W.CFound) (v : Value) : Bool := match a with
  | some (.val u) => decide (u = v)
  | _ => false
end HK
namespace K29
open PySem PySem.Spec PyProof.Rows L2 DL
def topS (i : Nat) : Stmt := PySem.Challenge.pw_truechain_k29_marks_again_shared.main.body.getD i (.Pass ⟨0, 0, 0, 0⟩)
def clsS (i j : Nat) : Stmt := match topS i with | .ClassDef _ _ _ b .. => b.getD j (.Pass ⟨0, 0, 0, 0⟩) | s => s
abbrev s_is_whole : Stmt := topS 7
abbrev s_is_between : Stmt := topS 8
abbrev s_is_point : Stmt := topS 9
abbrev s_is_spot : Stmt := topS 10
abbrev s_lowest : Stmt := topS 12
abbrev s_is_fraction : Stmt := topS 13
abbrev s_need_two : Stmt := topS 14
abbrev s_fraction : Stmt := topS 15
abbrev s_plus : Stmt := topS 16
abbrev s_are_marks : Stmt := topS 20
abbrev s_Marking___init : Stmt := clsS 21 0
abbrev s_Marking_marks : Stmt := clsS 21 1
abbrev s_Marking_counts : Stmt := clsS 21 3
abbrev s_Scale_takes : Stmt := clsS 22 1
abbrev s_Box_takes : Stmt := clsS 23 1
abbrev s_Marking_fits : Stmt := clsS 21 4
abbrev s_Scale_counts : Stmt := clsS 22 2
abbrev s_Marking_mix : Stmt := clsS 21 5
abbrev s_Scale___init : Stmt := clsS 22 0
abbrev s_Box___init : Stmt := clsS 23 0
abbrev s_marks_of : Stmt := topS 24
abbrev s_law_bag : Stmt := topS 26
abbrev s_law_take : Stmt := topS 27
abbrev s_law_alike : Stmt := topS 28
abbrev s_law_copy : Stmt := topS 29
abbrev s_law_low : Stmt := topS 30
abbrev s_law_plus : Stmt := topS 31
abbrev s_law_marks : Stmt := topS 32
abbrev s_law_spot : Stmt := topS 33
abbrev s_law_fits : Stmt := topS 34
abbrev s_law_mix : Stmt := topS 35
abbrev s_law_made : Stmt := topS 36
abbrev s_law_put : Stmt := topS 37
abbrev s_law_mix_told : Stmt := topS 38
abbrev s_law_asked : Stmt := topS 39
abbrev s_law_spots : Stmt := topS 40
abbrev s_law : Stmt := topS 41
abbrev s_NoSpot___init : Stmt := clsS 3 0
def hk_fn0 : List He.FnD := [
  ⟨("is_whole", none), "is_whole", "is_whole", defArgs s_is_whole, defBody s_is_whole, defScope s_is_whole⟩,
  ⟨("is_between", none), "is_between", "is_between", defArgs s_is_between, defBody s_is_between, defScope s_is_between⟩,
  ⟨("is_point", none), "is_point", "is_point", defArgs s_is_point, defBody s_is_point, defScope s_is_point⟩,
  ⟨("is_spot", none), "is_spot", "is_spot", defArgs s_is_spot, defBody s_is_spot, defScope s_is_spot⟩,
  ⟨("lowest", none), "lowest", "lowest", defArgs s_lowest, defBody s_lowest, defScope s_lowest⟩,
  ⟨("is_fraction", none), "is_fraction", "is_fraction", defArgs s_is_fraction, defBody s_is_fraction, defScope s_is_fraction⟩,
  ⟨("need_two", none), "need_two", "need_two", defArgs s_need_two, defBody s_need_two, defScope s_need_two⟩,
  ⟨("fraction", none), "fraction", "fraction", defArgs s_fraction, defBody s_fraction, defScope s_fraction⟩,
  ⟨("plus", none), "plus", "plus", defArgs s_plus, defBody s_plus, defScope s_plus⟩,
  ⟨("are_marks", none), "are_marks", "are_marks", defArgs s_are_marks, defBody s_are_marks, defScope s_are_marks⟩,
  ⟨("Marking", some "__init__"), "__init__", "Marking.__init__", defArgs s_Marking___init, defBody s_Marking___init, defScope s_Marking___init⟩,
  ⟨("Marking", some "marks"), "marks", "Marking.marks", defArgs s_Marking_marks, defBody s_Marking_marks, defScope s_Marking_marks⟩,
  ⟨("Marking", some "counts"), "counts", "Marking.counts", defArgs s_Marking_counts, defBody s_Marking_counts, defScope s_Marking_counts⟩,
  ⟨("Scale", some "takes"), "takes", "Scale.takes", defArgs s_Scale_takes, defBody s_Scale_takes, defScope s_Scale_takes⟩,
  ⟨("Box", some "takes"), "takes", "Box.takes", defArgs s_Box_takes, defBody s_Box_takes, defScope s_Box_takes⟩,
  ⟨("Marking", some "fits"), "fits", "Marking.fits", defArgs s_Marking_fits, defBody s_Marking_fits, defScope s_Marking_fits⟩,
  ⟨("Scale", some "counts"), "counts", "Scale.counts", defArgs s_Scale_counts, defBody s_Scale_counts, defScope s_Scale_counts⟩,
  ⟨("Marking", some "mix"), "mix", "Marking.mix", defArgs s_Marking_mix, defBody s_Marking_mix, defScope s_Marking_mix⟩,
  ⟨("Scale", some "__init__"), "__init__", "Scale.__init__", defArgs s_Scale___init, defBody s_Scale___init, defScope s_Scale___init⟩,
  ⟨("Box", some "__init__"), "__init__", "Box.__init__", defArgs s_Box___init, defBody s_Box___init, defScope s_Box___init⟩,
  ⟨("marks_of", none), "marks_of", "marks_of", defArgs s_marks_of, defBody s_marks_of, defScope s_marks_of⟩,
  ⟨("_law_bag", none), "_law_bag", "_law_bag", defArgs s_law_bag, defBody s_law_bag, defScope s_law_bag⟩,
  ⟨("_law_take", none), "_law_take", "_law_take", defArgs s_law_take, defBody s_law_take, defScope s_law_take⟩,
  ⟨("_law_alike", none), "_law_alike", "_law_alike", defArgs s_law_alike, defBody s_law_alike, defScope s_law_alike⟩,
  ⟨("_law_copy", none), "_law_copy", "_law_copy", defArgs s_law_copy, defBody s_law_copy, defScope s_law_copy⟩,
  ⟨("_law_low", none), "_law_low", "_law_low", defArgs s_law_low, defBody s_law_low, defScope s_law_low⟩,
  ⟨("_law_plus", none), "_law_plus", "_law_plus", defArgs s_law_plus, defBody s_law_plus, defScope s_law_plus⟩,
  ⟨("_law_marks", none), "_law_marks", "_law_marks", defArgs s_law_marks, defBody s_law_marks, defScope s_law_marks⟩,
  ⟨("_law_spot", none), "_law_spot", "_law_spot", defArgs s_law_spot, defBody s_law_spot, defScope s_law_spot⟩,
  ⟨("_law_fits", none), "_law_fits", "_law_fits", defArgs s_law_fits, defBody s_law_fits, defScope s_law_fits⟩,
  ⟨("_law_mix", none), "_law_mix", "_law_mix", defArgs s_law_mix, defBody s_law_mix, defScope s_law_mix⟩,
  ⟨("_law_made", none), "_law_made", "_law_made", defArgs s_law_made, defBody s_law_made, defScope s_law_made⟩,
  ⟨("_law_put", none), "_law_put", "_law_put", defArgs s_law_put, defBody s_law_put, defScope s_law_put⟩,
  ⟨("_law_mix_told", none), "_law_mix_told", "_law_mix_told", defArgs s_law_mix_told, defBody s_law_mix_told, defScope s_law_mix_told⟩,
  ⟨("_law_asked", none), "_law_asked", "_law_asked", defArgs s_law_asked, defBody s_law_asked, defScope s_law_asked⟩,
  ⟨("_law_spots", none), "_law_spots", "_law_spots", defArgs s_law_spots, defBody s_law_spots, defScope s_law_spots⟩]
def hk_fn1 : List He.FnD := [
  ⟨("law", none), "law", "law", defArgs s_law, defBody s_law, defScope s_law⟩,
  ⟨("NoSpot", some "__init__"), "__init__", "NoSpot.__init__", defArgs s_NoSpot___init, defBody s_NoSpot___init, defScope s_NoSpot___init⟩]
def hk_fn : List He.FnD := hk_fn0 ++ (hk_fn1)
def hk_ex0 : List HK.Ck := [
  fun K => He.eqO (PySem.W.nsIn K mainGlobals "Scale") (some (some (.ref (He.ga K "Scale")))),
  fun K => He.eqO (PySem.W.nsIn K mainGlobals "Box") (some (some (.ref (He.ga K "Box")))),
  fun K => He.eqO (PySem.W.nsIn K mainGlobals "NoSpot") (some (some (.ref (He.ga K "NoSpot")))),
  fun K => He.eqO (PySem.W.nsIn K mainGlobals "ChainError") (some (some (.ref (He.ga K "ChainError")))),
  fun K => He.eqO (PySem.W.nsIn K mainGlobals "Marking") (some (some (.ref (He.ga K "Marking")))),
  fun K => He.eqO (PySem.W.nsIn K mainGlobals "is_whole") (some (some (.ref (He.fAd K ("is_whole", none))))),
  fun K => PySem.W.keepIn K (.ref (He.fAd K ("is_whole", none))),
  fun K => He.eqO (PySem.W.nsIn K mainGlobals "is_between") (some (some (.ref (He.fAd K ("is_between", none))))),
  fun K => PySem.W.keepIn K (.ref (He.fAd K ("is_between", none))),
  fun K => He.eqO (PySem.W.nsIn K mainGlobals "is_point") (some (some (.ref (He.fAd K ("is_point", none))))),
  fun K => PySem.W.keepIn K (.ref (He.fAd K ("is_point", none))),
  fun K => He.eqO (PySem.W.nsIn K mainGlobals "is_spot") (some (some (.ref (He.fAd K ("is_spot", none))))),
  fun K => PySem.W.keepIn K (.ref (He.fAd K ("is_spot", none))),
  fun K => He.eqO (PySem.W.nsIn K mainGlobals "lowest") (some (some (.ref (He.fAd K ("lowest", none))))),
  fun K => PySem.W.keepIn K (.ref (He.fAd K ("lowest", none))),
  fun K => He.eqO (PySem.W.nsIn K mainGlobals "is_fraction") (some (some (.ref (He.fAd K ("is_fraction", none))))),
  fun K => PySem.W.keepIn K (.ref (He.fAd K ("is_fraction", none))),
  fun K => He.eqO (PySem.W.nsIn K mainGlobals "need_two") (some (some (.ref (He.fAd K ("need_two", none))))),
  fun K => PySem.W.keepIn K (.ref (He.fAd K ("need_two", none))),
  fun K => He.eqO (PySem.W.nsIn K mainGlobals "fraction") (some (some (.ref (He.fAd K ("fraction", none))))),
  fun K => PySem.W.keepIn K (.ref (He.fAd K ("fraction", none))),
  fun K => He.eqO (PySem.W.nsIn K mainGlobals "plus") (some (some (.ref (He.fAd K ("plus", none))))),
  fun K => PySem.W.keepIn K (.ref (He.fAd K ("plus", none))),
  fun K => He.eqO (PySem.W.nsIn K mainGlobals "are_marks") (some (some (.ref (He.fAd K ("are_marks", none))))),
  fun K => PySem.W.keepIn K (.ref (He.fAd K ("are_marks", none))),
  fun K => He.eqO (PySem.W.findIn K (.ref (He.ga K "Marking")) "__init__") (some (some (.ref (He.fAd K ("Marking", some "__init__"))))),
  fun K => PySem.W.keepIn K (.ref (He.fAd K ("Marking", some "__init__"))),
  fun K => He.eqO (PySem.W.findIn K (.ref (He.ga K "Marking")) "marks") (some (some (.ref (He.fAd K ("Marking", some "marks"))))),
  fun K => PySem.W.keepIn K (.ref (He.fAd K ("Marking", some "marks"))),
  fun K => He.eqO (PySem.W.findIn K (.ref (He.ga K "Marking")) "counts") (some (some (.ref (He.fAd K ("Marking", some "counts"))))),
  fun K => PySem.W.keepIn K (.ref (He.fAd K ("Marking", some "counts"))),
  fun K => He.eqO (PySem.W.findIn K (.ref (He.ga K "Scale")) "takes") (some (some (.ref (He.fAd K ("Scale", some "takes"))))),
  fun K => PySem.W.keepIn K (.ref (He.fAd K ("Scale", some "takes"))),
  fun K => He.eqO (PySem.W.findIn K (.ref (He.ga K "Box")) "takes") (some (some (.ref (He.fAd K ("Box", some "takes"))))),
  fun K => PySem.W.keepIn K (.ref (He.fAd K ("Box", some "takes"))),
  fun K => He.eqO (PySem.W.findIn K (.ref (He.ga K "Marking")) "fits") (some (some (.ref (He.fAd K ("Marking", some "fits")))))]
def hk_ex1 : List HK.Ck := [
  fun K => PySem.W.keepIn K (.ref (He.fAd K ("Marking", some "fits"))),
  fun K => He.eqO (PySem.W.findIn K (.ref (He.ga K "Scale")) "counts") (some (some (.ref (He.fAd K ("Scale", some "counts"))))),
  fun K => PySem.W.keepIn K (.ref (He.fAd K ("Scale", some "counts"))),
  fun K => He.eqO (PySem.W.findIn K (.ref (He.ga K "Marking")) "mix") (some (some (.ref (He.fAd K ("Marking", some "mix"))))),
  fun K => PySem.W.keepIn K (.ref (He.fAd K ("Marking", some "mix"))),
  fun K => He.eqO (PySem.W.findIn K (.ref (He.ga K "Scale")) "__init__") (some (some (.ref (He.fAd K ("Scale", some "__init__"))))),
  fun K => PySem.W.keepIn K (.ref (He.fAd K ("Scale", some "__init__"))),
  fun K => He.eqO (PySem.W.findIn K (.ref (He.ga K "Box")) "__init__") (some (some (.ref (He.fAd K ("Box", some "__init__"))))),
  fun K => PySem.W.keepIn K (.ref (He.fAd K ("Box", some "__init__"))),
  fun K => He.eqO (PySem.W.nsIn K mainGlobals "marks_of") (some (some (.ref (He.fAd K ("marks_of", none))))),
  fun K => PySem.W.keepIn K (.ref (He.fAd K ("marks_of", none))),
  fun K => He.eqO (PySem.W.nsIn K mainGlobals "_law_bag") (some (some (.ref (He.fAd K ("_law_bag", none))))),
  fun K => PySem.W.keepIn K (.ref (He.fAd K ("_law_bag", none))),
  fun K => He.eqO (PySem.W.nsIn K mainGlobals "_law_take") (some (some (.ref (He.fAd K ("_law_take", none))))),
  fun K => PySem.W.keepIn K (.ref (He.fAd K ("_law_take", none))),
  fun K => He.eqO (PySem.W.nsIn K mainGlobals "_law_alike") (some (some (.ref (He.fAd K ("_law_alike", none))))),
  fun K => PySem.W.keepIn K (.ref (He.fAd K ("_law_alike", none))),
  fun K => He.eqO (PySem.W.nsIn K mainGlobals "_law_copy") (some (some (.ref (He.fAd K ("_law_copy", none))))),
  fun K => PySem.W.keepIn K (.ref (He.fAd K ("_law_copy", none))),
  fun K => He.eqO (PySem.W.nsIn K mainGlobals "_law_low") (some (some (.ref (He.fAd K ("_law_low", none))))),
  fun K => PySem.W.keepIn K (.ref (He.fAd K ("_law_low", none))),
  fun K => He.eqO (PySem.W.nsIn K mainGlobals "_law_plus") (some (some (.ref (He.fAd K ("_law_plus", none))))),
  fun K => PySem.W.keepIn K (.ref (He.fAd K ("_law_plus", none))),
  fun K => He.eqO (PySem.W.nsIn K mainGlobals "_law_marks") (some (some (.ref (He.fAd K ("_law_marks", none))))),
  fun K => PySem.W.keepIn K (.ref (He.fAd K ("_law_marks", none))),
  fun K => He.eqO (PySem.W.nsIn K mainGlobals "_law_spot") (some (some (.ref (He.fAd K ("_law_spot", none))))),
  fun K => PySem.W.keepIn K (.ref (He.fAd K ("_law_spot", none))),
  fun K => He.eqO (PySem.W.nsIn K mainGlobals "_law_fits") (some (some (.ref (He.fAd K ("_law_fits", none))))),
  fun K => PySem.W.keepIn K (.ref (He.fAd K ("_law_fits", none))),
  fun K => He.eqO (PySem.W.nsIn K mainGlobals "_law_mix") (some (some (.ref (He.fAd K ("_law_mix", none))))),
  fun K => PySem.W.keepIn K (.ref (He.fAd K ("_law_mix", none))),
  fun K => He.eqO (PySem.W.nsIn K mainGlobals "_law_made") (some (some (.ref (He.fAd K ("_law_made", none))))),
  fun K => PySem.W.keepIn K (.ref (He.fAd K ("_law_made", none))),
  fun K => He.eqO (PySem.W.nsIn K mainGlobals "_law_put") (some (some (.ref (He.fAd K ("_law_put", none))))),
  fun K => PySem.W.keepIn K (.ref (He.fAd K ("_law_put", none))),
  fun K => He.eqO (PySem.W.nsIn K mainGlobals "_law_mix_told") (some (some (.ref (He.fAd K ("_law_mix_told", none)))))]
def hk_ex2 : List HK.Ck := [
  fun K => PySem.W.keepIn K (.ref (He.fAd K ("_law_mix_told", none))),
  fun K => He.eqO (PySem.W.nsIn K mainGlobals "_law_asked") (some (some (.ref (He.fAd K ("_law_asked", none))))),
  fun K => PySem.W.keepIn K (.ref (He.fAd K ("_law_asked", none))),
  fun K => He.eqO (PySem.W.nsIn K mainGlobals "_law_spots") (some (some (.ref (He.fAd K ("_law_spots", none))))),
  fun K => PySem.W.keepIn K (.ref (He.fAd K ("_law_spots", none))),
  fun K => He.eqO (PySem.W.nsIn K mainGlobals "law") (some (some (.ref (He.fAd K ("law", none))))),
  fun K => PySem.W.keepIn K (.ref (He.fAd K ("law", none))),
  fun K => He.eqO (PySem.W.findIn K (.ref (He.ga K "NoSpot")) "__init__") (some (some (.ref (He.fAd K ("NoSpot", some "__init__"))))),
  fun K => PySem.W.keepIn K (.ref (He.fAd K ("NoSpot", some "__init__"))),
  fun K => He.eqO (PySem.W.nsIn K mainGlobals "isinstance") (some none),
  fun K => He.eqO (PySem.W.nsIn K mainGlobals "int") (some none),
  fun K => He.eqO (PySem.W.nsIn K mainGlobals "bool") (some none),
  fun K => He.eqO (PySem.W.nsIn K mainGlobals "list") (some none),
  fun K => He.eqO (PySem.W.nsIn K mainGlobals "len") (some none),
  fun K => He.eqO (PySem.W.nsIn K mainGlobals "abs") (some none),
  fun K => He.eqO (PySem.W.nsIn K mainGlobals "tuple") (some none),
  fun K => He.eqO (PySem.W.nsIn K mainGlobals "range") (some none),
  fun K => He.eqO (PySem.W.nsIn K mainGlobals "sorted") (some none),
  fun K => He.eqO (PySem.W.nsIn K mainGlobals "str") (some none),
  fun K => He.eqO (PySem.W.nsIn K mainGlobals "repr") (some none),
  fun K => He.eqO (PySem.W.nsIn K mainGlobals "set") (some none),
  fun K => He.eqO (PySem.W.nsIn K mainGlobals "max") (some none),
  fun K => He.eqO (PySem.W.nsIn K mainGlobals "min") (some none),
  fun K => (He.Fa.int "MOST_POINT" (1000)).ok K,
  fun K => (He.Fa.int "MOST_POINTS" (6)).ok K,
  fun K => (He.Fa.int "MOST_MARKS" (8)).ok K,
  fun K => clsB K (He.ga K "Box"),
  fun K => He.eqO (PySem.W.findIn K (.ref (He.ga K "Box")) "told_marks") (some none),
  fun K => clsB K (He.ga K "Scale"),
  fun K => He.eqO (PySem.W.findIn K (.ref (He.ga K "Scale")) "told_marks") (some none),
  fun K => metB K (He.ga K "Box") (He.fAd K ("Box", some "takes")) "takes",
  fun K => metB K (He.ga K "Scale") (He.fAd K ("Scale", some "takes")) "takes",
  fun K => exfB K (He.ga K "NoSpot"),
  fun K => HK.isO (PySem.W.typeIn K (.ref (He.fAd K ("NoSpot", some "__init__")))) (some (.type "function")),
  fun K => He.eqO (PySem.W.specialIn K (.ref (He.ga K "ChainError")) "__getattribute__") (some (some (.builtin "type.__getattribute__"))),
  fun K => PySem.W.readsIn K (He.ga K "ChainError") (.type "type")]
def hk_ex3 : List HK.Ck := [
  fun K => HK.isC (PySem.W.findCls K (.ref (He.ga K "ChainError")) (.type "type") "__init__") (.builtin "ValueError.__init__"),
  fun K => metB K (He.ga K "Box") (He.fAd K ("Marking", some "counts")) "counts",
  fun K => metB K (He.ga K "Scale") (He.fAd K ("Scale", some "counts")) "counts",
  fun K => HK.dicB K "FEWEST" [("scale", V.int 2), ("box", V.int 1)],
  fun K => He.eqO (PySem.W.specialIn K (.ref (He.ga K "Marking")) "__getattribute__") (some (some (.builtin "type.__getattribute__"))),
  fun K => PySem.W.readsIn K (He.ga K "Marking") (.type "type"),
  fun K => HK.isC (PySem.W.findCls K (.ref (He.ga K "Marking")) (.type "type") "__init__") (.ref (He.fAd K ("Marking", some "__init__"))),
  fun K => makB K (He.ga K "Scale") (He.fAd K ("Scale", some "__init__")),
  fun K => makB K (He.ga K "Box") (He.fAd K ("Box", some "__init__")),
  fun K => HK.isB (PySem.W.exmOne K (.ref (He.ga K "NoSpot")) (.ref (He.ga K "NoSpot"))) (some (isX "NoSpot" "NoSpot")),
  fun K => metB K (He.ga K "Box") (He.fAd K ("Marking", some "mix")) "mix",
  fun K => metB K (He.ga K "Scale") (He.fAd K ("Marking", some "mix")) "mix",
  fun K => metB K (He.ga K "Box") (He.fAd K ("Marking", some "marks")) "marks",
  fun K => metB K (He.ga K "Scale") (He.fAd K ("Marking", some "marks")) "marks",
  fun K => metB K (He.ga K "Box") (He.fAd K ("Marking", some "fits")) "fits",
  fun K => metB K (He.ga K "Scale") (He.fAd K ("Marking", some "fits")) "fits"]
def hk_ts : List (Str × List Str) := [("FEWEST", ["scale", "box"])]
def hk_names0 : List Str := ["ChainError", "Wrong", "NoSpot", "MOST_POINT", "MOST_POINTS", "is_whole", "is_between", "is_point", "is_spot", "lowest", "is_fraction", "need_two", "fraction", "plus", "MOST_MARKS", "FEWEST", "are_marks", "Marking", "Scale", "Box"]
def hk_names1 : List Str := ["marks_of", "_law_bag", "_law_take", "_law_alike", "_law_copy", "_law_low", "_law_plus", "_law_marks", "_law_spot", "_law_fits", "_law_mix", "_law_made", "_law_put", "_law_mix_told", "_law_asked", "_law_spots"]
def hk_names : List Str := hk_names0 ++ (hk_names1)
def hk_ex : List (List HK.Ck) := [hk_ex0 ++ (hk_ex1 ++ (hk_ex2 ++ (hk_ex3)))]
end K29
namespace K29
open PySem PySem.Spec PyProof.Rows L2 DL
theorem hk_runA (w : World) : HK.Seen (PySem.W.OpenLaw.row PySem.Challenge.rw_truechain_k29_marks_again_shared) 60000 (HK.lookS (PySem.W.OpenLaw.row PySem.Challenge.rw_truechain_k29_marks_again_shared) (PySem.W.view (PySem.W.OpenLaw.row PySem.Challenge.rw_truechain_k29_marks_again_shared).prog [41]) hk_names) (HK.goodS (PySem.W.view (PySem.W.OpenLaw.row PySem.Challenge.rw_truechain_k29_marks_again_shared).prog [41]) hk_names) w :=
  PySem.W.byRow2 "special-get-raises" (P := HK.Seen (PySem.W.OpenLaw.row PySem.Challenge.rw_truechain_k29_marks_again_shared) 60000 (HK.lookS (PySem.W.OpenLaw.row PySem.Challenge.rw_truechain_k29_marks_again_shared) (PySem.W.view (PySem.W.OpenLaw.row PySem.Challenge.rw_truechain_k29_marks_again_shared).prog [41]) hk_names) (HK.goodS (PySem.W.view (PySem.W.OpenLaw.row PySem.Challenge.rw_truechain_k29_marks_again_shared).prog [41]) hk_names)) (fun w => by intro os; kernel_rfl) (fun w => by intro os; kernel_rfl) w
theorem hk_runB0 (w : World) : HK.Seen (PySem.W.OpenLaw.row PySem.Challenge.rw_truechain_k29_marks_again_shared) 60000 (HK.exS 6 [hk_ex0 ++ (hk_ex1 ++ (hk_ex2 ++ (hk_ex3)))]) (HK.yesS) w :=
  PySem.W.byRow2 "special-get-raises" (P := HK.Seen (PySem.W.OpenLaw.row PySem.Challenge.rw_truechain_k29_marks_again_shared) 60000 (HK.exS 6 [hk_ex0 ++ (hk_ex1 ++ (hk_ex2 ++ (hk_ex3)))]) (HK.yesS)) (fun w => by intro os; kernel_rfl) (fun w => by intro os; kernel_rfl) w
theorem hk_runC (w : World) : HK.Seen (PySem.W.OpenLaw.row PySem.Challenge.rw_truechain_k29_marks_again_shared) 60000 (HK.cdS 6 hk_fn hk_ts) (fun w => (true, hk_fn.map He.FnD.val, hk_ts.map fun t => some (He.keysIn w.params t.2))) w :=
  PySem.W.byRow2 "special-get-raises" (P := HK.Seen (PySem.W.OpenLaw.row PySem.Challenge.rw_truechain_k29_marks_again_shared) 60000 (HK.cdS 6 hk_fn hk_ts) (fun w => (true, hk_fn.map He.FnD.val, hk_ts.map fun t => some (He.keysIn w.params t.2)))) (fun w => by intro os; kernel_rfl) (fun w => by intro os; kernel_rfl) w
theorem hk_run (w : World) : HandSHeadRun.RunEq (PySem.W.OpenLaw.row PySem.Challenge.rw_truechain_k29_marks_again_shared) (PySem.W.view (PySem.W.OpenLaw.row PySem.Challenge.rw_truechain_k29_marks_again_shared).prog [41]) (HK.hook3 6 hk_ex hk_fn hk_ts) (HK.ob3 6 hk_ex hk_fn hk_ts) 60000 hk_names w :=
  HK.run_parts w (hk_runA w) (fun e he => by
    rcases List.mem_cons.mp he with rfl | he; · exact hk_runB0 w
    cases he) (hk_runC w)
end K29
namespace DL
open PySem PySem.Spec PyProof.Rows L2
/-- data: frozen trees, and pointers into the store of what may still change -/
inductive D where
  | non | bl (b : Bool) | int (i : Int) | str (x : Str)
  | tup (ds : List D) | lst (ds : List D) | fz (ds : List D) | ptr (i : Nat) | ty (n : String)
  | dic (kvs : List (L2.Key × D)) | adr (a : Addr) | gl (x : Str)
/-- the module's names that stand for objects: defs, classes -/
class Cl where
  ad : Str → Option Addr
instance (priority := low) clNone : Cl := ⟨fun _ => none⟩
variable [Cl]
/-- the data world: where the store's cells lie, the frozen heap -/
structure Wd where
  be : List Addr
  st : Hp
structure Wd.Le (W W' : Wd) : Prop where
  be : ∀ (i : Nat) (a : Addr), W.be[i]? = some a → W'.be[i]? = some a
  st : Same W.st W'.st
theorem Wd.Le.refl (W : Wd) : W.Le W := ⟨fun _ _ h => h, Same.refl _⟩
theorem Wd.Le.trans {W W' W'' : Wd} (h : W.Le W') (h' : W'.Le W'') : W.Le W'' := ⟨fun i a e => h'.be i a (h.be i a e), h.st.trans h'.st⟩
mutual
inductive R (K : PySem.W.Frag) (W : Wd) : V → D → Prop
  | non : R K W .non .non
  | bl (b : Bool) : R K W (.bl b) (.bl b)
  | int (i : Int) : R K W (.int i) (.int i)
  | str (x : Str) : R K W (.str x) (.str x)
  | tup {a : Addr} {xs : List V} {ds : List D} : SqT K W.st a xs → RA K W xs ds → R K W (.ref a) (.tup ds)
  | lst {a : Addr} {xs : List V} {ds : List D} : W.st a = some (.lst xs) → RA K W xs ds → R K W (.ref a) (.lst ds)
  | fz {a : Addr} {xs : List V} {ds : List D} : SqL K W.st a xs → RA K W xs ds → R K W (.ref a) (.fz ds)
  | ty (n : String) : R K W (.ty n) (.ty n)
  | ptr {a : Addr} {i : Nat} : W.be[i]? = some a → R K W (.ref a) (.ptr i)
  | dic {a : Addr} {xs : List (L2.Key × V)} {ds : List (L2.Key × D)} : W.st a = some (.dK xs) → RD K W xs ds → R K W (.ref a) (.dic ds)
  | adr (a : Addr) : R K W (.ref a) (.adr a)
  | gl {a : Addr} {x : Str} : Cl.ad x = some a → R K W (.ref a) (.gl x)
inductive RA (K : PySem.W.Frag) (W : Wd) : List V → List D → Prop
  | nil : RA K W [] []
  | cons {v : V} {vs : List V} {d : D} {ds : List D} : R K W v d → RA K W vs ds → RA K W (v :: vs) (d :: ds)
inductive RD (K : PySem.W.Frag) (W : Wd) : List (L2.Key × V) → List (L2.Key × D) → Prop
  | nil : RD K W [] []
  | cons {k : L2.Key} {v : V} {vs : List (L2.Key × V)} {d : D} {ds : List (L2.Key × D)} : R K W v d → RD K W vs ds → RD K W ((k, v) :: vs) ((k, d) :: ds)
end
section
variable {K : PySem.W.Frag} {W W' : Wd}
theorem same_seqL {H H' : Hp} (s : Same H H') {a : Addr} {xs : List V} (h : SqL K H a xs) : SqL K H' a xs := s.seq h
theorem same_seqT {H H' : Hp} (s : Same H H') {a : Addr} {xs : List V} (h : SqT K H a xs) : SqT K H' a xs := by
  rcases h with (h | ⟨o, h⟩) | h
  · exact .inl (.inl (s _ _ h))
  · exact .inl (.inr ⟨o, s _ _ h⟩)
  · exact .inr h
mutual
theorem R.mono (l : W.Le W') : ∀ {v : V} {d : D}, R K W v d → R K W' v d
  | _, _, .non => .non
  | _, _, .bl b => .bl b
  | _, _, .int i => .int i
  | _, _, .str x => .str x
  | _, _, .tup h r => .tup (same_seqT l.st h) (RA.mono l r)
  | _, _, .lst h r => .lst (l.st _ _ h) (RA.mono l r)
  | _, _, .fz h r => .fz (same_seqL l.st h) (RA.mono l r)
  | _, _, .ty n => .ty n
  | _, _, .ptr h => .ptr (l.be _ _ h)
  | _, _, .dic h r => .dic (l.st _ _ h) (RD.mono l r)
  | _, _, .adr a => .adr a
  | _, _, .gl h => .gl h
theorem RA.mono (l : W.Le W') : ∀ {vs : List V} {ds : List D}, RA K W vs ds → RA K W' vs ds
  | _, _, .nil => .nil
  | _, _, .cons h r => .cons (R.mono l h) (RA.mono l r)
theorem RD.mono (l : W.Le W') : ∀ {vs : List (L2.Key × V)} {ds : List (L2.Key × D)}, RD K W vs ds → RD K W' vs ds
  | _, _, .nil => .nil
  | _, _, .cons h r => .cons (R.mono l h) (RD.mono l r)
end
theorem RD.len : ∀ {vs : List (L2.Key × V)} {ds : List (L2.Key × D)}, RD K W vs ds → vs.length = ds.length
  | _, _, .nil => rfl
  | _, _, .cons _ r => by rw [List.length_cons, List.length_cons, RD.len r]
theorem RA.len : ∀ {vs : List V} {ds : List D}, RA K W vs ds → vs.length = ds.length
  | _, _, .nil => rfl
  | _, _, .cons _ r => by rw [List.length_cons, List.length_cons, RA.len r]
theorem RA.get : ∀ {vs : List V} {ds : List D} {i : Nat} {d : D}, RA K W vs ds → ds[i]? = some d → ∃ v, vs[i]? = some v ∧ R K W v d
  | _, _, _, _, .nil, e => by simp at e
  | _, _, 0, _, .cons h _, e => by
    simp only [List.getElem?_cons_zero, Option.some.injEq] at e
    subst e
    exact ⟨_, rfl, h⟩
  | _, _, i + 1, _, .cons _ r, e => by
    rw [List.getElem?_cons_succ] at e ⊢
    exact RA.get r e
theorem RA.getV : ∀ {vs : List V} {ds : List D} {i : Nat} {v : V}, RA K W vs ds → vs[i]? = some v → ∃ d, ds[i]? = some d ∧ R K W v d
  | _, _, _, _, .nil, e => by simp at e
  | _, _, 0, _, .cons h _, e => by
    simp only [List.getElem?_cons_zero, Option.some.injEq] at e
    subst e
    exact ⟨_, rfl, h⟩
  | _, _, i + 1, _, .cons _ r, e => by
    rw [List.getElem?_cons_succ] at e ⊢
    exact RA.getV r e
theorem RA.app : ∀ {vs us : List V} {ds es : List D}, RA K W vs ds → RA K W us es → RA K W (vs ++ us) (ds ++ es)
  | _, _, _, _, .nil, s => s
  | _, _, _, _, .cons h r, s => .cons h (RA.app r s)
theorem RA.tk : ∀ {vs : List V} {ds : List D} (n : Nat), RA K W vs ds → RA K W (vs.take n) (ds.take n)
  | _, _, 0, _ => .nil
  | _, _, _ + 1, .nil => .nil
  | _, _, n + 1, .cons h r => .cons h (RA.tk n r)
theorem RA.dp : ∀ {vs : List V} {ds : List D} (n : Nat), RA K W vs ds → RA K W (vs.drop n) (ds.drop n)
  | _, _, 0, r => r
  | _, _, _ + 1, .nil => .nil
  | _, _, n + 1, .cons _ r => RA.dp n r
theorem RA.set {v : V} {d : D} (h : R K W v d) : ∀ {vs : List V} {ds : List D} (i : Nat), RA K W vs ds → RA K W (vs.set i v) (ds.set i d)
  | _, _, _, .nil => .nil
  | _, _, 0, .cons _ r => .cons h r
  | _, _, i + 1, .cons q r => .cons q (RA.set h i r)
end
/-- attributes -/
inductive RF (K : PySem.W.Frag) (W : Wd) : List (Str × V) → List (Str × D) → Prop
  | nil : RF K W [] []
  | cons {x : Str} {v : V} {vs : List (Str × V)} {d : D} {ds : List (Str × D)} : R K W v d → RF K W vs ds → RF K W ((x, v) :: vs) ((x, d) :: ds)
section
variable {K : PySem.W.Frag} {W W' : Wd}
theorem RF.mono (l : W.Le W') : ∀ {vs : List (Str × V)} {ds : List (Str × D)}, RF K W vs ds → RF K W' vs ds
  | _, _, .nil => .nil
  | _, _, .cons h r => .cons (R.mono l h) (RF.mono l r)
theorem RF.look : ∀ {vs : List (Str × V)} {ds : List (Str × D)} {x : Str} {d : D}, RF K W vs ds → ds.lookup x = some d → ∃ v, vs.lookup x = some v ∧ R K W v d
  | _, _, _, _, .nil, e => by cases e
  | _, _, x, _, .cons (x := y) h r, e => by
    rw [List.lookup_cons] at e ⊢
    cases q : x == y with
    | true => rw [q] at e; cases e; exact ⟨_, rfl, h⟩
    | false => rw [q] at e; exact RF.look r e
theorem RF.look0 : ∀ {vs : List (Str × V)} {ds : List (Str × D)} {x : Str}, RF K W vs ds → ds.lookup x = none → vs.lookup x = none
  | _, _, _, .nil, _ => rfl
  | _, _, x, .cons (x := y) h r, e => by
    rw [List.lookup_cons] at e ⊢
    cases q : x == y with
    | true => rw [q] at e; cases e
    | false => rw [q] at e; exact RF.look0 r e
theorem RF.len : ∀ {vs : List (Str × V)} {ds : List (Str × D)}, RF K W vs ds → vs.length = ds.length
  | _, _, .nil => rfl
  | _, _, .cons _ r => by rw [List.length_cons, List.length_cons, RF.len r]
end
/-- what stands in the store -/
inductive Cell where
  | lst (ds : List D)
  | dead
  | dic (kvs : List (L2.Key × D))
  | ins (c : Str) (fs : List (Str × D))
  | exc (c : Str) (fs : List (Str × D))
abbrev Sto := List Cell
/-- an object that nobody changes (an exception that was caught) -/
def exH (oe : Obj) : HO := .frz oe (.own 0)
def CellR (K : PySem.W.Frag) (W : Wd) (H : Hp) (a : Addr) : Cell → Prop
  | .lst ds => ∃ xs, H a = some (.lst xs) ∧ RA K W xs ds
  | .dead => True
  | .dic ds => ∃ xs, H a = some (.dK xs) ∧ RD K W xs ds
  | .ins c fs => ∃ C dx xs, Cl.ad c = some C ∧ H a = some (.ins C dx xs) ∧ W.st dx = some (.own a) ∧ RF K W xs fs
  | .exc c fs => ∃ C oe, Cl.ad c = some C ∧ H a = some (exH oe) ∧ oe.cls = .ref C ∧ (∃ vs, oe.data = .fields vs) ∧ ((fs = [] ∧ oe.dict = none) ∨ ∃ dd xs, oe.dict = some dd ∧ W.st dd = some (.xd xs) ∧ RF K W xs fs)
/-- the relation of a state: F is a frame that stays -/
structure Rel0 (K : PySem.W.Frag) (W : Wd) (F H : Hp) (m : Sto) : Prop where
  sub : Same W.st H
  frm : Same F H
  dis : ∀ p o, F p = some o → W.st p = none
  len : W.be.length = m.length
  cell : ∀ (i : Nat) (c : Cell), m[i]? = some c → c ≠ .dead → ∃ a, W.be[i]? = some a ∧ W.st a = none ∧ F a = none ∧ CellR K W H a c
  inj : ∀ (i j : Nat) (a : Addr) (c c' : Cell), W.be[i]? = some a → W.be[j]? = some a → m[i]? = some c → m[j]? = some c' → c ≠ .dead → c' ≠ .dead → i = j
section
variable {K : PySem.W.Frag} {W W' : Wd} {F H H' : Hp} {m m' : Sto} {p a : Addr} {o : HO}
theorem CellR.mono {c : Cell} (l : W.Le W') (h : CellR K W H a c) : CellR K W' H a c := by
  cases c with
  | dead => trivial
  | lst ds => exact ⟨_, h.choose_spec.1, h.choose_spec.2.mono l⟩
  | dic ds => exact ⟨_, h.choose_spec.1, h.choose_spec.2.mono l⟩
  | ins c fs => obtain ⟨C, dx, xs, h1, h2, h3, h4⟩ := h; exact ⟨C, dx, xs, h1, h2, l.st _ _ h3, h4.mono l⟩
  | exc c fs => obtain ⟨C, oe, h1, h2, h3, h4, h⟩ := h; exact ⟨C, oe, h1, h2, h3, h4, h.imp id fun ⟨dd, xs, e, h5, h6⟩ => ⟨dd, xs, e, l.st _ _ h5, h6.mono l⟩⟩
theorem CellR.there {c : Cell} (hc : c ≠ .dead) (h : CellR K W H a c) : H a ≠ none := by
  cases c with
  | dead => exact absurd rfl hc
  | lst ds => obtain ⟨xs, e, _⟩ := h; rw [e]; simp
  | dic ds => obtain ⟨xs, e, _⟩ := h; rw [e]; simp
  | ins c fs => obtain ⟨_, _, _, _, e, _⟩ := h; rw [e]; simp
  | exc c fs => obtain ⟨_, _, _, e, _⟩ := h; rw [e]; simp
theorem CellR.heap {c : Cell} (hc : c ≠ .dead) (e : H' a = H a) (h : CellR K W H a c) : CellR K W H' a c := by
  cases c with
  | dead => exact absurd rfl hc
  | lst ds => obtain ⟨xs, q, r⟩ := h; exact ⟨xs, e.trans q, r⟩
  | dic ds => obtain ⟨xs, q, r⟩ := h; exact ⟨xs, e.trans q, r⟩
  | ins c fs => obtain ⟨C, dx, xs, h1, h2, h3, h4⟩ := h; exact ⟨C, dx, xs, h1, e.trans h2, h3, h4⟩
  | exc c fs => obtain ⟨C, oe, h1, h2, h⟩ := h; exact ⟨C, oe, h1, e.trans h2, h⟩
theorem Rel0.fF (r : Rel0 K W F H m) (hp : H p = none) : F p = none := by
  cases q : F p with
  | none => rfl
  | some x => rw [r.frm _ _ q] at hp; cases hp
theorem Rel0.fS (r : Rel0 K W F H m) (hp : H p = none) : W.st p = none := by
  cases q : W.st p with
  | none => rfl
  | some x => rw [r.sub _ _ q] at hp; cases hp
theorem same_new (hp : H p = none) : Same H (upd H p o) := fun b x e => by
  rw [upd_ne (ne_of_none e hp)]; exact e
theorem same_of_new {G : Hp} (s : Same G H) (hp : H p = none) : Same G (upd H p o) := s.trans (same_new hp)
theorem same_both {G : Hp} (s : Same G H) : Same (upd G p o) (upd H p o) := fun b x e => by
  by_cases h : b = p
  · subst h; rw [upd_same] at e ⊢; exact e
  · rw [upd_ne h] at e ⊢; exact s _ _ e
/-- a new object that nobody knows -/
theorem Rel0.grow (r : Rel0 K W F H m) (hp : H p = none) : Rel0 K W F (upd H p o) m where
  sub := same_of_new r.sub hp
  frm := same_of_new r.frm hp
  dis := r.dis
  len := r.len
  cell := fun i c e hc => by
    obtain ⟨a, h1, h2, h3, h4⟩ := r.cell i c e hc
    have hn : a ≠ p := fun z => h4.there hc (by rw [z]; exact hp)
    exact ⟨a, h1, h2, h3, h4.heap hc (upd_ne hn)⟩
  inj := r.inj
/-- a new frozen object -/
theorem Rel0.cold (r : Rel0 K W F H m) (hp : H p = none) : Rel0 K ⟨W.be, upd W.st p o⟩ F (upd H p o) m where
  sub := same_both r.sub
  frm := same_of_new r.frm hp
  dis := fun q x e => by
    have hq : q ≠ p := fun z => by rw [z, r.fF hp] at e; cases e
    show upd W.st p o q = none
    rw [upd_ne hq]; exact r.dis q x e
  len := r.len
  cell := fun i c e hc => by
    obtain ⟨a, h1, h2, h3, h4⟩ := r.cell i c e hc
    have hn : a ≠ p := fun z => h4.there hc (by rw [z]; exact hp)
    have le : W.Le ⟨W.be, upd W.st p o⟩ := ⟨fun _ _ e => e, same_new (r.fS hp)⟩
    exact ⟨a, h1, (upd_ne hn).trans h2, h3, (h4.heap hc (upd_ne hn)).mono le⟩
  inj := r.inj
theorem cold_le (r : Rel0 K W F H m) (hp : H p = none) : W.Le ⟨W.be, upd W.st p o⟩ := ⟨fun _ _ e => e, same_new (r.fS hp)⟩
theorem getElem?_snoc_lt {α : Type} {l : List α} {x y : α} {i : Nat} (h : l[i]? = some y) : (l ++ [x])[i]? = some y := by
  have : i < l.length := (List.getElem?_eq_some_iff.mp h).1
  rw [List.getElem?_append_left this]; exact h
theorem getElem?_snoc_cases {α : Type} {l : List α} {x y : α} {i : Nat} (h : (l ++ [x])[i]? = some y) : l[i]? = some y ∨ (i = l.length ∧ y = x) := by
  by_cases hi : i < l.length
  · rw [List.getElem?_append_left hi] at h; exact .inl h
  · rw [List.getElem?_append_right (by omega)] at h
    cases e : i - l.length with
    | zero =>
      rw [e] at h
      simp only [List.getElem?_cons_zero, Option.some.injEq] at h
      exact .inr ⟨by omega, h.symm⟩
    | succ n => rw [e] at h; simp at h
/-- a new cell -/
theorem Rel0.hot {c : Cell} (r : Rel0 K W F H m) (hp : H p = none) (hr : CellR K W (upd H p o) p c) : Rel0 K ⟨W.be ++ [p], W.st⟩ F (upd H p o) (m ++ [c]) where
  sub := same_of_new r.sub hp
  frm := same_of_new r.frm hp
  dis := r.dis
  len := by show (W.be ++ [p]).length = _; rw [List.length_append, List.length_append, r.len]; rfl
  cell := fun i d e hc => by
    have le : W.Le ⟨W.be ++ [p], W.st⟩ := ⟨fun _ _ e => getElem?_snoc_lt e, Same.refl _⟩
    rcases getElem?_snoc_cases e with e | ⟨e1, e2⟩
    · obtain ⟨a, h1, h2, h3, h4⟩ := r.cell i d e hc
      have hn : a ≠ p := fun z => h4.there hc (by rw [z]; exact hp)
      exact ⟨a, getElem?_snoc_lt h1, h2, h3, (h4.heap hc (upd_ne hn)).mono le⟩
    · subst e1 e2
      refine ⟨p, ?_, r.fS hp, r.fF hp, hr.mono le⟩
      show (W.be ++ [p])[m.length]? = some p
      rw [List.getElem?_append_right (by rw [r.len]; exact Nat.le_refl _), r.len, Nat.sub_self]; rfl
  inj := fun i j a c1 c2 b1 b2 e1 e2 n1 n2 => by
    have nope : ∀ {k : Nat} {d : Cell}, m[k]? = some d → d ≠ .dead → (W.be ++ [p])[k]? ≠ some p := fun {k d} e n z => by
      obtain ⟨a, h1, _, _, h4⟩ := r.cell k d e n
      rw [getElem?_snoc_lt h1] at z
      exact h4.there n (by rw [Option.some.inj z]; exact hp)
    have atP : ∀ {k : Nat}, k = m.length → (W.be ++ [p])[k]? = some p := fun {k} e => by
      rw [e, List.getElem?_append_right (by rw [r.len]; exact Nat.le_refl _), r.len, Nat.sub_self]; rfl
    rcases getElem?_snoc_cases e1 with e1 | ⟨e1, _⟩
    · rcases getElem?_snoc_cases e2 with e2 | ⟨e2, _⟩
      · obtain ⟨a1, x1, _⟩ := r.cell i c1 e1 n1
        obtain ⟨a2, x2, _⟩ := r.cell j c2 e2 n2
        have y1 : a1 = a := Option.some.inj ((getElem?_snoc_lt x1).symm.trans b1)
        have y2 : a2 = a := Option.some.inj ((getElem?_snoc_lt x2).symm.trans b2)
        subst y1 y2
        exact r.inj i j _ c1 c2 x1 x2 e1 e2 n1 n2
      · have z : a = p := Option.some.inj (b2.symm.trans (atP e2))
        subst z
        exact absurd b1 (nope e1 n1)
    · rcases getElem?_snoc_cases e2 with e2 | ⟨e2, _⟩
      · have z : a = p := Option.some.inj (b1.symm.trans (atP e1))
        subst z
        exact absurd b2 (nope e2 n2)
      · omega
theorem hot_le : W.Le ⟨W.be ++ [p], W.st⟩ := ⟨fun _ _ e => getElem?_snoc_lt e, Same.refl _⟩
theorem hot_at (r : Rel0 K W F H m) : (W.be ++ [p])[m.length]? = some p := by
  rw [List.getElem?_append_right (by rw [r.len]; exact Nat.le_refl _), r.len, Nat.sub_self]; rfl
/-- a cell is written -/
theorem Rel0.write {i : Nat} {c c' : Cell} (r : Rel0 K W F H m) (hb : W.be[i]? = some a) (hm : m[i]? = some c) (hc : c ≠ .dead) (hc' : c' ≠ .dead) (hr : CellR K W (upd H a o) a c') : Rel0 K W F (upd H a o) (m.set i c') := by
  obtain ⟨b, h1, h2, h3, h4⟩ := r.cell i c hm hc
  have e : b = a := Option.some.inj (h1.symm.trans hb)
  subst e
  have keep : ∀ {G : Hp}, G b = none → Same G H → Same G (upd H b o) := fun {G} n s q x z => by
    rw [upd_ne (ne_of_none z n)]; exact s _ _ z
  have live : ∀ {j : Nat} {d : Cell}, j ≠ i → (m.set i c')[j]? = some d → m[j]? = some d := fun {j d} hj z => by
    rw [List.getElem?_set_ne (Ne.symm hj)] at z; exact z
  have alive : ∀ {j : Nat} {d : Cell}, (m.set i c')[j]? = some d → d ≠ .dead → ∃ d', m[j]? = some d' ∧ d' ≠ .dead := fun {j d} z n => by
    by_cases hj : j = i
    · subst hj; exact ⟨c, hm, hc⟩
    · exact ⟨d, live hj z, n⟩
  refine ⟨keep h2 r.sub, keep h3 r.frm, r.dis, by rw [List.length_set]; exact r.len, fun j d e hd => ?_, fun j k x c1 c2 b1 b2 e1 e2 n1 n2 => ?_⟩
  · by_cases hj : j = i
    · subst hj
      have hlt : j < m.length := (List.getElem?_eq_some_iff.mp hm).1
      rw [List.getElem?_set_self hlt] at e
      cases e
      exact ⟨b, h1, h2, h3, hr⟩
    · have e' := live hj e
      obtain ⟨x, y1, y2, y3, y4⟩ := r.cell j d e' hd
      have hn : x ≠ b := fun z => hj (r.inj j i b d c (by rw [← z]; exact y1) h1 e' hm hd hc)
      exact ⟨x, y1, y2, y3, y4.heap hd (upd_ne hn)⟩
  · obtain ⟨d1, f1, g1⟩ := alive e1 n1
    obtain ⟨d2, f2, g2⟩ := alive e2 n2
    exact r.inj j k x d1 d2 b1 b2 f1 f2 g1 g2
theorem dead_set {i j : Nat} {d : Cell} (e : (m.set i .dead)[j]? = some d) (hd : d ≠ .dead) : j ≠ i ∧ m[j]? = some d := by
  by_cases hj : j = i
  · subst hj
    by_cases hlt : j < m.length
    · rw [List.getElem?_set_self hlt] at e; cases e; exact absurd rfl hd
    · rw [List.getElem?_eq_none (by rw [List.length_set]; omega)] at e; cases e
  · rw [List.getElem?_set_ne (Ne.symm hj)] at e; exact ⟨hj, e⟩
/-- a cell is frozen -/
theorem Rel0.freeze {i : Nat} {c : Cell} (r : Rel0 K W F H m) (hb : W.be[i]? = some a) (hm : m[i]? = some c) (hc : c ≠ .dead) (ho : H a = some o) : Rel0 K ⟨W.be, upd W.st a o⟩ F H (m.set i .dead) ∧ W.Le ⟨W.be, upd W.st a o⟩ := by
  obtain ⟨b, h1, h2, h3, h4⟩ := r.cell i c hm hc
  have e : b = a := Option.some.inj (h1.symm.trans hb)
  subst e
  have le : W.Le ⟨W.be, upd W.st b o⟩ := ⟨fun _ _ e => e, same_new h2⟩
  refine ⟨⟨fun q x z => ?_, r.frm, fun q x z => ?_, by rw [List.length_set]; exact r.len, fun j d e hd => ?_, fun j k x c1 c2 b1 b2 e1 e2 n1 n2 => ?_⟩, le⟩
  · by_cases hq : q = b
    · subst hq
      have z' : upd W.st q o q = some x := z
      rw [upd_same] at z'; rw [ho]; exact z'
    · have z' : upd W.st b o q = some x := z
      rw [upd_ne hq] at z'; exact r.sub _ _ z'
  · have hq : q ≠ b := fun y => by rw [y, h3] at z; cases z
    show upd W.st b o q = none
    rw [upd_ne hq]; exact r.dis q x z
  · obtain ⟨hj, e'⟩ := dead_set e hd
    obtain ⟨x, y1, y2, y3, y4⟩ := r.cell j d e' hd
    have hn : x ≠ b := fun z => hj (r.inj j i b d c (by rw [← z]; exact y1) h1 e' hm hd hc)
    exact ⟨x, y1, (upd_ne hn).trans y2, y3, y4.mono le⟩
  · obtain ⟨_, f1⟩ := dead_set e1 n1
    obtain ⟨_, f2⟩ := dead_set e2 n2
    exact r.inj j k x c1 c2 b1 b2 f1 f2 n1 n2
/-- a new object into the frame -/
theorem Rel0.framed (r : Rel0 K W F H m) (hp : H p = none) : Rel0 K W (upd F p o) (upd H p o) m where
  sub := same_of_new r.sub hp
  frm := same_both r.frm
  dis := fun q x e => by
    by_cases hq : q = p
    · subst hq; exact r.fS hp
    · rw [upd_ne hq] at e; exact r.dis q x e
  len := r.len
  cell := fun i c e hc => by
    obtain ⟨a, h1, h2, h3, h4⟩ := r.cell i c e hc
    have hn : a ≠ p := fun z => h4.there hc (by rw [z]; exact hp)
    exact ⟨a, h1, h2, (upd_ne hn).trans h3, h4.heap hc (upd_ne hn)⟩
  inj := r.inj
/-- a framed object changes -/
theorem Rel0.reframe {o' : HO} (r : Rel0 K W (upd F p o) H m) (hF : F p = none) : Rel0 K W (upd F p o') (upd H p o') m := by
  have hs : W.st p = none := r.dis p o upd_same
  refine ⟨fun q x e => ?_, fun q x e => ?_, fun q x e => ?_, r.len, fun i c e hc => ?_, r.inj⟩
  · rw [upd_ne (ne_of_none e hs)]; exact r.sub _ _ e
  · by_cases hq : q = p
    · subst hq; rw [upd_same] at e ⊢; exact e
    · rw [upd_ne hq] at e ⊢; exact r.frm _ _ (by rw [upd_ne hq]; exact e)
  · by_cases hq : q = p
    · subst hq; exact hs
    · rw [upd_ne hq] at e; exact r.dis q x (by rw [upd_ne hq]; exact e)
  · obtain ⟨a, h1, h2, h3, h4⟩ := r.cell i c e hc
    have hn : a ≠ p := fun z => by rw [z, upd_same] at h3; cases h3
    rw [upd_ne hn] at h3
    exact ⟨a, h1, h2, (upd_ne hn).trans h3, h4.heap hc (upd_ne hn)⟩
/-- a framed object is frozen -/
theorem Rel0.thaw (r : Rel0 K W (upd F p o) H m) (hF : F p = none) : Rel0 K ⟨W.be, upd W.st p o⟩ F H m ∧ W.Le ⟨W.be, upd W.st p o⟩ := by
  have hs : W.st p = none := r.dis p o upd_same
  have le : W.Le ⟨W.be, upd W.st p o⟩ := ⟨fun _ _ e => e, same_new hs⟩
  refine ⟨⟨fun q x z => ?_, fun q x e => ?_, fun q x e => ?_, r.len, fun i c e hc => ?_, r.inj⟩, le⟩
  · by_cases hq : q = p
    · subst hq
      have z' : upd W.st q o q = some x := z
      rw [upd_same] at z'
      exact r.frm _ _ (by rw [upd_same]; exact z')
    · have z' : upd W.st p o q = some x := z
      rw [upd_ne hq] at z'; exact r.sub _ _ z'
  · exact r.frm _ _ (by rw [upd_ne (ne_of_none e hF)]; exact e)
  · have hq : q ≠ p := fun y => by rw [y, hF] at e; cases e
    show upd W.st p o q = none
    rw [upd_ne hq]; exact r.dis q x (by rw [upd_ne hq]; exact e)
  · obtain ⟨a, h1, h2, h3, h4⟩ := r.cell i c e hc
    have hn : a ≠ p := fun z => by rw [z, upd_same] at h3; cases h3
    rw [upd_ne hn] at h3
    exact ⟨a, h1, (upd_ne hn).trans h2, h3, h4.mono le⟩
/-- a framed object becomes a cell -/
theorem Rel0.cellOf {c : Cell} (r : Rel0 K W (upd F p o) H m) (hF : F p = none) (hr : CellR K W H p c) (hc : c ≠ .dead) : Rel0 K ⟨W.be ++ [p], W.st⟩ F H (m ++ [c]) := by
  have hs : W.st p = none := r.dis p o upd_same
  have le : W.Le ⟨W.be ++ [p], W.st⟩ := ⟨fun _ _ e => getElem?_snoc_lt e, Same.refl _⟩
  have other : ∀ {i : Nat} {d : Cell}, m[i]? = some d → d ≠ .dead → ∃ a, W.be[i]? = some a ∧ a ≠ p ∧ W.st a = none ∧ F a = none ∧ CellR K W H a d := fun {i d} e n => by
    obtain ⟨a, h1, h2, h3, h4⟩ := r.cell i d e n
    have hn : a ≠ p := fun z => by rw [z, upd_same] at h3; cases h3
    rw [upd_ne hn] at h3
    exact ⟨a, h1, hn, h2, h3, h4⟩
  have atP : ∀ {k : Nat}, k = m.length → (W.be ++ [p])[k]? = some p := fun {k} e => by
    rw [e, List.getElem?_append_right (by rw [r.len]; exact Nat.le_refl _), r.len, Nat.sub_self]; rfl
  refine ⟨r.sub, fun q x e => ?_, fun q x e => ?_, ?_, fun i d e n => ?_, fun i j a c1 c2 b1 b2 e1 e2 n1 n2 => ?_⟩
  · exact r.frm _ _ (by rw [upd_ne (ne_of_none e hF)]; exact e)
  · have hq : q ≠ p := fun y => by rw [y, hF] at e; cases e
    exact r.dis q x (by rw [upd_ne hq]; exact e)
  · show (W.be ++ [p]).length = _
    rw [List.length_append, List.length_append, r.len]; rfl
  · rcases getElem?_snoc_cases e with e | ⟨e1, e2⟩
    · obtain ⟨a, h1, _, h2, h3, h4⟩ := other e n
      exact ⟨a, getElem?_snoc_lt h1, h2, h3, h4.mono le⟩
    · subst e2
      exact ⟨p, atP e1, hs, hF, hr.mono le⟩
  · rcases getElem?_snoc_cases e1 with e1 | ⟨e1, _⟩
    · obtain ⟨a1, x1, y1, _⟩ := other e1 n1
      have z1 : a1 = a := Option.some.inj ((getElem?_snoc_lt x1).symm.trans b1)
      subst z1
      rcases getElem?_snoc_cases e2 with e2 | ⟨e2, _⟩
      · obtain ⟨a2, x2, y2, _⟩ := other e2 n2
        have z2 : a2 = a1 := Option.some.inj ((getElem?_snoc_lt x2).symm.trans b2)
        subst z2
        exact r.inj i j _ c1 c2 x1 x2 e1 e2 n1 n2
      · exact absurd (Option.some.inj (b2.symm.trans (atP e2))) y1
    · rcases getElem?_snoc_cases e2 with e2 | ⟨e2, _⟩
      · obtain ⟨a2, x2, y2, _⟩ := other e2 n2
        have z2 : a2 = a := Option.some.inj ((getElem?_snoc_lt x2).symm.trans b2)
        subst z2
        exact absurd (Option.some.inj (b1.symm.trans (atP e1))) y2
      · omega
end
/-- a relation that holds on from a world and a frame that are told -/
class Lk where
  W0 : Wd
  F0 : Hp
instance (priority := low) lkNone : Lk := ⟨⟨[], fun _ => none⟩, fun _ => none⟩
variable [Lk]
structure Rel (K : PySem.W.Frag) (W : Wd) (F H : Hp) (m : Sto) : Prop extends Rel0 K W F H m where
  lw : Lk.W0.Le W
  lf : Same Lk.F0 F
section
variable {K : PySem.W.Frag} {W W' : Wd} {F F' H H' : Hp} {m m' : Sto} {p a : Addr} {o : HO}
theorem Rel.of (r : Rel K W F H m) (l : W.Le W') (h : Rel0 K W' F H' m') : Rel K W' F H' m' := ⟨h, r.lw.trans l, r.lf⟩
theorem less_none (s : Same F' F) (h : F a = none) : F' a = none := by
  cases q : F' a with
  | none => rfl
  | some x => rw [s _ _ q] at h; cases h
/-- the same in a lesser frame -/
theorem Rel0.less (r : Rel0 K W F H m) (s : Same F' F) : Rel0 K W F' H m :=
  ⟨r.sub, s.trans r.frm, fun p o e => r.dis p o (s _ _ e), r.len, fun i c e hc => by
    obtain ⟨a, h1, h2, h3, h4⟩ := r.cell i c e hc
    refine ⟨a, h1, h2, ?_, h4⟩
    exact less_none s h3, r.inj⟩
theorem Rel.grow (r : Rel K W F H m) (hp : H p = none) : Rel K W F (upd H p o) m := ⟨r.toRel0.grow hp, r.lw, r.lf⟩
theorem Rel.cold (r : Rel K W F H m) (hp : H p = none) : Rel K ⟨W.be, upd W.st p o⟩ F (upd H p o) m := ⟨r.toRel0.cold hp, r.lw.trans (DL.cold_le r.toRel0 hp), r.lf⟩
theorem Rel.hot {c : Cell} (r : Rel K W F H m) (hp : H p = none) (hr : CellR K W (upd H p o) p c) : Rel K ⟨W.be ++ [p], W.st⟩ F (upd H p o) (m ++ [c]) := ⟨r.toRel0.hot hp hr, r.lw.trans hot_le, r.lf⟩
theorem Rel.write {i : Nat} {c c' : Cell} (r : Rel K W F H m) (hb : W.be[i]? = some a) (hm : m[i]? = some c) (hc : c ≠ .dead) (hc' : c' ≠ .dead) (hr : CellR K W (upd H a o) a c') : Rel K W F (upd H a o) (m.set i c') := ⟨r.toRel0.write hb hm hc hc' hr, r.lw, r.lf⟩
theorem Rel.framed (r : Rel K W F H m) (hp : H p = none) : Rel K W (upd F p o) (upd H p o) m := ⟨r.toRel0.framed hp, r.lw, same_of_new r.lf (r.toRel0.fF hp)⟩
theorem Rel.reframe {o' : HO} (r : Rel K W (upd F p o) H m) (hF : F p = none) (s : Same Lk.F0 F) : Rel K W (upd F p o') (upd H p o') m := ⟨r.toRel0.reframe hF, r.lw, same_of_new s hF⟩
theorem Rel.thaw (r : Rel K W (upd F p o) H m) (hF : F p = none) (s : Same Lk.F0 F) : Rel K ⟨W.be, upd W.st p o⟩ F H m ∧ W.Le ⟨W.be, upd W.st p o⟩ :=
  ⟨⟨(r.toRel0.thaw hF).1, r.lw.trans (r.toRel0.thaw hF).2, s⟩, (r.toRel0.thaw hF).2⟩
theorem Rel.cellOf {c : Cell} (r : Rel K W (upd F p o) H m) (hF : F p = none) (s : Same Lk.F0 F) (hr : CellR K W H p c) (hc : c ≠ .dead) : Rel K ⟨W.be ++ [p], W.st⟩ F H (m ++ [c]) := ⟨r.toRel0.cellOf hF hr hc, r.lw.trans hot_le, s⟩
end
abbrev DSt := List (Option D)
def slot : DSt → Nat → Option D
  | x :: _, 0 => x
  | _ :: r, n + 1 => slot r n
  | [], _ => none
def put : DSt → Nat → D → DSt
  | _ :: r, 0, d => some d :: r
  | x :: r, n + 1, d => x :: put r n d
  | [], _, _ => []
inductive RSt (K : PySem.W.Frag) (W : Wd) : L2.St → DSt → Prop
  | nil : RSt K W [] []
  | no {x : Option V} {s : L2.St} {r : DSt} : RSt K W s r → RSt K W (x :: s) (none :: r)
  | yes {v : V} {d : D} {s : L2.St} {r : DSt} : R K W v d → RSt K W s r → RSt K W (some v :: s) (some d :: r)
section
variable {K : PySem.W.Frag} {W W' : Wd}
theorem RSt.mono (l : W.Le W') : ∀ {s : L2.St} {r : DSt}, RSt K W s r → RSt K W' s r
  | _, _, .nil => .nil
  | _, _, .no t => .no (RSt.mono l t)
  | _, _, .yes h t => .yes (h.mono l) (RSt.mono l t)
theorem RSt.get : ∀ {s : L2.St} {r : DSt} {i : Nat} {d : D}, RSt K W s r → slot r i = some d → ∃ v, s[i]? = some (some v) ∧ R K W v d
  | _, _, 0, _, .nil, e => by cases e
  | _, _, _ + 1, _, .nil, e => by cases e
  | _, _, 0, _, .no _, e => by cases e
  | _, _, 0, _, .yes h _, e => by cases e; exact ⟨_, rfl, h⟩
  | _, _, i + 1, _, .no t, e => by rw [List.getElem?_cons_succ]; exact RSt.get t e
  | _, _, i + 1, _, .yes _ t, e => by rw [List.getElem?_cons_succ]; exact RSt.get t e
theorem RSt.put {v : V} {d : D} (h : R K W v d) : ∀ {s : L2.St} {r : DSt} (i : Nat), RSt K W s r → RSt K W (s.set i (some v)) (put r i d)
  | _, _, 0, .nil => .nil
  | _, _, _ + 1, .nil => .nil
  | _, _, 0, .no t => .yes h t
  | _, _, 0, .yes _ t => .yes h t
  | _, _, i + 1, .no t => .no (RSt.put h i t)
  | _, _, i + 1, .yes q t => .yes q (RSt.put h i t)
theorem RSt.len : ∀ {s : L2.St} {r : DSt}, RSt K W s r → s.length = r.length
  | _, _, .nil => rfl
  | _, _, .no t => by rw [List.length_cons, List.length_cons, RSt.len t]
  | _, _, .yes _ t => by rw [List.length_cons, List.length_cons, RSt.len t]
/-- forgetting slots -/
def forget : DSt → Nat → DSt
  | _ :: r, 0 => none :: r
  | x :: r, n + 1 => x :: forget r n
  | [], _ => []
theorem RSt.forget {x : Option V} : ∀ {s : L2.St} {r : DSt} (i : Nat), RSt K W s r → RSt K W (s.set i x) (forget r i)
  | _, _, 0, .nil => .nil
  | _, _, _ + 1, .nil => .nil
  | _, _, 0, .no t => .no t
  | _, _, 0, .yes _ t => .no t
  | _, _, i + 1, .no t => .no (RSt.forget i t)
  | _, _, i + 1, .yes q t => .yes q (RSt.forget i t)
end
abbrev DE := DSt → Sto → (D → Sto → Prop) → Prop
abbrev DA := DSt → Sto → (List D → Sto → Prop) → Prop
abbrev DT := DSt → Sto → (Bool → Sto → Prop) → Prop
structure DEnds where
  nx : DSt → Sto → Prop
  rt : D → Sto → Prop
  bk : DSt → Sto → Prop := fun _ _ => False
  ct : DSt → Sto → Prop := fun _ _ => False
abbrev DS := DEnds → DSt → Sto → Prop
abbrev DG := D → DSt → Sto → (DSt → Sto → Prop) → Prop
abbrev DGs := List D → DSt → Sto → (DSt → Sto → Prop) → Prop
def liftE (K : PySem.W.Frag) (t : DE) : TE := fun s H Q => ∃ (W : Wd) (F : Hp) (m : Sto) (r : DSt) (q : D → Sto → Prop), Rel K W F H m ∧ RSt K W s r ∧ t r m q ∧
  ∀ W' H' m' v d, W.Le W' → Rel K W' F H' m' → R K W' v d → q d m' → Q v H'
def liftA (K : PySem.W.Frag) (t : DA) : TA := fun s H Q => ∃ (W : Wd) (F : Hp) (m : Sto) (r : DSt) (q : List D → Sto → Prop), Rel K W F H m ∧ RSt K W s r ∧ t r m q ∧
  ∀ W' H' m' vs ds, W.Le W' → Rel K W' F H' m' → RA K W' vs ds → q ds m' → Q vs H'
def liftT (K : PySem.W.Frag) (t : DT) : TT := fun s H Q => ∃ (W : Wd) (F : Hp) (m : Sto) (r : DSt) (q : Bool → Sto → Prop), Rel K W F H m ∧ RSt K W s r ∧ t r m q ∧
  ∀ W' H' m' b, W.Le W' → Rel K W' F H' m' → q b m' → Q b H'
structure LiftD (K : PySem.W.Frag) (W : Wd) (F : Hp) (d : DEnds) (E : Ends) : Prop where
  nx : ∀ W' H' m' s' r', W.Le W' → Rel K W' F H' m' → RSt K W' s' r' → d.nx r' m' → E.nx s' H'
  rt : ∀ W' H' m' v x, W.Le W' → Rel K W' F H' m' → R K W' v x → d.rt x m' → E.rt v H'
  bk : ∀ W' H' m' s' r', W.Le W' → Rel K W' F H' m' → RSt K W' s' r' → d.bk r' m' → E.bk s' H'
  ct : ∀ W' H' m' s' r', W.Le W' → Rel K W' F H' m' → RSt K W' s' r' → d.ct r' m' → E.ct s' H'
theorem LiftD.mono {K : PySem.W.Frag} {W W' : Wd} {F : Hp} {d : DEnds} {E : Ends} (h : LiftD K W F d E) (l : W.Le W') : LiftD K W' F d E :=
  ⟨fun _ _ _ _ _ k => h.nx _ _ _ _ _ (l.trans k), fun _ _ _ _ _ k => h.rt _ _ _ _ _ (l.trans k), fun _ _ _ _ _ k => h.bk _ _ _ _ _ (l.trans k), fun _ _ _ _ _ k => h.ct _ _ _ _ _ (l.trans k)⟩
def liftS (K : PySem.W.Frag) (t : DS) : TS := fun E s H => ∃ (W : Wd) (F : Hp) (m : Sto) (r : DSt) (d : DEnds), Rel K W F H m ∧ RSt K W s r ∧ t d r m ∧ LiftD K W F d E
def liftG (K : PySem.W.Frag) (t : DG) : TG := fun v s H Q => ∃ (W : Wd) (F : Hp) (m : Sto) (r : DSt) (d : D) (q : DSt → Sto → Prop), Rel K W F H m ∧ RSt K W s r ∧ R K W v d ∧ t d r m q ∧
  ∀ W' H' m' s' r', W.Le W' → Rel K W' F H' m' → RSt K W' s' r' → q r' m' → Q s' H'
def liftGs (K : PySem.W.Frag) (t : DGs) : TGs := fun vs s H Q => ∃ (W : Wd) (F : Hp) (m : Sto) (r : DSt) (ds : List D) (q : DSt → Sto → Prop), Rel K W F H m ∧ RSt K W s r ∧ RA K W vs ds ∧ t ds r m q ∧
  ∀ W' H' m' s' r', W.Le W' → Rel K W' F H' m' → RSt K W' s' r' → q r' m' → Q s' H'
abbrev JE (X : Cx) (e : Expr) (t : DE) : Prop := PE X e (liftE X.K t)
abbrev JA (X : Cx) (es : List Expr) (t : DA) : Prop := PA X es (liftA X.K t)
abbrev JT (X : Cx) (e : Expr) (t : DT) : Prop := PT X e (liftT X.K t)
abbrev JS (X : Cx) (st : Stmt) (t : DS) : Prop := PS X st (liftS X.K t)
abbrev JSs (X : Cx) (st : List Stmt) (t : DS) : Prop := PSs X st (liftS X.K t)
abbrev JG (X : Cx) (e : Expr) (t : DG) : Prop := PG X e (liftG X.K t)
abbrev JGs (X : Cx) (e : List Expr) (t : DGs) : Prop := PGs X e (liftGs X.K t)
theorem pe_wk {X : Cx} {e : Expr} {t t' : TE} (h : PE X e t) (k : ∀ s H Q, t' s H Q → t s H Q) : PE X e t' := ⟨fun p s a H Q I z => h.run p s a H Q I (k _ _ _ z)⟩
theorem pa_wk {X : Cx} {e : List Expr} {t t' : TA} (h : PA X e t) (k : ∀ s H Q, t' s H Q → t s H Q) : PA X e t' := ⟨fun o p s a H Q I z => h.run o p s a H Q I (k _ _ _ z)⟩
theorem pt_wk {X : Cx} {e : Expr} {t t' : TT} (h : PT X e t) (k : ∀ s H Q, t' s H Q → t s H Q) : PT X e t' := ⟨fun p s a H Q I z => h.run p s a H Q I (k _ _ _ z)⟩
theorem pw_wk {X : Cx} {e : Expr} {t t' : TT} (h : PW X e t) (k : ∀ s H Q, t' s H Q → t s H Q) : PW X e t' := ⟨fun w p s a H Q I z => h.run w p s a H Q I (k _ _ _ z)⟩
theorem ps_wk {X : Cx} {e : Stmt} {t t' : TS} (h : PS X e t) (k : ∀ D s H, t' D s H → t D s H) : PS X e t' := ⟨fun p s a H D I z => h.run p s a H D I (k _ _ _ z)⟩
theorem pss_wk {X : Cx} {e : List Stmt} {t t' : TS} (h : PSs X e t) (k : ∀ D s H, t' D s H → t D s H) : PSs X e t' := ⟨fun p s a H D I z => h.run p s a H D I (k _ _ _ z)⟩
theorem pg_wk {X : Cx} {e : Expr} {t t' : TG} (h : PG X e t) (k : ∀ v s H Q, t' v s H Q → t v s H Q) : PG X e t' := ⟨fun p s a H v u Q I r z => h.run p s a H v u Q I r (k _ _ _ _ z)⟩
theorem pgs_wk {X : Cx} {e : List Expr} {t t' : TGs} (h : PGs X e t) (k : ∀ v s H Q, t' v s H Q → t v s H Q) : PGs X e t' := ⟨fun p s a H v u Q I r z => h.run p s a H v u Q I r (k _ _ _ _ z)⟩
end DL
namespace DL
open PySem PySem.Spec PyProof.Rows L2
variable [Cl] [Lk]
/-- what follows an operation's value, in H -/
def Fol (K : PySem.W.Frag) (W : Wd) (F : Hp) (q : D → Sto → Prop) (Q : VK) : Prop := ∀ W' H' m' v d, W.Le W' → Rel K W' F H' m' → R K W' v d → q d m' → Q v H'
theorem Fol.mono {K : PySem.W.Frag} {W W' : Wd} {F : Hp} {q : D → Sto → Prop} {Q : VK} (h : Fol K W F q Q) (l : W.Le W') : Fol K W' F q Q := fun _ _ _ _ _ k => h _ _ _ _ _ (l.trans k)
def onS {α : Type} (o : Option α) (k : α → Prop) : Prop := match o with | some a => k a | none => False
theorem onS_some {α : Type} {o : Option α} {k : α → Prop} (h : onS o k) : ∃ a, o = some a ∧ k a := by
  cases o with
  | none => exact h.elim
  | some a => exact ⟨a, rfl, h⟩
abbrev F2 := D → D → Sto → (D → Sto → Prop) → Prop
abbrev F1 := D → Sto → (D → Sto → Prop) → Prop
abbrev FN := List D → Sto → (D → Sto → Prop) → Prop
def Op2 (K : PySem.W.Frag) (f : F2) (rr : R2) : Prop := ∀ W F H m x y d e q Q, Rel K W F H m → R K W x d → R K W y e → f d e m q → Fol K W F q Q → rr x y H Q
def Op1 (K : PySem.W.Frag) (f : F1) (rr : V → Hp → VK → Prop) : Prop := ∀ W F H m x d q Q, Rel K W F H m → R K W x d → f d m q → Fol K W F q Q → rr x H Q
def OpN (K : PySem.W.Frag) (f : FN) (rr : List V → Hp → VK → Prop) : Prop := ∀ W F H m xs ds q Q, Rel K W F H m → RA K W xs ds → f ds m q → Fol K W F q Q → rr xs H Q
def dBin (f : F2) (ta tb : DE) : DE := fun r m q => ta r m fun x m1 => tb r m1 fun y m2 => f x y m2 q
def dUn (f : F1) (ta : DE) : DE := fun r m q => ta r m fun x m1 => f x m1 q
def dCallB (f : FN) (ta : DA) : DE := fun r m q => ta r m fun xs m1 => f xs m1 q
section
variable {K : PySem.W.Frag}
theorem bin_wk {f : F2} {rr : R2} {ta tb : DE} (o : Op2 K f rr) (s : L2.St) (H : Hp) (Q : VK) (h : liftE K (dBin f ta tb) s H Q) : tOp rr (liftE K ta) (liftE K tb) s H Q := by
  obtain ⟨W, F, m, r, q, rel, rs, h, k⟩ := h
  refine ⟨W, F, m, r, fun x m1 => tb r m1 fun y m2 => f x y m2 q, rel, rs, h, fun W1 H1 m1 v d l1 rel1 rv hq => ?_⟩
  refine ⟨W1, F, m1, r, fun y m2 => f d y m2 q, rel1, rs.mono l1, hq, fun W2 H2 m2 u e l2 rel2 ru hq2 => ?_⟩
  exact o W2 F H2 m2 v u d e q Q rel2 (rv.mono l2) ru hq2 fun _ _ _ _ _ l => k _ _ _ _ _ (l1.trans (l2.trans l))
theorem un_wk {f : F1} {rr : V → Hp → VK → Prop} {ta : DE} (o : Op1 K f rr) (s : L2.St) (H : Hp) (Q : VK) (h : liftE K (dUn f ta) s H Q) : liftE K ta s H fun x H1 => rr x H1 Q := by
  obtain ⟨W, F, m, r, q, rel, rs, h, k⟩ := h
  refine ⟨W, F, m, r, fun x m1 => f x m1 q, rel, rs, h, fun W1 H1 m1 v d l1 rel1 rv hq => ?_⟩
  exact o W1 F H1 m1 v d q Q rel1 rv hq fun _ _ _ _ _ l => k _ _ _ _ _ (l1.trans l)
theorem call_wk {f : FN} {rr : List V → Hp → VK → Prop} {ta : DA} (o : OpN K f rr) (s : L2.St) (H : Hp) (Q : VK) (h : liftE K (dCallB f ta) s H Q) : liftA K ta s H fun xs H1 => rr xs H1 Q := by
  obtain ⟨W, F, m, r, q, rel, rs, h, k⟩ := h
  refine ⟨W, F, m, r, fun x m1 => f x m1 q, rel, rs, h, fun W1 H1 m1 v d l1 rel1 rv hq => ?_⟩
  exact o W1 F H1 m1 v d q Q rel1 rv hq fun _ _ _ _ _ l => k _ _ _ _ _ (l1.trans l)
end
def dVar (i : Nat) : DE := fun r m q => onS (slot r i) fun d => q d m
def dC (d : D) : DE := fun _ m q => q d m
section
variable {X : Cx} {pos : Pos}
theorem je_var (i : Nat) {x : Str} (hN : X.N[i]? = some x := by rfl) (hv : Vis X.env.scope x := by first | exact .inl rfl | exact .inr (.inl rfl) | exact .inr (.inr rfl)) (hd : (x == ("__debug__" : Str)) = false := by decide)
    (hcd : (x == ("__classdict__" : Str)) = false := by decide) : JE X (.Name x pos) (dVar i) :=
  pe_wk (pe_var hN hv hd hcd) fun s H Q ⟨W, F, m, r, q, rel, rs, h, k⟩ => by
    obtain ⟨d, e, h⟩ := onS_some h
    obtain ⟨v, e2, rv⟩ := rs.get e
    exact ⟨v, e2, k W H m v d (.refl _) rel rv h⟩
theorem je_c {e : Expr} {v : V} {d : D} (h : PE X e (tC v)) (r : ∀ W, R X.K W v d) : JE X e (dC d) :=
  pe_wk h fun s H Q ⟨W, F, m, _, q, rel, _, h, k⟩ => k W H m v d (.refl _) rel (r W) h
theorem je_int {i j} : JE X (.Constant (.int i) j pos) (dC (.int i)) := je_c pe_int fun _ => .int _
theorem je_bl {b j} : JE X (.Constant (.bool b) j pos) (dC (.bl b)) := je_c pe_bl fun _ => .bl _
theorem je_str {x j} : JE X (.Constant (.str x) j pos) (dC (.str x)) := je_c pe_str fun _ => .str _
/-- a module's constant -/
theorem je_glob {x : Str} {v : V} {d : D} (hg : Gl X x) (hm : ∃ u, X.mg x = some u ∧ RelV v u) (r : ∀ W, R X.K W v d) (hd : (x == ("__debug__" : Str)) = false := by decide) : JE X (.Name x pos) (dC d) := by
  obtain ⟨u, h1, h2⟩ := hm
  exact je_c (pe_glob hg h1 h2 hd) r
end
def dNil : DA := fun _ m q => q [] m
def dCons (ta : DE) (tr : DA) : DA := fun r m q => ta r m fun x m1 => tr r m1 fun xs m2 => q (x :: xs) m2
def dTup (t : DA) : DE := fun r m q => t r m fun xs m1 => xs.length ≤ 1000 ∧ q (.tup xs) m1
def dLst (t : DA) : DE := fun r m q => t r m fun xs m1 => xs.length ≤ 1000 ∧ q (.lst xs) m1
def dLstP (t : DA) : DE := fun r m q => t r m fun xs m1 => xs.length ≤ 1000 ∧ q (.ptr m1.length) (m1 ++ [.lst xs])
theorem small_len {n : Nat} (h : n ≤ 1000) : n ≤ sizeLine := Nat.le_trans h (by rw [sizeLine_eq]; decide)
section
variable {X : Cx} {pos : Pos} {e : Expr} {es : List Expr} {te : DE} {t : DA}
theorem ja_nil : JA X [] dNil := pa_wk pa_nil fun s H Q ⟨W, F, m, _, q, rel, _, h, k⟩ => k W H m [] [] (.refl _) rel .nil h
theorem ja_cons (ha : JE X e te) (hr : JA X es t) (hs : starEach (e :: es) X.env = (false, eval e X.env) :: starEach es X.env := by rfl) : JA X (e :: es) (dCons te t) :=
  pa_wk (pa_cons ha hr hs) fun s H Q ⟨W, F, m, r, q, rel, rs, h, k⟩ => by
    refine ⟨W, F, m, r, fun x m1 => t r m1 fun xs m2 => q (x :: xs) m2, rel, rs, h, fun W1 H1 m1 v d l1 rel1 rv hq => ?_⟩
    refine ⟨W1, F, m1, r, fun xs m2 => q (d :: xs) m2, rel1, rs.mono l1, hq, fun W2 H2 m2 vs ds l2 rel2 ra hq2 => ?_⟩
    exact k W2 H2 m2 (v :: vs) (d :: ds) (l1.trans l2) rel2 (.cons (rv.mono l2) ra) hq2
theorem cold_lst {K : PySem.W.Frag} {W : Wd} {F H : Hp} {m : Sto} {q : D → Sto → Prop} {Q : VK} {vs : List V} {ds : List D} {p : Addr} (rel : Rel K W F H m) (ra : RA K W vs ds) (hq : q (.lst ds) m) (k : Fol K W F q Q) (hp : H p = none) : Q (.ref p) (upd H p (.lst vs)) :=
  k _ _ m (.ref p) (.lst ds) (cold_le rel.toRel0 hp) (rel.cold hp) (.lst upd_same (ra.mono (cold_le rel.toRel0 hp))) hq
theorem cold_tup {K : PySem.W.Frag} {W : Wd} {F H : Hp} {m : Sto} {q : D → Sto → Prop} {Q : VK} {vs : List V} {ds : List D} {p : Addr} (rel : Rel K W F H m) (ra : RA K W vs ds) (hq : q (.tup ds) m) (k : Fol K W F q Q) (hp : H p = none) : Q (.ref p) (upd H p (.tup vs)) :=
  k _ _ m (.ref p) (.tup ds) (cold_le rel.toRel0 hp) (rel.cold hp) (.tup (SqT.of upd_same) (ra.mono (cold_le rel.toRel0 hp))) hq
theorem hot_lst {K : PySem.W.Frag} {W : Wd} {F H : Hp} {m : Sto} {q : D → Sto → Prop} {Q : VK} {vs : List V} {ds : List D} {p : Addr} (rel : Rel K W F H m) (ra : RA K W vs ds) (hq : q (.ptr m.length) (m ++ [.lst ds])) (k : Fol K W F q Q) (hp : H p = none) : Q (.ref p) (upd H p (.lst vs)) :=
  k _ _ (m ++ [.lst ds]) (.ref p) (.ptr m.length) hot_le (rel.hot (c := .lst ds) hp ⟨vs, upd_same, ra⟩) (.ptr (hot_at rel.toRel0)) hq
theorem je_tup {x1} (h : JA X es t) : JE X (.Tuple es x1 pos) (dTup t) :=
  pe_wk (pe_tup h) fun s H Q ⟨W, F, m, r, q, rel, rs, h, k⟩ => by
    refine ⟨W, F, m, r, _, rel, rs, h, fun W1 H1 m1 vs ds l1 rel1 ra hq => ⟨by rw [ra.len]; exact small_len hq.1, fun p hp => ?_⟩⟩
    exact cold_tup rel1 ra hq.2 (fun _ _ _ _ _ l => k _ _ _ _ _ (l1.trans l)) hp
theorem je_lst (h : JA X es t) : JE X (.List es pos) (dLst t) :=
  pe_wk (pe_lst h) fun s H Q ⟨W, F, m, r, q, rel, rs, h, k⟩ => by
    refine ⟨W, F, m, r, _, rel, rs, h, fun W1 H1 m1 vs ds l1 rel1 ra hq => ⟨by rw [ra.len]; exact small_len hq.1, fun p hp => ?_⟩⟩
    exact cold_lst rel1 ra hq.2 (fun _ _ _ _ _ l => k _ _ _ _ _ (l1.trans l)) hp
theorem je_lstP (h : JA X es t) : JE X (.List es pos) (dLstP t) :=
  pe_wk (pe_lst h) fun s H Q ⟨W, F, m, r, q, rel, rs, h, k⟩ => by
    refine ⟨W, F, m, r, _, rel, rs, h, fun W1 H1 m1 vs ds l1 rel1 ra hq => ⟨by rw [ra.len]; exact small_len hq.1, fun p hp => ?_⟩⟩
    exact hot_lst rel1 ra hq.2 (fun _ _ _ _ _ l => k _ _ _ _ _ (l1.trans l)) hp
end
def lstOf : D → Sto → Option (List D)
  | .lst ds, _ => some ds
  | .ptr i, m => match m[i]? with | some (.lst ds) => some ds | _ => none
  | _, _ => none
theorem lstOf_at {K : PySem.W.Frag} {W : Wd} {F H : Hp} {m : Sto} {x : V} {d : D} {ds : List D} (rel : Rel K W F H m) (rv : R K W x d) (e : lstOf d m = some ds) : ∃ a xs, x = .ref a ∧ H a = some (.lst xs) ∧ RA K W xs ds := by
  cases rv with
  | @lst a xs es h r => cases e; exact ⟨a, xs, rfl, rel.sub _ _ h, r⟩
  | @ptr a i hb =>
    unfold lstOf at e
    cases q : m[i]? with
    | none => simp only [q] at e; cases e
    | some c =>
      cases c with
      | dead => simp only [q] at e; cases e
      | exc _ _ => simp only [q] at e; cases e
      | dic es => simp only [q] at e; cases e
      | ins c fs => simp only [q] at e; cases e
      | lst es =>
        simp only [q] at e
        cases e
        obtain ⟨b, h1, h2, h3, xs, h4, h5⟩ := rel.cell i _ q (fun z => by cases z)
        obtain rfl : b = a := Option.some.inj (h1.symm.trans hb)
        exact ⟨b, xs, rfl, h4, h5⟩
  | _ => cases e
/-- what is read as a list -/
def seqL : D → Sto → Option (List D)
  | .fz ds, _ => some ds
  | d, m => lstOf d m
theorem seqL_at {K : PySem.W.Frag} {W : Wd} {F H : Hp} {m : Sto} {x : V} {d : D} {ds : List D} (rel : Rel K W F H m) (rv : R K W x d) (e : seqL d m = some ds) : ∃ a xs, x = .ref a ∧ SqL K H a xs ∧ RA K W xs ds := by
  by_cases hf : ∃ es, d = .fz es
  · obtain ⟨es, rfl⟩ := hf
    cases e
    cases rv with
    | fz h r => exact ⟨_, _, rfl, same_seqL rel.sub h, r⟩
  · have e' : lstOf d m = some ds := by
      cases d <;> first | exact e | exact absurd ⟨_, rfl⟩ hf
    obtain ⟨a, xs, h1, h2, h3⟩ := lstOf_at rel rv e'
    exact ⟨a, xs, h1, SqL.of h2, h3⟩
theorem tup_at {K : PySem.W.Frag} {W : Wd} {F H : Hp} {m : Sto} {x : V} {ds : List D} (rel : Rel K W F H m) (rv : R K W x (.tup ds)) : ∃ a xs, x = .ref a ∧ SqT K H a xs ∧ RA K W xs ds := by
  cases rv with
  | tup h r => exact ⟨_, _, rfl, same_seqT rel.sub h, r⟩
theorem atI_ra {K : PySem.W.Frag} {W : Wd} {xs : List V} {ds : List D} {i : Int} {d : D} (r : RA K W xs ds) (e : atI ds i = some d) : ∃ v, atI xs i = some v ∧ R K W v d := by
  unfold atI at e ⊢
  rw [r.len]
  cases q : ixN ds.length i with
  | none => rw [q] at e; cases e
  | some j =>
    rw [q] at e
    exact r.get e
def dAdd : F2
  | .int i, .int j, m, q => q (.int (i + j)) m
  | .str a, .str b, m, q => a.length + b.length ≤ sizeLine ∧ q (.str (a ++ b)) m
  | .tup a, .tup b, m, q => a.length + b.length ≤ sizeLine ∧ q (.tup (a ++ b)) m
  | x, y, m, q => onS (lstOf x m) fun a => onS (lstOf y m) fun b => a.length + b.length ≤ sizeLine ∧ q (.lst (a ++ b)) m
def rrAdd (K : PySem.W.Frag) : R2 := fun x y H Q => (rI0 fun i j => .int (i + j)) x y H Q ∨ (fun x y H Q => ∃ i j, x = .str i ∧ y = .str j ∧ i.length + j.length ≤ sizeLine ∧ Q (.str (i ++ j)) H) x y H Q ∨ rCatA K x y H Q ∨ rCat x y H Q
theorem op_addAll {X : Cx} : OpR X (binaryOp .Add) (rrAdd X.K) := op_add.or (op_add_str.or (op_catA.or op_cat))
theorem o_add {K : PySem.W.Frag} : Op2 K dAdd (rrAdd K) := by
  intro W F H m x y d e q Q rel rx ry h k
  have lists : (onS (lstOf d m) fun a => onS (lstOf e m) fun b => a.length + b.length ≤ sizeLine ∧ q (.lst (a ++ b)) m) → rrAdd K x y H Q := fun h => by
    obtain ⟨a, e1, h⟩ := onS_some h
    obtain ⟨b, e2, hz, h⟩ := onS_some h
    obtain ⟨p1, xs, rfl, g1, r1⟩ := lstOf_at rel rx e1
    obtain ⟨p2, ys, rfl, g2, r2⟩ := lstOf_at rel ry e2
    refine .inr (.inr (.inr ⟨p1, p2, xs, ys, rfl, rfl, g1, g2, by rw [r1.len, r2.len]; exact hz, fun p hp => ?_⟩))
    exact cold_lst rel (r1.app r2) h k hp
  unfold dAdd at h
  split at h
  · cases rx; cases ry
    exact .inl ⟨_, _, rfl, rfl, k _ _ _ _ _ (.refl _) rel (.int _) h⟩
  · cases rx; cases ry
    exact .inr (.inl ⟨_, _, rfl, rfl, h.1, k _ _ _ _ _ (.refl _) rel (.str _) h.2⟩)
  · rename_i a b
    obtain ⟨p1, xs, rfl, g1, r1⟩ := tup_at rel rx
    obtain ⟨p2, ys, rfl, g2, r2⟩ := tup_at rel ry
    refine .inr (.inr (.inl ⟨p1, p2, xs, ys, rfl, rfl, g1, g2, by rw [r1.len, r2.len]; exact h.1, fun hx => ?_, fun _ hy => ?_, fun _ _ p hp => ?_⟩))
    · have hz : a = [] := by have := r1.len; rw [hx] at this; exact List.eq_nil_of_length_eq_zero this.symm
      rw [hz, List.nil_append] at h
      exact k _ _ _ _ _ (.refl _) rel ry h.2
    · have hz : b = [] := by have := r2.len; rw [hy] at this; exact List.eq_nil_of_length_eq_zero this.symm
      rw [hz, List.append_nil] at h
      exact k _ _ _ _ _ (.refl _) rel rx h.2
    · exact cold_tup rel (r1.app r2) h.2 k hp
  · exact lists h
def dI2 (C : Int → Int → Prop) (g : Int → Int → Int) : F2
  | .int i, .int j, m, q => C i j ∧ q (.int (g i j)) m
  | _, _, _, _ => False
theorem o_I2 {K : PySem.W.Frag} {C : Int → Int → Prop} {g : Int → Int → Int} : Op2 K (dI2 C g) (rI C fun i j => .int (g i j)) := by
  intro W F H m x y d e q Q rel rx ry h k
  unfold dI2 at h
  split at h
  · cases rx; cases ry
    exact ⟨_, _, rfl, rfl, h.1, k _ _ _ _ _ (.refl _) rel (.int _) h.2⟩
  · exact h.elim
def dI0 (g : Int → Int → Int) : F2
  | .int i, .int j, m, q => q (.int (g i j)) m
  | _, _, _, _ => False
theorem o_I0 {K : PySem.W.Frag} {g : Int → Int → Int} : Op2 K (dI0 g) (rI0 fun i j => .int (g i j)) := by
  intro W F H m x y d e q Q rel rx ry h k
  unfold dI0 at h
  split at h
  · cases rx; cases ry
    exact ⟨_, _, rfl, rfl, k _ _ _ _ _ (.refl _) rel (.int _) h⟩
  · exact h.elim
def dB0 (g : Int → Int → Bool) : F2
  | .int i, .int j, m, q => q (.bl (g i j)) m
  | _, _, _, _ => False
theorem o_B0 {K : PySem.W.Frag} {g : Int → Int → Bool} : Op2 K (dB0 g) (rI0 fun i j => .bl (g i j)) := by
  intro W F H m x y d e q Q rel rx ry h k
  unfold dB0 at h
  split at h
  · cases rx; cases ry
    exact ⟨_, _, rfl, rfl, k _ _ _ _ _ (.refl _) rel (.bl _) h⟩
  · exact h.elim
abbrev dSub : F2 := dI0 fun i j => i - j
def CMulA (i j : Int) : Prop := CMul i j ∨ CMulW i j
theorem op_mulA {X : Cx} : OpR X (binaryOp .Mult) (rI CMulA fun i j => .int (i * j)) := by
  intro pins s a H x y v u Q I rx ry h
  obtain ⟨i, j, rfl, rfl, c, q⟩ := h
  cases c with
  | inl c => exact op_mul pins s a H _ _ v u Q I rx ry ⟨i, j, rfl, rfl, c, q⟩
  | inr c => exact op_mulW pins s a H _ _ v u Q I rx ry ⟨i, j, rfl, rfl, c, q⟩
abbrev dMul : F2 := dI2 CMulA fun i j => i * j
abbrev dMod : F2 := dI2 (fun _ j => 0 < j) fun i j => i % j
abbrev dDiv : F2 := dI2 CDivW fun i j => i / j
abbrev dPow : F2 := dI2 CPow fun i j => i ^ j.toNat
abbrev dLt : F2 := dB0 fun i j => decide (i < j)
abbrev dLe : F2 := dB0 fun i j => decide (i ≤ j)
abbrev dGt : F2 := dB0 fun i j => decide (j < i)
abbrev dGe : F2 := dB0 fun i j => decide (j ≤ i)
def dNeg : F1
  | .int i, m, q => q (.int (-i)) m
  | _, _, _ => False
theorem o_neg {K : PySem.W.Frag} : Op1 K dNeg (rU fun i => .int (-i)) := by
  intro W F H m x d q Q rel rx h k
  unfold dNeg at h
  split at h
  · cases rx
    exact ⟨_, rfl, k _ _ _ _ _ (.refl _) rel (.int _) h⟩
  · exact h.elim
section
variable {X : Cx} {pos : Pos} {a b c : Expr} {ta tb tc : DE}
theorem je_op {op : Operator} {f : F2} {rr : R2} (ho : OpR X (binaryOp op) rr) (o : Op2 X.K f rr) (ha : JE X a ta) (hb : JE X b tb) : JE X (.BinOp a op b pos) (dBin f ta tb) := pe_wk (pe_op ho ha hb) (bin_wk o)
theorem je_add (ha : JE X a ta) (hb : JE X b tb) : JE X (.BinOp a .Add b pos) (dBin dAdd ta tb) := je_op op_addAll o_add ha hb
theorem je_sub (ha : JE X a ta) (hb : JE X b tb) : JE X (.BinOp a .Sub b pos) (dBin dSub ta tb) := je_op op_sub o_I0 ha hb
theorem je_mul (ha : JE X a ta) (hb : JE X b tb) : JE X (.BinOp a .Mult b pos) (dBin dMul ta tb) := je_op op_mulA o_I2 ha hb
theorem je_mod (ha : JE X a ta) (hb : JE X b tb) : JE X (.BinOp a .Mod b pos) (dBin dMod ta tb) := je_op op_mod o_I2 ha hb
theorem je_div (ha : JE X a ta) (hb : JE X b tb) : JE X (.BinOp a .FloorDiv b pos) (dBin dDiv ta tb) := je_op op_fdivW o_I2 ha hb
theorem je_neg (ha : JE X a ta) : JE X (.UnaryOp .USub a pos) (dUn dNeg ta) := pe_wk (pe_un un_neg ha) (un_wk o_neg)
theorem je_cmp {op : CmpOp} {f : F2} {rr : R2} (ho : OpR X (compareOp op) rr) (o : Op2 X.K f rr) (ha : JE X a ta) (hb : JE X b tb) (hm : behindInMarks op b = false) : JE X (.Compare a [op] [b] pos) (dBin f ta tb) := pe_wk (pe_cmpR ho ha hb hm) (bin_wk o)
end
mutual
def py0 : D → Option PyData
  | .non => some .none
  | .bl b => some (.bool b)
  | .int i => some (.int i)
  | .str x => some (.str x)
  | .tup ds => (py0A ds).map .tuple
  | .lst ds => (py0A ds).map .list
  | .fz ds => (py0A ds).map .list
  | .ptr _ => none
  | .ty _ => none
  | .dic _ => none
  | .adr _ => none
  | .gl _ => none
def py0A : List D → Option (List PyData)
  | [] => some []
  | d :: ds => match py0 d, py0A ds with
    | some p, some ps => some (p :: ps)
    | _, _ => none
end
def py (m : Sto) : D → Option PyData
  | .ptr i => match m[i]? with | some (.lst ds) => (py0A ds).map .list | _ => none
  | d => py0 d
mutual
theorem dp_of {K : PySem.W.Frag} {W : Wd} : ∀ {x : V} {d : D} {p : PyData}, R K W x d → py0 d = some p → Dp K W.st x p
  | _, _, _, .non, e => by cases e; exact .non
  | _, _, _, .bl b, e => by cases e; exact .bl b
  | _, _, _, .int i, e => by cases e; exact .int i
  | _, _, _, .str x, e => by cases e; exact .str x
  | _, _, p, @R.tup _ _ _ a xs ds h r, e => by
    simp only [py0, Option.map_eq_some_iff] at e
    obtain ⟨ps, e1, rfl⟩ := e
    exact .tup h (dpA_of r e1)
  | _, _, p, @R.lst _ _ _ a xs ds h r, e => by
    simp only [py0, Option.map_eq_some_iff] at e
    obtain ⟨ps, e1, rfl⟩ := e
    exact .lst (SqL.of h) (dpA_of r e1)
  | _, _, p, @R.fz _ _ _ a xs ds h r, e => by
    simp only [py0, Option.map_eq_some_iff] at e
    obtain ⟨ps, e1, rfl⟩ := e
    exact .lst h (dpA_of r e1)
  | _, _, _, .ty _, e => by cases e
  | _, _, _, .ptr _, e => by cases e
  | _, _, _, .dic _ _, e => by cases e
  | _, _, _, .adr _, e => by cases e
  | _, _, _, .gl _, e => by cases e
theorem dpA_of {K : PySem.W.Frag} {W : Wd} : ∀ {xs : List V} {ds : List D} {ps : List PyData}, RA K W xs ds → py0A ds = some ps → DpAll K W.st xs ps
  | _, _, _, .nil, e => by cases e; exact .nil
  | _, _, ps, @RA.cons _ _ _ v vs d ds h r, e => by
    unfold py0A at e
    cases e1 : py0 d with
    | none => rw [e1] at e; simp at e
    | some p =>
      cases e2 : py0A ds with
      | none => rw [e1, e2] at e; simp at e
      | some qs =>
        rw [e1, e2] at e
        cases e
        exact .cons (dp_of h e1) (dpA_of r e2)
end
mutual
theorem dp_mono {K : PySem.W.Frag} {H H' : Hp} (s : Same H H') : ∀ {x : V} {p : PyData}, Dp K H x p → Dp K H' x p
  | _, _, .non => .non
  | _, _, .bl b => .bl b
  | _, _, .int i => .int i
  | _, _, .str x => .str x
  | _, _, .lst h r => .lst (same_seqL s h) (dpA_mono s r)
  | _, _, .tup h r => .tup (same_seqT s h) (dpA_mono s r)
theorem dpA_mono {K : PySem.W.Frag} {H H' : Hp} (s : Same H H') : ∀ {xs : List V} {ps : List PyData}, DpAll K H xs ps → DpAll K H' xs ps
  | _, _, .nil => .nil
  | _, _, .cons h r => .cons (dp_mono s h) (dpA_mono s r)
end
theorem py_dp {K : PySem.W.Frag} {W : Wd} {F H : Hp} {m : Sto} {x : V} {d : D} {p : PyData} (rel : Rel K W F H m) (rx : R K W x d) (e : py m d = some p) : Dp K H x p := by
  by_cases hp : ∃ i, d = .ptr i
  · obtain ⟨i, rfl⟩ := hp
    have hl : ∃ ds, lstOf (.ptr i) m = some ds ∧ (py0A ds).map PyData.list = some p := by
      unfold py at e
      unfold lstOf
      cases q : m[i]? with
      | none => simp only [q] at e; cases e
      | some c =>
        cases c with
        | dead => simp only [q] at e; cases e
        | exc _ _ => simp only [q] at e; cases e
        | dic ds => simp only [q] at e; cases e
        | ins c fs => simp only [q] at e; cases e
        | lst ds => simp only [q] at e ⊢; exact ⟨ds, rfl, e⟩
    obtain ⟨ds, h1, h2⟩ := hl
    obtain ⟨a, xs, rfl, h3, h4⟩ := lstOf_at rel rx h1
    simp only [Option.map_eq_some_iff] at h2
    obtain ⟨ps, e1, rfl⟩ := h2
    exact .lst (SqL.of h3) (dpA_mono rel.sub (dpA_of h4 e1))
  · have e' : py0 d = some p := by
      cases d <;> first | exact e | exact absurd ⟨_, rfl⟩ hp
    exact dp_mono rel.sub (dp_of rx e')
@[irreducible] def dEqG (neg : Bool) (x y : D) (m : Sto) (q : D → Sto → Prop) : Prop := onS (py m x) fun a => onS (py m y) fun b => SeqAt.shaped a = true ∧ SeqAt.shaped b = true ∧ q (.bl (if neg then !PyData.eqv a b else PyData.eqv a b)) m
def dEq : F2
  | .int i, .int j, m, q => q (.bl (decide (i = j))) m
  | .bl i, .bl j, m, q => q (.bl (decide (i = j))) m
  | .str i, .str j, m, q => q (.bl (decide (i = j))) m
  | x, y, m, q => dEqG false x y m q
def dNe : F2
  | .int i, .int j, m, q => q (.bl (!decide (i = j))) m
  | .bl i, .bl j, m, q => q (.bl (!decide (i = j))) m
  | .str i, .str j, m, q => q (.bl (!decide (i = j))) m
  | x, y, m, q => dEqG true x y m q
def rrEq (K : PySem.W.Frag) : R2 := fun x y H Q => rEq x y H Q ∨ rEqD K x y H Q
def rrNe (K : PySem.W.Frag) : R2 := fun x y H Q => rNe x y H Q ∨ rNeD K x y H Q
theorem v_int {i j : Int} : decide (V.int i = V.int j) = decide (i = j) := by simp
theorem v_bl {i j : Bool} : decide (V.bl i = V.bl j) = decide (i = j) := by simp
theorem v_str {i j : Str} : decide (V.str i = V.str j) = decide (i = j) := by simp
theorem o_eq {K : PySem.W.Frag} : Op2 K dEq (rrEq K) := by
  intro W F H m x y d e q Q rel rx ry h k
  unfold dEq at h
  split at h
  · cases rx; cases ry
    refine .inl ⟨rfl, ?_⟩
    rw [v_int]
    exact k _ _ _ _ _ (.refl _) rel (.bl _) h
  · cases rx; cases ry
    refine .inl ⟨rfl, ?_⟩
    rw [v_bl]
    exact k _ _ _ _ _ (.refl _) rel (.bl _) h
  · cases rx; cases ry
    refine .inl ⟨rfl, ?_⟩
    rw [v_str]
    exact k _ _ _ _ _ (.refl _) rel (.bl _) h
  · unfold dEqG at h
    obtain ⟨a, e1, h⟩ := onS_some h
    obtain ⟨b, e2, h1, h2, h⟩ := onS_some h
    exact .inr ⟨a, b, py_dp rel rx e1, py_dp rel ry e2, h1, h2, k _ _ _ _ _ (.refl _) rel (.bl _) h⟩
theorem o_ne {K : PySem.W.Frag} : Op2 K dNe (rrNe K) := by
  intro W F H m x y d e q Q rel rx ry h k
  unfold dNe at h
  split at h
  · cases rx; cases ry
    refine .inl ⟨rfl, ?_⟩
    rw [v_int]
    exact k _ _ _ _ _ (.refl _) rel (.bl _) h
  · cases rx; cases ry
    refine .inl ⟨rfl, ?_⟩
    rw [v_bl]
    exact k _ _ _ _ _ (.refl _) rel (.bl _) h
  · cases rx; cases ry
    refine .inl ⟨rfl, ?_⟩
    rw [v_str]
    exact k _ _ _ _ _ (.refl _) rel (.bl _) h
  · unfold dEqG at h
    obtain ⟨a, e1, h⟩ := onS_some h
    obtain ⟨b, e2, h1, h2, h⟩ := onS_some h
    exact .inr ⟨a, b, py_dp rel rx e1, py_dp rel ry e2, h1, h2, k _ _ _ _ _ (.refl _) rel (.bl _) h⟩
theorem op_eqAll {X : Cx} (hu : X.A.units + 64 < cLine) : OpR X (compareOp .Eq) (rrEq X.K) := op_eq.or (op_eqD hu)
theorem op_neAll {X : Cx} (hu : X.A.units + 64 < cLine) : OpR X (compareOp .NotEq) (rrNe X.K) := op_ne.or (op_neD hu)
theorem units64 {k : Nat} {A : Around} (hr : Room k A) : A.units + 64 < cLine := by have := hr.un; omega
def dIx : F2
  | .tup ds, .int i, m, q => onS (atI ds i) fun d => q d m
  | .str z, .int i, m, q => z.length ≤ sizeLine ∧ onS (atI z.cps.toList i) fun c => q (.str ⟨#[c]⟩) m
  | x, .int i, m, q => onS (seqL x m) fun ds => onS (atI ds i) fun d => q d m
  | _, _, _, _ => False
theorem o_ix {K : PySem.W.Frag} : Op2 K dIx (rIx K) := by
  intro W F H m x y d e q Q rel rx ry h k
  unfold dIx at h
  split at h
  · cases ry
    obtain ⟨d, e1, h⟩ := onS_some h
    obtain ⟨p, xs, rfl, g, r⟩ := tup_at rel rx
    obtain ⟨v, e2, rv⟩ := atI_ra r e1
    exact .inr (.inl ⟨p, xs, _, v, rfl, rfl, g, e2, k _ _ _ _ _ (.refl _) rel rv h⟩)
  · cases rx; cases ry
    obtain ⟨hz, h⟩ := h
    obtain ⟨c, e1, h⟩ := onS_some h
    exact .inr (.inr ⟨_, _, c, rfl, rfl, hz, e1, k _ _ _ _ _ (.refl _) rel (.str _) h⟩)
  · cases ry
    obtain ⟨ds, e0, h⟩ := onS_some h
    obtain ⟨d, e1, h⟩ := onS_some h
    obtain ⟨p, xs, rfl, g, r⟩ := seqL_at rel rx e0
    obtain ⟨v, e2, rv⟩ := atI_ra r e1
    exact .inl ⟨p, xs, _, v, rfl, rfl, g, e2, k _ _ _ _ _ (.refl _) rel rv h⟩
  · exact h.elim
def cutD {α : Type} (xs : List α) (lo hi : Option Int) : List α := (xs.drop (HT.sIx xs.length 0 lo)).take (HT.sIx xs.length xs.length hi - HT.sIx xs.length 0 lo)
theorem ra_cut {K : PySem.W.Frag} {W : Wd} {xs : List V} {ds : List D} (r : RA K W xs ds) (lo hi : Option Int) : RA K W (cutV xs lo hi) (cutD ds lo hi) := by
  unfold cutV cutD
  rw [r.len]
  exact (r.dp _).tk _
abbrev DO := DSt → Sto → (Option Int → Sto → Prop) → Prop
def liftO (K : PySem.W.Frag) (t : DO) : TO := fun s H Q => ∃ (W : Wd) (F : Hp) (m : Sto) (r : DSt) (q : Option Int → Sto → Prop), Rel K W F H m ∧ RSt K W s r ∧ t r m q ∧
  ∀ W' H' m' o, W.Le W' → Rel K W' F H' m' → q o m' → Q o H'
abbrev JO (X : Cx) (e : Option Expr) (t : DO) : Prop := PO X e (liftO X.K t)
def dNoPart : DO := fun _ m q => q none m
def dPart (t : DE) : DO := fun r m q => t r m fun x m1 => match x with | .int i => q (some i) m1 | _ => False
theorem po_wk {X : Cx} {e : Option Expr} {t t' : TO} (h : PO X e t) (k : ∀ s H Q, t' s H Q → t s H Q) : PO X e t' := ⟨fun p s a H Q I z => h.run p s a H Q I (k _ _ _ z)⟩
theorem jo_none {X : Cx} : JO X none dNoPart := po_wk po_none fun s H Q ⟨W, F, m, r, q, rel, rs, h, k⟩ => k W H m none (.refl _) rel h
theorem jo_some {X : Cx} {e : Expr} {te : DE} (h : JE X e te) : JO X (some e) (dPart te) := po_wk (po_some h) fun s H Q ⟨W, F, m, r, q, rel, rs, h, k⟩ => by
  refine ⟨W, F, m, r, _, rel, rs, h, fun W1 H1 m1 v d l1 rel1 rv hq => ?_⟩
  cases d with
  | int i => cases rv; exact ⟨i, rfl, k W1 H1 m1 (some i) l1 rel1 hq⟩
  | _ => exact hq.elim
def dSlice (f : D → Option Int → Option Int → Sto → (D → Sto → Prop) → Prop) (te : DE) (tl th : DO) : DE := fun r m q => te r m fun x m1 => tl r m1 fun l m2 => th r m2 fun u m3 => f x l u m3 q
def dCut (x : D) (lo hi : Option Int) (m : Sto) (q : D → Sto → Prop) : Prop := match x with
  | .str z => z.length ≤ sizeLine ∧ q (.str (cutS z lo hi)) m
  | .tup ds => q (.tup (cutD ds lo hi)) m
  | x => onS (seqL x m) fun ds => q (.lst (cutD ds lo hi)) m
def rrCut (K : PySem.W.Frag) (x : V) (lo hi : Option Int) (H : Hp) (Q : VK) : Prop := rSlL K x lo hi H Q ∨ rSlA K x lo hi H Q ∨ rSlS x lo hi H Q
theorem sl_all {X : Cx} : SlR X (rrCut X.K) := sl_list.or (sl_tupA.or sl_str)
theorem cut_whole {α : Type} (xs : List α) (lo hi : Option Int) (h1 : HT.sIx xs.length 0 lo = 0) (h2 : HT.sIx xs.length xs.length hi = xs.length) : cutD xs lo hi = xs := by
  unfold cutD
  rw [h1, h2]
  simp
theorem slice_wk {K : PySem.W.Frag} {f : D → Option Int → Option Int → Sto → (D → Sto → Prop) → Prop} {rr : V → Option Int → Option Int → Hp → VK → Prop} {te : DE} {tl th : DO}
    (o : ∀ W F H m x d lo hi q Q, Rel K W F H m → R K W x d → f d lo hi m q → Fol K W F q Q → rr x lo hi H Q) (s : L2.St) (H : Hp) (Q : VK) (h : liftE K (dSlice f te tl th) s H Q) : tSl rr (liftE K te) (liftO K tl) (liftO K th) s H Q := by
  obtain ⟨W, F, m, r, q, rel, rs, h, k⟩ := h
  refine ⟨W, F, m, r, _, rel, rs, h, fun W1 H1 m1 v d l1 rel1 rv hq => ?_⟩
  refine ⟨W1, F, m1, r, _, rel1, rs.mono l1, hq, fun W2 H2 m2 lo l2 rel2 hq2 => ?_⟩
  refine ⟨W2, F, m2, r, _, rel2, rs.mono (l1.trans l2), hq2, fun W3 H3 m3 hi l3 rel3 hq3 => ?_⟩
  exact o W3 F H3 m3 v d lo hi q Q rel3 (rv.mono (l2.trans l3)) hq3 fun _ _ _ _ _ l => k _ _ _ _ _ (l1.trans (l2.trans (l3.trans l)))
theorem o_cut {K : PySem.W.Frag} : ∀ W F H m x d lo hi q Q, Rel K W F H m → R K W x d → dCut d lo hi m q → Fol K W F q Q → rrCut K x lo hi H Q := by
  intro W F H m x d lo hi q Q rel rx h k
  have lists : (onS (seqL d m) fun ds => q (.lst (cutD ds lo hi)) m) → rrCut K x lo hi H Q := fun h => by
    obtain ⟨ds, e, h⟩ := onS_some h
    obtain ⟨a, xs, rfl, g, r⟩ := seqL_at rel rx e
    exact .inl ⟨a, xs, rfl, g, fun p hp => cold_lst rel (ra_cut r lo hi) h k hp⟩
  unfold dCut at h
  split at h
  · cases rx
    exact .inr (.inr ⟨_, rfl, h.1, k _ _ _ _ _ (.refl _) rel (.str _) h.2⟩)
  · rename_i ds
    obtain ⟨a, xs, rfl, g, r⟩ := tup_at rel rx
    refine .inr (.inl ⟨a, xs, rfl, g, fun hw => ?_, fun _ p hp => cold_tup rel (ra_cut r lo hi) h k hp⟩)
    rw [r.len] at hw
    rw [cut_whole ds lo hi hw.1 hw.2] at h
    exact k _ _ _ _ _ (.refl _) rel rx h
  · exact lists h
section
variable {X : Cx} {pos p2 : Pos} {a b e : Expr} {lo hi : Option Expr} {ta tb te : DE} {tl th : DO}
theorem je_ix (ha : JE X a ta) (hb : JE X b tb) (hs : PlainIx b := by exact fun _ _ => rfl) : JE X (.Subscript a b pos) (dBin dIx ta tb) := pe_wk (pe_ix ix_seq ha hb hs) (bin_wk o_ix)
theorem je_slice (he : JE X e te) (hl : JO X lo tl) (hu : JO X hi th) : JE X (.Subscript e (.Slice lo hi none p2) pos) (dSlice dCut te tl th) := pe_wk (pe_slice sl_all he hl hu) (slice_wk o_cut)
theorem je_eq {k : Nat} (hr : Room k X.A) (ha : JE X a ta) (hb : JE X b tb) : JE X (.Compare a [.Eq] [b] pos) (dBin dEq ta tb) := je_cmp (op_eqAll (units64 hr)) o_eq ha hb (nobehind _ (by decide) (by decide))
theorem je_le (ha : JE X a ta) (hb : JE X b tb) : JE X (.Compare a [.LtE] [b] pos) (dBin dLe ta tb) := je_cmp op_le o_B0 ha hb (nobehind _ (by decide) (by decide))
theorem je_gt (ha : JE X a ta) (hb : JE X b tb) : JE X (.Compare a [.Gt] [b] pos) (dBin dGt ta tb) := je_cmp op_gt o_B0 ha hb (nobehind _ (by decide) (by decide))
end
def dAnd (ta tb : DE) : DE := fun r m q => ta r m fun x m1 => match x with | .bl c => (c = true → tb r m1 q) ∧ (c = false → q (.bl false) m1) | _ => False
def dOr (ta tb : DE) : DE := fun r m q => ta r m fun x m1 => match x with | .bl c => (c = true → q (.bl true) m1) ∧ (c = false → tb r m1 q) | _ => False
def dNot (ta : DE) : DE := fun r m q => ta r m fun x m1 => match x with | .bl c => q (.bl (!c)) m1 | _ => False
def dIfE (tc : DT) (ta tb : DE) : DE := fun r m q => tc r m fun c m1 => (c = true → ta r m1 q) ∧ (c = false → tb r m1 q)
def dChain (f g : F2) (ta tb tc : DE) : DE := fun r m q => ta r m fun x m1 => tb r m1 fun y m2 => f x y m2 fun z m3 => match z with | .bl k => (k = true → tc r m3 fun w m4 => g y w m4 q) ∧ (k = false → q (.bl false) m3) | _ => False
section
variable {X : Cx} {pos : Pos} {a b c : Expr} {rest : List Expr} {ta tb tc : DE} {tt : DT}
theorem je_one {op} {t : DE} (h : JE X a t) : JE X (.BoolOp op [a] pos) t := pe_one h
theorem je_and (ha : JE X a ta) (hb : JE X (.BoolOp .And (b :: rest) pos) tb) : JE X (.BoolOp .And (a :: b :: rest) pos) (dAnd ta tb) := pe_wk (pe_and ha hb) fun s H Q ⟨W, F, m, r, q, rel, rs, h, k⟩ => by
  refine ⟨W, F, m, r, _, rel, rs, h, fun W1 H1 m1 v d l1 rel1 rv hq => ?_⟩
  cases d with
  | bl c =>
    cases rv
    refine ⟨c, rfl, ?_⟩
    cases c with
    | true => rw [if_pos rfl]; exact ⟨W1, F, m1, r, q, rel1, rs.mono l1, hq.1 rfl, fun _ _ _ _ _ l => k _ _ _ _ _ (l1.trans l)⟩
    | false => rw [if_neg Bool.false_ne_true]; exact k _ _ _ _ _ l1 rel1 (.bl _) (hq.2 rfl)
  | _ => exact hq.elim
theorem je_not (ha : JE X a ta) : JE X (.UnaryOp .Not a pos) (dNot ta) := pe_wk (pe_not ha) fun s H Q ⟨W, F, m, r, q, rel, rs, h, k⟩ => by
  refine ⟨W, F, m, r, _, rel, rs, h, fun W1 H1 m1 v d l1 rel1 rv hq => ?_⟩
  cases d with
  | bl c => cases rv; exact ⟨c, rfl, k _ _ _ _ _ l1 rel1 (.bl _) hq⟩
  | _ => exact hq.elim
theorem chain_wk {K : PySem.W.Frag} {f g : F2} {rr rr' : R2} (o : Op2 K f rr) (o' : Op2 K g rr') (s : L2.St) (H : Hp) (Q : VK) (h : liftE K (dChain f g ta tb tc) s H Q) : tChain rr rr' (liftE K ta) (liftE K tb) (liftE K tc) s H Q := by
  obtain ⟨W, F, m, r, q, rel, rs, h, k⟩ := h
  refine ⟨W, F, m, r, _, rel, rs, h, fun W1 H1 m1 v d l1 rel1 rv hq => ?_⟩
  refine ⟨W1, F, m1, r, _, rel1, rs.mono l1, hq, fun W2 H2 m2 u e l2 rel2 ru hq2 => ?_⟩
  refine o W2 F H2 m2 v u d e _ _ rel2 (rv.mono l2) ru hq2 fun W3 H3 m3 z x l3 rel3 rz hz => ?_
  cases x with
  | bl c =>
    cases rz
    refine ⟨c, rfl, ?_⟩
    cases c with
    | true =>
      rw [if_pos rfl]
      refine ⟨W3, F, m3, r, _, rel3, rs.mono (l1.trans (l2.trans l3)), hz.1 rfl, fun W4 H4 m4 w y l4 rel4 rw4 hq4 => ?_⟩
      exact o' W4 F H4 m4 u w e y q Q rel4 (ru.mono (l3.trans l4)) rw4 hq4 fun _ _ _ _ _ l => k _ _ _ _ _ (l1.trans (l2.trans (l3.trans (l4.trans l))))
    | false => rw [if_neg Bool.false_ne_true]; exact k _ _ _ _ _ (l1.trans (l2.trans l3)) rel3 (.bl _) (hz.2 rfl)
  | _ => exact hz.elim
end
def dTest (t : DE) : DT := fun r m q => t r m fun x m1 => match x with | .bl c => q c m1 | _ => False
def dTAnd (t u : DT) : DT := fun r m q => t r m fun c m1 => (c = true → u r m1 q) ∧ (c = false → q false m1)
def dTOr (t u : DT) : DT := fun r m q => t r m fun c m1 => (c = true → q true m1) ∧ (c = false → u r m1 q)
def dTNot (t : DT) : DT := fun r m q => t r m fun c m1 => q (!c) m1
section
variable {X : Cx} {pos : Pos} {a b c e : Expr} {rest : List Expr} {ta tb tc te : DE} {t u : DT}
theorem test_wk {K : PySem.W.Frag} {te : DE} (s : L2.St) (H : Hp) (Q : Bool → Hp → Prop) (h : liftT K (dTest te) s H Q) : liftE K te s H fun x H' => ∃ k, x = .bl k ∧ Q k H' := by
  obtain ⟨W, F, m, r, q, rel, rs, h, k⟩ := h
  refine ⟨W, F, m, r, _, rel, rs, h, fun W1 H1 m1 v d l1 rel1 rv hq => ?_⟩
  cases d with
  | bl c => cases rv; exact ⟨c, rfl, k _ _ _ _ l1 rel1 hq⟩
  | _ => exact hq.elim
/-- a call, a name, a subscript as a test: its value a truth -/
theorem jt_val (h : JE X e te) (he : ∀ whole, isTrue e X.env whole = (do let v ← whole; standAt e.pos; holding [v] (truthy v)) := by intro _; rfl) : JT X e (dTest te) := pt_wk (pt_val h he) fun s H Q h => test_wk s H Q h
theorem jt_cmp {op : CmpOp} {f : F2} {rr : R2} (ho : OpR X (compareOp op) rr) (o : Op2 X.K f rr) (ha : JE X a ta) (hb : JE X b tb) (hm : behindInMarks op b = false) : JT X (.Compare a [op] [b] pos) (dTest (dBin f ta tb)) :=
  pt_wk (pt_cmpR ho ha hb hm) fun s H Q h => by
    obtain ⟨W, F, m, r, q, rel, rs, h, k⟩ := h
    exact bin_wk o s H (fun x H' => ∃ k, x = .bl k ∧ Q k H') ⟨W, F, m, r, fun x m1 => match x with | .bl c => q c m1 | _ => False, rel, rs, h, fun W1 H1 m1 v d l1 rel1 rv hq => by
      cases d with
      | bl c => cases rv; exact ⟨c, rfl, k _ _ _ _ l1 rel1 hq⟩
      | _ => exact hq.elim⟩
theorem jt_eq {k : Nat} (hr : Room k X.A) (ha : JE X a ta) (hb : JE X b tb) : JT X (.Compare a [.Eq] [b] pos) (dTest (dBin dEq ta tb)) := jt_cmp (op_eqAll (units64 hr)) o_eq ha hb (nobehind _ (by decide) (by decide))
theorem jt_ne {k : Nat} (hr : Room k X.A) (ha : JE X a ta) (hb : JE X b tb) : JT X (.Compare a [.NotEq] [b] pos) (dTest (dBin dNe ta tb)) := jt_cmp (op_neAll (units64 hr)) o_ne ha hb (nobehind _ (by decide) (by decide))
theorem jt_lt (ha : JE X a ta) (hb : JE X b tb) : JT X (.Compare a [.Lt] [b] pos) (dTest (dBin dLt ta tb)) := jt_cmp op_lt o_B0 ha hb (nobehind _ (by decide) (by decide))
theorem jt_gt (ha : JE X a ta) (hb : JE X b tb) : JT X (.Compare a [.Gt] [b] pos) (dTest (dBin dGt ta tb)) := jt_cmp op_gt o_B0 ha hb (nobehind _ (by decide) (by decide))
theorem jt_ge (ha : JE X a ta) (hb : JE X b tb) : JT X (.Compare a [.GtE] [b] pos) (dTest (dBin dGe ta tb)) := jt_cmp op_ge o_B0 ha hb (nobehind _ (by decide) (by decide))
theorem je_chain {op op' : CmpOp} {f g : F2} {rr rr' : R2} (ho : OpR X (compareOp op) rr) (o : Op2 X.K f rr) (ho' : OpR X (compareOp op') rr') (o' : Op2 X.K g rr') (ha : JE X a ta) (hb : JE X b tb) (hc : JE X c tc) (hm : lastMarks [op, op'] [b, c] = false := by with_unfolding_all rfl) :
    JE X (.Compare a [op, op'] [b, c] pos) (dChain f g ta tb tc) := pe_wk (pe_chain ho ho' ha hb hc hm) (chain_wk o o')
theorem jt_not (ha : JT X a t) : JT X (.UnaryOp .Not a pos) (dTNot t) := pt_wk (pt_not ha) fun s H Q ⟨W, F, m, r, q, rel, rs, h, k⟩ => ⟨W, F, m, r, _, rel, rs, h, fun _ _ _ c l rel1 hq => k _ _ _ _ l rel1 hq⟩
abbrev JW (X : Cx) (e : Expr) (t : DT) : Prop := PW X e (liftT X.K t)
theorem jw_and1 (ha : JT X a t) : JW X (.BoolOp .And [a] pos) t := pw_and1 ha
theorem jw_or1 (ha : JT X a t) : JW X (.BoolOp .Or [a] pos) t := pw_or1 ha
theorem jw_and (ha : JT X a t) (hb : JW X (.BoolOp .And (b :: rest) pos) u) : JW X (.BoolOp .And (a :: b :: rest) pos) (dTAnd t u) := pw_wk (pw_and ha hb) fun s H Q ⟨W, F, m, r, q, rel, rs, h, k⟩ => by
  refine ⟨W, F, m, r, _, rel, rs, h, fun W1 H1 m1 c l1 rel1 hq => ?_⟩
  cases c with
  | true => rw [if_pos rfl]; exact ⟨W1, F, m1, r, q, rel1, rs.mono l1, hq.1 rfl, fun _ _ _ _ l => k _ _ _ _ (l1.trans l)⟩
  | false => rw [if_neg Bool.false_ne_true]; exact k _ _ _ _ l1 rel1 (hq.2 rfl)
theorem jw_or (ha : JT X a t) (hb : JW X (.BoolOp .Or (b :: rest) pos) u) : JW X (.BoolOp .Or (a :: b :: rest) pos) (dTOr t u) := pw_wk (pw_or ha hb) fun s H Q ⟨W, F, m, r, q, rel, rs, h, k⟩ => by
  refine ⟨W, F, m, r, _, rel, rs, h, fun W1 H1 m1 c l1 rel1 hq => ?_⟩
  cases c with
  | true => rw [if_pos rfl]; exact k _ _ _ _ l1 rel1 (hq.1 rfl)
  | false => rw [if_neg Bool.false_ne_true]; exact ⟨W1, F, m1, r, q, rel1, rs.mono l1, hq.2 rfl, fun _ _ _ _ l => k _ _ _ _ (l1.trans l)⟩
end
end DL
namespace DL
open PySem PySem.Spec PyProof.Rows L2
variable [Cl] [Lk]
abbrev Own := Option (Nat × List D)
def okP : Own → Sto → Prop
  | none, _ => True
  | some p, m => m[p.1]? = some (.lst p.2)
/-- the items, and the cell that must stay -/
def items : D → Sto → Option (List D × Own)
  | .lst ds, _ => some (ds, none)
  | .fz ds, _ => some (ds, none)
  | .tup ds, _ => some (ds, none)
  | .str z, _ => some (z.cps.toList.map fun c => D.str ⟨#[c]⟩, none)
  | .ptr i, m => match m[i]? with | some (.lst ds) => some (ds, some (i, ds)) | _ => none
  | _, _ => none
/-- the model's iterators for these, with what their turns give -/
structure ItOk (K : PySem.W.Frag) (W : Wd) (ds : List D) (o : Own) (J : It) : Prop where
  go : ∀ W' F H' m' i, W.Le W' → Rel K W' F H' m' → okP o m' → i < ds.length → J.go i H'
  yld : ∀ W' F H' m' i x H'', W.Le W' → Rel K W' F H' m' → okP o m' → i < ds.length → J.yld i H' x H'' → ∃ W'' d, W'.Le W'' ∧ Rel K W'' F H'' m' ∧ ds[i]? = some d ∧ R K W'' x d
  stop : ∀ W' F H' m' i, W.Le W' → Rel K W' F H' m' → okP o m' → ds.length ≤ i → J.stop i H'
theorem itok_list {K : PySem.W.Frag} {W : Wd} {ds : List D} {o : Own} {a : Addr} (h : ∀ W' F H' m', W.Le W' → Rel K W' F H' m' → okP o m' → ∃ xs, SqL K H' a xs ∧ RA K W' xs ds) : ItOk K W ds o (Itl K a) where
  go := fun W' F H' m' i l rel ok hi => by
    obtain ⟨xs, h1, h2⟩ := h W' F H' m' l rel ok
    have hx : i < xs.length := by rw [h2.len]; exact hi
    exact ⟨xs, xs[i], h1, List.getElem?_eq_getElem hx⟩
  yld := fun W' F H' m' i x H'' l rel ok hi y => by
    obtain ⟨xs, h1, h2⟩ := h W' F H' m' l rel ok
    obtain ⟨rfl, y⟩ := y
    obtain ⟨d, e1, e2⟩ := h2.getV (y xs h1)
    exact ⟨W', d, .refl _, rel, e1, e2⟩
  stop := fun W' F H' m' i l rel ok hi => by
    obtain ⟨xs, h1, h2⟩ := h W' F H' m' l rel ok
    exact ⟨xs, h1, by rw [h2.len]; exact hi⟩
theorem itok_tup {K : PySem.W.Frag} {W : Wd} {ds : List D} {o : Own} {a : Addr} (h : ∀ W' F H' m', W.Le W' → Rel K W' F H' m' → okP o m' → ∃ xs, SqT K H' a xs ∧ RA K W' xs ds) : ItOk K W ds o (Itt K a) where
  go := fun W' F H' m' i l rel ok hi => by
    obtain ⟨xs, h1, h2⟩ := h W' F H' m' l rel ok
    have hx : i < xs.length := by rw [h2.len]; exact hi
    exact ⟨xs, xs[i], h1, List.getElem?_eq_getElem hx⟩
  yld := fun W' F H' m' i x H'' l rel ok hi y => by
    obtain ⟨xs, h1, h2⟩ := h W' F H' m' l rel ok
    obtain ⟨rfl, y⟩ := y
    obtain ⟨d, e1, e2⟩ := h2.getV (y xs h1)
    exact ⟨W', d, .refl _, rel, e1, e2⟩
  stop := fun W' F H' m' i l rel ok hi => by
    obtain ⟨xs, h1, h2⟩ := h W' F H' m' l rel ok
    exact ⟨xs, h1, by rw [h2.len]; exact hi⟩
theorem itok_str {K : PySem.W.Frag} {W : Wd} {z : Str} : ItOk K W (z.cps.toList.map fun c => D.str ⟨#[c]⟩) none (Its z) where
  go := fun W' F H' m' i l rel ok hi => by
    rw [List.length_map, Array.length_toList] at hi
    exact hi
  yld := fun W' F H' m' i x H'' l rel ok hi y => by
    obtain ⟨rfl, c, h1, rfl⟩ := y
    refine ⟨W', .str ⟨#[c]⟩, .refl _, rel, ?_, .str _⟩
    rw [List.getElem?_map, Array.getElem?_toList, h1]
    rfl
  stop := fun W' F H' m' i l rel ok hi => by
    rw [List.length_map, Array.length_toList] at hi
    exact hi
theorem itok_range {K : PySem.W.Frag} {W : Wd} {lo : Int} {n : Nat} : ItOk K W ((List.range n).map fun (k : Nat) => D.int (lo + (k : Int))) none (Itr lo n) where
  go := fun W' F H' m' i l rel ok hi => by
    rw [List.length_map, List.length_range] at hi
    exact hi
  yld := fun W' F H' m' i x H'' l rel ok hi y => by
    obtain ⟨rfl, rfl⟩ := y
    rw [List.length_map, List.length_range] at hi
    refine ⟨W', .int (lo + i), .refl _, rel, ?_, .int _⟩
    rw [List.getElem?_map, List.getElem?_range hi]
    rfl
  stop := fun W' F H' m' i l rel ok hi => by
    rw [List.length_map, List.length_range] at hi
    exact hi
/-- an iterable: its items -/
abbrev DI := DSt → Sto → (List D → Own → Sto → Prop) → Prop
def liftI (K : PySem.W.Frag) (t : DI) : TI := fun s H Rr => ∃ (W : Wd) (F : Hp) (m : Sto) (r : DSt) (q : List D → Own → Sto → Prop), Rel K W F H m ∧ RSt K W s r ∧ t r m q ∧
  ∀ W' H' m' ds o J, W.Le W' → Rel K W' F H' m' → ItOk K W' ds o J → okP o m' → q ds o m' → Rr J H'
abbrev JI (X : Cx) (tg e : Expr) (t : DI) : Prop := PI X tg e (liftI X.K t)
theorem pi_wk {X : Cx} {tg e : Expr} {t t' : TI} (h : PI X tg e t) (k : ∀ s H Q, t' s H Q → t s H Q) : PI X tg e t' := ⟨fun p s a H Q I z => h.run p s a H Q I (k _ _ _ z)⟩
/-- the iterator is chosen by the value -/
inductive PIk (X : Cx) (tg : Expr) (v : V) (H : Hp) (Rr : It → Hp → Prop) : Prop
  | l (a : Addr) : v = .ref a → (∃ xs, SqL X.K H a xs) → Rr (Itl X.K a) H → PIk X tg v H Rr
  | t (a : Addr) : v = .ref a → (∃ xs, SqT X.K H a xs) → Rr (Itt X.K a) H → PIk X tg v H Rr
  | s (z : Str) : v = .str z → Rr (Its z) H → PIk X tg v H Rr
theorem pi_any {X : Cx} {tg e : Expr} {te : TE} (he : PE X e te) : PI X tg e (fun s H Rr => te s H fun v H1 => PIk X tg v H1 Rr) := by
  refine ⟨fun pins s a H Rr I h => ?_⟩
  refine thn (he.run pins s a H _ I h) fun v s1 ⟨x, H1, I1, r1, k⟩ => ?_
  cases k with
  | l b e1 h1 h2 =>
    subst e1
    cases r1
    obtain ⟨xs, hx⟩ := h1
    obtain ⟨its, _, pl, _⟩ := I1.list hx
    exact wpAny_pyIter_list pl.isList (pi_one (tk := s1.toks) I1 _ (turn_list b _) ⟨_, Heap.get?_push_size _ rfl, rfl, rfl⟩ h2)
  | t b e1 h1 h2 =>
    subst e1
    cases r1
    obtain ⟨xs, hx⟩ := h1
    obtain ⟨its, _, pl, _⟩ := I1.tuple hx
    have pl' : s1.heap.IsTuple b its.toArray := pl
    exact wpAny_pyIter_tuple pl' (pi_one (tk := s1.toks) I1 _ (turn_tuple b _) ⟨_, Heap.get?_push_size _ rfl, rfl, rfl⟩ h2)
  | s z e1 h1 =>
    subst e1
    obtain ⟨tk, rfl⟩ := r1
    by_cases wide : z.cps.all (· < 128) = true
    · exact wpAny_pyIter_ascii wide (pi_one (tk := s1.toks) I1 _ (turn_str _ z tk "str_ascii_iterator" (.inl rfl)) ⟨_, Heap.get?_push_size _ rfl, rfl, rfl⟩ h1)
    · exact wpAny_pyIter_wide (by simpa using wide) (pi_one (tk := s1.toks) I1 _ (turn_str _ z tk "str_iterator" (.inr rfl)) ⟨_, Heap.get?_push_size _ rfl, rfl, rfl⟩ h1)
theorem items_at {X : Cx} {tg : Expr} {W : Wd} {F H : Hp} {m : Sto} {x : V} {d : D} {ds : List D} {o : Own} {Rr : It → Hp → Prop} (rel : Rel X.K W F H m) (rv : R X.K W x d) (e : items d m = some (ds, o))
    (k : ∀ J, ItOk X.K W ds o J → okP o m → Rr J H) : PIk X tg x H Rr := by
  cases rv with
  | @lst a xs _ h r => cases e; exact .l a rfl ⟨xs, SqL.of (rel.sub _ _ h)⟩ (k _ (itok_list fun W' F H' m' l rel' _ => ⟨xs, SqL.of (rel'.sub _ _ (l.st _ _ h)), r.mono l⟩) trivial)
  | @fz a xs _ h r => cases e; exact .l a rfl ⟨xs, same_seqL rel.sub h⟩ (k _ (itok_list fun W' F H' m' l rel' _ => ⟨xs, same_seqL rel'.sub (same_seqL l.st h), r.mono l⟩) trivial)
  | @tup a xs _ h r => cases e; exact .t a rfl ⟨xs, same_seqT rel.sub h⟩ (k _ (itok_tup fun W' F H' m' l rel' _ => ⟨xs, same_seqT rel'.sub (same_seqT l.st h), r.mono l⟩) trivial)
  | str z => cases e; exact .s _ rfl (k _ itok_str trivial)
  | @ptr a i hb =>
    unfold items at e
    cases q : m[i]? with
    | none => simp only [q] at e; cases e
    | some c =>
      cases c with
      | dead => simp only [q] at e; cases e
      | exc _ _ => simp only [q] at e; cases e
      | dic es => simp only [q] at e; cases e
      | ins c fs => simp only [q] at e; cases e
      | lst es =>
        simp only [q] at e
        cases e
        have ok : ∀ W' F H' m', W.Le W' → Rel X.K W' F H' m' → okP (some (i, ds)) m' → ∃ xs, SqL X.K H' a xs ∧ RA X.K W' xs ds := fun W' F H' m' l rel' ok => by
          have ok' : m'[i]? = some (.lst ds) := ok
          have e' : lstOf (.ptr i) m' = some ds := by simp only [lstOf, ok']
          obtain ⟨b, xs, h1, h2, h3⟩ := lstOf_at rel' (R.ptr (l.be _ _ hb)) e'
          cases h1
          exact ⟨xs, SqL.of h2, h3⟩
        obtain ⟨xs, h1, _⟩ := ok W F H m (.refl _) rel q
        exact .l a rfl ⟨xs, h1⟩ (k _ (itok_list ok) q)
  | _ => cases e
def dIter (te : DE) : DI := fun r m q => te r m fun x m1 => onS (items x m1) fun p => q p.1 p.2 m1
theorem ji_any {X : Cx} {tg e : Expr} {te : DE} (he : JE X e te) : JI X tg e (dIter te) := pi_wk (pi_any he) fun s H Rr ⟨W, F, m, r, q, rel, rs, h, k⟩ => by
  refine ⟨W, F, m, r, _, rel, rs, h, fun W1 H1 m1 v d l1 rel1 rv hq => ?_⟩
  obtain ⟨⟨ds, o⟩, e1, hq⟩ := onS_some hq
  exact items_at (tg := tg) rel1 rv e1 fun J hJ ok => k W1 H1 m1 ds o J l1 rel1 hJ ok hq
def dRange1 (ta : DE) : DI := fun r m q => ta r m fun x m1 => match x with | .int j => (-(2 ^ 62) ≤ j ∧ j < 2 ^ 62) ∧ q ((List.range j.toNat).map fun (k : Nat) => D.int (0 + (k : Int))) none m1 | _ => False
theorem ji_range1 {X : Cx} {tg a : Expr} {p pos : Pos} {ta : DE} (hg : Gl X "range") (hm : X.mg "range" = none) (ha : JE X a ta) (hs : starEach [a] X.env = [(false, eval a X.env)] := by rfl) : JI X tg (.Call (.Name "range" p) [a] [] pos) (dRange1 ta) :=
  pi_wk (pi_range1 hg hm (pa_cons ha pa_nil hs) hs) fun s H Rr ⟨W, F, m, r, q, rel, rs, h, k⟩ => by
    refine ⟨W, F, m, r, _, rel, rs, h, fun W1 H1 m1 v d l1 rel1 rv hq => ?_⟩
    cases d with
    | int j => cases rv; exact ⟨j, rfl, hq.1.1, hq.1.2, k W1 H1 m1 _ _ _ l1 rel1 itok_range trivial hq.2⟩
    | _ => exact hq.elim
def gN (i : Nat) : DG := fun d r m q => q (put r i d) m
def gsN : DGs := fun ds r m q => match ds with | [] => q r m | _ => False
def gsC (g : DG) (gs : DGs) : DGs := fun ds r m q => match ds with | d :: rest => g d r m fun r1 m1 => gs rest r1 m1 q | [] => False
def gT (n : Nat) (gs : DGs) : DG := fun d r m q => match d with | .tup ds => ds.length = n ∧ gs ds r m q | _ => False
section
variable {X : Cx} {pos : Pos} {e : Expr} {es : List Expr} {g : DG} {gs : DGs}
theorem jg_name (i : Nat) {x : Str} (hN : X.N.Nodup) (hi : X.N[i]? = some x := by rfl) (hx : Loc X.env.scope x := by first | exact .inl rfl | exact .inr rfl) (hf : X.fn x = true ∨ X.env.scope.names.lookup x = some .local := by first | exact .inl rfl | exact .inr rfl | assumption) : JG X (.Name x pos) (gN i) :=
  pg_wk (pg_name hN hi hx hf) fun v s H Q ⟨W, F, m, r, d, q, rel, rs, rv, h, k⟩ => k W H m _ _ (.refl _) rel (rs.put rv i) h
theorem jgs_nil : JGs X [] gsN := pgs_wk pgs_nil fun vs s H Q ⟨W, F, m, r, ds, q, rel, rs, ra, h, k⟩ => by
  cases ra with
  | nil => exact ⟨rfl, k W H m _ _ (.refl _) rel rs h⟩
  | cons _ _ => exact h.elim
theorem jgs_cons (h1 : JG X e g) (h2 : JGs X es gs) (hs : (assignEach (e :: es) X.env).map (·.2) = assign e X.env :: (assignEach es X.env).map (·.2) := by rfl) : JGs X (e :: es) (gsC g gs) :=
  pgs_wk (pgs_cons h1 h2 hs) fun vs s H Q ⟨W, F, m, r, ds, q, rel, rs, ra, h, k⟩ => by
    cases ra with
    | nil => exact h.elim
    | @cons v vs d ds rv ra =>
      refine ⟨v, vs, rfl, W, F, m, r, d, fun r1 m1 => gs ds r1 m1 q, rel, rs, rv, h, fun W1 H1 m1 s1 r1 l1 rel1 rs1 hq => ?_⟩
      exact ⟨W1, F, m1, r1, ds, q, rel1, rs1, ra.mono l1, hq, fun _ _ _ _ _ l => k _ _ _ _ _ (l1.trans l)⟩
theorem jg_tup {kk n : Nat} (hc : X.calm = true) (h : JGs X es gs) (hn : (assignEach es X.env).length = n := by rfl) (hst : (assignEach es X.env).findIdx? (·.1) = none := by rfl) : JG X (.Tuple es kk pos) (gT n gs) :=
  pg_wk (pg_tup hc h hn hst) fun v s H Q ⟨W, F, m, r, d, q, rel, rs, rv, h, k⟩ => by
    cases d with
    | tup ds =>
      obtain ⟨a, xs, rfl, h1, h2⟩ := tup_at rel rv
      exact ⟨a, xs, rfl, h1, h2.len.trans h.1, W, F, m, r, ds, q, rel, rs, h2, h.2, k⟩
    | _ => exact h.elim
/-- o[i] = .. in a list of the store -/
def gIx (to ti : DE) : DG := fun d r m q => to r m fun x m1 => ti r m1 fun y m2 => match x, y with
  | .ptr j, .int k => onS (lstOf (.ptr j) m2) fun ds => onS (ixN ds.length k) fun l => q r (m2.set j (.lst (ds.set l d)))
  | _, _ => False
theorem cell_write {K : PySem.W.Frag} {W : Wd} {F H : Hp} {m : Sto} {x : V} {j : Nat} {ds ds' : List D} (rel : Rel K W F H m) (rv : R K W x (.ptr j)) (e : lstOf (.ptr j) m = some ds) :
    ∃ a xs, x = .ref a ∧ H a = some (.lst xs) ∧ RA K W xs ds ∧ ∀ xs', RA K W xs' ds' → Rel K W F (upd H a (.lst xs')) (m.set j (.lst ds')) := by
  obtain ⟨a, xs, rfl, h1, h2⟩ := lstOf_at rel rv e
  refine ⟨a, xs, rfl, h1, h2, fun xs' ra => ?_⟩
  cases rv with
  | ptr hb =>
    have hm : m[j]? = some (.lst ds) := by
      unfold lstOf at e
      cases q : m[j]? with
      | none => simp only [q] at e; cases e
      | some c =>
        cases c with
        | dead => simp only [q] at e; cases e
        | exc _ _ => simp only [q] at e; cases e
        | dic es => simp only [q] at e; cases e
        | ins c fs => simp only [q] at e; cases e
        | lst es => simp only [q] at e; cases e; rfl
    exact rel.write (c' := .lst ds') hb hm (fun z => by cases z) (fun z => by cases z) ⟨xs', upd_same, ra⟩
theorem jg_ix {o i : Expr} {to ti : DE} (ho : JE X o to) (hi : JE X i ti) (ha : ∀ v, assign (.Subscript o i pos) X.env v = (do
      let ov ← holding [v] (eval o X.env)
      let iv ← holding [v, ov] (eval i X.env)
      standAt pos
      holding [v, ov, iv] (setItem ov iv v)
      release [v, ov, iv] []) := by intro _; rfl) : JG X (.Subscript o i pos) (gIx to ti) :=
  pg_wk (pg_sub ho hi set_list ha) fun v s H Q ⟨W, F, m, r, d, q, rel, rs, rv, h, k⟩ => by
    refine ⟨W, F, m, r, _, rel, rs, h, fun W1 H1 m1 x dx l1 rel1 rx hq => ?_⟩
    refine ⟨W1, F, m1, r, _, rel1, rs.mono l1, hq, fun W2 H2 m2 y dy l2 rel2 ry hq2 => ?_⟩
    cases dx with
    | ptr j =>
      cases dy with
      | int kk =>
        obtain ⟨ds, e1, hq2⟩ := onS_some hq2
        obtain ⟨l, e2, hq2⟩ := onS_some hq2
        obtain ⟨a, xs, rfl, h1, h2, h3⟩ := cell_write (ds' := ds.set l d) rel2 (rx.mono l2) e1
        cases ry
        refine ⟨a, xs, kk, l, rfl, rfl, h1, by rw [h2.len]; exact e2, ?_⟩
        exact k W2 _ _ s r (l1.trans l2) (h3 _ (h2.set (rv.mono (l1.trans l2)) l)) (rs.mono (l1.trans l2)) hq2
      | _ => exact hq2.elim
    | _ => exact hq2.elim
end
def dNext : DS := fun d r m => d.nx r m
def dSeq (t u : DS) : DS := fun d r m => t { d with nx := u d } r m
def dDrop (te : DE) : DS := fun d r m => te r m fun _ m1 => d.nx r m1
def dRet (te : DE) : DS := fun d r m => te r m d.rt
def dRetN : DS := fun d _ m => d.rt .non m
def dBreak : DS := fun d r m => d.bk r m
def dCont : DS := fun d r m => d.ct r m
def dNever : DS := fun _ _ _ => False
def dIf (c : DT) (t u : DS) : DS := fun d r m => c r m fun b m1 => (b = true → t d r m1) ∧ (b = false → u d r m1)
def dAsg (te : DE) (g : DG) : DS := fun d r m => te r m fun x m1 => g x r m1 d.nx
def dAug (i : Nat) (f : F2) (te : DE) : DS := fun d r m => onS (slot r i) fun x => te r m fun y m1 => f x y m1 fun z m2 => d.nx (put r i z) m2
def dAugIx (f : F2) (to ti te : DE) : DS := fun d r m => to r m fun o m1 => ti r m1 fun i m2 => match o, i with
  | .ptr j, .int k => 0 ≤ k ∧ onS (lstOf (.ptr j) m2) fun ds => onS (ds[k.toNat]?) fun x => te r m2 fun y m3 => f x y m3 fun z m4 =>
      onS (lstOf (.ptr j) m4) fun ds' => onS (ixN ds'.length k) fun l => d.nx r (m4.set j (.lst (ds'.set l z)))
  | _, _ => False
def dWhile0 (c : DT) (tb : DS) : DS := fun d r m => ∃ I : Nat → DSt → Sto → Prop, (∃ n, I n r m) ∧ ∀ n r m, I n r m →
  c r m fun b m1 => (b = true → tb { d with nx := fun r' m' => ∃ n', n' < n ∧ I n' r' m', ct := fun r' m' => ∃ n', n' < n ∧ I n' r' m', bk := d.nx } r m1) ∧ (b = false → d.nx r m1)
def forD0 (g : DG) (tb : DS) (d : DEnds) (ok : Sto → Prop) : List D → DSt → Sto → Prop
  | [], r, m => d.nx r m
  | x :: xs, r, m => g x r m fun r1 m1 => tb { d with nx := fun r2 m2 => ok m2 ∧ forD0 g tb d ok xs r2 m2, ct := fun r2 m2 => ok m2 ∧ forD0 g tb d ok xs r2 m2, bk := d.nx } r1 m1
def dFor0 (ti : DI) (g : DG) (tb : DS) : DS := fun d r m => ti r m fun ds o m1 => forD0 g tb d (okP o) ds r m1
section
variable {X : Cx} {st : Stmt} {rest : List Stmt} {t u : DS} {e : Expr} {te : DE} {pos : Pos} {g : DG}
theorem LiftD.seq {K : PySem.W.Frag} {W : Wd} {F : Hp} {d : DEnds} {E : Ends} {u : DS} (L : LiftD K W F d E) : LiftD K W F { d with nx := u d } { E with nx := liftS K u E } where
  nx := fun W' H' m' s' r' l rel rs h => ⟨W', F, m', r', d, rel, rs, h, L.mono l⟩
  rt := L.rt
  bk := L.bk
  ct := L.ct
theorem jss_nil : JSs X [] dNext := pss_wk pss_nil fun E s H ⟨W, F, m, r, d, rel, rs, h, L⟩ => L.nx W H m s r (.refl _) rel rs h
theorem jss_cons (h1 : JS X st t) (h2 : JSs X rest u) : JSs X (st :: rest) (dSeq t u) := pss_wk (pss_cons h1 h2) fun E s H ⟨W, F, m, r, d, rel, rs, h, L⟩ => ⟨W, F, m, r, _, rel, rs, h, L.seq⟩
theorem jss_one (h1 : JS X st t) : JSs X [st] t := pss_one h1
theorem js_never : JS X st dNever := ps_wk ps_never fun E s H ⟨W, F, m, r, d, rel, rs, h, L⟩ => h
theorem js_expr (he : JE X e te) (hs : swapsWith e none pos.line X.env = pure false := by rfl) : JS X (.Expr e pos) (dDrop te) := ps_wk (ps_expr he hs) fun E s H ⟨W, F, m, r, d, rel, rs, h, L⟩ =>
  ⟨W, F, m, r, _, rel, rs, h, fun W1 H1 m1 v x l1 rel1 rv hq => L.nx W1 H1 m1 s r l1 rel1 (rs.mono l1) hq⟩
theorem js_ret (he : JE X e te) : JS X (.Return (some e) pos) (dRet te) := ps_wk (ps_ret he) fun E s H ⟨W, F, m, r, d, rel, rs, h, L⟩ =>
  ⟨W, F, m, r, _, rel, rs, h, fun W1 H1 m1 v x l1 rel1 rv hq => L.rt W1 H1 m1 v x l1 rel1 rv hq⟩
theorem js_if {c : Expr} {a b : List Stmt} {tc : DT} (hc : JT X c tc) (ha : JSs X a t) (hb : JSs X b u) : JS X (.If c a b pos) (dIf tc t u) := ps_wk (ps_if hc ha hb) fun E s H ⟨W, F, m, r, d, rel, rs, h, L⟩ => by
  refine ⟨W, F, m, r, _, rel, rs, h, fun W1 H1 m1 b l1 rel1 hq => ?_⟩
  cases b with
  | true => rw [if_pos rfl]; exact ⟨W1, F, m1, r, d, rel1, rs.mono l1, hq.1 rfl, L.mono l1⟩
  | false => rw [if_neg Bool.false_ne_true]; exact ⟨W1, F, m1, r, d, rel1, rs.mono l1, hq.2 rfl, L.mono l1⟩
theorem asg_wk {K : PySem.W.Frag} {te : DE} {g : DG} (E : Ends) (s : L2.St) (H : Hp) (h : liftS K (dAsg te g) E s H) : tAsg (liftE K te) (liftG K g) E s H := by
  obtain ⟨W, F, m, r, d, rel, rs, h, L⟩ := h
  exact ⟨W, F, m, r, _, rel, rs, h, fun W1 H1 m1 v x l1 rel1 rv hq => ⟨W1, F, m1, r, x, d.nx, rel1, rs.mono l1, rv, hq, fun _ _ _ _ _ l => L.nx _ _ _ _ _ (l1.trans l)⟩⟩
theorem js_set (i : Nat) {x : Str} {pos' : Pos} (hN : X.N.Nodup) (he : JE X e te) (hi : X.N[i]? = some x := by rfl) (hx : Loc X.env.scope x := by first | exact .inl rfl | exact .inr rfl) (hs : swapsWith e (some (.Name x pos')) pos.line X.env = pure false := by rfl)
    (hf : X.fn x = true ∨ X.env.scope.names.lookup x = some .local := by first | exact .inl rfl | exact .inr rfl | assumption) : JS X (.Assign [.Name x pos'] e pos) (dAsg te (gN i)) :=
  ps_wk (ps_set hN hi hx he hs hf) fun E s H ⟨W, F, m, r, d, rel, rs, h, L⟩ =>
    ⟨W, F, m, r, _, rel, rs, h, fun W1 H1 m1 v x l1 rel1 rv hq => L.nx W1 H1 m1 _ _ l1 rel1 ((rs.mono l1).put rv i) hq⟩
theorem js_asg {tg : Expr} (he : JE X e te) (hg : JG X tg g) (hs : swapsWithSole [tg] e pos.line X.env = pure false := by rfl) (hw : swappedStores [tg] e X.env = pure none := by rfl)
    (h1 : (assignEach [tg] X.env).map (·.2) = [assign tg X.env] := by rfl) : JS X (.Assign [tg] e pos) (dAsg te g) := ps_wk (ps_asg he hg hs hw h1) fun E s H h => asg_wk E s H h
/-- a, b = x, y -/
def dPar (i j : Nat) (ta : DA) : DS := fun d r m => ta r m fun xs m1 => match xs with | [x, y] => d.nx (put (put r i x) j y) m1 | _ => False
theorem js_par (i j : Nat) {x y : Str} {a b : Expr} {ta : DA} {px py pt : Pos} {kt k2 pt2} (hc : X.calm = true) (hN : X.N.Nodup) (ha : JA X [a, b] ta) (hij : i ≠ j) (hi : X.N[i]? = some x := by rfl) (hj : X.N[j]? = some y := by rfl)
    (hx : X.env.scope.names.lookup x = some .local := by rfl) (hy : X.env.scope.names.lookup y = some .local := by rfl)
    (hw : swappedStores [.Tuple [.Name x px, .Name y py] kt pt] (.Tuple [a, b] k2 pt2) X.env = pure (some [x, y]) := by rfl)
    (hs : swapsWithSole [.Tuple [.Name x px, .Name y py] kt pt] (.Tuple [a, b] k2 pt2) pos.line X.env = pure false := by rfl) :
    JS X (.Assign [.Tuple [.Name x px, .Name y py] kt pt] (.Tuple [a, b] k2 pt2) pos) (dPar i j ta) :=
  ps_wk (ps_par hc hN hi hj hij hx hy ha hw hs) fun E s H ⟨W, F, m, r, d, rel, rs, h, L⟩ => by
    refine ⟨W, F, m, r, _, rel, rs, h, fun W1 H1 m1 vs ds l1 rel1 ra hq => ?_⟩
    cases ra with
    | nil => exact hq.elim
    | cons r1 ra =>
      cases ra with
      | nil => exact hq.elim
      | cons r2 ra =>
        cases ra with
        | nil => exact ⟨_, _, rfl, L.nx W1 H1 m1 _ _ l1 rel1 (((rs.mono l1).put r1 i).put r2 j) hq⟩
        | cons _ _ => exact hq.elim
def Pip (X : Cx) (op : Operator) (f : F2) : Prop := ∃ ti, PIp X op ti ∧ ∀ W F H m x y d e q Q, Rel X.K W F H m → R X.K W x d → R X.K W y e → f d e m q → Fol X.K W F q Q → ti x y H Q
theorem pip_add : Pip X .Add (dI0 fun i j => i + j) := ⟨_, ip_add, o_I0⟩
theorem js_aug (i : Nat) {x : Str} {op : Operator} {f : F2} {pos' : Pos} (hN : X.N.Nodup) (he : JE X e te) (ho : Pip X op f) (hi : X.N[i]? = some x := by rfl) (hx : Loc X.env.scope x := by first | exact .inl rfl | exact .inr rfl)
    (hf : X.fn x = true ∨ X.env.scope.names.lookup x = some .local := by first | exact .inl rfl | exact .inr rfl | assumption) : JS X (.AugAssign (.Name x pos') op e pos) (dAug i f te) := by
  obtain ⟨ti, h1, h2⟩ := ho
  refine ps_wk (ps_aug hN hi hx he h1 hf) fun E s H ⟨W, F, m, r, d, rel, rs, h, L⟩ => ?_
  obtain ⟨x0, e0, h⟩ := onS_some h
  obtain ⟨v0, e1, r0⟩ := rs.get e0
  refine ⟨v0, e1, W, F, m, r, _, rel, rs, h, fun W1 H1 m1 v y l1 rel1 rv hq => ?_⟩
  exact h2 W1 F H1 m1 v0 v x0 y _ _ rel1 (r0.mono l1) rv hq fun W2 H2 m2 z dz l2 rel2 rz hz => L.nx W2 H2 m2 _ _ (l1.trans l2) rel2 ((rs.mono (l1.trans l2)).put rz i) hz
def rGetL (K : PySem.W.Frag) : V → V → Hp → VK → Prop := fun o i H Q => ∃ p xs k v, o = .ref p ∧ i = .int k ∧ H p = some (.lst xs) ∧ 0 ≤ k ∧ xs[k.toNat]? = some v ∧ Q v H
theorem get_list : PGet X (rGetL X.K) := by
  intro pins s a H o i ov iv Q I ro ri h
  obtain ⟨p, xs, k, v, rfl, rfl, hp, hk, hx, q⟩ := h
  cases ro
  obtain ⟨t, rfl⟩ := ri
  obtain ⟨its, r, pl, hz⟩ := I.list (SqL.of hp)
  obtain ⟨uu, hu, ru⟩ := r.get hx
  have hlt : k.toNat < xs.length := (List.getElem?_eq_some_iff.mp hx).1
  have h63 := line63
  exact wpAny_getItem_list pl.isList hk (by omega) (by simpa using hu) ⟨v, H, I, ru, q⟩
theorem js_augIx {o i : Expr} {to ti : DE} {op : Operator} {f : F2} {tpos : Pos} (ho : JE X o to) (hi : JE X i ti) (he : JE X e te) (hp : Pip X op f)
    (ha : ∀ ov iv new, augStore i ov iv new = (do holding [new, ov, iv] (setItem ov iv new); release [new, ov, iv] []; pure .next) := by intros; rfl) : JS X (.AugAssign (.Subscript o i tpos) op e pos) (dAugIx f to ti te) := by
  obtain ⟨tp, h1, h2⟩ := hp
  refine ps_wk (ps_augS ho hi get_list he h1 set_list ha) fun E s H ⟨W, F, m, r, d, rel, rs, h, L⟩ => ?_
  refine ⟨W, F, m, r, _, rel, rs, h, fun W1 H1 m1 x dx l1 rel1 rx hq => ?_⟩
  refine ⟨W1, F, m1, r, _, rel1, rs.mono l1, hq, fun W2 H2 m2 y dy l2 rel2 ry hq2 => ?_⟩
  cases dx with
  | ptr j =>
    cases dy with
    | int k =>
      obtain ⟨hk, hq2⟩ := hq2
      obtain ⟨ds, e1, hq2⟩ := onS_some hq2
      obtain ⟨x0, e2, hq2⟩ := onS_some hq2
      obtain ⟨a, xs, rfl, g1, g2⟩ := lstOf_at rel2 (rx.mono l2) e1
      cases ry
      obtain ⟨v0, e3, r0⟩ := g2.get e2
      refine ⟨a, xs, k, v0, rfl, rfl, g1, hk, e3, ?_⟩
      refine ⟨W2, F, m2, r, _, rel2, rs.mono (l1.trans l2), hq2, fun W3 H3 m3 z dz l3 rel3 rz hq3 => ?_⟩
      refine h2 W3 F H3 m3 v0 z x0 dz _ _ rel3 (r0.mono l3) rz hq3 fun W4 H4 m4 w dw l4 rel4 rw4 hq4 => ?_
      obtain ⟨ds', e4, hq4⟩ := onS_some hq4
      obtain ⟨l, e5, hq4⟩ := onS_some hq4
      obtain ⟨b, ys, e6, g3, g4, g5⟩ := cell_write (ds' := ds'.set l dw) rel4 (rx.mono (l2.trans (l3.trans l4))) e4
      cases e6
      exact ⟨a, ys, k, l, rfl, rfl, g3, by rw [g4.len]; exact e5, L.nx W4 _ _ s r (l1.trans (l2.trans (l3.trans l4))) (g5 _ (g4.set rw4 l)) (rs.mono (l1.trans (l2.trans (l3.trans l4)))) hq4⟩
    | _ => exact hq2.elim
  | _ => exact hq2.elim
theorem js_while0 {c : Expr} {body : List Stmt} {tc : DT} {tb : DS} (hp : PassesOwn (model X.prog X.w) X.A X.env X.xe) (hc : JT X c tc) (hb : JSs X body tb) : JS X (.While c body [] pos) (dWhile0 tc tb) :=
  ps_wk (ps_while hp hc hb) fun E s H ⟨W, F, m, r, d, rel, rs, h, L⟩ => by
    obtain ⟨I, ⟨n, i0⟩, turn⟩ := h
    refine ⟨fun n s' H' => ∃ W' m' r', W.Le W' ∧ Rel X.K W' F H' m' ∧ RSt X.K W' s' r' ∧ I n r' m', ⟨n, W, m, r, .refl _, rel, rs, i0⟩, fun n s1 H1 ⟨W1, m1, r1, l1, rel1, rs1, i1⟩ => ?_⟩
    refine ⟨W1, F, m1, r1, _, rel1, rs1, turn n r1 m1 i1, fun W2 H2 m2 b l2 rel2 hq => ?_⟩
    cases b with
    | false => rw [if_neg Bool.false_ne_true]; exact L.nx W2 H2 m2 s1 r1 (l1.trans l2) rel2 (rs1.mono l2) (hq.2 rfl)
    | true =>
      rw [if_pos rfl]
      refine ⟨fun s' H' => ∃ n', n' < n ∧ ∃ W' m' r', W.Le W' ∧ Rel X.K W' F H' m' ∧ RSt X.K W' s' r' ∧ I n' r' m', fun _ _ z => z, W2, F, m2, r1, _, rel2, rs1.mono l2, hq.1 rfl, ⟨?_, ?_, ?_, ?_⟩⟩
      · rintro W3 H3 m3 s3 r3 l3 rel3 rs3 ⟨n', hn, i3⟩
        exact ⟨n', hn, W3, m3, r3, l1.trans (l2.trans l3), rel3, rs3, i3⟩
      · exact fun W3 H3 m3 v x l3 => L.rt W3 H3 m3 v x (l1.trans (l2.trans l3))
      · exact fun W3 H3 m3 s3 r3 l3 => L.nx W3 H3 m3 s3 r3 (l1.trans (l2.trans l3))
      · rintro W3 H3 m3 s3 r3 l3 rel3 rs3 ⟨n', hn, i3⟩
        exact ⟨n', hn, W3, m3, r3, l1.trans (l2.trans l3), rel3, rs3, i3⟩
theorem drop_step {α : Type} {ds : List α} {i : Nat} (h : i < ds.length) : ds.drop i = ds[i] :: ds.drop (i + 1) := List.drop_eq_getElem_cons h
theorem js_for0 {tg iter : Expr} {body : List Stmt} {ti : DI} {tb : DS} (hp : PassesOwn (model X.prog X.w) X.A X.env X.xe) (hc : X.calm = true) (hi : JI X tg iter ti) (hg : JG X tg g) (hb : JSs X body tb)
    (hs : ∀ x, foldedSetIterable iter X.env x = pure x := by intro _; rfl) : JS X (.For tg iter body [] pos) (dFor0 ti g tb) :=
  ps_wk (ps_for hp hc hi hg hb hs) fun E s H ⟨W, F, m, r, d, rel, rs, h, L⟩ => by
    refine ⟨W, F, m, r, _, rel, rs, h, fun W1 H1 m1 ds o J l1 rel1 hJ ok1 hq => ?_⟩
    refine ⟨fun i n s' H' => ∃ W' m' r', W1.Le W' ∧ Rel X.K W' F H' m' ∧ RSt X.K W' s' r' ∧ okP o m' ∧ i + n = ds.length ∧ forD0 g tb d (okP o) (ds.drop i) r' m',
      ⟨ds.length, W1, m1, r, .refl _, rel1, rs.mono l1, ok1, Nat.zero_add _, by rw [List.drop_zero]; exact hq⟩, fun i n s2 H2 ⟨W2, m2, r2, l2, rel2, rs2, ok2, en, hq2⟩ => ?_⟩
    by_cases hlt : i < ds.length
    · refine .inr ⟨hJ.go W2 F H2 m2 i l2 rel2 ok2 hlt, fun s' H' => ∃ W' m' r', W1.Le W' ∧ Rel X.K W' F H' m' ∧ RSt X.K W' s' r' ∧ okP o m' ∧ forD0 g tb d (okP o) (ds.drop (i + 1)) r' m', ?_, fun x H3 y => ?_⟩
      · rintro s' H' ⟨W', m', r', a1, a2, a3, a4, a5⟩
        exact ⟨n - 1, by omega, W', m', r', a1, a2, a3, a4, by omega, a5⟩
      · obtain ⟨W3, dx, l3, rel3, e1, rx⟩ := hJ.yld W2 F H2 m2 i x H3 l2 rel2 ok2 hlt y
        have l23 := l2.trans l3
        rw [drop_step hlt] at hq2
        have ex : ds[i] = dx := Option.some.inj ((List.getElem?_eq_getElem hlt).symm.trans e1)
        rw [ex] at hq2
        refine ⟨W3, F, m2, r2, dx, _, rel3, rs2.mono l3, rx, hq2, fun W4 H4 m4 s4 r4 l4 rel4 rs4 hq4 => ?_⟩
        refine ⟨W4, F, m4, r4, _, rel4, rs4, hq4, ⟨?_, ?_, ?_, ?_⟩⟩
        · rintro W5 H5 m5 s5 r5 l5 rel5 rs5 ⟨ok5, q5⟩
          exact ⟨W5, m5, r5, l23.trans (l4.trans l5), rel5, rs5, ok5, q5⟩
        · exact fun W5 H5 m5 v z l5 => L.rt W5 H5 m5 v z (l1.trans (l23.trans (l4.trans l5)))
        · exact fun W5 H5 m5 s5 r5 l5 => L.nx W5 H5 m5 s5 r5 (l1.trans (l23.trans (l4.trans l5)))
        · rintro W5 H5 m5 s5 r5 l5 rel5 rs5 ⟨ok5, q5⟩
          exact ⟨W5, m5, r5, l23.trans (l4.trans l5), rel5, rs5, ok5, q5⟩
    · have ed : ds.drop i = [] := List.drop_eq_nil_of_le (by omega)
      rw [ed] at hq2
      exact .inl ⟨hJ.stop W2 F H2 m2 i l2 rel2 ok2 (by omega), L.nx W2 H2 m2 s2 r2 (l1.trans l2) rel2 rs2 hq2⟩
end
def lcD (i : Nat) (tt : DT) (te : DE) (ok : Sto → Prop) : List D → DSt → List D → Sto → (List D → Sto → Prop) → Prop
  | [], _, acc, m, q => q acc m
  | x :: xs, r, acc, m, q => tt (put r i x) m fun b m1 => (b = true → te (put r i x) m1 fun y m2 => ok m2 ∧ lcD i tt te ok xs r (acc ++ [y]) m2 q) ∧ (b = false → ok m1 ∧ lcD i tt te ok xs r acc m1 q)
def dLcQ0 (i : Nat) (ti : DI) (tt : DT) (te : DE) (r : DSt) (m : Sto) (q : List D → Sto → Prop) : Prop := ti r m fun ds o m1 => ds.length ≤ 1000000 ∧ lcD i tt te (okP o) ds (forget r i) [] m1 q
def dLc0 (i : Nat) (ti : DI) (tt : DT) (te : DE) : DE := fun r m q => dLcQ0 i ti tt te r m fun acc m1 => q (.lst acc) m1
def dLcP0 (i : Nat) (ti : DI) (tt : DT) (te : DE) : DE := fun r m q => dLcQ0 i ti tt te r m fun acc m1 => q (.ptr m1.length) (m1 ++ [.lst acc])
def dYes : DT := fun _ m q => q true m
abbrev JTs (X : Cx) (es : List Expr) (t : DT) : Prop := PTs X es (liftT X.K t)
theorem jts_nil {X : Cx} : JTs X [] dYes := ⟨fun pins s a H Q I h => pts_nil.run pins s a H Q I (by
  obtain ⟨W, F, m, r, q, rel, rs, h, k⟩ := h
  exact k W H m true (.refl _) rel h)⟩
theorem jts_one {X : Cx} {c : Expr} {t : DT} (h : JT X c t) : JTs X [c] t := pts_one h
theorem lc_wk {K : PySem.W.Frag} {i : Nat} {ti : DI} {tt : DT} {te : DE} {fin : List D → Sto → (D → Sto → Prop) → Prop}
    (hfin : ∀ (W : Wd) (F H : Hp) (m : Sto) (p : Addr) (xs : List V) (ds : List D) (q : D → Sto → Prop) (Q : VK), F p = none → Same Lk.F0 F → Rel K W (upd F p (.lst xs)) H m → RA K W xs ds → fin ds m q → Fol K W F q Q → Q (.ref p) H)
    (s : L2.St) (H : Hp) (Q : VK) (h : liftE K (fun r m q => dLcQ0 i ti tt te r m fun acc m1 => fin acc m1 q) s H Q) : tLc (liftI K ti) (gName i) (liftT K tt) (liftE K te) [i] s H Q := by
  obtain ⟨W, F, m, r, q, rel, rs, h, k⟩ := h
  refine ⟨W, F, m, r, _, rel, rs, h, fun W1 H1 m1 ds o J l1 rel1 hJ ok1 hq p hp => ?_⟩
  obtain ⟨hz, hq⟩ := hq
  have hF : F p = none := rel1.fF hp
  have rs1 : RSt K W1 (wipe s [i]) (forget r i) := (rs.mono l1).forget i
  refine ⟨fun j n H' => ∃ W' m' xs acc, W1.Le W' ∧ Rel K W' (upd F p (.lst xs)) H' m' ∧ RA K W' xs acc ∧ okP o m' ∧ acc.length ≤ j ∧ j + n = ds.length ∧ lcD i tt te (okP o) (ds.drop j) (forget r i) acc m' (fun acc m1 => fin acc m1 q),
    ⟨ds.length, W1, m1, [], [], .refl _, rel1.framed hp, .nil, ok1, Nat.le_refl _, Nat.zero_add _, by rw [List.drop_zero]; exact hq⟩, fun j n H2 ⟨W2, m2, xs, acc, l2, rel2, ra2, ok2, hacc, en, hq2⟩ => ?_⟩
  by_cases hlt : j < ds.length
  · refine .inr ⟨hJ.go W2 _ H2 m2 j l2 rel2 ok2 hlt, fun H' => ∃ W' m' xs acc, W1.Le W' ∧ Rel K W' (upd F p (.lst xs)) H' m' ∧ RA K W' xs acc ∧ okP o m' ∧ acc.length ≤ j + 1 ∧ lcD i tt te (okP o) (ds.drop (j + 1)) (forget r i) acc m' (fun acc m1 => fin acc m1 q), ?_, fun x H3 y => ?_⟩
    · rintro H' ⟨W', m', xs', acc', a1, a2, a3, a4, a5, a6⟩
      exact ⟨n - 1, by omega, W', m', xs', acc', a1, a2, a3, a4, a5, by omega, a6⟩
    · obtain ⟨W2', dx, l2', rel2', e1, rx⟩ := hJ.yld W2 _ H2 m2 j x H3 l2 rel2 ok2 hlt y
      have ra2' := ra2.mono l2'
      have l22 := l2.trans l2'
      rw [drop_step hlt] at hq2
      have ex : ds[j] = dx := Option.some.inj ((List.getElem?_eq_getElem hlt).symm.trans e1)
      rw [ex] at hq2
      have rs2 : RSt K W2' ((wipe s [i]).set i (some x)) (put (forget r i) i dx) := (rs1.mono l22).put rx i
      refine ⟨by show ((s.set i none).set i (some x)).set i none = s.set i none; rw [List.set_set, List.set_set], ?_⟩
      refine ⟨W2', upd F p (.lst xs), m2, _, _, rel2', rs2, hq2, fun W3 H3 m3 b l3 rel3 hq3 => ?_⟩
      cases b with
      | false =>
        rw [if_neg Bool.false_ne_true]
        exact ⟨W3, m3, xs, acc, l22.trans l3, rel3, ra2'.mono l3, (hq3.2 rfl).1, by omega, (hq3.2 rfl).2⟩
      | true =>
        rw [if_pos rfl]
        refine ⟨W3, upd F p (.lst xs), m3, _, _, rel3, rs2.mono l3, hq3.1 rfl, fun W4 H4 m4 z dz l4 rel4 rz hq4 => ?_⟩
        have hH4 : H4 p = some (.lst xs) := rel4.frm _ _ upd_same
        refine ⟨xs, hH4, ?_, W4, m4, xs ++ [z], acc ++ [dz], l22.trans (l3.trans l4), rel4.reframe hF rel1.lf, (ra2'.mono (l3.trans l4)).app (.cons rz .nil), hq4.1, ?_, hq4.2⟩
        · rw [ra2.len]
          have : (1000000 : Nat) < sizeLine := by rw [sizeLine_eq]; decide
          omega
        · rw [List.length_append]
          show acc.length + 1 ≤ j + 1
          omega
  · have ed : ds.drop j = [] := List.drop_eq_nil_of_le (by omega)
    rw [ed] at hq2
    exact .inl ⟨hJ.stop W2 _ H2 m2 j l2 rel2 ok2 (by omega), hfin W2 F H2 m2 p xs acc q Q hF rel1.lf rel2 ra2 hq2 fun _ _ _ _ _ l => k _ _ _ _ _ (l1.trans (l2.trans l))⟩
abbrev finC (acc : List D) (m : Sto) (q : D → Sto → Prop) : Prop := q (.lst acc) m
abbrev finP (acc : List D) (m : Sto) (q : D → Sto → Prop) : Prop := q (.ptr m.length) (m ++ [Cell.lst acc])
theorem fin_cold {K : PySem.W.Frag} (W : Wd) (F H : Hp) (m : Sto) (p : Addr) (xs : List V) (ds : List D) (q : D → Sto → Prop) (Q : VK) (hF : F p = none) (hs : Same Lk.F0 F) (rel : Rel K W (upd F p (.lst xs)) H m) (ra : RA K W xs ds) (h : q (.lst ds) m) (k : Fol K W F q Q) : Q (.ref p) H := by
  obtain ⟨h1, h2⟩ := rel.thaw hF hs
  exact k _ _ m _ _ h2 h1 (.lst upd_same (ra.mono h2)) h
theorem fin_hot {K : PySem.W.Frag} (W : Wd) (F H : Hp) (m : Sto) (p : Addr) (xs : List V) (ds : List D) (q : D → Sto → Prop) (Q : VK) (hF : F p = none) (hs : Same Lk.F0 F) (rel : Rel K W (upd F p (.lst xs)) H m) (ra : RA K W xs ds) (h : q (.ptr m.length) (m ++ [.lst ds])) (k : Fol K W F q Q) : Q (.ref p) H :=
  k _ _ (m ++ [.lst ds]) _ _ hot_le (rel.cellOf (c := .lst ds) hF hs ⟨xs, rel.frm _ _ upd_same, ra⟩ (fun z => by cases z)) (.ptr (hot_at rel.toRel0)) h
section
variable {X : Cx} {elt iter : Expr} {ifs : List Expr} {scope : Scope} {pos py npos spos : Pos} {x y : Str} {ti : DI} {tt : DT} {te : DE}
abbrev Blk (X : Cx) (scope : Scope) (p : Cx → Prop) : Prop := ∀ (s : Shared) (H : Hp) (C : Addr) (cl : List (Str × Addr)) (fp : List Addr), p (X.blk s H scope (compEnvC scope cl C X.env) fp)
theorem je_lc0 (i : Nat) (hc : X.calm = true) (hN : X.N.Nodup) (hi : JI X (.Name x npos) iter ti) (ok : BlkOk X.N X.env.scope scope [(x, i)]) (hg : Blk X scope fun Y => PG Y (.Name x npos) (gName i))
    (ht : ∀ (s : Shared) (H : Hp) (C : Addr) (cl : List (Str × Addr)) (fp : List Addr), JTs (X.blk s H scope (compEnvC scope cl C X.env) fp) ifs tt) (he : ∀ (s : Shared) (H : Hp) (C : Addr) (cl : List (Str × Addr)) (fp : List Addr), JE (X.blk s H scope (compEnvC scope cl C X.env) fp) elt te)
    (hs : ∀ z, foldedSetIterable iter X.env z = pure z := by intro _; rfl) : JE X (.ListComp elt [⟨.Name x npos, iter, ifs, 0⟩] scope pos) (dLc0 i ti tt te) :=
  pe_wk (pe_lc (own := [(x, i)]) hc hN hi ok hg ht he hs) fun s H Q h => lc_wk (i := i) (ti := ti) (tt := tt) (te := te) (fin := finC) fin_cold s H Q h
theorem je_lcP0 (i : Nat) (hc : X.calm = true) (hN : X.N.Nodup) (hi : JI X (.Name x npos) iter ti) (ok : BlkOk X.N X.env.scope scope [(x, i)]) (hg : Blk X scope fun Y => PG Y (.Name x npos) (gName i))
    (ht : ∀ (s : Shared) (H : Hp) (C : Addr) (cl : List (Str × Addr)) (fp : List Addr), JTs (X.blk s H scope (compEnvC scope cl C X.env) fp) ifs tt) (he : ∀ (s : Shared) (H : Hp) (C : Addr) (cl : List (Str × Addr)) (fp : List Addr), JE (X.blk s H scope (compEnvC scope cl C X.env) fp) elt te)
    (hs : ∀ z, foldedSetIterable iter X.env z = pure z := by intro _; rfl) : JE X (.ListComp elt [⟨.Name x npos, iter, ifs, 0⟩] scope pos) (dLcP0 i ti tt te) :=
  pe_wk (pe_lc (own := [(x, i)]) hc hN hi ok hg ht he hs) fun s H Q h => lc_wk (i := i) (ti := ti) (tt := tt) (te := te) (fin := finP) fin_hot s H Q h
/-- y = [..] -/
theorem js_setLc0 (i j : Nat) (hc : X.calm = true) (hN : X.N.Nodup) (hi : JI X (.Name x npos) iter ti) (ok : BlkOk X.N X.env.scope scope [(x, i)]) (hg : Blk X scope fun Y => PG Y (.Name x npos) (gName i))
    (ht : ∀ (s : Shared) (H : Hp) (C : Addr) (cl : List (Str × Addr)) (fp : List Addr), JTs (X.blk s H scope (compEnvC scope cl C X.env) fp) ifs tt) (he : ∀ (s : Shared) (H : Hp) (C : Addr) (cl : List (Str × Addr)) (fp : List Addr), JE (X.blk s H scope (compEnvC scope cl C X.env) fp) elt te)
    (hsw : swapsWith (.ListComp elt [⟨.Name x npos, iter, ifs, 0⟩] scope pos) (some (.Name y py)) spos.line X.env = pure true) (hy : X.N[j]? = some y := by rfl) (hyl : X.env.scope.names.lookup y = some .local := by rfl)
    (hs : ∀ z, foldedSetIterable iter X.env z = pure z := by intro _; rfl) : JS X (.Assign [.Name y py] (.ListComp elt [⟨.Name x npos, iter, ifs, 0⟩] scope pos) spos) (dAsg (dLc0 i ti tt te) (gN j)) :=
  ps_wk (ps_setLc (own := [(x, i)]) hc hN hy hyl hsw hi ok hg ht he hs) fun E s H ⟨W, F, m, r, d, rel, rs, h, L⟩ =>
    lc_wk (i := i) (ti := ti) (tt := tt) (te := te) (fin := finC) fin_cold s H (fun v H1 => gName j v s H1 E.nx) ⟨W, F, m, r, fun x m1 => gN j x r m1 d.nx, rel, rs, h, fun W1 H1 m1 v x l1 rel1 rv hq => L.nx W1 H1 m1 _ _ l1 rel1 ((rs.mono l1).put rv j) hq⟩
end
@[irreducible] def forD (g : DG) (tb : DS) (d : DEnds) (ok : Sto → Prop) (ds : List D) (r : DSt) (m : Sto) : Prop := forD0 g tb d ok ds r m
theorem forD_eq {g : DG} {tb : DS} {d : DEnds} {ok : Sto → Prop} {ds : List D} {r : DSt} {m : Sto} : forD g tb d ok ds r m = forD0 g tb d ok ds r m := by unfold forD; rfl
def dFor (ti : DI) (g : DG) (tb : DS) : DS := fun d r m => ti r m fun ds o m1 => forD g tb d (okP o) ds r m1
theorem dFor_eq {ti : DI} {g : DG} {tb : DS} : dFor ti g tb = dFor0 ti g tb := by
  funext d r m
  show ti r m (fun ds o m1 => forD g tb d (okP o) ds r m1) = ti r m (fun ds o m1 => forD0 g tb d (okP o) ds r m1)
  simp only [forD_eq]
@[irreducible] def dWhile (c : DT) (tb : DS) (d : DEnds) (r : DSt) (m : Sto) : Prop := dWhile0 c tb d r m
theorem dWhile_eq {c : DT} {tb : DS} : dWhile c tb = dWhile0 c tb := by
  funext d r m
  unfold dWhile
  rfl
theorem while_i {c : DT} {tb : DS} {d : DEnds} {r : DSt} {m : Sto} (h : dWhile0 c tb d r m) : dWhile c tb d r m := by rw [dWhile_eq]; exact h
@[irreducible] def lcI (i : Nat) (tt : DT) (te : DE) (ok : Sto → Prop) (ds : List D) (r : DSt) (acc : List D) (m : Sto) (q : List D → Sto → Prop) : Prop := lcD i tt te ok ds r acc m q
theorem lcI_eq {i : Nat} {tt : DT} {te : DE} {ok : Sto → Prop} {ds : List D} {r : DSt} {acc : List D} {m : Sto} {q : List D → Sto → Prop} : lcI i tt te ok ds r acc m q = lcD i tt te ok ds r acc m q := by unfold lcI; rfl
def dLcQ (i : Nat) (ti : DI) (tt : DT) (te : DE) (r : DSt) (m : Sto) (q : List D → Sto → Prop) : Prop := ti r m fun ds o m1 => ds.length ≤ 1000000 ∧ lcI i tt te (okP o) ds (forget r i) [] m1 q
theorem dLcQ_eq {i : Nat} {ti : DI} {tt : DT} {te : DE} {r : DSt} {m : Sto} {q : List D → Sto → Prop} : dLcQ i ti tt te r m q = dLcQ0 i ti tt te r m q := by
  unfold dLcQ dLcQ0
  simp only [lcI_eq]
def dLc (i : Nat) (ti : DI) (tt : DT) (te : DE) : DE := fun r m q => dLcQ i ti tt te r m fun acc m1 => q (.lst acc) m1
def dLcP (i : Nat) (ti : DI) (tt : DT) (te : DE) : DE := fun r m q => dLcQ i ti tt te r m fun acc m1 => q (.ptr m1.length) (m1 ++ [.lst acc])
theorem dLc_eq {i : Nat} {ti : DI} {tt : DT} {te : DE} : dLc i ti tt te = dLc0 i ti tt te := by
  funext r m q
  exact dLcQ_eq
theorem dLcP_eq {i : Nat} {ti : DI} {tt : DT} {te : DE} : dLcP i ti tt te = dLcP0 i ti tt te := by
  funext r m q
  exact dLcQ_eq
section
variable {X : Cx} {st : Stmt} {rest : List Stmt} {t u : DS} {e : Expr} {te : DE} {pos : Pos} {g : DG}
theorem js_while {c : Expr} {body : List Stmt} {tc : DT} {tb : DS} (hp : PassesOwn (model X.prog X.w) X.A X.env X.xe) (hc : JT X c tc) (hb : JSs X body tb) : JS X (.While c body [] pos) (dWhile tc tb) := by
  rw [dWhile_eq]
  exact js_while0 hp hc hb
theorem js_for {tg iter : Expr} {body : List Stmt} {ti : DI} {tb : DS} (hp : PassesOwn (model X.prog X.w) X.A X.env X.xe) (hc : X.calm = true) (hi : JI X tg iter ti) (hg : JG X tg g) (hb : JSs X body tb)
    (hs : ∀ x, foldedSetIterable iter X.env x = pure x := by intro _; rfl) : JS X (.For tg iter body [] pos) (dFor ti g tb) := by
  rw [dFor_eq]
  exact js_for0 hp hc hi hg hb hs
end
section
variable {X : Cx} {elt iter : Expr} {ifs : List Expr} {scope : Scope} {pos py npos spos : Pos} {x y : Str} {ti : DI} {tt : DT} {te : DE}
theorem je_lc (i : Nat) (hc : X.calm = true) (hN : X.N.Nodup) (hi : JI X (.Name x npos) iter ti) (ok : BlkOk X.N X.env.scope scope [(x, i)]) (hg : Blk X scope fun Y => PG Y (.Name x npos) (gName i))
    (ht : ∀ (s : Shared) (H : Hp) (C : Addr) (cl : List (Str × Addr)) (fp : List Addr), JTs (X.blk s H scope (compEnvC scope cl C X.env) fp) ifs tt) (he : ∀ (s : Shared) (H : Hp) (C : Addr) (cl : List (Str × Addr)) (fp : List Addr), JE (X.blk s H scope (compEnvC scope cl C X.env) fp) elt te)
    (hs : ∀ z, foldedSetIterable iter X.env z = pure z := by intro _; rfl) : JE X (.ListComp elt [⟨.Name x npos, iter, ifs, 0⟩] scope pos) (dLc i ti tt te) := by
  rw [dLc_eq]
  exact je_lc0 i hc hN hi ok hg ht he hs
theorem je_lcP (i : Nat) (hc : X.calm = true) (hN : X.N.Nodup) (hi : JI X (.Name x npos) iter ti) (ok : BlkOk X.N X.env.scope scope [(x, i)]) (hg : Blk X scope fun Y => PG Y (.Name x npos) (gName i))
    (ht : ∀ (s : Shared) (H : Hp) (C : Addr) (cl : List (Str × Addr)) (fp : List Addr), JTs (X.blk s H scope (compEnvC scope cl C X.env) fp) ifs tt) (he : ∀ (s : Shared) (H : Hp) (C : Addr) (cl : List (Str × Addr)) (fp : List Addr), JE (X.blk s H scope (compEnvC scope cl C X.env) fp) elt te)
    (hs : ∀ z, foldedSetIterable iter X.env z = pure z := by intro _; rfl) : JE X (.ListComp elt [⟨.Name x npos, iter, ifs, 0⟩] scope pos) (dLcP i ti tt te) := by
  rw [dLcP_eq]
  exact je_lcP0 i hc hN hi ok hg ht he hs
theorem js_setLc (i j : Nat) (hc : X.calm = true) (hN : X.N.Nodup) (hi : JI X (.Name x npos) iter ti) (ok : BlkOk X.N X.env.scope scope [(x, i)]) (hg : Blk X scope fun Y => PG Y (.Name x npos) (gName i))
    (ht : ∀ (s : Shared) (H : Hp) (C : Addr) (cl : List (Str × Addr)) (fp : List Addr), JTs (X.blk s H scope (compEnvC scope cl C X.env) fp) ifs tt) (he : ∀ (s : Shared) (H : Hp) (C : Addr) (cl : List (Str × Addr)) (fp : List Addr), JE (X.blk s H scope (compEnvC scope cl C X.env) fp) elt te)
    (hsw : swapsWith (.ListComp elt [⟨.Name x npos, iter, ifs, 0⟩] scope pos) (some (.Name y py)) spos.line X.env = pure true) (hy : X.N[j]? = some y := by rfl) (hyl : X.env.scope.names.lookup y = some .local := by rfl)
    (hs : ∀ z, foldedSetIterable iter X.env z = pure z := by intro _; rfl) : JS X (.Assign [.Name y py] (.ListComp elt [⟨.Name x npos, iter, ifs, 0⟩] scope pos) spos) (dAsg (dLc i ti tt te) (gN j)) := by
  rw [dLc_eq]
  exact js_setLc0 i j hc hN hi ok hg ht he hsw hy hyl hs
end
end DL
namespace DL
open PySem PySem.Spec PyProof.Rows L2
variable [Cl]
section
variable [Lk]
section
variable {X : Cx} {x : Str} {p pos : Pos} {e : Expr} {es : List Expr} {t : DA} {id T : String} {rr : List V → Hp → VK → Prop} {f : FN}
theorem je_callB (hc : CallR X (.builtin id) rr) (o : OpN X.K f rr) (hg : Gl X x) (hm : X.mg x = none) (hv : bootBuiltins x = some (.builtin id)) (ha : JA X (e :: es) t) (hn : x ≠ "__name__" := by decide) (hdb : (x == ("__debug__" : Str)) = false := by decide)
    (he : starEach (e :: es) X.env = (false, eval e X.env) :: starEach es X.env := by rfl) (hpl : (backTo pos (starEach es X.env)).any (·.1) = false := by rfl) : JE X (.Call (.Name x p) (e :: es) [] pos) (dCallB f t) :=
  pe_wk (pe_callB hc hg hm hv ha hn hdb he hpl) (call_wk o)
theorem je_callTy (hc : CallR X (.type T) rr) (o : OpN X.K f rr) (hg : Gl X x) (hm : X.mg x = none) (hv : bootBuiltins x = some (.type T)) (ha : JA X (e :: es) t) (hn : x ≠ "__name__" := by decide) (hdb : (x == ("__debug__" : Str)) = false := by decide)
    (he : starEach (e :: es) X.env = (false, eval e X.env) :: starEach es X.env := by rfl) (hpl : (backTo pos (starEach es X.env)).any (·.1) = false := by rfl) : JE X (.Call (.Name x p) (e :: es) [] pos) (dCallB f t) :=
  pe_wk (pe_callTy hc hg hm hv ha hn hdb he hpl) (call_wk o)
end
def dAbs : FN
  | [.int i], m, q => q (.int (if i < 0 then -i else i)) m
  | _, _, _ => False
def dLen : FN
  | [.str z], m, q => z.length ≤ sizeLine ∧ q (.int z.length) m
  | [.tup ds], m, q => q (.int ds.length) m
  | [x], m, q => onS (seqL x m) fun ds => q (.int ds.length) m
  | _, _, _ => False
def dInt : FN
  | [.int i], m, q => q (.int i) m
  | [.bl b], m, q => q (.int (if b then 1 else 0)) m
  | _, _, _ => False
def dMin : FN
  | [.int i, .int j], m, q => q (.int (if j < i then j else i)) m
  | _, _, _ => False
def dMax : FN
  | [.int i, .int j], m, q => q (.int (if j > i then j else i)) m
  | _, _, _ => False
/-- list(x): a new frozen list, or a new cell -/
def dList : FN
  | [.tup ds], m, q => q (.lst ds) m
  | [x], m, q => onS (seqL x m) fun ds => q (.lst ds) m
  | _, _, _ => False
def dListP : FN
  | [.tup ds], m, q => q (.ptr m.length) (m ++ [.lst ds])
  | [x], m, q => onS (seqL x m) fun ds => q (.ptr m.length) (m ++ [.lst ds])
  | _, _, _ => False
def dTuple : FN
  | [.tup ds], m, q => q (.tup ds) m
  | [x], m, q => onS (seqL x m) fun ds => q (.tup ds) m
  | _, _, _ => False
theorem ra1 {K : PySem.W.Frag} {W : Wd} {xs : List V} {d : D} (r : RA K W xs [d]) : ∃ v, xs = [v] ∧ R K W v d := by
  cases r with
  | cons h r => cases r; exact ⟨_, rfl, h⟩
theorem ra2 {K : PySem.W.Frag} {W : Wd} {xs : List V} {d e : D} (r : RA K W xs [d, e]) : ∃ v u, xs = [v, u] ∧ R K W v d ∧ R K W u e := by
  cases r with
  | cons h r => obtain ⟨u, rfl, h2⟩ := ra1 r; exact ⟨_, _, rfl, h, h2⟩
section
variable {K : PySem.W.Frag}
theorem o_abs : OpN K dAbs (fun xs H Q => ∃ i, xs = [.int i] ∧ Q (.int (if i < 0 then -i else i)) H) := by
  intro W F H m xs ds q Q rel ra h k
  unfold dAbs at h
  split at h
  · obtain ⟨v, rfl, rv⟩ := ra1 ra
    cases rv
    exact ⟨_, rfl, k _ _ _ _ _ (.refl _) rel (.int _) h⟩
  · exact h.elim
theorem o_len : OpN K dLen (fun xs H Q => ∃ x n, xs = [x] ∧ LenV K x H n ∧ Q (.int n) H) := by
  intro W F H m xs ds q Q rel ra h k
  unfold dLen at h
  split at h
  · obtain ⟨v, rfl, rv⟩ := ra1 ra
    cases rv
    exact ⟨_, _, rfl, ⟨h.1, rfl⟩, k _ _ _ _ _ (.refl _) rel (.int _) h.2⟩
  · obtain ⟨v, rfl, rv⟩ := ra1 ra
    obtain ⟨a, xs, rfl, h1, h2⟩ := tup_at rel rv
    exact ⟨_, _, rfl, .inr ⟨xs, h1, h2.len.symm⟩, k _ _ _ _ _ (.refl _) rel (.int _) h⟩
  · obtain ⟨v, rfl, rv⟩ := ra1 ra
    obtain ⟨es, e1, h⟩ := onS_some h
    obtain ⟨a, xs, rfl, h1, h2⟩ := seqL_at rel rv e1
    exact ⟨_, _, rfl, .inl ⟨xs, h1, h2.len.symm⟩, k _ _ _ _ _ (.refl _) rel (.int _) h⟩
  · exact h.elim
theorem o_int : OpN K dInt (fun xs H Q => (∃ i, xs = [.int i] ∧ Q (.int i) H) ∨ ∃ k, xs = [.bl k] ∧ Q (.int (if k then 1 else 0)) H) := by
  intro W F H m xs ds q Q rel ra h k
  unfold dInt at h
  split at h
  · obtain ⟨v, rfl, rv⟩ := ra1 ra
    cases rv
    exact .inl ⟨_, rfl, k _ _ _ _ _ (.refl _) rel (.int _) h⟩
  · obtain ⟨v, rfl, rv⟩ := ra1 ra
    cases rv
    exact .inr ⟨_, rfl, k _ _ _ _ _ (.refl _) rel (.int _) h⟩
  · exact h.elim
theorem o_list : OpN K dList (fun xs H Q => ∃ p ys, xs = [.ref p] ∧ (SqL K H p ys ∨ SqT K H p ys) ∧ ∀ l, H l = none → Q (.ref l) (upd H l (.lst ys))) := by
  intro W F H m xs ds q Q rel ra h k
  unfold dList at h
  split at h
  · obtain ⟨v, rfl, rv⟩ := ra1 ra
    obtain ⟨a, xs, rfl, h1, h2⟩ := tup_at rel rv
    exact ⟨a, xs, rfl, .inr h1, fun p hp => cold_lst rel h2 h k hp⟩
  · obtain ⟨v, rfl, rv⟩ := ra1 ra
    obtain ⟨es, e1, h⟩ := onS_some h
    obtain ⟨a, xs, rfl, h1, h2⟩ := seqL_at rel rv e1
    exact ⟨a, xs, rfl, .inl h1, fun p hp => cold_lst rel h2 h k hp⟩
  · exact h.elim
theorem o_listP : OpN K dListP (fun xs H Q => ∃ p ys, xs = [.ref p] ∧ (SqL K H p ys ∨ SqT K H p ys) ∧ ∀ l, H l = none → Q (.ref l) (upd H l (.lst ys))) := by
  intro W F H m xs ds q Q rel ra h k
  unfold dListP at h
  split at h
  · obtain ⟨v, rfl, rv⟩ := ra1 ra
    obtain ⟨a, xs, rfl, h1, h2⟩ := tup_at rel rv
    exact ⟨a, xs, rfl, .inr h1, fun p hp => hot_lst rel h2 h k hp⟩
  · obtain ⟨v, rfl, rv⟩ := ra1 ra
    obtain ⟨es, e1, h⟩ := onS_some h
    obtain ⟨a, xs, rfl, h1, h2⟩ := seqL_at rel rv e1
    exact ⟨a, xs, rfl, .inl h1, fun p hp => hot_lst rel h2 h k hp⟩
  · exact h.elim
theorem o_tuple : OpN K dTuple (fun xs H Q => ∃ p ys, xs = [.ref p] ∧ ((SqL K H p ys ∧ ∀ l, H l = none → Q (.ref l) (upd H l (.tup ys))) ∨ (SqT K H p ys ∧ Q (.ref p) H))) := by
  intro W F H m xs ds q Q rel ra h k
  unfold dTuple at h
  split at h
  · obtain ⟨v, rfl, rv⟩ := ra1 ra
    obtain ⟨a, xs, rfl, h1, h2⟩ := tup_at rel rv
    exact ⟨a, xs, rfl, .inr ⟨h1, k _ _ _ _ _ (.refl _) rel rv h⟩⟩
  · obtain ⟨v, rfl, rv⟩ := ra1 ra
    obtain ⟨es, e1, h⟩ := onS_some h
    obtain ⟨a, xs, rfl, h1, h2⟩ := seqL_at rel rv e1
    exact ⟨a, xs, rfl, .inl ⟨h1, fun p hp => cold_tup rel h2 h k hp⟩⟩
  · exact h.elim
end
section
variable {X : Cx} {p pos : Pos} {a b : Expr} {ta tb : DE}
abbrev a1 (ta : DE) : DA := dCons ta dNil
abbrev a2 (ta tb : DE) : DA := dCons ta (dCons tb dNil)
theorem je_abs (hg : Gl X "abs") (hm : X.mg "abs" = none) (ha : JE X a ta) (hs : starEach [a] X.env = (false, eval a X.env) :: starEach [] X.env := by rfl) (hp : (backTo pos (starEach [] X.env)).any (·.1) = false := by rfl) : JE X (.Call (.Name "abs" p) [a] [] pos) (dCallB dAbs (a1 ta)) := je_callB call_abs o_abs hg hm (by decide +kernel) (ja_cons ha ja_nil hs) (by decide) (by decide) hs hp
theorem je_len (hg : Gl X "len") (hm : X.mg "len" = none) (ha : JE X a ta) (hs : starEach [a] X.env = (false, eval a X.env) :: starEach [] X.env := by rfl) (hp : (backTo pos (starEach [] X.env)).any (·.1) = false := by rfl) : JE X (.Call (.Name "len" p) [a] [] pos) (dCallB dLen (a1 ta)) := je_callB call_len o_len hg hm PySem.boot_len (ja_cons ha ja_nil hs) (by decide) (by decide) hs hp
theorem je_int1 (hg : Gl X "int") (hm : X.mg "int" = none) (ha : JE X a ta) (hs : starEach [a] X.env = (false, eval a X.env) :: starEach [] X.env := by rfl) (hp : (backTo pos (starEach [] X.env)).any (·.1) = false := by rfl) : JE X (.Call (.Name "int" p) [a] [] pos) (dCallB dInt (a1 ta)) := je_callTy call_int1 o_int hg hm (by decide +kernel) (ja_cons ha ja_nil hs) (by decide) (by decide) hs hp
theorem je_list1 (hg : Gl X "list") (hm : X.mg "list" = none) (ha : JE X a ta) (hs : starEach [a] X.env = (false, eval a X.env) :: starEach [] X.env := by rfl) (hp : (backTo pos (starEach [] X.env)).any (·.1) = false := by rfl) : JE X (.Call (.Name "list" p) [a] [] pos) (dCallB dList (a1 ta)) := je_callTy call_list_of o_list hg hm (by decide +kernel) (ja_cons ha ja_nil hs) (by decide) (by decide) hs hp
theorem je_list1P (hg : Gl X "list") (hm : X.mg "list" = none) (ha : JE X a ta) (hs : starEach [a] X.env = (false, eval a X.env) :: starEach [] X.env := by rfl) (hp : (backTo pos (starEach [] X.env)).any (·.1) = false := by rfl) : JE X (.Call (.Name "list" p) [a] [] pos) (dCallB dListP (a1 ta)) := je_callTy call_list_of o_listP hg hm (by decide +kernel) (ja_cons ha ja_nil hs) (by decide) (by decide) hs hp
theorem je_tuple1 (hg : Gl X "tuple") (hm : X.mg "tuple" = none) (ha : JE X a ta) (hs : starEach [a] X.env = (false, eval a X.env) :: starEach [] X.env := by rfl) (hp : (backTo pos (starEach [] X.env)).any (·.1) = false := by rfl) : JE X (.Call (.Name "tuple" p) [a] [] pos) (dCallB dTuple (a1 ta)) := je_callTy call_tuple_of o_tuple hg hm (by decide +kernel) (ja_cons ha ja_nil hs) (by decide) (by decide) hs hp
end
inductive Ky where | int | bool | str | list | tuple | dict
inductive Kd where | non | bl | int | str | tup | lst | dic
def Ky.nm : Ky → String
  | .int => "int" | .bool => "bool" | .str => "str" | .list => "list" | .tuple => "tuple" | .dict => "dict"
def Kd.nm : Kd → String
  | .non => "NoneType" | .bl => "bool" | .int => "int" | .str => "str" | .tup => "tuple" | .lst => "list" | .dic => "dict"
def isT : Ky → Kd → Bool
  | .int, .int => true | .int, .bl => true | .bool, .bl => true | .str, .str => true | .list, .lst => true | .tuple, .tup => true | .dict, .dic => true
  | _, _ => false
theorem isT_ok (k : Ky) (d : Kd) : kitB d.nm k.nm = some (isT k d) := by cases k <;> cases d <;> decide +kernel
def kd : D → Sto → Option Kd
  | .non, _ => some .non
  | .bl _, _ => some .bl
  | .int _, _ => some .int
  | .str _, _ => some .str
  | .tup _, _ => some .tup
  | .lst _, _ => some .lst
  | .fz _, _ => some .lst
  | .ptr i, m => match m[i]? with | some (.lst _) => some .lst | some (.dic _) => some .dic | _ => none
  | .ty _, _ => none
  | .dic _, _ => some .dic
  | .adr _, _ => none
  | .gl _, _ => none
theorem tyx_tup {K : PySem.W.Frag} {H : Hp} {a : Addr} {xs : List V} (h : SqT K H a xs) : TyX K H (.ref a) (.type "tuple") := by
  rcases h with (h | ⟨o, h⟩) | ⟨o, its, n, hk, hc, _⟩
  · exact .base (.tup h)
  · exact .fTuple h
  · exact .kTuple hk hc
theorem tyx_lst {K : PySem.W.Frag} {H : Hp} {a : Addr} {xs : List V} (h : SqL K H a xs) : TyX K H (.ref a) (.type "list") := by
  rcases h with (h | ⟨o, h⟩) | ⟨o, its, n, hk, hc, _⟩
  · exact .base (.lst h)
  · exact .base (.frz h)
  · exact .kList hk hc
theorem kd_ty {K : PySem.W.Frag} {W : Wd} {F H : Hp} {m : Sto} {x : V} {d : D} {k : Kd} (rel : Rel K W F H m) (rx : R K W x d) (e : kd d m = some k) : TyX K H x (.type k.nm) := by
  cases rx with
  | non => cases e; exact .base .non
  | bl b => cases e; exact .base (.bl b)
  | int i => cases e; exact .base (.int i)
  | str z => cases e; exact .base (.str z)
  | tup h r => cases e; exact tyx_tup (same_seqT rel.sub h)
  | lst h r => cases e; exact tyx_lst (SqL.of (rel.sub _ _ h))
  | fz h r => cases e; exact tyx_lst (same_seqL rel.sub h)
  | ty n => cases e
  | dic h r => cases e; exact .base (.dK (rel.sub _ _ h))
  | adr a => cases e
  | gl h => cases e
  | @ptr a i hb =>
    unfold kd at e
    cases q : m[i]? with
    | none => simp only [q] at e; cases e
    | some c =>
      cases c with
      | dead => simp only [q] at e; cases e
      | exc _ _ => simp only [q] at e; cases e
      | ins c fs => simp only [q] at e; cases e
      | dic es =>
        simp only [q] at e
        cases e
        obtain ⟨b, h1, h2, h3, xs, h4, h5⟩ := rel.cell i _ q (fun z => by cases z)
        obtain rfl : b = a := Option.some.inj (h1.symm.trans hb)
        exact .base (.dK h4)
      | lst es =>
        simp only [q] at e
        cases e
        have e' : lstOf (.ptr i) m = some es := by simp only [lstOf, q]
        obtain ⟨b, xs, h1, h2, h3⟩ := lstOf_at rel (R.ptr (K := K) hb) e'
        cases h1
        exact tyx_lst (SqL.of h2)
def dIsi (k : Ky) (te : DE) : DE := fun r m q => te r m fun x m1 => onS (kd x m1) fun d => q (.bl (isT k d)) m1
theorem je_isi (k : Ky) {X : Cx} {p p2 pos : Pos} {e : Expr} {te : DE} {nm : Str} (hg : Gl X "isinstance") (hm : X.mg "isinstance" = none) (he : JE X e te) (hg2 : Gl X nm) (hm2 : X.mg nm = none) (hv : bootBuiltins nm = some (.type k.nm))
    (hn2 : nm ≠ "__name__" := by decide) (hd2 : (nm == ("__debug__" : Str)) = false := by decide) (hs : starEach [e, .Name nm p2] X.env = (false, eval e X.env) :: starEach [.Name nm p2] X.env := by rfl)
    (hs2 : starEach [.Name nm p2] X.env = (false, eval (.Name nm p2) X.env) :: starEach [] X.env := by rfl) (hp : (backTo pos (starEach [.Name nm p2] X.env)).any (·.1) = false := by rfl) :
    JE X (.Call (.Name "isinstance" p) [e, .Name nm p2] [] pos) (dIsi k te) :=
  pe_wk (pe_callB call_isi hg hm (by decide +kernel) (pa_cons he (pa_cons (pe_bltn (v := .ty k.nm) hg2 hm2 hv rfl hn2 hd2) pa_nil hs2) hs) (by decide) (by decide) hs hp) fun s H Q ⟨W, F, m, r, q, rel, rs, h, kk⟩ => by
    refine ⟨W, F, m, r, _, rel, rs, h, fun W1 H1 m1 v d l1 rel1 rv hq => ?_⟩
    obtain ⟨d', e1, hq⟩ := onS_some hq
    exact ⟨v, .ty k.nm, .type d'.nm, .type k.nm, isT k d', rfl, .ty _, kd_ty rel1 rv e1, kit_ty (isT_ok k d'), kk W1 H1 m1 _ _ l1 rel1 (.bl _) hq⟩
def dApp (to te : DE) : DE := fun r m q => to r m fun x m1 => match x with
  | .ptr j => onS (lstOf (.ptr j) m1) fun _ => te r m1 fun y m2 => onS (lstOf (.ptr j) m2) fun ds => ds.length ≤ 1000000 ∧ q .non (m2.set j (.lst (ds ++ [y])))
  | _ => False
theorem mil_line : (1000000 : Nat) < sizeLine := by rw [sizeLine_eq]; decide
theorem je_append {X : Cx} {o e : Expr} {to te : DE} {apos cpos : Pos} (ho : JE X o to) (he : JE X e te) (hbase : attributeBase o "append" X.env (eval o X.env) = eval o X.env := by rfl)
    (hfew : ((backTo cpos (starEach (e :: []) X.env)).all (fun x => !x.1) && (backToKw cpos (keywordEach [] X.env)).all (fun x => x.1.isSome)
      && decide ((e :: []).length + ([] : List Keyword).length + (if ([] : List Keyword).isEmpty then 0 else 1) < 30)) = true := by rfl)
    (hline : (apos.endLine == cpos.line) = true := by rfl) (hs : starEach [e] X.env = (false, eval e X.env) :: starEach [] X.env := by rfl) (hp : (backTo cpos (starEach [] X.env)).any (·.1) = false := by rfl) :
    JE X (.Call (.Attribute o "append" apos) [e] [] cpos) (dApp to te) :=
  pe_wk (pe_bm PySem.F.plainAttrs_list PySem.F.slot_list_append PySem.F.type_list_append mt_append ho (pa_cons he pa_nil hs) hbase hfew hline hs hp) fun s H Q ⟨W, F, m, r, q, rel, rs, h, k⟩ => by
    refine ⟨W, F, m, r, _, rel, rs, h, fun W1 H1 m1 v d l1 rel1 rv hq => ?_⟩
    cases d with
    | ptr j =>
      obtain ⟨es, e1, hq⟩ := onS_some hq
      obtain ⟨b, xs, rfl, g1, g2⟩ := lstOf_at rel1 rv e1
      refine ⟨.inl ⟨rfl, xs, SqL.of g1⟩, W1, F, m1, r, _, rel1, rs.mono l1, hq, fun W2 H2 m2 u y l2 rel2 ru hq2 => ?_⟩
      obtain ⟨ds, e2, hz, hq2⟩ := onS_some hq2
      obtain ⟨b', ys, e3, g3, g4, g5⟩ := cell_write (ds' := ds ++ [y]) rel2 (rv.mono l2) e2
      cases e3
      exact ⟨b, ys, u, rfl, rfl, g3, by rw [g4.len]; exact Nat.lt_of_le_of_lt hz mil_line, k _ _ _ _ _ (l1.trans l2) (g5 _ (g4.app (.cons ru .nil))) .non hq2⟩
    | _ => exact hq.elim
end
/-- a def's promise: guards are told besides -/
structure FnG (P : Program) (w : World) (K : PySem.W.Frag) (mg : Str → Option Value) (base : Heap) (k : Nat) (f : Addr) (fd : FuncData) (ps : List Str) (sp : Sp) : Prop where
  len : ∀ vs H Q E, sp vs H Q E → vs.length = ps.length
  run : ∀ (A : Around) (outer : List Env) (s : Shared) (H : Hp) (args : Args) (us : List Value) (vs : List V) (Q : VK) (E : XK), Room k A → A.guards = some [] → Env0 P w K mg base A outer s H →
    BindsTo s fd args (ps.zip us) → Vals vs us → sp vs H Q E → codeAny (model P w) A (.call (.ref f) args) (CR (L2.CX P w) outer P w H s Q E) s
abbrev NoX : XK := fun _ _ _ => False
theorem passF {X : Cx} : Passes (L2.CX X.prog X.w) X NoX := fun _ _ _ _ _ _ _ ⟨_, _, _, _, _, _, _, _, _, _, _, _, z⟩ => z.elim
section
variable {P : Program} {w : World} {K : PySem.W.Frag} {mg : Str → Option Value} {base : Heap}
/-- by its body -/
theorem fnG {x qual : Str} {st : Stmt} {f : Addr} {fd : FuncData} {N ps : List Str} {k : Nat} {sp : Sp} (F : L2.Fun K x qual st f fd) (S : FnScope N ps (defScope st)) (len : ∀ vs H Q E, sp vs H Q E → vs.length = ps.length)
    (body : ∀ (cdv : Value) (A : Around) (outer : List Env) (s : Shared) (H : Hp) (vs : List V) (Q : VK) (E : XK), Room k (A.deeper (envOfC qual (defScope st) s.heap.objs.size f cdv)) → A.guards = some [] → sp vs H Q E →
      ∃ t, PSs (cxOf (L2.CX P w) P w K mg base N qual (defScope st) f cdv A outer s H E) (defBody st) t ∧ t { nx := fun _ H' => Q .non H', rt := Q } (L2.start N vs) H) : FnG P w K mg base (k + 1) f fd ps sp where
  len := len
  run := by
    obtain ⟨oc, od, kV, doc, pm, an, cdv, ct, osl, rfl, lk, hcd⟩ := F.ex
    intro A outer s H args us vs Q E hr gd e0 hb r hsp
    have nvs : vs.length = ps.length := len _ _ _ _ hsp
    have inK : K.In s.heap := e0.mod.kin.keeps fun b o q => (e0.bs b o q).1
    have nolim : s.heap.NoLimit := e0.mod.nolimit.keeps fun b o q => (e0.bs b o q).1
    have kinds : ∀ y ∈ ps.zip us, (defScope st).names.lookup y.1 = some .local ∨ ((defScope st).names.lookup y.1 = some .cell ∧ ((cellsFrom (s.heap.objs.size + 1) (defScope st).names []).lookup y.1).isSome = true) := by
      rintro ⟨nm, v⟩ hy
      have hp : nm ∈ ps := (List.of_mem_zip hy).1
      cases S.par nm hp with
      | inl q => exact .inl q
      | inr q => exact .inr ⟨q, PySem.W.cellsFrom_some _ _ _ (.inl q)⟩
    apply codeAny_call_function hr.depth (inK _ _ lk) rfl S.co S.gen rfl (PySem.W.codeRec_of inK hcd)
    apply hb
    refine wpAny_newFunctionEnv_cells S.kind kinds ?_
    intro env he s1 x
    subst he
    refine ⟨nolim.keeps x.toInCall.keep, codeAny_func ?_⟩
    have hr' : Room k (A.deeper (envOfC qual (defScope st) s.heap.objs.size f cdv)) := hr.deeper _
    obtain ⟨t, ht, hq⟩ := body cdv A outer s H vs Q E hr' gd hsp
    have I := inv_start (CX := L2.CX P w) (cd := cdv) (f := f) (E := E) S hr.hd e0 nvs r x
    refine wpAny_mono (ht.run [] s1 (L2.start N vs) H _ I hq) ?_ (fun _ _ z => z)
    intro fl s' hs
    cases fl with
    | ret u =>
      obtain ⟨v, σ', H', J, rv, q⟩ := hs
      exact ⟨v, H', J.os, J.bare, J.base, J.hok, rv, q⟩
    | next =>
      obtain ⟨σ', H', J, q⟩ := hs
      exact ⟨.non, H', J.os, J.bare, J.base, J.hok, rfl, q⟩
    | brk => exact hs.choose_spec.choose_spec.2.elim
    | cont => exact hs.choose_spec.choose_spec.2.elim
end
/-- what follows, in any relation -/
def Fol0 (K : PySem.W.Frag) (W : Wd) (F : Hp) (q : D → Sto → Prop) (Q : VK) : Prop := ∀ W' H' m' v d, W.Le W' → Rel0 K W' F H' m' → R K W' v d → q d m' → Q v H'
theorem Fol.to0 [Lk] {K : PySem.W.Frag} {W : Wd} {F H : Hp} {m : Sto} {q : D → Sto → Prop} {Q : VK} (k : Fol K W F q Q) (r : Rel K W F H m) : Fol0 K W F q Q := fun _ _ _ _ _ l h => k _ _ _ _ _ l (r.of l h)
/-- the promise by data: nothing is raised -/
def spOf (K : PySem.W.Frag) (n : Nat) (f : FN) : Sp := fun vs H Q _ => vs.length = n ∧ ∃ (W : Wd) (F : Hp) (m : Sto) (ds : List D) (q : D → Sto → Prop), Rel0 K W F H m ∧ RA K W vs ds ∧ f ds m q ∧ Fol0 K W F q Q
structure Kn (P : Program) (w : World) (K : PySem.W.Frag) (mg : Str → Option Value) (base : Heap) (k : Nat) (x : Str) (f : FN) : Prop where
  ex : ∃ (n : Nat) (fa : Addr) (fd : FuncData) (ps : List Str), FnG P w K mg base k fa fd ps (spOf K n f) ∧ mg x = some (.ref fa) ∧ PySem.W.keepIn K (.ref fa) = true ∧ Binds K fd ps [] ∧ ∀ ds m q, f ds m q → ds.length = n
section
variable {X : Cx} {pins : List (Addr × Obj)} {σ : L2.St} {H : Hp} {s : Shared} {Q : VK} {us : List Value} {vs : List V} {k j : Nat} {fa : Addr} {fd : FuncData} {ps : List Str} {sp : Sp} {E : XK}
theorem run_g (F : FnG X.prog X.w X.K X.mg X.base k fa fd ps sp) (hr : Room k X.A) (gd : X.A.guards = some []) (hb : Binds X.K fd ps []) (hx : Passes (L2.CX X.prog X.w) X E) (I : Inv X pins σ H s) (r : Vals vs us) (h : sp vs H Q E) :
    wpAny (model X.prog X.w) X.A (call (.ref fa) us) (EP X pins σ Q) X.xe s := by
  have nn : us.length = ps.length := by rw [← r.length]; exact F.len _ _ _ _ h
  have bnd : BindsTo s fd ⟨us, []⟩ (ps.zip us) := by
    have z := hb s us I.kIn (by rw [List.append_nil]; exact nn)
    rw [List.append_nil] at z
    exact z
  have go := F.run X.A X.stack s H ⟨us, []⟩ us vs Q E hr gd I.env0 bnd r h
  refine wpAny_call (codeAny_mono go ?_)
  intro res s' hq
  match res, hq with
  | .error e, hq => exact hx pins σ H s e s' I hq
  | .ok (.ret u), hq => exact I.after hq
  | .ok .next, hq => exact hq.elim
  | .ok .brk, hq => exact hq.elim
  | .ok .cont, hq => exact hq.elim
variable {x : Str} {p pos : Pos} {e : Expr} {es : List Expr} {t : DA} {f : FN}
theorem je_call [Lk] (c : Kn X.prog X.w X.K X.mg X.base k x f) (hr : Room j X.A) (hk : k ≤ j) (gd : X.A.guards = some []) (hg : Gl X x) (ha : JA X (e :: es) t) (hdb : (x == ("__debug__" : Str)) = false := by decide)
    (he : starEach (e :: es) X.env = (false, eval e X.env) :: starEach es X.env := by rfl) (hpl : (backTo pos (starEach es X.env)).any (·.1) = false := by rfl) : JE X (.Call (.Name x p) (e :: es) [] pos) (dCallB f t) := by
  obtain ⟨n, fa, fd, ps, F, hm, kp, hb, har⟩ := c.ex
  refine ⟨fun pins s sg H Q I h => wpAny_Call_Name_kw (ld_glob I hg hm ?_ hdb)⟩
  have h' := call_wk (rr := fun vs H Q => spOf X.K n f vs H Q NoX) (fun W F' H' m xs ds q Q' rel ra hf kk => ⟨by rw [ra.len]; exact har _ _ _ hf, W, F', m, ds, q, rel.toRel0, ra, hf, kk.to0 rel⟩) sg H Q h
  refine PySem.W.callWith_K (h₀ := X.base) I.ok.mod.kin kp ?_ he hpl
  refine thn (ha.run pos pins s sg H _ I h') ?_
  intro us s1 ⟨vs, H1, I1, r, q⟩
  exact ⟨I1.kIn, run_g F (hr.mono hk) gd hb passF I1 r q⟩
end
/-- a def by data: its body's derivation, and its reading at the arguments -/
def startD (N : List Str) (ds : List D) : DSt := ds.map some ++ List.replicate (N.length - ds.length) none
theorem start_rst {K : PySem.W.Frag} {W : Wd} {N : List Str} {vs : List V} {ds : List D} (r : RA K W vs ds) : RSt K W (L2.start N vs) (startD N ds) := by
  unfold L2.start startD
  rw [r.len]
  have base : ∀ n, RSt K W (List.replicate n none) (List.replicate n none) := fun n => by
    induction n with
    | zero => exact .nil
    | succ n ih => exact .no ih
  have go : ∀ {us : List V} {es : List D} (n : Nat), RA K W us es → RSt K W (us.map some ++ List.replicate n none) (es.map some ++ List.replicate n none) := fun {us es} n q => by
    induction us generalizing es with
    | nil => cases q; exact base n
    | cons u us ih => cases q with | cons h q => exact .yes h (ih q)
  exact go _ r
section
variable {P : Program} {w : World} {K : PySem.W.Frag} {mg : Str → Option Value} {base : Heap}
theorem defG {x qual : Str} {st : Stmt} {f : Addr} {fd : FuncData} {N ps : List Str} {k n : Nat} {t : DS} {g : FN} (F : L2.Fun K x qual st f fd) (S : FnScope N ps (defScope st)) (hn : ps.length = n)
    (body : ∀ [Lk] (cdv : Value) (A : Around) (outer : List Env) (s : Shared) (H : Hp) (E : XK), Room k (A.deeper (envOfC qual (defScope st) s.heap.objs.size f cdv)) → A.guards = some [] →
      JSs (cxOf (L2.CX P w) P w K mg base N qual (defScope st) f cdv A outer s H E).nox (defBody st) t)
    (h : ∀ ds m q, ds.length = n → g ds m q → t { nx := fun _ m' => q .non m', rt := q } (startD N ds) m) : FnG P w K mg base (k + 1) f fd ps (spOf K n g) := by
  refine fnG F S (fun vs H Q E z => z.1.trans hn.symm) fun cdv A outer s H vs Q E hr gd z => ?_
  obtain ⟨hl, W, F', m, ds, q, rel, ra, hg, kk⟩ := z
  letI : Lk := ⟨W, F'⟩
  refine ⟨liftS K t, (body cdv A outer s H E hr gd).nox, ?_⟩
  refine ⟨W, F', m, startD N ds, _, ⟨rel, .refl _, Same.refl _⟩, start_rst ra, h ds m q (by rw [← ra.len]; exact hl) hg, ⟨?_, ?_, ?_, ?_⟩⟩
  · exact fun W' H' m' _ _ l rel' _ hq => kk W' H' m' _ _ l rel'.toRel0 .non hq
  · exact fun W' H' m' v d l rel' rv hq => kk W' H' m' v d l rel'.toRel0 rv hq
  · exact fun _ _ _ _ _ _ _ _ z => z
  · exact fun _ _ _ _ _ _ _ _ z => z
theorem kn_of {x : Str} {st : Stmt} {f : Addr} {fd : FuncData} {ps : List Str} {k n : Nat} {g : FN} (F : L2.Fun K x x st f fd) (hm : mg x = some (.ref f)) (b : Binds K fd ps []) (G : FnG P w K mg base k f fd ps (spOf K n g)) (ar : ∀ ds m q, g ds m q → ds.length = n) : Kn P w K mg base k x g :=
  ⟨n, f, fd, ps, G, hm, F.kp, b, ar⟩
end
/-- what a law is asked: a script of at most 63 ints, an empty store; it answers True -/
def lawD : FN := fun ds m q => ∃ ns : List Int, ds = [.fz (ns.map D.int)] ∧ ns.length ≤ 63 ∧ m = [] ∧ ∀ m', q (.bl true) m'
theorem ra_ints {K : PySem.W.Frag} {W : Wd} : ∀ ns : List Int, RA K W (ns.map V.int) (ns.map D.int)
  | [] => .nil
  | n :: ns => .cons (.int n) (ra_ints ns)
theorem law_end {P : Program} {w : World} {K : PySem.W.Frag} {mg mb : Str → Option Value} {k : Nat} {fa a : Addr} {fd : FuncData} {x : Str} {s0 : Shared} {vs : List Value} {ns : List Int}
    (inK : K.In s0.heap) (gl : s0.heap.Ns mainGlobals mg) (bl : s0.heap.Ns builtinsNs mb) (bb : ∀ x : Str, x ≠ "__name__" → mb x = bootBuiltins x) (nolim : s0.heap.NoLimit) (ng : s0.gens = #[])
    (obj : s0.heap.get? a = some { cls := .type "list", data := .seq vs.toArray }) (hi : IntsAre vs ns) (nl : ns.length ≤ 63) (hr : Room k callerA)
    (F : ∀ base : Heap, K.In base → base.Ns mainGlobals mg → FnG P w K mg base k fa fd [x] (spOf K 1 lawD)) (bnd : ∀ (s : Shared) (u : Value), BindsTo s fd ⟨[u], []⟩ [(x, u)]) :
    codeAny (model P w) callerA (.call (.ref fa) ⟨[.ref a], []⟩) (fun r s' => r = .ok (.ret (.bool true)) ∧ OldK s0.heap s'.heap ∧ s'.os = s0.os ∧ AllBare s'.gens) s0 := by
  have rv := vals_ints hi
  have nv := hi.length
  have nsz : ns.length ≤ sizeLine := small_len (by omega)
  obtain ⟨H, hH⟩ : ∃ H : Hp, H = fun b => if b = a ∧ K.lookup a = none then some (HO.frz { cls := .type "list", data := .seq vs.toArray } (.lst (ns.map V.int))) else none := ⟨_, rfl⟩
  have cases2 : ∀ b, H b = none ∨ (b = a ∧ K.lookup a = none ∧ H b = some (HO.frz { cls := .type "list", data := .seq vs.toArray } (.lst (ns.map V.int)))) := by
    intro b
    by_cases z : b = a ∧ K.lookup a = none
    · exact .inr ⟨z.1, z.2, by rw [hH]; exact if_pos z⟩
    · exact .inl (by rw [hH]; exact if_neg z)
  have isSeq : SqL K H a (ns.map V.int) := by
    cases q : K.lookup a with
    | none => exact .inl (.inr ⟨{ cls := .type "list", data := .seq vs.toArray }, by rw [hH]; exact if_pos ⟨rfl, q⟩⟩)
    | some o =>
      have e1 := inK a o q
      rw [obj] at e1
      cases e1
      exact .inr ⟨_, vs.toArray, _, q, rfl, rfl, rfl, by rw [List.size_toArray, nv]; exact nsz, by simpa using rv⟩
  have okH : HOk P w H s0.heap := by
    intro b u z
    rcases cases2 b with q | ⟨e1, _, q⟩
    · rw [q] at z; cases z
    · rw [q] at z
      cases z
      subst e1
      exact ⟨obj, by rw [List.length_map]; exact nsz, vs, _, rv, obj⟩
  have dictless : ∀ {b : Addr} {o : Obj} {es : Array DictEntry} {ep : Nat}, s0.heap.get? b = some o → o.data = .dict es ep → H b = none := by
    intro b o es ep e1 e2
    rcases cases2 b with q | ⟨e3, _, _⟩
    · exact q
    · subst e3
      rw [obj] at e1
      cases e1
      have z : Data.seq vs.toArray _ = Data.dict es ep := e2
      cases z
  have down : ∀ {b : Addr} {mm : Str → Option Value}, s0.heap.Ns b mm → (hidT s0.heap H).Ns b mm := by
    rintro b mm ⟨o, es, ep, e1, e2, r⟩
    exact ⟨o, es, ep, hidT_get e1 (dictless e1 e2), e2, r⟩
  have inB : K.In (hidT s0.heap H) := by
    intro b o q
    refine hidT_get (inK b o q) ?_
    rcases cases2 b with z | ⟨e1, e2, _⟩
    · exact z
    · subst e1
      rw [e2] at q; cases q
  have md : Mod K mg (hidT s0.heap H) := by
    obtain ⟨mc, h1, h2⟩ := nolim
    exact ⟨inB, down gl, ⟨mb, down bl, bb⟩, ⟨mc, down h1, h2⟩⟩
  have nofr : ∀ b : Addr, b ∉ frs ([] : List Env) := fun b z => by
    have z' : b ∈ ([] : List Addr) := z
    cases z'
  have env : Env0 P w K mg (hidT s0.heap H) callerA [] s0 H := ⟨rfl, md, fun b o e1 => of_hidT e1, Nat.le_of_eq (hidT_size _ _), trivial, fun b z => absurd z (nofr b), okH, .of_eq ng⟩
  have ask : spOf K 1 lawD [.ref a] H (fun v _ => v = .bl true) NoX := by
    refine ⟨rfl, ⟨[], H⟩, fun _ => none, [], [.fz (ns.map D.int)], fun d _ => d = .bl true, ⟨Same.refl _, ?_, ?_, rfl, ?_, ?_⟩, .cons (.fz isSeq (ra_ints ns)) .nil, ⟨ns, rfl, nl, rfl, fun _ => rfl⟩, ?_⟩
    · intro b o z; cases z
    · intro b o z; cases z
    · intro i c z; simp at z
    · intro i j c d d' z; simp at z
    · intro W' H' m' v d _ _ r e1
      subst e1
      cases r
      rfl
  have go := (F _ inB (down gl)).run callerA [] s0 H ⟨[.ref a], []⟩ [.ref a] [.ref a] _ _ hr rfl env (bnd s0 (.ref a)) (.cons rfl .nil) ask
  refine codeAny_mono go ?_
  intro r s' h
  match r, h with
  | .error e, ⟨_, _, _, _, _, _, _, _, _, _, _, _, z⟩ => exact z.elim
  | .ok .next, h => exact h.elim
  | .ok .brk, h => exact h.elim
  | .ok .cont, h => exact h.elim
  | .ok (.ret u), ⟨v, H', os, bare, un, ok', r', q⟩ =>
    have q' : v = .bl true := q
    subst q'
    have eu : u = Value.bool true := r'
    subst eu
    refine ⟨rfl, OldK.of_keep ?_, os, bare⟩
    intro b o e1
    rcases cases2 b with z | ⟨_, _, z⟩
    · exact un.keep b o e1 z (nofr b) (by simp)
    · have z2 := un.frzs b _ _ z
      obtain ⟨g1, _⟩ := okH b _ z
      obtain ⟨g2, _⟩ := ok' b _ z2
      rw [e1] at g1
      cases g1
      exact g2
end DL
namespace DL
open PySem PySem.Spec PyProof.Rows L2
theorem lstOf_ptr {m : Sto} {b : Nat} {ds : List D} (h : m[b]? = some (.lst ds)) : lstOf (.ptr b) m = some ds := by
  simp only [lstOf, h]
theorem seqL_lst {m : Sto} {ds : List D} : seqL (.lst ds) m = some ds := rfl
theorem seqL_fz {m : Sto} {ds : List D} : seqL (.fz ds) m = some ds := rfl
theorem lstOf_lst {m : Sto} {ds : List D} : lstOf (.lst ds) m = some ds := rfl
theorem items_ptr {m : Sto} {b : Nat} {ds : List D} (h : m[b]? = some (.lst ds)) : items (.ptr b) m = some (ds, some (b, ds)) := by simp only [items, h]
theorem seqL_ptr {m : Sto} {b : Nat} : seqL (.ptr b) m = lstOf (.ptr b) m := rfl
theorem atI_0 {α : Type} {x : α} {r : List α} : atI (x :: r) 0 = some x := atI_nat (j := 0) rfl
theorem atI_1 {α : Type} {x y : α} {r : List α} : atI (x :: y :: r) 1 = some y := atI_nat (j := 1) rfl
theorem atI_2 {α : Type} {x y z : α} {r : List α} : atI (x :: y :: z :: r) 2 = some z := atI_nat (j := 2) rfl
theorem atI_3 {α : Type} {x y z w : α} {r : List α} : atI (x :: y :: z :: w :: r) 3 = some w := atI_nat (j := 3) rfl
theorem atI_4 {α : Type} {x y z w v : α} {r : List α} : atI (x :: y :: z :: w :: v :: r) 4 = some v := atI_nat (j := 4) rfl
theorem onS_mk {α : Type} {a : α} {k : α → Prop} : onS (some a) k = k a := rfl
theorem cond_dec {p : Prop} [Decidable p] {A B : Prop} : ((decide p = true → A) ∧ (decide p = false → B)) = ((p → A) ∧ (¬ p → B)) := by simp
theorem cond_ndec {p : Prop} [Decidable p] {A B : Prop} : (((!decide p) = true → A) ∧ ((!decide p) = false → B)) = ((¬ p → A) ∧ (p → B)) := by simp
end DL
local macro_rules | `(tactic| walk_at "dn") => `(tactic| simp only [DL.dSeq, DL.dIf, DL.dTest, DL.dBin, DL.dUn, DL.dCallB, DL.dVar, DL.dC, DL.dCons, DL.dNil, DL.a1, DL.a2, DL.dTup, DL.dLst, DL.dLstP, DL.dAsg, DL.gN, DL.gsC, DL.gsN, DL.gT, DL.gIx, DL.dPar, DL.dAug, DL.dAugIx, DL.dSub, DL.dMul, DL.dMod, DL.dDiv, DL.dPow, DL.dLt, DL.dLe, DL.dGt, DL.dGe, DL.dI0, DL.dI2, DL.dB0, DL.dNeg,
  DL.dEq, DL.dNe, DL.dIx, DL.dAdd, DL.dAnd, DL.dOr, DL.dNot, DL.dIfE, DL.dTNot, DL.dTAnd, DL.dTOr, DL.dRet, DL.dRetN, DL.dDrop, DL.dNext, DL.dNever, DL.dBreak, DL.dCont, DL.slot, DL.put, DL.onS_mk, DL.dIsi, DL.kd, DL.isT, DL.dAbs, DL.dLen, DL.dInt, DL.dMin, DL.dMax, DL.dApp, DL.dChain, DL.seqL_lst, DL.seqL_fz, DL.seqL_ptr, DL.lstOf_lst, DL.dFor, DL.dIter, DL.dYes,
  DL.startD, List.map_cons, List.map_nil, List.length_cons, List.length_nil, List.replicate, List.cons_append, List.nil_append, Nat.reduceAdd, Nat.reduceSub, Nat.reduceLeDiff, true_and, and_true, DL.cond_dec, DL.cond_ndec, Bool.not_true, Bool.not_false, true_imp_iff, false_imp_iff, Bool.false_eq_true, Bool.true_eq_false, not_true_eq_false, not_false_eq_true, Int.cast_ofNat_Int, DL.atI_0, DL.atI_1, DL.atI_2, DL.atI_3, DL.atI_4, List.set_cons_zero, List.set_cons_succ])
namespace DL
open PySem PySem.Spec PyProof.Rows L2
def t_lowest : DS :=
    (dSeq (dIf (dTest (dBin dLt (dVar 1) (dC (.int 0)))) (dPar 0 1 (dCons (dUn dNeg (dVar 0)) (dCons (dUn dNeg (dVar 1)) dNil))) dNext)
    (dSeq (dPar 2 3 (dCons (dVar 1) (dCons (dCallB dAbs (a1 (dVar 0))) dNil)))
    (dSeq (dWhile (dTest (dBin dGt (dVar 3) (dC (.int 0)))) (dPar 2 3 (dCons (dVar 3) (dCons (dBin dMod (dVar 2) (dVar 3)) dNil))))
    (dRet (dTup (dCons (dBin dDiv (dVar 0) (dVar 2)) (dCons (dBin dDiv (dVar 1) (dVar 2)) dNil)))))))
theorem gcd_step (a b : Int) (ha : 0 ≤ a) (hb : 0 < b) : Int.gcd b (a % b) = Int.gcd a b := by
  obtain ⟨x, rfl⟩ := Int.eq_ofNat_of_zero_le ha
  obtain ⟨y, rfl⟩ := Int.eq_ofNat_of_zero_le (Int.le_of_lt hb)
  rw [← Int.natCast_emod]
  show Nat.gcd y (x % y) = Nat.gcd x y
  rw [Nat.gcd_comm y, ← Nat.gcd_rec y x, Nat.gcd_comm]
theorem gcd_loop (d : DEnds) (m : Sto) (x y : Option D) (a b : Int) (ha : 0 ≤ a) (hb : 0 ≤ b) (h : d.nx [x, y, some (.int (Int.gcd a b)), some (.int 0)] m) :
    dWhile (dTest (dBin dGt (dVar 3) (dC (.int 0)))) (dPar 2 3 (dCons (dVar 3) (dCons (dBin dMod (dVar 2) (dVar 3)) dNil))) d [x, y, some (.int a), some (.int b)] m := by
  refine while_i ⟨fun n r m' => m' = m ∧ ∃ a' b' : Int, r = [x, y, some (.int a'), some (.int b')] ∧ 0 ≤ a' ∧ 0 ≤ b' ∧ Int.gcd a' b' = Int.gcd a b ∧ n = b'.toNat, ⟨_, rfl, a, b, rfl, ha, hb, rfl, rfl⟩, ?_⟩
  rintro n r m' ⟨rfl, a', b', rfl, h1, h2, h3, rfl⟩
  walk_at "dn"
  refine ⟨fun hp => ⟨hp, (a' % b').toNat, ?_, b', a' % b', rfl, h2, Int.emod_nonneg _ (by omega), ?_, rfl⟩, fun hp => ?_⟩
  · have := Int.emod_lt_of_pos a' hp
    have := Int.emod_nonneg a' (show b' ≠ 0 by omega)
    omega
  · rw [gcd_step a' b' h1 hp, h3]
  · have e : b' = 0 := by omega
    subst e
    rw [Int.gcd_zero_right] at h3
    have e2 : a' = (Int.gcd a b : Int) := by omega
    rw [e2]
    exact h
theorem abs_if (t : Int) : (if t < 0 then -t else t) = (t.natAbs : Int) := by split <;> omega
theorem gcd_abs (a b : Int) : Int.gcd a (b.natAbs : Int) = Int.gcd a b := by
  simp [Int.gcd]
theorem abs_gcd (a b : Int) : Int.gcd (a.natAbs : Int) b = Int.gcd a b := by
  simp [Int.gcd]
/-- a whole number below 2 ^ n -/
@[irreducible] def Sm (n : Nat) (b : Int) : Prop := b.natAbs < 2 ^ n
theorem Sm.lt {n : Nat} {i : Int} (h : Sm n i) : i.natAbs < 2 ^ n := by unfold Sm at h; exact h
theorem Sm.of {n : Nat} {i : Int} (h : i.natAbs < 2 ^ n) : Sm n i := by unfold Sm; exact h
theorem sm_zero {n : Nat} : Sm n 0 := Sm.of (Nat.pow_pos (by decide))
theorem sm {k n : Nat} {i : Int} (h : i.natAbs < 2 ^ k) (hk : k ≤ n) : Sm n i := Sm.of <| Nat.lt_of_lt_of_le h (Nat.pow_le_pow_right (by decide) hk)
theorem Sm.mono {k n : Nat} {i : Int} (h : Sm k i) (hk : k ≤ n) : Sm n i := sm h.lt hk
theorem Sm.mul {k n : Nat} {i j : Int} (h : Sm k i) (h' : Sm n j) : Sm (k + n) (i * j) := Sm.of (wide_lt h.lt h'.lt)
/-- a fraction's data -/
abbrev fr (t b : Int) : D := .tup [.int t, .int b]
def lowT (t b : Int) : Int := (if b < 0 then -t else t) / (Int.gcd t b : Int)
def lowB (t b : Int) : Int := (if b < 0 then -b else b) / (Int.gcd t b : Int)
@[irreducible] def g_lowest : FN := fun ds m q => ∃ t b : Int, ds = [.int t, .int b] ∧ b ≠ 0 ∧ Sm 8900 b ∧ q (fr (lowT t b) (lowB t b)) m
theorem i_lowest {t b : Int} {m : Sto} {q : D → Sto → Prop} (hb : b ≠ 0) (hz : Sm 8900 b) (h : q (fr (lowT t b) (lowB t b)) m) : g_lowest [.int t, .int b] m q := by unfold g_lowest; exact ⟨t, b, rfl, hb, hz, h⟩
theorem ar_lowest : ∀ ds m q, g_lowest ds m q → ds.length = 2 := by
  unfold g_lowest
  rintro _ m q ⟨t, b, rfl, _⟩; rfl
theorem gcd_pos (t b : Int) (hb : b ≠ 0) : 0 < (Int.gcd t b : Int) := by
  have : 0 < Int.gcd t b := Int.gcd_pos_iff.mpr (.inr hb)
  omega
theorem gcd_small (t b : Int) (hb : b ≠ 0) {n : Nat} (h : b.natAbs < 2 ^ n) : ((Int.gcd t b : Nat) : Int).natAbs < 2 ^ n := by
  have h1 : Int.gcd t b ≤ b.natAbs := Nat.le_of_dvd (by omega) (Nat.gcd_dvd_right _ _)
  omega
theorem gcd_div_ok {x : Int} (t b : Int) (hb : b ≠ 0) (h : Sm 8900 b) : CDivW x (Int.gcd t b : Int) := wide_div (b := 8900) (gcd_pos t b hb) (gcd_small t b hb h.lt) (by decide) (by decide)
theorem r_lowest (ds : List D) (m : Sto) (q : D → Sto → Prop) (hl : ds.length = 2) (h : g_lowest ds m q) : t_lowest { nx := fun _ m' => q .non m', rt := q } (startD ["top", "bottom", "one", "other"] ds) m := by
  unfold g_lowest at h
  obtain ⟨t, b, rfl, hb, hz, h⟩ := h
  unfold t_lowest
  walk_at "dn"
  refine ⟨fun hn => ?_, fun hn => ?_⟩
  · refine gcd_loop _ _ _ _ _ _ (by omega) (by rw [abs_if]; omega) ?_
    have eg : Int.gcd (-b) (if -t < 0 then - -t else -t) = Int.gcd t b := by
      rw [abs_if, gcd_abs, Int.neg_gcd, Int.gcd_neg, Int.gcd_comm]
    rw [eg]
    walk_at "dn"
    refine ⟨gcd_div_ok t b hb hz, gcd_div_ok t b hb hz, ?_⟩
    unfold lowT lowB at h
    rw [if_pos hn, if_pos hn] at h
    exact h
  · refine gcd_loop _ _ _ _ _ _ (by omega) (by rw [abs_if]; omega) ?_
    have eg : Int.gcd b (if t < 0 then -t else t) = Int.gcd t b := by
      rw [abs_if, gcd_abs, Int.gcd_comm]
    rw [eg]
    walk_at "dn"
    refine ⟨gcd_div_ok t b hb hz, gcd_div_ok t b hb hz, ?_⟩
    unfold lowT lowB at h
    rw [if_neg hn, if_neg hn] at h
    exact h
def t_is_whole : DS :=
    (dRet (dAnd (dIsi .int (dVar 0)) (dNot (dIsi .bool (dVar 0)))))
def isWhole : D → Bool
  | .int _ => true
  | _ => false
@[irreducible] def g_is_whole : FN := fun ds m q => ∃ d k, ds = [d] ∧ kd d m = some k ∧ q (.bl (isWhole d)) m
theorem ar_is_whole : ∀ ds m q, g_is_whole ds m q → ds.length = 1 := by
  unfold g_is_whole
  rintro _ m q ⟨d, k, rfl, _⟩; rfl
theorem kd_whole {d : D} {m : Sto} {k : Kd} (h : kd d m = some k) : isWhole d = (isT .int k && !isT .bool k) := by
  unfold kd at h
  split at h
  case h_8 =>
    split at h
    · cases h; rfl
    · cases h; rfl
    · cases h
  all_goals (cases h; try rfl)
theorem r_is_whole (nm : Str) (ds : List D) (m : Sto) (q : D → Sto → Prop) (hl : ds.length = 1) (h : g_is_whole ds m q) : t_is_whole { nx := fun _ m' => q .non m', rt := q } (startD [nm] ds) m := by
  unfold g_is_whole at h
  obtain ⟨d, k, rfl, hk, h⟩ := h
  unfold t_is_whole
  simp only [dRet, dAnd, dIsi, dVar, slot, startD, List.map_cons, List.map_nil, List.length_cons, List.length_nil, List.replicate, List.cons_append, List.nil_append, Nat.reduceAdd, Nat.reduceSub, onS_mk, hk, dNot]
  rw [kd_whole hk] at h
  cases k <;> simpa [isT] using h
theorem g_is_whole_int (i : Int) (m : Sto) (q : D → Sto → Prop) (h : q (.bl true) m) : g_is_whole [.int i] m q := by unfold g_is_whole; exact ⟨.int i, .int, rfl, rfl, h⟩
theorem i_is_whole {d : D} {k : Kd} {m : Sto} {q : D → Sto → Prop} (hk : kd d m = some k) (h : q (.bl (isWhole d)) m) : g_is_whole [d] m q := by unfold g_is_whole; exact ⟨d, k, rfl, hk, h⟩
def t_law_bag : DS :=
    (dRet (dLstP (dCons (dC (.int 0)) (dCons (dC (.int 1234567891)) (dCons (dC (.int 0)) (dCons (dLc 1 (dIter (dSlice dCut (dVar 0) dNoPart (dPart (dC (.int 63))))) dYes (dCallB dAbs (a1 (dVar 1)))) dNil))))))
/-- a bag's cell -/
def BagOk (c : Cell) : Prop := ∃ (a s k : Int) (ns : List Int), c = .lst [.int a, .int s, .int k, .lst (ns.map D.int)] ∧ 0 ≤ a ∧ 0 ≤ s ∧ s < 2147483647 ∧ 0 ≤ k ∧ ∀ n ∈ ns, 0 ≤ n
@[irreducible] def g_law_bag : FN := fun ds m q => ∃ ns : List Int, ds = [.fz (ns.map D.int)] ∧ ns.length ≤ 63 ∧ ∀ c, BagOk c → q (.ptr m.length) (m ++ [c])
theorem i_law_bag {ns : List Int} {m : Sto} {q : D → Sto → Prop} (hn : ns.length ≤ 63) (h : ∀ c, BagOk c → q (.ptr m.length) (m ++ [c])) : g_law_bag [.fz (ns.map D.int)] m q := by unfold g_law_bag; exact ⟨ns, rfl, hn, h⟩
theorem ar_law_bag : ∀ ds m q, g_law_bag ds m q → ds.length = 1 := by
  unfold g_law_bag
  rintro _ m q ⟨ns, rfl, _⟩; rfl
theorem lc_abs (m : Sto) (r : DSt) (hr : ∀ x, slot (put r 1 x) 1 = some x) (ns : List Int) : ∀ (acc : List D) (q : List D → Sto → Prop), q (acc ++ ns.map fun n => D.int (n.natAbs : Int)) m →
    lcD 1 dYes (dCallB dAbs (a1 (dVar 1))) (okP none) (ns.map D.int) r acc m q := by
  induction ns with
  | nil => intro acc q h; simpa [lcD] using h
  | cons n ns ih =>
    intro acc q h
    simp only [List.map_cons, lcD, dYes, dCallB, a1, dCons, dNil, dVar, hr, onS_mk, dAbs, abs_if, okP, true_and]
    exact ⟨fun _ => ih (acc ++ [.int (n.natAbs : Int)]) q (by simpa using h), fun z => by cases z⟩
theorem r_law_bag (nm nm2 : Str) (ds : List D) (m : Sto) (q : D → Sto → Prop) (hl : ds.length = 1) (h : g_law_bag ds m q) : t_law_bag { nx := fun _ m' => q .non m', rt := q } (startD [nm, nm2] ds) m := by
  unfold g_law_bag at h
  obtain ⟨ns, rfl, hn, h⟩ := h
  have hcut : cutD (ns.map D.int) none (some 63) = ns.map D.int := by
    apply cut_whole
    · rfl
    · show HT.sIx (ns.map D.int).length (ns.map D.int).length (some ((63 : Nat) : Int)) = (ns.map D.int).length
      rw [HT.sIx_nat, List.length_map]
      omega
  unfold t_law_bag
  simp only [dRet, dLstP, dCons, dC, dLc, dLcQ, dIter, dSlice, dVar, slot, startD, List.map_cons, List.map_nil, List.length_cons, List.length_nil, List.replicate, List.cons_append, List.nil_append, Nat.reduceAdd, Nat.reduceSub, onS_mk, dNoPart, dPart, dCut, seqL, hcut, items, dNil]
  refine ⟨by rw [List.length_map]; omega, ?_⟩
  rw [lcI_eq]
  refine lc_abs m _ (fun x => rfl) ns [] _ ?_
  refine ⟨by decide, ?_⟩
  refine h _ ⟨0, 1234567891, 0, ns.map fun n => (n.natAbs : Int), ?_, by decide, by decide, by decide, by decide, ?_⟩
  · simp
  · intro n hn
    obtain ⟨k, _, rfl⟩ := List.mem_map.mp hn
    omega
def tk3 : DS :=
    (dSeq (dAsg (dBin dMod (dBin dMul (dBin dAdd (dBin dIx (dVar 0) (dC (.int 1))) (dC (.int 1))) (dC (.int 39373))) (dC (.int 1000000007))) (gN 4))
    (dSeq (dAsg (dBin dMod (dBin dMul (dBin dMod (dBin dMul (dVar 4) (dVar 4)) (dC (.int 998244353))) (dC (.int 30011))) (dC (.int 998244353))) (gN 5))
    (dSeq (dIf (dTest (dBin dGt (dVar 1) (dC (.int 1000000)))) (dRet (dBin dMod (dBin dAdd (dBin dMul (dVar 5) (dC (.int 1000000007))) (dVar 4)) (dVar 1))) dNext)
    (dRet (dBin dMod (dBin dDiv (dVar 5) (dC (.int 7))) (dVar 1))))))
def tk2 : DS :=
    (dSeq (dIf (dTest (dBin dGt (dBin dIx (dVar 0) (dC (.int 0))) (dC (.int 0)))) (dSeq (dAsg (dBin dMod (dBin dIx (dVar 0) (dC (.int 0))) (dVar 1)) (gN 3))
    (dSeq (dAsg (dBin dDiv (dBin dIx (dVar 0) (dC (.int 0))) (dVar 1)) (gIx (dVar 0) (dC (.int 0))))
    (dRet (dVar 3)))) dNext) tk3)
def tkS : DS := (dAsg (dBin dMod (dBin dAdd (dBin dAdd (dBin dMul (dBin dIx (dVar 0) (dC (.int 1))) (dC (.int 48271))) (dBin dMod (dVar 2) (dC (.int 2147483647)))) (dBin dMul (dC (.int 7919)) (dBin dIx (dVar 0) (dC (.int 2))))) (dC (.int 2147483647))) (gIx (dVar 0) (dC (.int 1))))
def tk1 : DS :=
    (dSeq (dAugIx (dI0 fun i j => i + j) (dVar 0) (dC (.int 2)) (dC (.int 1)))
    (dSeq (dIf (dTest (dBin dGe (dVar 2) (dC (.int 1000000000000000000)))) (dAsg (dVar 2) (gIx (dVar 0) (dC (.int 0)))) dNext) tkS))
def tk0 : DS :=
    (dSeq (dIf (dTest (dBin dEq (dBin dIx (dVar 0) (dC (.int 0))) (dC (.int 0)))) (dSeq (dAsg (dC (.int 0)) (gN 2))
    (dSeq (dIf (dTest (dBin dLt (dBin dIx (dVar 0) (dC (.int 2))) (dCallB dLen (a1 (dBin dIx (dVar 0) (dC (.int 3))))))) (dAsg (dBin dIx (dBin dIx (dVar 0) (dC (.int 3))) (dBin dIx (dVar 0) (dC (.int 2)))) (gN 2)) dNext)
    tk1)) dNext) tk2)
@[irreducible] def g_law_take : FN := fun ds m q => ∃ (b : Nat) (many : Int) (c : Cell), ds = [.ptr b, .int many] ∧ 0 < many ∧ Sm 8900 many ∧ m[b]? = some c ∧ BagOk c ∧ ∀ v c', 0 ≤ v → v < many → BagOk c' → q (.int v) (m.set b c')
theorem i_law_take {b : Nat} {many : Int} {c : Cell} {m : Sto} {q : D → Sto → Prop} (h0 : 0 < many) (hz : Sm 8900 many) (hm : m[b]? = some c) (hc : BagOk c) (h : ∀ v c', 0 ≤ v → v < many → BagOk c' → q (.int v) (m.set b c')) : g_law_take [.ptr b, .int many] m q := by unfold g_law_take; exact ⟨b, many, c, rfl, h0, hz, hm, hc, h⟩
/-- drawing from the bag in the first cell -/
theorem take_at {many : Int} {c : Cell} {ms : Sto} {q : D → Sto → Prop} (hc : BagOk c) (h0 : 0 < many) (hz : Sm 8900 many) (k : ∀ v c', 0 ≤ v → v < many → BagOk c' → q (.int v) (c' :: ms)) : g_law_take [.ptr 0, .int many] (c :: ms) q :=
  i_law_take h0 hz rfl hc k
theorem ar_law_take : ∀ ds m q, g_law_take ds m q → ds.length = 2 := by
  unfold g_law_take
  rintro _ m q ⟨t, b, c, rfl, _⟩; rfl
theorem dIx_ptr {b : Nat} {i : Int} {m : Sto} {q : D → Sto → Prop} : dIx (.ptr b) (.int i) m q = onS (lstOf (.ptr b) m) fun ds => onS (atI ds i) fun d => q d m := rfl
theorem dIx_lst {ds : List D} {i : Int} {m : Sto} {q : D → Sto → Prop} : dIx (.lst ds) (.int i) m q = onS (atI ds i) fun d => q d m := rfl
theorem mulR {i j : Int} (h1 : -(2 ^ 64) < j) (h2 : j < 2 ^ 64) : CMulA i j := .inl (.inr ⟨h1, h2⟩)
theorem mulL {i j : Int} (h1 : -(2 ^ 64) < i) (h2 : i < 2 ^ 64) : CMulA i j := .inl (.inl ⟨h1, h2⟩)
theorem mulS {i j : Int} {a b : Nat} (h1 : Sm a i) (h2 : Sm b j) (ha : 0 < a) (hb : 0 < b) (h : a + b ≤ 1000000) : CMulA i j := .inr (wide_mul h1.lt h2.lt ha hb h)
/-- a drawn number out of a seed -/
theorem take_seed (b : Nat) (many s : Int) (m : Sto) (q : D → Sto → Prop) (x2 x3 : Option D) (a k : Int) (xs : List D) (hm : m[b]? = some (.lst [.int a, .int s, .int k, .lst xs])) (hs : 0 ≤ s) (hs2 : s < 2147483647) (h0 : 0 < many) (hz : Sm 8900 many)
    (h : ∀ v, 0 ≤ v → v < many → q (.int v) m) : tk3 { nx := fun _ m' => q .non m', rt := q } [some (.ptr b), some (.int many), x2, x3, none, none] m := by
  unfold tk3
  simp only [DL.dSeq, DL.dIf, DL.dTest, DL.dBin, DL.dUn, DL.dCallB, DL.dVar, DL.dC, DL.dCons, DL.dNil, DL.a1, DL.a2, DL.dTup, DL.dLst, DL.dLstP, DL.dAsg, DL.gN, DL.gsC, DL.gsN, DL.gT, DL.gIx, DL.dPar, DL.dAug, DL.dAugIx, DL.dSub, DL.dMul, DL.dMod, DL.dDiv, DL.dPow, DL.dLt, DL.dLe, DL.dGt, DL.dGe, DL.dI0, DL.dI2, DL.dB0, DL.dNeg, DL.dEq, DL.dNe, DL.dIx, DL.dAdd, DL.dAnd, DL.dOr, DL.dNot, DL.dIfE, DL.dTNot, DL.dTAnd, DL.dTOr, DL.dRet, DL.dRetN, DL.dDrop, DL.dNext, DL.dNever, DL.dBreak, DL.dCont, DL.slot, DL.put, DL.onS_mk, DL.dIsi, DL.kd, DL.isT, DL.dAbs, DL.dLen, DL.dInt, DL.dMin, DL.dMax, DL.dApp, DL.dChain, DL.seqL_lst, DL.seqL_fz, DL.seqL_ptr, DL.lstOf_lst, DL.dFor, DL.dIter, DL.dYes, DL.startD, List.map_cons, List.map_nil, List.length_cons, List.length_nil, List.replicate, List.cons_append, List.nil_append, Nat.reduceAdd, Nat.reduceSub, Nat.reduceLeDiff, true_and, and_true, DL.cond_dec, DL.cond_ndec, Bool.not_true, Bool.not_false, true_imp_iff, false_imp_iff, Bool.false_eq_true, Bool.true_eq_false, not_true_eq_false, not_false_eq_true, Int.cast_ofNat_Int, DL.atI_0, DL.atI_1, DL.atI_2, DL.atI_3, DL.atI_4, List.set_cons_zero, List.set_cons_succ, dIx_ptr, lstOf_ptr hm]
  have m1 : ∀ x : Int, 0 ≤ x % many ∧ x % many < many := fun x => ⟨Int.emod_nonneg _ (by omega), Int.emod_lt_of_pos _ h0⟩
  obtain ⟨f, ef⟩ : ∃ f, f = (s + 1) * 39373 % 1000000007 := ⟨_, rfl⟩
  have hf : 0 ≤ f ∧ f < 1000000007 := by omega
  refine ⟨mulR (by decide) (by decide), by decide, ?_⟩
  rw [← ef]
  refine ⟨mulR (by omega) (by omega), by decide, ?_⟩
  obtain ⟨g, eg⟩ : ∃ g, g = f * f % 998244353 := ⟨_, rfl⟩
  rw [← eg]
  have hg : 0 ≤ g ∧ g < 998244353 := by omega
  refine ⟨mulR (by decide) (by decide), by decide, ?_⟩
  obtain ⟨e, ee⟩ : ∃ e, e = g * 30011 % 998244353 := ⟨_, rfl⟩
  rw [← ee]
  have he : 0 ≤ e ∧ e < 998244353 := by omega
  refine ⟨fun _ => ⟨mulR (by decide) (by decide), h0, ?_⟩, fun _ => ⟨wide_div (b := 8) (by decide) (by decide) (by decide) (by decide), h0, ?_⟩⟩
  · exact h _ (m1 _).1 (m1 _).2
  · exact h _ (m1 _).1 (m1 _).2
/-- the drawing, once the seed's cell stands -/
theorem take_rest (b : Nat) (many a s k : Int) (ns : List Int) (m : Sto) (q : D → Sto → Prop) (x2 : Option D) (hm : m[b]? = some (.lst [.int a, .int s, .int k, .lst (ns.map D.int)])) (hs : 0 ≤ s) (hs2 : s < 2147483647) (ha : 0 ≤ a) (hk : 0 ≤ k) (hn : ∀ n ∈ ns, 0 ≤ n)
    (h0 : 0 < many) (hz : Sm 8900 many) (h : ∀ v c', 0 ≤ v → v < many → BagOk c' → q (.int v) (m.set b c')) : tk2 { nx := fun _ m' => q .non m', rt := q } [some (.ptr b), some (.int many), x2, none, none, none] m := by
  have hb : b < m.length := (List.getElem?_eq_some_iff.mp hm).1
  have keep : m.set b (.lst [.int a, .int s, .int k, .lst (ns.map D.int)]) = m := by
    apply List.ext_getElem?
    intro i
    by_cases e : b = i
    · subst e; rw [List.getElem?_set_self hb, hm]
    · rw [List.getElem?_set_ne e]
  unfold tk2
  rw [dSeq]
  simp only [dIf, dTest, dBin, dVar, dC, dGt, slot, onS_mk, dIx_ptr, lstOf_ptr hm, atI_0, dB0, cond_dec]
  refine ⟨fun hp => ?_, fun hp => ?_⟩
  · simp only [DL.dSeq, DL.dIf, DL.dTest, DL.dBin, DL.dUn, DL.dCallB, DL.dVar, DL.dC, DL.dCons, DL.dNil, DL.a1, DL.a2, DL.dTup, DL.dLst, DL.dLstP, DL.dAsg, DL.gN, DL.gsC, DL.gsN, DL.gT, DL.gIx, DL.dPar, DL.dAug, DL.dAugIx, DL.dSub, DL.dMul, DL.dMod, DL.dDiv, DL.dPow, DL.dLt, DL.dLe, DL.dGt, DL.dGe, DL.dI0, DL.dI2, DL.dB0, DL.dNeg, DL.dEq, DL.dNe, DL.dIx, DL.dAdd, DL.dAnd, DL.dOr, DL.dNot, DL.dIfE, DL.dTNot, DL.dTAnd, DL.dTOr, DL.dRet, DL.dRetN, DL.dDrop, DL.dNext, DL.dNever, DL.dBreak, DL.dCont, DL.slot, DL.put, DL.onS_mk, DL.dIsi, DL.kd, DL.isT, DL.dAbs, DL.dLen, DL.dInt, DL.dMin, DL.dMax, DL.dApp, DL.dChain, DL.seqL_lst, DL.seqL_fz, DL.seqL_ptr, DL.lstOf_lst, DL.dFor, DL.dIter, DL.dYes, DL.startD, List.map_cons, List.map_nil, List.length_cons, List.length_nil, List.replicate, List.cons_append, List.nil_append, Nat.reduceAdd, Nat.reduceSub, Nat.reduceLeDiff, true_and, and_true, DL.cond_dec, DL.cond_ndec, Bool.not_true, Bool.not_false, true_imp_iff, false_imp_iff, Bool.false_eq_true, Bool.true_eq_false, not_true_eq_false, not_false_eq_true, Int.cast_ofNat_Int, DL.atI_0, DL.atI_1, DL.atI_2, DL.atI_3, DL.atI_4, List.set_cons_zero, List.set_cons_succ, dIx_ptr, lstOf_ptr hm, (show ixN 4 0 = some 0 from rfl)]
    refine ⟨h0, wide_div (b := 8900) h0 hz.lt (by decide) (by decide), ?_⟩
    refine h _ _ (Int.emod_nonneg _ (by omega)) (Int.emod_lt_of_pos _ h0) ⟨a / many, s, k, ns, rfl, Int.ediv_nonneg ha (by omega), hs, hs2, hk, hn⟩
  · rw [dNext]
    refine take_seed b many s m q x2 none a k (ns.map D.int) hm hs hs2 h0 hz fun v h1 h2 => ?_
    have z := h v _ h1 h2 ⟨a, s, k, ns, rfl, ha, hs, hs2, hk, hn⟩
    rw [keep] at z
    exact z
/-- a cell of the script goes into the seed -/
theorem take_cell (b : Nat) (many a s k cell : Int) (ns : List Int) (m : Sto) (q : D → Sto → Prop) (hm : m[b]? = some (.lst [.int a, .int s, .int k, .lst (ns.map D.int)])) (hs : 0 ≤ s) (hs2 : s < 2147483647) (ha : 0 ≤ a) (hk : 0 ≤ k) (hn : ∀ n ∈ ns, 0 ≤ n)
    (hc : 0 ≤ cell) (h0 : 0 < many) (hz : Sm 8900 many) (h : ∀ v c', 0 ≤ v → v < many → BagOk c' → q (.int v) (m.set b c')) :
    tk1 { nx := tk2 { nx := fun _ m' => q .non m', rt := q }, rt := q } [some (.ptr b), some (.int many), some (.int cell), none, none, none] m := by
  have hb : b < m.length := (List.getElem?_eq_some_iff.mp hm).1
  have i2 : ixN 4 2 = some 2 := rfl
  have i1 : ixN 4 1 = some 1 := rfl
  have i0 : ixN 4 0 = some 0 := rfl
  have t2 : (2 : Int).toNat = 2 := rfl
  have seed : ∀ (a' : Int) (m' : Sto), m' = m.set b (.lst [.int a', .int s, .int (k + 1), .lst (ns.map D.int)]) → 0 ≤ a' → tkS { nx := tk2 { nx := fun _ m' => q .non m', rt := q }, rt := q } [some (.ptr b), some (.int many), some (.int cell), none, none, none] m' := by
    intro a' m' em ha'
    have hm' : m'[b]? = some (.lst [.int a', .int s, .int (k + 1), .lst (ns.map D.int)]) := by rw [em]; exact List.getElem?_set_self hb
    rw [tkS, dAsg]
    simp only [dBin, dVar, dC, slot, onS_mk, dMod, dMul, dI2, dAdd, dIx_ptr, lstOf_ptr hm', atI_1, atI_2, gIx, List.length_cons, List.length_nil, Nat.reduceAdd, i1, List.set_cons_succ, List.set_cons_zero]
    refine ⟨mulR (by decide) (by decide), by decide, mulL (by decide) (by decide), by decide, ?_⟩
    rw [em, List.set_set]
    refine take_rest b many a' _ (k + 1) ns _ q _ (List.getElem?_set_self hb) (Int.emod_nonneg _ (by decide)) (Int.emod_lt_of_pos _ (by decide)) ha' (by omega) hn h0 hz fun v c' h1 h2 h3 => ?_
    rw [List.set_set]
    exact h v c' h1 h2 h3
  rw [tk1, dSeq, dAugIx]
  simp only [dVar, slot, onS_mk, dC, lstOf_ptr hm, t2, List.getElem?_cons_succ, List.getElem?_cons_zero, dI0, List.length_cons, List.length_nil, Nat.reduceAdd, i2, List.set_cons_succ, List.set_cons_zero]
  refine ⟨by decide, ?_⟩
  rw [dSeq, dIf]
  have m1 : (m.set b (.lst [.int a, .int s, .int (k + 1), .lst (ns.map D.int)]))[b]? = some (.lst [.int a, .int s, .int (k + 1), .lst (ns.map D.int)]) := List.getElem?_set_self hb
  simp only [dTest, dBin, dVar, dC, dGe, slot, onS_mk, dB0, cond_dec]
  refine ⟨fun hbig => ?_, fun _ => ?_⟩
  · rw [dAsg]
    simp only [dVar, slot, onS_mk, gIx, dC, lstOf_ptr m1, List.length_cons, List.length_nil, Nat.reduceAdd, i0, List.set_cons_zero, List.set_set]
    exact seed cell _ rfl hc
  · rw [dNext]
    exact seed a _ rfl ha
theorem take_all (nm : List Str) (hnm : nm.length = 6) (ds : List D) (m : Sto) (q : D → Sto → Prop) (h : g_law_take ds m q) : tk0 { nx := fun _ m' => q .non m', rt := q } (startD nm ds) m := by
  unfold g_law_take at h
  obtain ⟨b, many, c, rfl, h0, hz, hm, ⟨a, s, k, ns, rfl, ha, hs, hs2, hk, hn⟩, h⟩ := h
  have est : startD nm [.ptr b, .int many] = [some (.ptr b), some (.int many), none, none, none, none] := by
    unfold startD
    rw [hnm]
    rfl
  have go : ∀ cell : Int, 0 ≤ cell → tk1 { nx := tk2 { nx := fun _ m' => q .non m', rt := q }, rt := q } [some (.ptr b), some (.int many), some (.int cell), none, none, none] m := fun cell hc =>
    take_cell b many a s k cell ns m q hm hs hs2 ha hk hn hc h0 hz h
  rw [est, tk0, dSeq, dIf]
  simp only [dTest, dBin, dVar, dC, slot, onS_mk, dIx_ptr, lstOf_ptr hm, atI_0, dEq, cond_dec]
  refine ⟨fun hp => ?_, fun hp => ?_⟩
  · rw [dSeq, dAsg]
    simp only [dC, gN, put]
    rw [dSeq, dIf]
    simp only [dTest, dBin, dVar, dC, dLt, slot, onS_mk, dIx_ptr, lstOf_ptr hm, atI_2, atI_3, dCallB, a1, dCons, dNil, dLen, seqL_lst, dB0, List.length_map, cond_dec]
    refine ⟨fun hlt => ?_, fun _ => ?_⟩
    · obtain ⟨j, rfl⟩ := Int.eq_ofNat_of_zero_le hk
      have hj : j < ns.length := by omega
      have hat : atI (ns.map D.int) (j : Int) = some (.int ns[j]) := atI_nat (by rw [List.getElem?_map, List.getElem?_eq_getElem hj]; rfl)
      rw [dAsg]
      simp only [dBin, dVar, slot, onS_mk, dC, dIx_ptr, lstOf_ptr hm, atI_2, atI_3, dIx_lst, hat, gN, put]
      exact go _ (hn _ (List.getElem_mem hj))
    · rw [dNext]
      exact go 0 (by decide)
  · rw [dNext]
    exact take_rest b many a s k ns m q none hm hs hs2 ha hk hn h0 hz h
end DL
namespace DL
open PySem PySem.Spec PyProof.Rows L2
theorem dvd_of_cop {a b c : Int} (h : a ∣ b * c) (g : Int.gcd b a = 1) : a ∣ c := by
  have h1 : a.natAbs ∣ b.natAbs * c.natAbs := by rw [← Int.natAbs_mul]; exact Int.natAbs_dvd_natAbs.mpr h
  have g1 : Nat.Coprime a.natAbs b.natAbs := by
    show Nat.gcd _ _ = 1
    rw [Nat.gcd_comm]; exact g
  exact Int.natAbs_dvd_natAbs.mp (Nat.Coprime.dvd_of_dvd_mul_left g1 h1)
theorem frac_unique {x y x' y' : Int} (hy : 0 < y) (hy' : 0 < y') (g : Int.gcd x y = 1) (g' : Int.gcd x' y' = 1) (e : x * y' = x' * y) : x = x' ∧ y = y' := by
  have d1 : y ∣ y' := dvd_of_cop (b := x) ⟨x', by rw [e, Int.mul_comm]⟩ g
  have d2 : y' ∣ y := dvd_of_cop (b := x') ⟨x, by rw [← e, Int.mul_comm]⟩ g'
  have l1 : y ≤ y' := Int.le_of_dvd hy' d1
  have l2 : y' ≤ y := Int.le_of_dvd hy d2
  have ey : y = y' := by omega
  subst ey
  exact ⟨Int.eq_of_mul_eq_mul_right (by omega) e, rfl⟩
theorem low_parts (t b : Int) (hb : b ≠ 0) : ∃ g t' b' : Int, 0 < g ∧ t = g * t' ∧ b = g * b' ∧ Int.gcd t' b' = 1 ∧ ((b < 0 ∧ lowT t b = -t' ∧ lowB t b = -b') ∨ (0 < b ∧ lowT t b = t' ∧ lowB t b = b')) := by
  have gp := gcd_pos t b hb
  obtain ⟨t', ht⟩ := Int.gcd_dvd_left (a := t) (b := b)
  obtain ⟨b', hb'⟩ := Int.gcd_dvd_right (a := t) (b := b)
  obtain ⟨g, hg⟩ : ∃ g : Nat, g = Int.gcd t b := ⟨_, rfl⟩
  have cop : Int.gcd t' b' = 1 := by
    have e1 : Int.gcd t b = Int.gcd (g * t') (g * b') := by rw [hg, ← ht, ← hb']
    rw [Int.gcd_mul_left, ← hg, Int.natAbs_natCast] at e1
    have : g * 1 = g * Int.gcd t' b' := by omega
    exact (Nat.eq_of_mul_eq_mul_left (by omega) this).symm
  refine ⟨g, t', b', by omega, by rw [hg]; exact ht, by rw [hg]; exact hb', cop, ?_⟩
  unfold lowT lowB
  rw [← hg] at gp ht hb' ⊢
  have can : ∀ z : Int, (g * z) / (g : Int) = z := fun z => Int.mul_ediv_cancel_left _ (by omega)
  have canN : ∀ z : Int, (-(g * z)) / (g : Int) = -z := fun z => by rw [← Int.mul_neg]; exact can _
  by_cases n : b < 0
  · refine .inl ⟨n, ?_, ?_⟩
    · rw [if_pos n, ht, canN]
    · rw [if_pos n, hb', canN]
  · refine .inr ⟨by omega, ?_, ?_⟩
    · rw [if_neg n, ht, can]
    · rw [if_neg n, hb', can]
theorem pos_of_mul {g b : Int} (h : 0 < g * b) (hg : 0 < g) : 0 < b := by
  by_cases n : 0 < b
  · exact n
  · have := Int.mul_nonneg (Int.le_of_lt hg) (show 0 ≤ -b by omega)
    rw [Int.mul_neg] at this
    omega
theorem low_ok (t b : Int) (hb : b ≠ 0) : 0 < lowB t b ∧ t * lowB t b = b * lowT t b ∧ Int.gcd (lowT t b) (lowB t b) = 1 := by
  obtain ⟨g, t', b', gp, ht, hb', cop, ⟨n, e1, e2⟩ | ⟨n, e1, e2⟩⟩ := low_parts t b hb
  · rw [e1, e2]
    refine ⟨pos_of_mul (g := g) (by rw [Int.mul_neg]; omega) gp, ?_, by rw [Int.neg_gcd, Int.gcd_neg]; exact cop⟩
    rw [ht, hb', Int.mul_neg, Int.mul_neg, Int.mul_assoc, Int.mul_assoc, Int.mul_comm t']
  · rw [e1, e2]
    refine ⟨pos_of_mul (g := g) (by omega) gp, ?_, cop⟩
    rw [ht, hb', Int.mul_assoc, Int.mul_assoc, Int.mul_comm t']
theorem cross_trans {t b x y u v : Int} (hb : b ≠ 0) (e : t * y = b * x) (e' : t * v = b * u) : x * v = u * y := by
  have h : b * (x * v) = b * (u * y) := by
    calc b * (x * v) = (b * x) * v := by rw [Int.mul_assoc]
      _ = (t * y) * v := by rw [e]
      _ = (t * v) * y := by rw [Int.mul_right_comm]
      _ = (b * u) * y := by rw [e']
      _ = b * (u * y) := by rw [Int.mul_assoc]
  exact Int.eq_of_mul_eq_mul_left hb h
/-- the only pair in lowest terms -/
theorem low_unique {t b x y : Int} (hb : b ≠ 0) (hy : 0 < y) (g : Int.gcd x y = 1) (e : t * y = b * x) : x = lowT t b ∧ y = lowB t b := by
  obtain ⟨h1, h2, h3⟩ := low_ok t b hb
  exact frac_unique hy h1 g h3 (cross_trans hb e h2)
theorem low_id {t b : Int} (hb : 0 < b) (g : Int.gcd t b = 1) : lowT t b = t ∧ lowB t b = b := by
  obtain ⟨e1, e2⟩ := low_unique (t := t) (b := b) (x := t) (y := b) (by omega) hb g (Int.mul_comm _ _)
  exact ⟨e1.symm, e2.symm⟩
theorem natAbs_div_le {a g : Int} (h : 0 < g) : (a / g).natAbs ≤ a.natAbs := Int.natAbs_ediv_le_natAbs a g
theorem low_small (t b : Int) (hb : b ≠ 0) : (lowT t b).natAbs ≤ t.natAbs ∧ (lowB t b).natAbs ≤ b.natAbs := by
  unfold lowT lowB
  have h1 := natAbs_div_le (a := if b < 0 then -t else t) (gcd_pos t b hb)
  have h2 := natAbs_div_le (a := if b < 0 then -b else b) (gcd_pos t b hb)
  constructor
  · split at h1 <;> rename_i n <;> simp only [n, if_true, if_false] <;> omega
  · split at h2 <;> rename_i n <;> simp only [n, if_true, if_false] <;> omega
theorem lowT_sm {t b : Int} {n : Nat} (hb : b ≠ 0) (h : Sm n t) : Sm n (lowT t b) := Sm.of (Nat.lt_of_le_of_lt (low_small t b hb).1 h.lt)
theorem lowB_sm {t b : Int} {n : Nat} (hb : b ≠ 0) (h : Sm n b) : Sm n (lowB t b) := Sm.of (Nat.lt_of_le_of_lt (low_small t b hb).2 h.lt)
theorem Sm.add {n : Nat} {i j : Int} (h : Sm n i) (h' : Sm n j) : Sm (n + 1) (i + j) := by
  have e : 2 ^ (n + 1) = 2 ^ n + 2 ^ n := by rw [Nat.pow_succ]; omega
  unfold Sm at *
  rw [e]
  omega
theorem Sm.sub {n : Nat} {i j : Int} (h : Sm n i) (h' : Sm n j) : Sm (n + 1) (i - j) := by
  have e : 2 ^ (n + 1) = 2 ^ n + 2 ^ n := by rw [Nat.pow_succ]; omega
  unfold Sm at *
  rw [e]
  omega
theorem eqv_fr (a b c d : Int) : PyData.eqv (.tuple [.int a, .int b]) (.tuple [.int c, .int d]) = decide (a = c ∧ b = d) := by
  simp [PyData.eqv, PyData.eqvAll]
  rfl
theorem shaped_fr (a b : Int) : SeqAt.shaped (.tuple [.int a, .int b]) = true := rfl
theorem dEq_fr {a b c d : Int} {m : Sto} {q : D → Sto → Prop} : dEq (fr a b) (fr c d) m q = q (.bl (decide (a = c ∧ b = d))) m := by
  show dEqG false (fr a b) (fr c d) m q = _
  unfold dEqG
  show (SeqAt.shaped (.tuple [.int a, .int b]) = true ∧ SeqAt.shaped (.tuple [.int c, .int d]) = true ∧ q (.bl (if false = true then _ else PyData.eqv _ _)) m) = _
  rw [shaped_fr, shaped_fr, eqv_fr]
  simp
theorem dNe_fr {a b c d : Int} {m : Sto} {q : D → Sto → Prop} : dNe (fr a b) (fr c d) m q = q (.bl (!decide (a = c ∧ b = d))) m := by
  show dEqG true (fr a b) (fr c d) m q = _
  unfold dEqG
  show (SeqAt.shaped (.tuple [.int a, .int b]) = true ∧ SeqAt.shaped (.tuple [.int c, .int d]) = true ∧ q (.bl (if true = true then !PyData.eqv _ _ else _)) m) = _
  rw [shaped_fr, shaped_fr, eqv_fr]
  simp
theorem dEq_int {i j : Int} {m : Sto} {q : D → Sto → Prop} : dEq (.int i) (.int j) m q = q (.bl (decide (i = j))) m := rfl
theorem dEq_bl {i j : Bool} {m : Sto} {q : D → Sto → Prop} : dEq (.bl i) (.bl j) m q = q (.bl (decide (i = j))) m := rfl
theorem dEq_str {i j : Str} {m : Sto} {q : D → Sto → Prop} : dEq (.str i) (.str j) m q = q (.bl (decide (i = j))) m := rfl
theorem dNe_int {i j : Int} {m : Sto} {q : D → Sto → Prop} : dNe (.int i) (.int j) m q = q (.bl (!decide (i = j))) m := rfl
theorem dNe_bl {i j : Bool} {m : Sto} {q : D → Sto → Prop} : dNe (.bl i) (.bl j) m q = q (.bl (!decide (i = j))) m := rfl
theorem dNe_str {i j : Str} {m : Sto} {q : D → Sto → Prop} : dNe (.str i) (.str j) m q = q (.bl (!decide (i = j))) m := rfl
theorem forD_ind {g : DG} {tb : DS} {d : DEnds} {ok : Sto → Prop} (I : List D → DSt → Sto → Prop)
    (step : ∀ x xs r m (N : DSt → Sto → Prop), I (x :: xs) r m → (∀ r' m', I xs r' m' → N r' m') → g x r m fun r1 m1 => tb { d with nx := N, ct := N, bk := d.nx } r1 m1)
    (hok : ∀ xs r m, I xs r m → ok m) (fin : ∀ r m, I [] r m → d.nx r m) (xs : List D) (r : DSt) (m : Sto) (h : I xs r m) : forD g tb d ok xs r m := by
  have go : ∀ xs r m, I xs r m → forD0 g tb d ok xs r m := fun xs => by
    induction xs with
    | nil => exact fun r m h => fin r m h
    | cons x xs ih => exact fun r m h => step x xs r m _ h fun r' m' h' => ⟨hok _ _ _ h', ih r' m' h'⟩
  rw [forD_eq]
  exact go xs r m h
end DL
namespace DL
open PySem PySem.Spec PyProof.Rows L2
variable [Cl] [Lk]
section
variable {X : Cx} {pos p2 : Pos} {a b c e o : Expr} {ta tb tc te to : DE}
def isNon : D → Bool
  | .non => true
  | _ => false
def dIsN : F2
  | x, .non, m, q => q (.bl (isNon x)) m
  | _, _, _, _ => False
def dNotN : F2
  | x, .non, m, q => q (.bl (!isNon x)) m
  | _, _, _, _ => False
def toV : D → Option V
  | .non => some .non
  | .bl b => some (.bl b)
  | .int i => some (.int i)
  | .str z => some (.str z)
  | _ => none
def toVs : List D → Option (List V)
  | [] => some []
  | d :: ds => match toV d, toVs ds with
    | some v, some vs => some (v :: vs)
    | _, _ => none
theorem toV_eq {K : PySem.W.Frag} {W : Wd} {x u : V} {d : D} (r : R K W x d) (e : toV d = some u) : x = u ∧ flatV u = true := by
  cases r <;> first | (cases e; exact ⟨rfl, rfl⟩) | cases e
theorem toVs_eq {K : PySem.W.Frag} {W : Wd} : ∀ {xs us : List V} {ds : List D}, RA K W xs ds → toVs ds = some us → xs = us ∧ us.all flatV = true
  | _, _, _, .nil, e => by cases e; exact ⟨rfl, rfl⟩
  | _, us, _, @RA.cons _ _ _ v vs d ds h r, e => by
    unfold toVs at e
    cases e1 : toV d with
    | none => rw [e1] at e; simp at e
    | some u =>
      cases e2 : toVs ds with
      | none => rw [e1, e2] at e; simp at e
      | some ws =>
        rw [e1, e2] at e
        cases e
        obtain ⟨rfl, f1⟩ := toV_eq h e1
        obtain ⟨rfl, f2⟩ := toVs_eq r e2
        exact ⟨rfl, by rw [List.all_cons, f1, f2]; rfl⟩
def dInB (neg : Bool) : F2
  | x, .tup ds, m, q => onS (toV x) fun u => onS (toVs ds) fun us => q (.bl (if neg then !inV u us else inV u us)) m
  | x, y, m, q => onS (py m x) fun p => onS (py m y) fun l => match l with
    | .list ps => SeqAt.shaped p = true ∧ SeqAt.shaped (.list ps) = true ∧ q (.bl (if neg then !ps.any (fun z => PyData.eqv z p) else ps.any fun z => PyData.eqv z p)) m
    | _ => False
abbrev dIn : F2 := dInB false
abbrev dNotIn : F2 := dInB true
def rrIn (K : PySem.W.Frag) (neg : Bool) : R2 := fun x y H Q => rIn K neg x y H Q ∨ (if neg then rNotInD K x y H Q else rInD K x y H Q)
theorem o_in {K : PySem.W.Frag} {neg : Bool} : Op2 K (dInB neg) (rrIn K neg) := by
  intro W F H m x y d e q Q rel rx ry h k
  unfold dInB at h
  split at h
  · rename_i ds
    obtain ⟨u, e1, h⟩ := onS_some h
    obtain ⟨us, e2, h⟩ := onS_some h
    obtain ⟨rfl, f1⟩ := toV_eq rx e1
    obtain ⟨p, xs, rfl, g1, g2⟩ := tup_at rel ry
    obtain ⟨rfl, f2⟩ := toVs_eq g2 e2
    exact .inl ⟨p, xs, rfl, .inr g1, f1, f2, k _ _ _ _ _ (.refl _) rel (.bl _) h⟩
  · obtain ⟨p, e1, h⟩ := onS_some h
    obtain ⟨l, e2, h⟩ := onS_some h
    split at h
    · rename_i ps
      have h1 := py_dp rel rx e1
      have h2 := py_dp rel ry e2
      refine .inr ?_
      cases neg with
      | true => rw [if_pos rfl]; exact ⟨p, ps, h1, h2, h.1, h.2.1, k _ _ _ _ _ (.refl _) rel (.bl _) h.2.2⟩
      | false => rw [if_neg Bool.false_ne_true]; exact ⟨p, ps, h1, h2, h.1, h.2.1, k _ _ _ _ _ (.refl _) rel (.bl _) h.2.2⟩
    · exact h.elim
theorem op_inAll (hu : X.A.units + 65 < cLine) : OpR X (compareOp .In) (rrIn X.K false) := op_in_seq.or (op_inD hu)
theorem op_notInAll (hu : X.A.units + 65 < cLine) : OpR X (compareOp .NotIn) (rrIn X.K true) := op_notIn_seq.or (op_notInD hu)
theorem units65 {k : Nat} {A : Around} (hr : Room k A) : A.units + 65 < cLine := by have := hr.un; omega
theorem jt_in {k : Nat} (hr : Room k X.A) (ha : JE X a ta) (hb : JE X b tb) (hm : behindInMarks .In b = false := by rfl) : JT X (.Compare a [.In] [b] pos) (dTest (dBin dIn ta tb)) := jt_cmp (op_inAll (units65 hr)) o_in ha hb hm
theorem jt_notin {k : Nat} (hr : Room k X.A) (ha : JE X a ta) (hb : JE X b tb) (hm : behindInMarks .NotIn b = false := by rfl) : JT X (.Compare a [.NotIn] [b] pos) (dTest (dBin dNotIn ta tb)) := jt_cmp (op_notInAll (units65 hr)) o_in ha hb hm
theorem jt_chain {op op' : CmpOp} {f g : F2} {rr rr' : R2} (ho : OpR X (compareOp op) rr) (o : Op2 X.K f rr) (ho' : OpR X (compareOp op') rr') (o' : Op2 X.K g rr') (ha : JE X a ta) (hb : JE X b tb) (hc : JE X c tc) (hm : lastMarks [op, op'] [b, c] = false := by with_unfolding_all rfl) :
    JT X (.Compare a [op, op'] [b, c] pos) (dTest (dChain f g ta tb tc)) :=
  pt_wk (pt_chain ho ho' ha hb hc hm) fun s H Q h => by
    obtain ⟨W, F, m, r, q, rel, rs, h, k⟩ := h
    exact chain_wk o o' s H (fun x H' => ∃ k, x = .bl k ∧ Q k H') ⟨W, F, m, r, fun x m1 => match x with | .bl c => q c m1 | _ => False, rel, rs, h, fun W1 H1 m1 v d l1 rel1 rv hq => by
      cases d with
      | bl c => cases rv; exact ⟨c, rfl, k _ _ _ _ l1 rel1 hq⟩
      | _ => exact hq.elim⟩
def dBits : F1
  | .int i, m, q => q (.int (Builtin.Int.intBits i : Nat)) m
  | _, _, _ => False
end
section
variable {m : Sto} {ds : List D} {i : Int} {b : Bool} {x : Str}
theorem kd_non : kd .non m = some .non := rfl
theorem kd_bl : kd (.bl b) m = some .bl := rfl
theorem kd_int : kd (.int i) m = some .int := rfl
theorem kd_str : kd (.str x) m = some .str := rfl
theorem kd_tup : kd (.tup ds) m = some .tup := rfl
theorem kd_lst : kd (.lst ds) m = some .lst := rfl
theorem kd_fz : kd (.fz ds) m = some .lst := rfl
theorem isT_int_non : isT .int .non = false := rfl
theorem isT_int_bl : isT .int .bl = true := rfl
theorem isT_int_int : isT .int .int = true := rfl
theorem isT_int_str : isT .int .str = false := rfl
theorem isT_int_tup : isT .int .tup = false := rfl
theorem isT_int_lst : isT .int .lst = false := rfl
theorem isT_bool_non : isT .bool .non = false := rfl
theorem isT_bool_bl : isT .bool .bl = true := rfl
theorem isT_bool_int : isT .bool .int = false := rfl
theorem isT_bool_str : isT .bool .str = false := rfl
theorem isT_bool_tup : isT .bool .tup = false := rfl
theorem isT_bool_lst : isT .bool .lst = false := rfl
theorem isT_str_non : isT .str .non = false := rfl
theorem isT_str_bl : isT .str .bl = false := rfl
theorem isT_str_int : isT .str .int = false := rfl
theorem isT_str_str : isT .str .str = true := rfl
theorem isT_str_tup : isT .str .tup = false := rfl
theorem isT_str_lst : isT .str .lst = false := rfl
theorem isT_list_non : isT .list .non = false := rfl
theorem isT_list_bl : isT .list .bl = false := rfl
theorem isT_list_int : isT .list .int = false := rfl
theorem isT_list_str : isT .list .str = false := rfl
theorem isT_list_tup : isT .list .tup = false := rfl
theorem isT_list_lst : isT .list .lst = true := rfl
theorem isT_tuple_non : isT .tuple .non = false := rfl
theorem isT_tuple_bl : isT .tuple .bl = false := rfl
theorem isT_tuple_int : isT .tuple .int = false := rfl
theorem isT_tuple_str : isT .tuple .str = false := rfl
theorem isT_tuple_tup : isT .tuple .tup = true := rfl
theorem isT_tuple_lst : isT .tuple .lst = false := rfl
theorem isT_dict_non : isT .dict .non = false := rfl
theorem isT_dict_bl : isT .dict .bl = false := rfl
theorem isT_dict_int : isT .dict .int = false := rfl
theorem isT_dict_str : isT .dict .str = false := rfl
theorem isT_dict_tup : isT .dict .tup = false := rfl
theorem isT_dict_lst : isT .dict .lst = false := rfl
end
theorem br {p : Prop} [Decidable p] {A B : Prop} (h1 : p → A) (h2 : ¬ p → B) : (decide p = true → A) ∧ (decide p = false → B) := ⟨fun h => h1 (of_decide_eq_true h), fun h => h2 (of_decide_eq_false h)⟩
theorem nbr {p : Prop} [Decidable p] {A B : Prop} (h1 : ¬ p → A) (h2 : p → B) : ((!decide p) = true → A) ∧ ((!decide p) = false → B) := by
  by_cases hp : p
  · rw [decide_eq_true hp]; exact ⟨(fun h => nomatch h), fun _ => h2 hp⟩
  · rw [decide_eq_false hp]; exact ⟨fun _ => h1 hp, (fun h => nomatch h)⟩
theorem bt {A B : Prop} (h : A) : (true = true → A) ∧ (true = false → B) := ⟨fun _ => h, (fun z => nomatch z)⟩
theorem bf {A B : Prop} (h : B) : (false = true → A) ∧ (false = false → B) := ⟨(fun z => nomatch z), fun _ => h⟩
theorem bb {b : Bool} {A B : Prop} (h1 : b = true → A) (h2 : b = false → B) : (b = true → A) ∧ (b = false → B) := ⟨h1, h2⟩
end DL
namespace DL
open PySem PySem.Spec PyProof.Rows L2
variable [Cl] [Lk]
structure Pd (k c : Nat) (v : PyData) : Prop where
  lay : v.canLay0 = true
  dep : v.depth ≤ k
  sho : v.showable = true
  len : v.shown.length ≤ c
theorem Pd.mono {k c k' c' : Nat} {v : PyData} (h : Pd k c v) (hk : k ≤ k') (hc : c ≤ c') : Pd k' c' v := ⟨h.lay, Nat.le_trans h.dep hk, h.sho, Nat.le_trans h.len hc⟩
def Gd (k c : Nat) (d : D) : Prop := ∃ v, py0 d = some v ∧ Pd k c v
theorem Gd.mono {k c k' c' : Nat} {d : D} (h : Gd k c d) (hk : k ≤ k') (hc : c ≤ c') : Gd k' c' d := let ⟨v, e, p⟩ := h; ⟨v, e, p.mono hk hc⟩
theorem log2_lt {a n k : Nat} (h : a < 2 ^ n) (hk : 0 < k) (hn : n ≤ k) : a.log2 < k := by
  by_cases z : a = 0
  · subst z; simpa using hk
  · exact (Nat.log2_lt z).mpr (Nat.lt_of_lt_of_le h (Nat.pow_le_pow_right (by decide) hn))
theorem gd_int {i : Int} {n : Nat} (h : Sm n i) (hn : n ≤ 1900) : Gd 0 (n + 3) (.int i) := by
  refine ⟨.int i, rfl, rfl, Nat.le_refl _, ?_, ?_⟩
  · exact decide_eq_true (log2_lt h.lt (by decide) (by omega))
  · have h1 := int_text_length_le (a := i) (k := n + 1) (by omega) (log2_lt h.lt (by omega) (by omega))
    show (Str.ofString (toString i)).length ≤ _
    rw [PySem.ofString_length]
    omega
theorem gd_bl {b : Bool} : Gd 0 5 (.bl b) := ⟨.bool b, rfl, rfl, Nat.le_refl _, rfl, by cases b <;> decide⟩
theorem gd_all {k c : Nat} : ∀ {ds : List D}, (∀ d ∈ ds, Gd k c d) → ∃ vs, py0A ds = some vs ∧ PyData.canLayAll0 vs = true ∧ PyData.depthAll vs ≤ k ∧ PyData.showableAll vs = true ∧ ((PyData.shownAll vs).map (·.length)).sum ≤ c * ds.length ∧ (PyData.shownAll vs).length = ds.length
  | [], _ => ⟨[], rfl, rfl, Nat.zero_le _, rfl, Nat.le_refl _, rfl⟩
  | d :: ds, h => by
    obtain ⟨v, e, p⟩ := h d List.mem_cons_self
    obtain ⟨vs, e2, h1, h2, h3, h4, h5⟩ := gd_all fun x hx => h x (List.mem_cons_of_mem _ hx)
    refine ⟨v :: vs, by simp only [py0A, e, e2], ?_, ?_, ?_, ?_, ?_⟩
    · simp only [PyData.canLayAll0, p.lay, h1, Bool.and_self]
    · simp only [PyData.depthAll]; have := p.dep; omega
    · simp only [PyData.showableAll, p.sho, h3, Bool.and_self]
    · simp only [PyData.shownAll, List.map_cons, List.sum_cons, List.length_cons]
      have := p.len
      rw [Nat.mul_add]
      omega
    · simp only [PyData.shownAll, List.length_cons, h5]
theorem gd_tup {k c : Nat} {ds : List D} (h : ∀ d ∈ ds, Gd k c d) : Gd (k + 1) ((c + 2) * ds.length + 3) (.tup ds) := by
  obtain ⟨vs, e2, h1, h2, h3, h4, h5⟩ := gd_all h
  refine ⟨.tuple vs, by simp only [py0, e2, Option.map_some], by simpa only [PyData.canLay0] using h1, by simp only [PyData.depth]; omega, by simpa only [PyData.showable] using h3, ?_⟩
  have := tupleText_len_le (PyData.shownAll vs)
  simp only [PyData.shown]
  rw [Nat.add_mul]
  omega
theorem gd_lstP {k c : Nat} {ds : List D} (h : ∀ d ∈ ds, Gd k c d) : ∃ v, (py0A ds).map PyData.list = some v ∧ Pd (k + 1) ((c + 2) * ds.length + 3) v := by
  obtain ⟨vs, e2, h1, h2, h3, h4, h5⟩ := gd_all h
  refine ⟨.list vs, by simp only [e2, Option.map_some], by simpa only [PyData.canLay0] using h1, by simp only [PyData.depth]; omega, by simpa only [PyData.showable] using h3, ?_⟩
  have := listText_len_le (PyData.shownAll vs)
  simp only [PyData.shown]
  rw [Nat.add_mul]
  omega
theorem gd_lst {k c : Nat} {ds : List D} (h : ∀ d ∈ ds, Gd k c d) : Gd (k + 1) ((c + 2) * ds.length + 3) (.lst ds) := by
  obtain ⟨v, e, p⟩ := gd_lstP h
  exact ⟨v, by simpa only [py0] using e, p⟩
theorem gd_fr {t b : Int} {n : Nat} (st : Sm n t) (sb : Sm n b) (hn : n ≤ 1900) : Gd 1 (2 * n + 13) (fr t b) := by
  refine (gd_tup (k := 0) (c := n + 3) fun d hd => ?_).mono (by omega) (by simp only [List.length_cons, List.length_nil]; omega)
  simp only [List.mem_cons, List.not_mem_nil, or_false] at hd
  rcases hd with rfl | rfl
  · exact gd_int st hn
  · exact gd_int sb hn
theorem py_ptr {m : Sto} {i : Nat} {ds : List D} (h : m[i]? = some (.lst ds)) : py m (.ptr i) = (py0A ds).map PyData.list := by
  simp only [py, h]
theorem py_lst {m : Sto} {ds : List D} : py m (.lst ds) = (py0A ds).map PyData.list := by simp only [py, py0]
theorem pd_shaped {c : Nat} {v : PyData} (p : Pd 60 c v) : SeqAt.shaped v = true := by
  show (v.canLay0 && decide (v.depth ≤ 64)) = true
  rw [p.lay, decide_eq_true (by have := p.dep; omega)]
  rfl
theorem eqG_py {x y : D} {m : Sto} {a b : PyData} {neg : Bool} {q : D → Sto → Prop} {c c' : Nat} (hx : py m x = some a) (hy : py m y = some b) (pa : Pd 60 c a) (pb : Pd 60 c' b) (h : q (.bl (if neg then !PyData.eqv a b else PyData.eqv a b)) m) : dEqG neg x y m q := by
  unfold dEqG
  rw [hx, hy]
  exact ⟨pd_shaped pa, pd_shaped pb, h⟩
theorem eqv_int {i j : Int} : PyData.eqv (.int i) (.int j) = decide (i = j) := by simp [PyData.eqv]; rfl
theorem eqv_bl {i j : Bool} : PyData.eqv (.bool i) (.bool j) = decide (i = j) := by cases i <;> cases j <;> rfl
theorem eqv_str {i j : Str} : PyData.eqv (.str i) (.str j) = decide (i = j) := by
  simp only [PyData.eqv]
  by_cases h : i = j
  · subst h; simp
  · rw [decide_eq_false h]; exact beq_eq_false_iff_ne.mpr h
theorem lc_ind {i : Nat} {te : DE} {ok : Sto → Prop} {r : DSt} {q : List D → Sto → Prop} (I : List D → List D → Sto → Prop)
    (step : ∀ x xs acc m (N : D → Sto → Prop), I (x :: xs) acc m → (∀ y m', I xs (acc ++ [y]) m' → N y m') → te (put r i x) m N)
    (hok : ∀ xs acc m, I xs acc m → ok m) (fin : ∀ acc m, I [] acc m → q acc m) (ds acc : List D) (m : Sto) (h : I ds acc m) : lcI i dYes te ok ds r acc m q := by
  have go : ∀ ds acc m, I ds acc m → lcD i dYes te ok ds r acc m q := fun ds => by
    induction ds with
    | nil => exact fun acc m h => fin acc m h
    | cons x xs ih => exact fun acc m h => ⟨fun _ => step x xs acc m _ h fun y m' h' => ⟨hok _ _ _ h', ih _ _ h'⟩, fun z => by cases z⟩
  rw [lcI_eq]
  exact go ds acc m h
theorem lc_indT {i : Nat} {tt : DT} {te : DE} {ok : Sto → Prop} {r : DSt} {q : List D → Sto → Prop} (I : List D → List D → Sto → Prop)
    (step : ∀ x xs acc m (N : D → Sto → Prop) (N0 : Sto → Prop), I (x :: xs) acc m → (∀ y m', I xs (acc ++ [y]) m' → N y m') → (∀ m', I xs acc m' → N0 m') → tt (put r i x) m fun b m1 => (b = true → te (put r i x) m1 N) ∧ (b = false → N0 m1))
    (hok : ∀ xs acc m, I xs acc m → ok m) (fin : ∀ acc m, I [] acc m → q acc m) (ds acc : List D) (m : Sto) (h : I ds acc m) : lcI i tt te ok ds r acc m q := by
  have go : ∀ ds acc m, I ds acc m → lcD i tt te ok ds r acc m q := fun ds => by
    induction ds with
    | nil => exact fun acc m h => fin acc m h
    | cons x xs ih => exact fun acc m h => step x xs acc m _ _ h (fun y m' h' => ⟨hok _ _ _ h', ih _ _ h'⟩) (fun m' h' => ⟨hok _ _ _ h', ih _ _ h'⟩)
  rw [lcI_eq]
  exact go ds acc m h
theorem kd_of_seq {x : D} {m : Sto} {ds : List D} (h : seqL x m = some ds) : kd x m = some .lst := by
  cases x with
  | lst es => rfl
  | fz es => rfl
  | ptr i =>
    have h' : lstOf (.ptr i) m = some ds := h
    unfold lstOf at h'
    unfold kd
    cases q : m[i]? with
    | none => simp only [q] at h'; cases h'
    | some c => cases c with
      | dead => simp only [q] at h'; cases h'
      | exc _ _ => simp only [q] at h'; cases h'
      | dic ds => simp only [q] at h'; cases h'
      | ins c fs => simp only [q] at h'; cases h'
      | lst es => simp only [q]
  | _ => cases h
theorem items_of_seq {x : D} {m : Sto} {ds : List D} (h : seqL x m = some ds) : ∃ o, items x m = some (ds, o) ∧ okP o m := by
  cases x with
  | lst es => cases h; exact ⟨none, rfl, trivial⟩
  | fz es => cases h; exact ⟨none, rfl, trivial⟩
  | ptr i =>
    have h' : lstOf (.ptr i) m = some ds := h
    unfold lstOf at h'
    cases q : m[i]? with
    | none => simp only [q] at h'; cases h'
    | some c => cases c with
      | dead => simp only [q] at h'; cases h'
      | exc _ _ => simp only [q] at h'; cases h'
      | dic ds => simp only [q] at h'; cases h'
      | ins c fs => simp only [q] at h'; cases h'
      | lst es =>
        simp only [q] at h'
        cases h'
        exact ⟨some (i, ds), by simp only [items, q], q⟩
  | _ => cases h
theorem dIx_seq {x : D} {m : Sto} {ds : List D} {i : Int} {d : D} {q : D → Sto → Prop} (h : seqL x m = some ds) (e : atI ds i = some d) (k : q d m) : dIx x (.int i) m q := by
  have go : (onS (seqL x m) fun ds => onS (atI ds i) fun d => q d m) := by rw [h]; show onS (atI ds i) _; rw [e]; exact k
  cases x <;> first | exact go | cases h
theorem dLen_seq {x : D} {m : Sto} {ds : List D} {q : D → Sto → Prop} (h : seqL x m = some ds) (k : q (.int ds.length) m) : dLen [x] m q := by
  have go : (onS (seqL x m) fun ds => q (.int ds.length) m) := by rw [h]; exact k
  cases x <;> first | exact go | cases h
theorem dList_seq {x : D} {m : Sto} {ds : List D} {q : D → Sto → Prop} (h : seqL x m = some ds) (k : q (.lst ds) m) : dList [x] m q := by
  have go : (onS (seqL x m) fun ds => q (.lst ds) m) := by rw [h]; exact k
  cases x <;> first | exact go | cases h
theorem sm_le {v : Int} (n : Nat) (h1 : -(2 ^ n) < v) (h2 : v < 2 ^ n) : Sm n v := Sm.of (by
  have e : ((2 ^ n : Nat) : Int) = (2 : Int) ^ n := by rw [Int.natCast_pow]; rfl
  omega)
theorem nilA : (py0A []).map PyData.list = some (.list []) := by simp only [py0A, Option.map_some]
theorem py_nil {m : Sto} : py m (.lst []) = some (.list []) := by simp only [py, py0, py0A, Option.map_some]
theorem pd_nil : Pd 1 2 (.list []) := ⟨rfl, by decide, rfl, by decide⟩
/-- a list with something in it is not the empty one -/
theorem eqv_nil {ds : List D} {v : PyData} (hne : ds ≠ []) (e : (py0A ds).map PyData.list = some v) : PyData.eqv v (.list []) = false := by
  obtain ⟨d, es, rfl⟩ := List.exists_cons_of_ne_nil hne
  simp only [Option.map_eq_some_iff] at e
  obtain ⟨ps, e1, rfl⟩ := e
  cases ps with
  | nil =>
    exfalso
    unfold py0A at e1
    split at e1 <;> cases e1
  | cons a as => rfl
theorem kn_never {P : Program} {w : World} {K : PySem.W.Frag} {mg : Str → Option Value} {base : Heap} {x : Str} {st : Stmt} {f : Addr} {fd : FuncData} {ps : List Str} {k : Nat} {g : FN} (F : L2.Fun K x x st f fd) (hm : mg x = some (.ref f)) (b : Binds K fd ps []) (hg : ∀ ds m q, ¬ g ds m q) : Kn P w K mg base k x g := by
  refine ⟨0, f, fd, ps, ⟨?_, ?_⟩, hm, F.kp, b, fun ds m q h => (hg _ _ _ h).elim⟩
  · rintro vs H Q E ⟨_, W, F', m, ds, q, _, _, h, _⟩
    exact (hg _ _ _ h).elim
  · rintro A outer s H args us vs Q E _ _ _ _ _ ⟨_, W, F', m, ds, q, _, _, h, _⟩
    exact (hg _ _ _ h).elim
end DL
namespace DL
open PySem PySem.Spec PyProof.Rows L2
variable [Cl] [Lk]
/-- a comprehension that maps -/
theorem lc_map {i : Nat} {te : DE} {ok : Sto → Prop} {r : DSt} {q : List D → Sto → Prop} {ds : List D} {m : Sto} (f : D → D) (hte : ∀ x ∈ ds, ∀ N : D → Sto → Prop, N (f x) m → te (put r i x) m N) (hok : ok m) (k : q (ds.map f) m) : lcI i dYes te ok ds r [] m q := by
  refine lc_ind (fun xs acc m' => m' = m ∧ (∀ x ∈ xs, x ∈ ds) ∧ acc ++ xs.map f = ds.map f) ?_ ?_ ?_ _ _ _ ⟨rfl, fun x hx => hx, rfl⟩
  · rintro x xs acc m' N ⟨rfl, hx, e⟩ kk
    exact hte x (hx x List.mem_cons_self) N (kk _ _ ⟨rfl, fun y hy => hx y (List.mem_cons_of_mem _ hy), by rw [List.append_assoc]; exact e⟩)
  · rintro xs acc m' ⟨rfl, _⟩
    exact hok
  · rintro acc m' ⟨rfl, _, e⟩
    rw [List.map_nil, List.append_nil] at e
    rw [e]
    exact k
theorem py_seq {x : D} {m : Sto} {ds : List D} (h : seqL x m = some ds) : py m x = (py0A ds).map PyData.list := by
  cases x with
  | lst es => cases h; exact py_lst
  | fz es => cases h; simp only [py, py0]
  | ptr i =>
    have h' : lstOf (.ptr i) m = some ds := h
    unfold lstOf at h'
    cases q : m[i]? with
    | none => simp only [q] at h'; cases h'
    | some c => cases c with
      | dead => simp only [q] at h'; cases h'
      | exc _ _ => simp only [q] at h'; cases h'
      | dic ds => simp only [q] at h'; cases h'
      | ins c fs => simp only [q] at h'; cases h'
      | lst es => simp only [q] at h'; cases h'; exact py_ptr q
  | _ => cases h
end DL
namespace DL
open PySem PySem.Spec PyProof.Rows L2
/-- what is raised: its class's name, its fields -/
structure Exn where
  c : Str
  f : List (Str × D)
abbrev FNX := List D → Sto → (D → Sto → Prop) → (Exn → Sto → Prop) → Prop
abbrev WD := Exn → DSt → Sto → Prop
variable [Cl]
def RX (K : PySem.W.Frag) (W : Wd) (cls : Value) (d : Option Addr) (ex : Exn) : Prop :=
  ∃ C, Cl.ad ex.c = some C ∧ cls = .ref C ∧ ((ex.f = [] ∧ d = none) ∨ ∃ dd fs, d = some dd ∧ W.st dd = some (.xd fs) ∧ RF K W fs ex.f)
theorem RX.mono {K : PySem.W.Frag} {W W' : Wd} {cls : Value} {d : Option Addr} {ex : Exn} (l : W.Le W') (h : RX K W cls d ex) : RX K W' cls d ex := by
  obtain ⟨C, h1, h2, h⟩ := h
  refine ⟨C, h1, h2, ?_⟩
  rcases h with h | ⟨dd, fs, e, h, r⟩
  · exact .inl h
  · exact .inr ⟨dd, fs, e, l.st _ _ h, r.mono l⟩
def FolX (K : PySem.W.Frag) (W : Wd) (F : Hp) (xq : Exn → Sto → Prop) (E : XK) : Prop := ∀ W' H' m' cls d ex, W.Le W' → Rel0 K W' F H' m' → RX K W' cls d ex → xq ex m' → E cls d H'
def spOfX (K : PySem.W.Frag) (n : Nat) (f : FNX) : Sp := fun vs H Q E => vs.length = n ∧ ∃ (W : Wd) (F : Hp) (m : Sto) (ds : List D) (q : D → Sto → Prop) (xq : Exn → Sto → Prop), Rel0 K W F H m ∧ RA K W vs ds ∧ f ds m q xq ∧ Fol0 K W F q Q ∧ FolX K W F xq E
section
variable [Lk]
/-- a wish about what is raised -/
def liftW (K : PySem.W.Frag) (w : WD) : WX := fun cls d σ H => ∃ (W : Wd) (m : Sto) (r : DSt) (ex : Exn), Lk.W0.Le W ∧ Rel0 K W Lk.F0 H m ∧ RSt K W σ r ∧ RX K W cls d ex ∧ w ex r m
def TakesD (X : Cx) (w : WD) : Prop := Takes X (liftW X.K w)
/-- a call that may raise -/
def dCallX (f : FNX) (w : WD) (ta : DA) : DE := fun r m q => ta r m fun xs m1 => f xs m1 q fun ex m2 => w ex r m2
section
variable {X : Cx} {pins : List (Addr × Obj)} {σ : L2.St} {H : Hp} {s : Shared} {Q : VK} {us : List Value} {vs : List V} {k j : Nat} {fa : Addr} {fd : FuncData} {ps : List Str} {sp : Sp} {E : XK}
theorem run_gS (F : FnG X.prog X.w X.K X.mg X.base k fa fd ps sp) (hr : Room k X.A) (gd : X.A.guards = some []) (hb : Binds X.K fd ps []) (hx : PassesAt (L2.CX X.prog X.w) X σ E) (I : Inv X pins σ H s) (r : Vals vs us) (h : sp vs H Q E) :
    wpAny (model X.prog X.w) X.A (call (.ref fa) us) (EP X pins σ Q) X.xe s := by
  have nn : us.length = ps.length := by rw [← r.length]; exact F.len _ _ _ _ h
  have bnd : BindsTo s fd ⟨us, []⟩ (ps.zip us) := by
    have z := hb s us I.kIn (by rw [List.append_nil]; exact nn)
    rw [List.append_nil] at z
    exact z
  have go := F.run X.A X.stack s H ⟨us, []⟩ us vs Q E hr gd I.env0 bnd r h
  refine wpAny_call (codeAny_mono go ?_)
  intro res s' hq
  match res, hq with
  | .error e, hq => exact hx pins H s e s' I hq
  | .ok (.ret u), hq => exact I.after hq
  | .ok .next, hq => exact hq.elim
  | .ok .brk, hq => exact hq.elim
  | .ok .cont, hq => exact hq.elim
variable {x : Str} {p pos : Pos} {e : Expr} {es : List Expr} {t : DA} {f : FNX} {w : WD}
end
end
section
variable {P : Program} {w : World} {K : PySem.W.Frag} {mg : Str → Option Value} {base : Heap}
theorem defGX {x qual : Str} {st : Stmt} {f : Addr} {fd : FuncData} {N ps : List Str} {k n : Nat} {t : WD → DS} {g : FNX} (F : L2.Fun K x qual st f fd) (S : FnScope N ps (defScope st)) (hn : ps.length = n)
    (body : ∀ [Lk] (wd : WD) (cdv : Value) (A : Around) (outer : List Env) (s : Shared) (H : Hp) (E : XK), Room k (A.deeper (envOfC qual (defScope st) s.heap.objs.size f cdv)) → A.guards = some [] →
      TakesD (cxOf (L2.CX P w) P w K mg base N qual (defScope st) f cdv A outer s H E) wd → JSs (cxOf (L2.CX P w) P w K mg base N qual (defScope st) f cdv A outer s H E) (defBody st) (t wd))
    (h : ∀ ds m q xq, ds.length = n → g ds m q xq → t (fun ex _ m' => xq ex m') { nx := fun _ m' => q .non m', rt := q } (startD N ds) m) : FnG P w K mg base (k + 1) f fd ps (spOfX K n g) := by
  refine fnG F S (fun vs H Q E z => z.1.trans hn.symm) fun cdv A outer s H vs Q E hr gd z => ?_
  obtain ⟨hl, W, F', m, ds, q, xq, rel, ra, hg, kk, kx⟩ := z
  letI : Lk := ⟨W, F'⟩
  refine ⟨liftS K (t fun ex _ m' => xq ex m'), body _ cdv A outer s H E hr gd ?_, ?_⟩
  · refine (takes_of (E := E) rfl rfl rfl rfl).imp fun cls d σ H' h => ?_
    obtain ⟨W1, m1, r1, ex, l1, rel1, _, rx, hx⟩ := h
    exact kx W1 H' m1 cls d ex l1 rel1 rx hx
  refine ⟨W, F', m, startD N ds, _, ⟨rel, .refl _, Same.refl _⟩, start_rst ra, h ds m q xq (by rw [← ra.len]; exact hl) hg, ⟨?_, ?_, ?_, ?_⟩⟩
  · exact fun W' H' m' _ _ l rel' _ hq => kk W' H' m' _ _ l rel'.toRel0 .non hq
  · exact fun W' H' m' v d l rel' rv hq => kk W' H' m' v d l rel'.toRel0 rv hq
  · exact fun _ _ _ _ _ _ _ _ z => z
  · exact fun _ _ _ _ _ _ _ _ z => z
end
theorem pe_ceinit {X : Cx} {nm : Str} {CE : Addr} {e : Expr} {es : List Expr} {ta : TA} {p1 p2 pos : Pos} {pl : Sem Bool} (hg : Gl X nm) (hm : X.mg nm = some (.ref CE)) (ga : PySem.W.specialIn X.K (.ref CE) "__getattribute__" = some (some (.builtin "type.__getattribute__")))
    (rd : PySem.W.readsIn X.K CE (.type "type") = true) (vV : PySem.W.findCls X.K (.ref CE) (.type "type") "__init__" = some (.val (.builtin "ValueError.__init__"))) (ha : PA X (e :: es) ta)
    (hc : eval (.Call (.Attribute (.Name nm p1) "__init__" p2) (e :: es) [] pos) X.env = (do
      let ov ← eval (.Name nm p1) X.env
      standAt p2.atName
      let (f, first) ← holding [ov] (getMethod ov "__init__" pl)
      callWith pos f first (backTo pos (starEach (e :: es) X.env)) (backToKw pos (keywordEach [] X.env))) := by rfl)
    (he : starEach (e :: es) X.env = (false, eval e X.env) :: starEach es X.env := by rfl) (hpl : (backTo pos (starEach es X.env)).any (·.1) = false := by rfl) (hdb : (nm == ("__debug__" : Str)) = false := by decide) :
    PE X (.Call (.Attribute (.Name nm p1) "__init__" p2) (e :: es) [] pos) (tVeI X.K ta) := ⟨fun pins s σ H Q I h => by
  refine PySem.W.methodCall_KW (ld_glob I hg hm ?_ hdb) hc
  refine PySem.W.method_cls I.kIn ga (PySem.W.cls_value I.kIn rd vV (by decide +kernel) ?_)
  refine PyProof.Rows.callWith_method1 (thn (ha.run pos pins _ σ H _ (I.tok _) h) ?_) he hpl
  rintro us s1 ⟨vs, H1, I1, r1, a, C, ws, rfl, hl, T, ea, q⟩
  obtain ⟨u0, ur, rfl, ra, rr⟩ : ∃ u0 ur, us = u0 :: ur ∧ RelV (.ref a) u0 ∧ Vals ws ur := by
    cases r1 with
    | cons h1 h2 => exact ⟨_, _, rfl, h1, h2⟩
  cases (show u0 = Value.ref a from ra)
  exact oinit_ok T I1 ea (by rw [← Paired.length rr, sizeLine_eq]; omega) fun s' J => ⟨.non, H1, J, rfl, q⟩⟩
/-- __init__(self, v): C.__init__(self, text); self.f = v -/
def sp1 (C : Addr) (f : Str) : Sp := fun vs H Q _ => ∃ a v, vs = [.ref a, v] ∧ H a = some (exo a C none) ∧ ∀ dx, H dx = none → dx ≠ a → Q .non (upd (upd H dx (exd dx [(f, v)])) a (exo a C (some dx)))
/-- __init__(self): C.__init__(self, text) -/
def sp0 (C : Addr) : Sp := fun vs H Q _ => ∃ a, vs = [.ref a] ∧ H a = some (exo a C none) ∧ Q .non H
/-- the facts about the class at C that are looked up -/
structure ExF (K : PySem.W.Frag) (C : Addr) : Prop where
  ox : OexC K C
  xf : XfC K C
  cl : (PySem.W.clsIn K C).isSome = true
  ca : PySem.W.findIn K (.ref C) "__class__" = some (some (.builtin "object.__class__"))
  cn : PySem.W.specialIn K (.builtin "object.__class__") "__get__" = some (some (.builtin "getset_descriptor.__get__"))
  ct : PySem.W.takesIn K (.builtin "object.__class__") = some true
  cm : PySem.W.mroIn K C (.type "object") = some true
structure XK0 (P : Program) (w : World) (K : PySem.W.Frag) (mg : Str → Option Value) (base : Heap) (c : Str) : Prop where
  ex : ∃ (C fI : Addr) (fd : FuncData) (ps : List Str), Cl.ad c = some C ∧ mg c = some (.ref C) ∧ ExF K C ∧ PySem.W.findIn K (.ref C) "__init__" = some (some (.ref fI)) ∧ PySem.W.typeIn K (.ref fI) = some (.type "function") ∧
    FnOk P w K mg base (L2.CX P w) 1 fI fd ps (sp0 C) ∧ Binds K fd ps []
section
variable {X : Cx} {pins : List (Addr × Obj)} {σ : L2.St} {H1 H2 : Hp} {Q : XK}
theorem mk_bare {hp hp2 h2 : Heap} {g1 g2 : Array GenState} {d1 d2 : Drawn} {t1 t2 : Nat} {os1 os2 : OsState} {a C : Addr} (T : Raises X (.ref C)) (I1 : Inv X pins σ H1 ⟨hp, g1, d1, t1, os1⟩)
    (ha : hp.objs.size ≤ a) (k : ∀ b o, hp.get? b = some o → hp2.get? b = some o) (un : Un (frs X.stack) [] (upd H1 a (exo a C none)) (upd H1 a (exo a C none)) hp2 h2) (hok : HOk X.prog X.w (upd H1 a (exo a C none)) h2) (ho : os2 = os1) (hb : AllBare g2)
    (q : Q (.ref C) none H1) : MkP X pins σ Q (.ref a) ⟨h2, g2, d2, t2, os2⟩ := by
  have hn : H1 a = none := I1.hok.fresh ha
  obtain ⟨t0, hoe⟩ := exo_at hok (upd_same (H := H1) (a := a) (o := exo a C none))
  obtain ⟨G, g1', g2'⟩ := restrict h2 fun b => decide (b ≠ a)
  have gk : ∀ {b}, b ≠ a → G.get? b = h2.get? b := fun {b} z => g1' b (decide_eq_true z)
  have ge : G.get? a = none := g2' a (by simp)
  have nh : ∀ {b : Addr} {o : Obj}, hp.get? b = some o → b ≠ a := fun {b o} z y => absurd (Heap.lt_size z) (by rw [y]; exact Nat.not_lt.mpr ha)
  have up : ∀ {b : Addr}, b ≠ a → upd H1 a (exo a C none) b = H1 b := fun {b} z => upd_ne z
  have U : Un (frs X.stack) [] H1 H1 hp G := by
    constructor
    · intro b o z n hf hx
      exact (gk (nh z)).trans (un.keep b o (k b o z) ((up (nh z)).trans n) hf hx)
    · intro b o z n hf hx
      obtain ⟨sl, y⟩ := un.slot b o (k b o z) ((up (nh z)).trans n) hf hx
      exact ⟨sl, (gk (nh z)).trans y⟩
    · intro b o z n hx
      exact n
    · intro b o z hx
      obtain ⟨o', y⟩ := un.there b o (k b o z) hx
      exact ⟨o', (gk (nh z)).trans y⟩
    · exact fun b xs z => z
    · exact fun b o v z => z
    · exact fun b ps z => ⟨#[], by rw [z]; simp⟩
  have ok3 : HOk X.prog X.w H1 G := by
    intro b o z
    have ba : b ≠ a := fun y => by rw [y, hn] at z; cases z
    refine (hok b o ((up ba).trans z)).stay (fun c v hc y => ?_) (fun c hc => ?_) (fun c xs hc => ?_)
    · have ca : c ≠ a := by
        rcases hc with hc | hc
        · rw [hc]; exact ba
        · intro y; rw [y, upd_same] at hc; exact exo_own (Option.some.inj hc)
      exact (gk ca).trans y
    · by_cases ca : c = a
      · rw [ca, upd_same] at hc; exact absurd (Option.some.inj hc) exo_own
      · exact (up ca).symm.trans hc
    · by_cases ca : c = a
      · rw [ca, upd_same] at hc; exact absurd (Option.some.inj hc) exo_tup
      · exact (up ca).symm.trans hc
  have J : Inv X pins σ H1 ⟨G, g2, d2, t2, os2⟩ := I1.call' (ch := []) ho U ok3 hb (fun b z => absurd z (by simp))
  refine ⟨a, _, _, ⟨G, g2, d2, t2, os2⟩, _, .ref C, none, rfl, J, fun b o z => ?_, ge, hoe, ⟨rfl, rfl⟩, rfl, rfl, hn, rfl, hb, T, q⟩
  by_cases ba : b = a
  · rw [ba] at z
    have z' : G.get? a = some o := z
    rw [ge] at z'; cases z'
  · exact (gk ba).symm.trans z
theorem pmk_bare {x : Str} {C fI : Addr} {k : Nat} {fd : FuncData} {ps : List Str} {p pos : Pos} (T : OexC X.K C) (iC : PySem.W.findIn X.K (.ref C) "__init__" = some (some (.ref fI))) (tI : PySem.W.typeIn X.K (.ref fI) = some (.type "function"))
    (F1 : FnOk X.prog X.w X.K X.mg X.base (L2.CX X.prog X.w) k fI fd ps (sp0 C)) (hr : Room (k + 1) X.A) (hb : Binds X.K fd ps []) (hg : Gl X x) (hm : X.mg x = some (.ref C)) (hdb : (x == ("__debug__" : Str)) = false := by decide) :
    PMk X (.Call (.Name x p) [] [] pos) (fun _ H Q => Q (.ref C) none H) := by
  intro pins s σ H Q I h
  obtain ⟨nm, q, N, bs, bm, sn, sub, ab, col, dd, k0, k1, k2, k3, k5, hC, hbm⟩ := T.cls
  refine wpAny_Call_Name_kw (ld_glob I hg hm ?_ hdb)
  refine PySem.W.callWith_K0 I.kIn T.kC ?_
  show wpAny _ _ (call (.ref C) []) _ _ _
  obtain ⟨hp, g, dr, tk, os⟩ := s
  have hsz : hp.objs.size ≤ hp.objs.size + 1 := Nat.le_succ _
  have kk : ∀ b o, hp.get? b = some o → ((hp.push (PySem.W.kdv_tup [])).push (PySem.HandSPX.excO C hp.objs.size)).get? b = some o := fun b o e => Heap.get?_push_of_some _ (Heap.get?_push_of_some _ e)
  have hget : ((hp.push (PySem.W.kdv_tup [])).push (PySem.HandSPX.excO C hp.objs.size)).get? (hp.objs.size + 1) = some (PySem.HandSPX.excO C hp.objs.size) := by heap_get
  have I2 : Inv X pins σ (upd H (hp.objs.size + 1) (exo (hp.objs.size + 1) C none)) ⟨(hp.push (PySem.W.kdv_tup [])).push (PySem.HandSPX.excO C hp.objs.size), g, dr, tk, os⟩ :=
    I.laid (t' := tk) (a := hp.objs.size + 1) (o := exo (hp.objs.size + 1) C none) kk hsz (exo_ok hget)
  have hq : sp0 C [.ref (hp.objs.size + 1)] (upd H (hp.objs.size + 1) (exo (hp.objs.size + 1) C none)) (fun v H2 => v = .non ∧ H2 = upd H (hp.objs.size + 1) (exo (hp.objs.size + 1) C none)) (fun _ _ _ => False) := ⟨_, rfl, upd_same, rfl, rfl⟩
  have r2 : Vals [V.ref (hp.objs.size + 1)] [Value.ref (hp.objs.size + 1)] := .cons rfl .nil
  have hl : [Value.ref (hp.objs.size + 1)].length = ps.length := by rw [← F1.len _ _ _ _ hq]; rfl
  have bb := hb _ [Value.ref (hp.objs.size + 1)] I2.kIn (by rw [List.append_nil]; exact hl)
  rw [List.append_nil] at bb
  refine wpAny_call (PySem.HandSPX.call_own F.excBase_ValueError (fun Y => PySem.HandSPX.refsVE_contains Y bm hbm) (I.kIn _ _ hC) (PySem.W.looks_findIn I.kIn iC) (fun self => PySem.W.bind_fn I.kIn self tI) (Nat.zero_le _) ?_)
  refine codeAny_mono (F1.run _ X.stack _ _ ⟨[Value.ref (hp.objs.size + 1)], []⟩ [Value.ref (hp.objs.size + 1)] _ _ (fun _ _ _ => False) (hr.make C [] []) (I2.env0.make C [] []) bb r2 hq) fun r s' hq' => ?_
  match r, hq' with
  | .error er, ⟨_, _, _, _, _, _, _, _, _, _, _, _, z⟩ => exact z.elim
  | .ok (.ret u), ⟨v, H2, os2, bare2, un2, hok2, rv, ev, eH⟩ =>
    subst ev eH
    obtain ⟨h2, g2, d2, t2, os'⟩ := s'
    exact ⟨rv, mk_bare (raises_own T.exC T.tyC) I hsz kk un2 hok2 os2 bare2 h⟩
  | .ok .next, z => exact z.elim
  | .ok .brk, z => exact z.elim
  | .ok .cont, z => exact z.elim
end
section
variable [Lk] {X : Cx} {w : WD} {c f x : Str} {e : Expr} {ta : DE} {p pos pos2 : Pos} {j : Nat}
def dRaise0 (w : WD) (c : Str) : DS := fun _ r m => w ⟨c, []⟩ r m
theorem js_raise0 (T : XK0 X.prog X.w X.K X.mg X.base c) (hc : X.calm = true) (tk : TakesD X w) (hr : Room j X.A) (hk : 2 ≤ j) (hg : Gl X c) (hdb : (c == ("__debug__" : Str)) = false := by decide) : JS X (.Raise (some (.Call (.Name c p) [] [] pos)) none pos2) (dRaise0 w c) := by
  obtain ⟨C, fI, fd, ps, ad, hm, T, iC, tI, F1, hb⟩ := T.ex
  refine ps_wk (ps_raise hc tk (pmk_bare T.ox iC tI F1 (hr.mono hk) hb hg hm hdb)) ?_
  rintro E s H ⟨W, F, m, r, d, rel, rs, h, -⟩
  exact ⟨W, m, r, ⟨c, []⟩, rel.lw, rel.toRel0.less rel.lf, rs, ⟨C, ad, rfl, .inl ⟨rfl, rfl⟩⟩, h⟩
end
/-- the class c' at C' asked of exceptions of the classes cs -/
structure XSub (K : PySem.W.Frag) (mg : Str → Option Value) (cs : List Str) (c' : Str) : Prop where
  ex : ∃ C', mg c' = some (.ref C') ∧ ∀ c ∈ cs, ∀ C, Cl.ad c = some C → PySem.W.exmOne K (.ref C) (.ref C') = some (isX c c')
theorem XSub.nil {K : PySem.W.Frag} {mg : Str → Option Value} {c' : Str} {C' : Addr} (h : mg c' = some (.ref C')) : XSub K mg [] c' := ⟨C', h, fun _ z => nomatch z⟩
theorem XSub.cons {K : PySem.W.Frag} {mg : Str → Option Value} {cs : List Str} {c c' : Str} {C C' : Addr} (h : mg c' = some (.ref C')) (a : Cl.ad c = some C) (e : PySem.W.exmOne K (.ref C) (.ref C') = some (isX c c')) (r : XSub K mg cs c') : XSub K mg (c :: cs) c' := by
  obtain ⟨C2, h2, r⟩ := r.ex
  have e2 : C2 = C' := by rw [h] at h2; cases h2; rfl
  subst e2
  refine ⟨C2, h, fun x hx D hD => ?_⟩
  rcases List.mem_cons.mp hx with z | z
  · subst z; rw [a] at hD; cases hD; exact e
  · exact r x z D hD
/-- try: body, except c: suite -/
def dTryOf (cs : List Str) (c : Str) (tb : WD → DS) (hd : Exn → DS) (w : WD) : DS := fun d r m =>
  tb (fun ex r1 m1 => ex.c ∈ cs ∧ (isX ex.c c = true → hd ex d r1 m1) ∧ (isX ex.c c = false → w ex r1 m1)) d r m
section
variable [Lk] {X : Cx} {c n : Str} {cs : List Str} {i : Nat} {body suite : List Stmt} {b₀ : Stmt} {np pos pos' : Pos} {tb : WD → DS} {w : WD}
theorem to0 {L : Lk} {K : PySem.W.Frag} {W : Wd} {F H : Hp} {m : Sto} (r : @Rel _ L K W F H m) : Rel0 K W F H m := @Rel.toRel0 _ L K W F H m r
theorem lift_on {L : Lk} {K : PySem.W.Frag} {W W1 : Wd} {F H : Hp} {m : Sto} {d : DEnds} {E : Ends} (r : @Rel _ L K W F H m) (l1 : W.Le W1) (k : @LiftD _ L K W F d E) : @LiftD _ ⟨W1, F⟩ K W1 F d E :=
  @LiftD.mk _ ⟨W1, F⟩ K W1 F d E (fun W' H' m' s' r' l rl => @LiftD.nx _ L _ _ _ _ _ k W' H' m' s' r' (l1.trans l) (@Rel.of _ L _ _ _ _ _ _ _ _ r (l1.trans l) (to0 rl)))
    (fun W' H' m' v x l rl => @LiftD.rt _ L _ _ _ _ _ k W' H' m' v x (l1.trans l) (@Rel.of _ L _ _ _ _ _ _ _ _ r (l1.trans l) (to0 rl)))
    (fun W' H' m' s' r' l rl => @LiftD.bk _ L _ _ _ _ _ k W' H' m' s' r' (l1.trans l) (@Rel.of _ L _ _ _ _ _ _ _ _ r (l1.trans l) (to0 rl)))
    (fun W' H' m' s' r' l rl => @LiftD.ct _ L _ _ _ _ _ k W' H' m' s' r' (l1.trans l) (@Rel.of _ L _ _ _ _ _ _ _ _ r (l1.trans l) (to0 rl)))
theorem rel_new {K : PySem.W.Frag} {W : Wd} {F H : Hp} {m : Sto} (r : Rel0 K W F H m) : @Rel _ ⟨W, F⟩ K W F H m := @Rel.mk _ ⟨W, F⟩ K W F H m r (.refl _) (Same.refl _)
theorem body_wk (hb : ∀ [Lk] (wd : WD) (pn : List (Addr × Obj)) (xe : Value → Shared → Prop), TakesD (X.tr pn xe) wd → PassesOwn (model X.prog X.w) X.A X.env xe → JSs (X.tr pn xe) body (tb wd)) (V : WX) (pn : List (Addr × Obj)) (xe : Value → Shared → Prop)
    (tk : Takes (X.tr pn xe) V) (po : PassesOwn (model X.prog X.w) X.A X.env xe) : PSs (X.tr pn xe) body (fun D σ H => ∃ (L : Lk) (wd : WD), (∀ cls d σ H, @liftW _ L X.K wd cls d σ H → V cls d σ H) ∧ @liftS _ L X.K (tb wd) D σ H) :=
  ⟨fun p s a H D I ⟨L, wd, hw, h⟩ => (@hb L wd pn xe (tk.imp hw) po).run p s a H D I h⟩
theorem js_tryOf {hd : Exn → DS} (T : XSub X.K X.mg cs c) (hs : X.stack = X.env :: X.outer) (hf : X.env.frame = some X.env.locals) (hg : Gl X c) (hdb : (c == ("__debug__" : Str)) = false) (tk : TakesD X w)
    (hb : ∀ [Lk] (wd : WD) (pn : List (Addr × Obj)) (xe : Value → Shared → Prop), TakesD (X.tr pn xe) wd → PassesOwn (model X.prog X.w) X.A X.env xe → JSs (X.tr pn xe) body (tb wd))
    (hsu : ∀ [Lk] (ex : Exn) (a : Addr) (oe : Obj) (cls : Value) (d : Option Addr) (pn : List (Addr × Obj)), ex.c ∈ cs → Zc cls d oe → (∃ vs, oe.data = .fields vs) → RX X.K Lk.W0 cls d ex → JSs (X.suite a ((a, oe) :: pn)) (b₀ :: suite) (hd ex)) :
    JS X (.Try body [.ExceptHandler (some (.Name c np)) none (b₀ :: suite) pos'] [] [] pos) (dTryOf cs c tb hd w) := by
  obtain ⟨C', hm, T⟩ := T.ex
  refine ps_wk (ps_try_only (Wout := liftW X.K w) (ts := fun a cls d E σ H => ∃ (L : Lk) (ex : Exn), ex.c ∈ cs ∧ RX X.K L.W0 cls d ex ∧ @liftS _ L X.K (hd ex) E σ H) hs hf ⟨hg, hdb, .inl hm⟩ tk (body_wk hb) fun a oe cls d pn hz hfl => ⟨fun p s σ H D I ⟨L, ex, hin, rx, h⟩ => (@hsu L ex a oe cls d pn hin hz hfl rx).run p s σ H D I h⟩) ?_
  rintro E s H ⟨W, F, m, r, d, rel, rs, h, L⟩
  refine ⟨⟨W, F⟩, _, ?_, W, F, m, r, d, rel_new (to0 rel), rs, h, lift_on rel (.refl _) L⟩
  rintro cls dd σ H1 ⟨W1, m1, r1, ex, l1, rel1, rs1, rx, hin, hyes, hno⟩
  obtain ⟨C, ad, rfl, rxx⟩ := id rx
  have l1' : W.Le W1 := l1
  have rel1' : Rel0 X.K W1 F H1 m1 := rel1
  refine ⟨isX ex.c c, T _ hin C ad, fun q a na => ?_, fun q => ?_⟩
  · exact ⟨⟨W1, F⟩, ex, hin, rx, W1, F, m1, r1, d, rel_new rel1', rs1, hyes q, lift_on rel l1' L⟩
  · exact ⟨W1, m1, r1, ex, rel.lw.trans l1', rel1'.less rel.lf, rs1, rx, hno q⟩
end
end DL
namespace DL
open PySem PySem.Spec PyProof.Rows L2
def intsOf : List D → Option (List Int)
  | [] => some []
  | .int i :: ds => (intsOf ds).map (i :: ·)
  | _ :: _ => none
theorem intsOf_eq : ∀ {ds : List D} {ns : List Int}, intsOf ds = some ns → ds = ns.map D.int
  | [], _, e => by cases e; rfl
  | .int i :: ds, ns, e => by
    simp only [intsOf, Option.map_eq_some_iff] at e
    obtain ⟨l, e, rfl⟩ := e
    rw [intsOf_eq e]; rfl
  | .non :: _, _, e | .bl _ :: _, _, e | .str _ :: _, _, e | .tup _ :: _, _, e | .lst _ :: _, _, e | .fz _ :: _, _, e | .ptr _ :: _, _, e | .ty _ :: _, _, e | .dic _ :: _, _, e | .adr _ :: _, _, e | .gl _ :: _, _, e => by cases e
theorem intsOf_map : ∀ {ns : List Int}, intsOf (ns.map D.int) = some ns
  | [] => rfl
  | n :: ns => by show (intsOf (ns.map D.int)).map (n :: ·) = _; rw [intsOf_map]; rfl
section
variable [Cl]
theorem ra_ints_eq {K : PySem.W.Frag} {W : Wd} : ∀ {ns : List Int} {vs : List V}, RA K W vs (ns.map D.int) → vs = ns.map V.int
  | [], _, .nil => rfl
  | _ :: _, _, .cons h r => by cases h; rw [ra_ints_eq r]; rfl
end
section
variable [Cl] [Lk]
theorem cr_or {X : Cx} {f : Value} {r r' : List V → Hp → VK → Prop} (h : CallR X f r) (h' : CallR X f r') : CallR X f (fun xs H Q => r xs H Q ∨ r' xs H Q) := by
  intro pins s σ H xs us Q I rr z
  rcases z with z | z
  · exact h pins s σ H xs us Q I rr z
  · exact h' pins s σ H xs us Q I rr z
variable {X : Cx} {a b e o : Expr} {ta tb te to : DE} {p pos apos : Pos} {rest : List Expr}
def dFrz (te : DE) : DE := fun r m q => te r m fun x m1 => match x with
  | .ptr i => onS (lstOf (.ptr i) m1) fun ds => q (.lst ds) (m1.set i .dead)
  | x => q x m1
theorem je_frz (he : JE X e te) : JE X e (dFrz te) := pe_wk he fun s H Q ⟨W, F, m, r, q, rel, rs, h, k⟩ => by
  refine ⟨W, F, m, r, _, rel, rs, h, fun W1 H1 m1 v d l1 rel1 rv hq => ?_⟩
  by_cases hp : ∃ i, d = .ptr i
  · obtain ⟨i, rfl⟩ := hp
    obtain ⟨ds, e1, hq⟩ := onS_some hq
    obtain ⟨a, xs, rfl, h1, h2⟩ := lstOf_at rel1 rv e1
    cases rv with
    | ptr hb =>
      have hm : m1[i]? = some (.lst ds) := by
        unfold lstOf at e1
        cases q : m1[i]? with
        | none => simp only [q] at e1; cases e1
        | some c => cases c <;> simp only [q] at e1 <;> cases e1; rfl
      obtain ⟨f1, f2⟩ := rel1.toRel0.freeze hb hm (fun z => by cases z) h1
      exact k _ _ _ _ _ (l1.trans f2) ⟨f1, rel1.lw.trans f2, rel1.lf⟩ (.lst upd_same (h2.mono f2)) hq
  · have hq' : q d m1 := by
      cases d <;> first | exact hq | exact absurd ⟨_, rfl⟩ hp
    exact k _ _ _ _ _ l1 rel1 rv hq'
theorem mid_get {c x : Cell} {ms dn : Sto} : (c :: (ms ++ x :: dn))[ms.length + 1]? = some x := by simp
theorem mid_set {c x y : Cell} {ms dn : Sto} : (c :: (ms ++ x :: dn)).set (ms.length + 1) y = c :: (ms ++ y :: dn) := by simp
theorem lst_mid {c : Cell} {ms dn : Sto} {ds : List D} : lstOf (.ptr (ms.length + 1)) (c :: (ms ++ Cell.lst ds :: dn)) = some ds := lstOf_ptr mid_get
end
end DL
namespace DL
open PySem PySem.Spec PyProof.Rows L2
def FN.toX (f : FN) : FNX := fun ds m q _ => f ds m q
variable [Cl]
theorem fng_x {P : Program} {w : World} {K : PySem.W.Frag} {mg : Str → Option Value} {base : Heap} {k n : Nat} {fa : Addr} {fd : FuncData} {ps : List Str} {g : FN} (G : FnG P w K mg base k fa fd ps (spOf K n g)) : FnG P w K mg base k fa fd ps (spOfX K n g.toX) := by
  have wk : ∀ vs H Q E, spOfX K n g.toX vs H Q E → spOf K n g vs H Q E := fun vs H Q E ⟨hl, W, F, m, ds, q, xq, rel, ra, h, k, _⟩ => ⟨hl, W, F, m, ds, q, rel, ra, h, k⟩
  exact ⟨fun vs H Q E h => G.len _ _ _ _ (wk _ _ _ _ h), fun A outer s H args us vs Q E hr gd e0 hb r h => G.run A outer s H args us vs Q E hr gd e0 hb r (wk _ _ _ _ h)⟩
structure KnA (K : PySem.W.Frag) (c f : Str) : Prop where
  ex : ∃ C, Cl.ad c = some C ∧ Cls K C ∧ NoAttr K C f
structure KnM (P : Program) (w : World) (K : PySem.W.Frag) (mg : Str → Option Value) (base : Heap) (k : Nat) (c mn : Str) (g : FNX) : Prop where
  ex : ∃ (C fa : Addr) (fd : FuncData) (ps : List Str) (n : Nat), Cl.ad c = some C ∧ Cls K C ∧ Meth K C mn fa ∧ FnG P w K mg base k fa fd ps (spOfX K n g) ∧ Binds K fd ps [] ∧ ∀ ds m q xq, g ds m q xq → ds.length = n
structure KnI (P : Program) (w : World) (K : PySem.W.Frag) (mg : Str → Option Value) (base : Heap) (k : Nat) (c : Str) (g : FNX) : Prop where
  ex : ∃ (C fa : Addr) (fd : FuncData) (ps : List Str) (n : Nat), Cl.ad c = some C ∧ mg c = some (.ref C) ∧ Mk K C fa ∧ FnG P w K mg base k fa fd ps (spOfX K n g) ∧ Binds K fd ps [] ∧ ∀ ds m q xq, g ds m q xq → ds.length = n
/-- a function of a class, read off the class -/
structure KnS (P : Program) (w : World) (K : PySem.W.Frag) (mg : Str → Option Value) (base : Heap) (k : Nat) (c mn : Str) (g : FNX) : Prop where
  ex : ∃ (C fa : Addr) (fd : FuncData) (ps : List Str) (n : Nat), mg c = some (.ref C) ∧ PySem.W.specialIn K (.ref C) "__getattribute__" = some (some (.builtin "type.__getattribute__")) ∧ PySem.W.readsIn K C (.type "type") = true ∧
    PySem.W.findCls K (.ref C) (.type "type") mn = some (.val (.ref fa)) ∧ PySem.W.keepIn K (.ref fa) = true ∧ FnG P w K mg base k fa fd ps (spOfX K n g) ∧ Binds K fd ps [] ∧ ∀ ds m q xq, g ds m q xq → ds.length = n
section
variable [Lk] {K : PySem.W.Frag} {W : Wd} {F H : Hp} {m : Sto} {x : V} {j : Nat} {c : Str} {fs : List (Str × D)}
theorem ins_at (rel : Rel K W F H m) (rv : R K W x (.ptr j)) (e : m[j]? = some (.ins c fs)) : ∃ a C dx us, x = .ref a ∧ W.be[j]? = some a ∧ Cl.ad c = some C ∧ H a = some (.ins C dx us) ∧ W.st dx = some (.own a) ∧ RF K W us fs := by
  cases rv with
  | @ptr a _ hb =>
    obtain ⟨b, h1, h2, h3, C, dx, us, h4, h5, h6, h7⟩ := rel.cell j _ e (fun z => by cases z)
    obtain rfl : b = a := Option.some.inj (h1.symm.trans hb)
    exact ⟨b, C, dx, us, rfl, hb, h4, h5, h6, h7⟩
def putD (f : Str) (y : D) : List (Str × D) → List (Str × D)
  | [] => [(f, y)]
  | (g, x) :: r => if g = f then (g, y) :: r else (g, x) :: putD f y r
theorem RF.put {f : Str} {v : V} {d : D} (h : R K W v d) : ∀ {us : List (Str × V)} {fs : List (Str × D)}, RF K W us fs → RF K W (L2.putF f v us) (putD f d fs)
  | _, _, .nil => .cons h .nil
  | _, _, .cons (x := g) q r => by
    unfold putF putD
    by_cases e : g = f
    · rw [if_pos e, if_pos e]; exact .cons h r
    · rw [if_neg e, if_neg e]; exact .cons q (RF.put h r)
end
def dFld (cs : List Str) (f : Str) (to : DE) : DE := fun r m q => to r m fun x m1 => match x with
  | .ptr j => match m1[j]? with
    | some (.ins c fs) => c ∈ cs ∧ onS (fs.lookup f) fun v => q v m1
    | _ => False
  | _ => False
def dSetF (cs : List Str) (f : Str) (to tv : DE) : DS := fun d r m => tv r m fun y m1 => to r m1 fun x m2 => match x with
  | .ptr j => match m2[j]? with
    | some (.ins c fs) => (c ∈ cs ∧ fs.length < 1000) ∧ d.nx r (m2.set j (.ins c (putD f y fs)))
    | _ => False
  | _ => False
section
variable [Lk] {X : Cx} {cs : List Str} {f : Str} {o e : Expr} {to tv : DE} {pos pos' : Pos}
theorem je_fld (T : ∀ c ∈ cs, KnA X.K c f) (he : JE X o to) (hb : attributeBase o f X.env (eval o X.env) = eval o X.env := by rfl) : JE X (.Attribute o f pos) (dFld cs f to) :=
  pe_wk (pe_fld he hb) fun s H Q ⟨W, F, m, r, q, rel, rs, h, k⟩ => by
    refine ⟨W, F, m, r, _, rel, rs, h, fun W1 H1 m1 v d l1 rel1 rv hq => ?_⟩
    cases d with
    | ptr j =>
      cases hm : m1[j]? with
      | none => simp only [hm] at hq
      | some cl =>
        cases cl with
        | ins c fs =>
          simp only [hm] at hq
          obtain ⟨hc, hq⟩ := hq
          obtain ⟨y, e1, hq⟩ := onS_some hq
          obtain ⟨a, C, dx, us, rfl, hb, ad, h1, h2, rf⟩ := ins_at rel1 rv hm
          obtain ⟨C', ad', cls, na⟩ := (T c hc).ex
          rw [ad] at ad'; cases ad'
          obtain ⟨u, e2, ru⟩ := rf.look e1
          exact ⟨a, C, dx, us, u, rfl, h1, cls, na, e2, k _ _ _ _ _ l1 rel1 ru hq⟩
        | _ => simp only [hm] at hq
    | _ => exact hq.elim
theorem js_fld (T : ∀ c ∈ cs, KnA X.K c f) (he : JE X o to) (hv : JE X e tv) (hs : swapsWith e (some (.Attribute o f pos')) pos.line X.env = pure false := by rfl) : JS X (.Assign [.Attribute o f pos'] e pos) (dSetF cs f to tv) :=
  ps_wk (ps_fld he hv hs) fun E s H ⟨W, F, m, r, d, rel, rs, h, L⟩ => by
    refine ⟨W, F, m, r, _, rel, rs, h, fun W1 H1 m1 u y l1 rel1 ru hq => ?_⟩
    refine ⟨W1, F, m1, r, _, rel1, rs.mono l1, hq, fun W2 H2 m2 v x l2 rel2 rv hq2 => ?_⟩
    cases x with
    | ptr j =>
      cases hm : m2[j]? with
      | none => simp only [hm] at hq2
      | some cl =>
        cases cl with
        | ins c fs =>
          simp only [hm] at hq2
          obtain ⟨⟨hc, hl⟩, hq2⟩ := hq2
          obtain ⟨a, C, dx, us, rfl, hb, ad, h1, h2, rf⟩ := ins_at rel2 rv hm
          obtain ⟨C', ad', cls, na⟩ := (T c hc).ex
          rw [ad] at ad'; cases ad'
          refine ⟨a, C, dx, us, rfl, h1, cls, na, by rw [rf.len]; exact hl, ?_⟩
          refine L.nx W2 _ _ _ _ (l1.trans l2) (rel2.write hb hm (fun z => by cases z) (fun z => by cases z) ?_) (rs.mono (l1.trans l2)) hq2
          exact ⟨C, dx, _, ad, upd_same, h2, RF.put (ru.mono l2) rf⟩
        | _ => simp only [hm] at hq2
    | _ => exact hq2.elim
end
def dMethX (tbl : List (Str × FNX)) (w : WD) (mn : Str) (to : DE) (ta : DA) : DE := fun r m q => to r m fun x m1 => match x with
  | .ptr j => match m1[j]? with
    | some (.ins c fs) => onS (tbl.lookup c) fun g => fs.lookup mn = none ∧ ta r m1 fun xs m2 => g (.ptr j :: xs) m2 q fun ex m3 => w ex r m3
    | _ => False
  | _ => False
section
variable [Lk] {X : Cx} {k j : Nat} {tbl : List (Str × FNX)} {w : WD} {mn : Str} {o e : Expr} {es : List Expr} {to : DE} {ta : DA} {apos pos : Pos} {pl : Sem Bool}
theorem meth_spec {g : FNX} {n : Nat} {W W1 : Wd} {F H1 : Hp} {m1 : Sto} {r : DSt} {q : D → Sto → Prop} {Q : VK} {s : L2.St} {x : V} {d : D} {vs : List V} {ds : List D} (har : ∀ ds m q xq, g ds m q xq → ds.length = n) (rs : RSt X.K W s r) (l1 : W.Le W1) (rel1 : Rel X.K W1 F H1 m1) (rx : R X.K W1 x d) (ra : RA X.K W1 vs ds)
    (k : Fol X.K W F q Q) (h : g (d :: ds) m1 q fun ex m3 => w ex r m3) : spOfX X.K n g (x :: vs) H1 Q (WE (liftW X.K w) s) := by
  refine ⟨by rw [(RA.cons rx ra).len]; exact har _ _ _ _ h, W1, F, m1, d :: ds, q, _, rel1.toRel0, .cons rx ra, h, fun W2 H2 m2 v d l2 rel2 => k W2 H2 m2 v d (l1.trans l2) (rel1.of l2 rel2), fun W2 H2 m2 cls d ex l2 rel2 rx hw => ?_⟩
  exact ⟨W2, m2, r, ex, rel1.lw.trans l2, rel2.less rel1.lf, rs.mono (l1.trans l2), rx, hw⟩
theorem je_meth (T : ∀ c g, tbl.lookup c = some g → KnM X.prog X.w X.K X.mg X.base k c mn g) (tk : TakesD X w) (hr : Room j X.A) (hk : k ≤ j) (gd : X.A.guards = some []) (he : JE X o to) (ha : JA X (e :: es) ta)
    (hst : starEach (e :: es) X.env = (false, eval e X.env) :: starEach es X.env := by rfl) (hpl : (backTo pos (starEach es X.env)).any (·.1) = false := by rfl)
    (ht : eval (.Call (.Attribute o mn apos) (e :: es) [] pos) X.env = (do
      let ov ← eval o X.env
      standAt apos.atName
      let (f, first) ← holding [ov] (getMethod ov mn pl)
      callWith pos f first (backTo pos (starEach (e :: es) X.env)) (backToKw pos (keywordEach [] X.env))) := by rfl) : JE X (.Call (.Attribute o mn apos) (e :: es) [] pos) (dMethX tbl w mn to ta) := by
  refine ⟨fun pins s sg H Q I ⟨W, F, m, r, q, rel, rs, h, kk⟩ => ?_⟩
  refine PySem.W.methodCall_KW (pl := pl) (thn (he.run pins s sg H (fun x H1 => ∃ W1 m1 d, W.Le W1 ∧ Rel X.K W1 F H1 m1 ∧ R X.K W1 x d ∧ match d with
    | .ptr j => match m1[j]? with
      | some (.ins c fs) => onS (tbl.lookup c) fun g => fs.lookup mn = none ∧ ta r m1 fun xs m2 => g (.ptr j :: xs) m2 q fun ex m3 => w ex r m3
      | _ => False
    | _ => False) I ⟨W, F, m, r, _, rel, rs, h, fun W1 H1 m1 v d l1 rel1 rv hq => ⟨W1, m1, d, l1, rel1, rv, hq⟩⟩) ?_) ht
  rintro u s1 ⟨x, H1, I1, rx, W1, m1, d, l1, rel1, rv, hq⟩
  cases d with
  | ptr i =>
    cases hm : m1[i]? with
    | none => simp only [hm] at hq
    | some cl =>
      cases cl with
      | ins c fs =>
        simp only [hm] at hq
        obtain ⟨g, e1, nl, hq⟩ := onS_some hq
        obtain ⟨a, C, dx, us, rfl, hb, ad, h1, h2, rf⟩ := ins_at rel1 rv hm
        obtain ⟨C', fa, fd, ps, n, ad', cls, mt, G, hbd, har⟩ := (T c g e1).ex
        rw [ad] at ad'; cases ad'
        obtain rfl : u = Value.ref a := rx
        refine getmeth_ok I1 h1 cls mt (rf.look0 nl) ?_
        refine PySem.W.callWith_K (first := [.ref a]) (h₀ := X.base) I.ok.mod.kin mt.kp (thn (ha.run pos pins s1 sg H1 (fun vs H2 => spOfX X.K n g (.ref a :: vs) H2 Q (WE (liftW X.K w) sg)) I1 ⟨W1, F, m1, r, _, rel1, rs.mono l1, hq, fun W2 H2 m2 vs ds l2 rel2 ra hg => ?_⟩) ?_) hst hpl
        · exact meth_spec har rs (l1.trans l2) rel2 (rv.mono l2) ra kk hg
        · rintro vs s2 ⟨xs, H2, I2, r2, sp⟩
          exact ⟨I2.kIn, run_gS (us := .ref a :: vs) (vs := .ref a :: xs) G (hr.mono hk) gd hbd (passAt tk sg) I2 (.cons rfl r2) sp⟩
      | _ => simp only [hm] at hq
  | _ => exact hq.elim
theorem je_meth0 (T : ∀ c g, tbl.lookup c = some g → KnM X.prog X.w X.K X.mg X.base k c mn g) (tk : TakesD X w) (hr : Room j X.A) (hk : k ≤ j) (gd : X.A.guards = some []) (he : JE X o to)
    (ht : eval (.Call (.Attribute o mn apos) [] [] pos) X.env = (do
      let ov ← eval o X.env
      standAt apos.atName
      let (f, first) ← holding [ov] (getMethod ov mn pl)
      callWith pos f first (backTo pos (starEach [] X.env)) (backToKw pos (keywordEach [] X.env))) := by rfl) : JE X (.Call (.Attribute o mn apos) [] [] pos) (dMethX tbl w mn to dNil) := by
  refine ⟨fun pins s sg H Q I ⟨W, F, m, r, q, rel, rs, h, kk⟩ => ?_⟩
  refine PySem.W.methodCall_KW (pl := pl) (thn (he.run pins s sg H (fun x H1 => ∃ W1 m1 d, W.Le W1 ∧ Rel X.K W1 F H1 m1 ∧ R X.K W1 x d ∧ match d with
    | .ptr j => match m1[j]? with
      | some (.ins c fs) => onS (tbl.lookup c) fun g => fs.lookup mn = none ∧ g [.ptr j] m1 q fun ex m3 => w ex r m3
      | _ => False
    | _ => False) I ⟨W, F, m, r, _, rel, rs, h, fun W1 H1 m1 v d l1 rel1 rv hq => ⟨W1, m1, d, l1, rel1, rv, hq⟩⟩) ?_) ht
  rintro u s1 ⟨x, H1, I1, rx, W1, m1, d, l1, rel1, rv, hq⟩
  cases d with
  | ptr i =>
    cases hm : m1[i]? with
    | none => simp only [hm] at hq
    | some cl =>
      cases cl with
      | ins c fs =>
        simp only [hm] at hq
        obtain ⟨g, e1, nl, hq⟩ := onS_some hq
        obtain ⟨a, C, dx, us, rfl, hb, ad, h1, h2, rf⟩ := ins_at rel1 rv hm
        obtain ⟨C', fa, fd, ps, n, ad', cls, mt, G, hbd, har⟩ := (T c g e1).ex
        rw [ad] at ad'; cases ad'
        obtain rfl : u = Value.ref a := rx
        refine getmeth_ok I1 h1 cls mt (rf.look0 nl) ?_
        exact PySem.W.callWith_K0 (first := [.ref a]) I1.kIn mt.kp (run_gS (us := [.ref a]) (vs := [.ref a]) G (hr.mono hk) gd hbd (passAt tk sg) I1 (.cons rfl .nil) (meth_spec har rs l1 rel1 rv .nil kk hq))
      | _ => simp only [hm] at hq
  | _ => exact hq.elim
theorem je_clsm {c : Str} {g : FNX} {np : Pos} (T : KnS X.prog X.w X.K X.mg X.base k c mn g) (tk : TakesD X w) (hr : Room j X.A) (hk : k ≤ j) (gd : X.A.guards = some []) (hg : Gl X c) (ha : JA X (e :: es) ta) (hdb : (c == ("__debug__" : Str)) = false := by decide)
    (hst : starEach (e :: es) X.env = (false, eval e X.env) :: starEach es X.env := by rfl) (hpl : (backTo pos (starEach es X.env)).any (·.1) = false := by rfl)
    (ht : eval (.Call (.Attribute (.Name c np) mn apos) (e :: es) [] pos) X.env = (do
      let ov ← eval (.Name c np) X.env
      standAt apos.atName
      let (f, first) ← holding [ov] (getMethod ov mn pl)
      callWith pos f first (backTo pos (starEach (e :: es) X.env)) (backToKw pos (keywordEach [] X.env))) := by rfl) : JE X (.Call (.Attribute (.Name c np) mn apos) (e :: es) [] pos) (dCallX g w ta) := by
  obtain ⟨C, fa, fd, ps, n, hm, ga, rd, fc, kp, G, hb, har⟩ := T.ex
  refine ⟨fun pins s sg H Q I ⟨W, F', m, r, q, rel, rs, h, kk⟩ => ?_⟩
  refine PySem.W.methodCall_KW (ld_glob I hg hm ?_ hdb) ht
  refine PySem.W.method_cls I.kIn ga (PySem.W.cls_value I.kIn rd fc rfl ?_)
  refine PySem.W.callWith_K (h₀ := X.base) I.ok.mod.kin kp (thn (ha.run pos pins _ sg H (fun vs H1 => spOfX X.K n g vs H1 Q (WE (liftW X.K w) sg)) (I.tok _) ?_) ?_) hst hpl
  · refine ⟨W, F', m, r, _, rel, rs, h, fun W1 H1 m1 vs ds l1 rel1 ra hf => ?_⟩
    refine ⟨by rw [ra.len]; exact har _ _ _ _ hf, W1, F', m1, ds, q, _, rel1.toRel0, ra, hf, fun W2 H2 m2 v d l2 rel2 => kk W2 H2 m2 v d (l1.trans l2) (rel1.of l2 rel2), fun W2 H2 m2 cls d ex l2 rel2 rx hw => ?_⟩
    exact ⟨W2, m2, r, ex, rel1.lw.trans l2, rel2.less rel1.lf, rs.mono (l1.trans l2), rx, hw⟩
  · rintro us s1 ⟨vs, H1, I1, r, sp⟩
    exact ⟨I1.kIn, run_gS G (hr.mono hk) gd hb (passAt tk sg) I1 r sp⟩
end
def dMakeX (g : FNX) (c : Str) (w : WD) (ta : DA) : DE := fun r m q => ta r m fun xs m1 => g (.ptr m1.length :: xs) (m1 ++ [.ins c []]) (fun v m2 => v = .non ∧ q (.ptr m1.length) m2) fun ex m2 => w ex r m2
section
variable [Lk] {X : Cx} {k j : Nat} {w : WD} {c : Str} {g : FNX} {e : Expr} {es : List Expr} {ta : DA} {p pos : Pos}
theorem make_run {C fa : Addr} {fd : FuncData} {ps : List Str} {sp : Sp} {E : XK} {pins : List (Addr × Obj)} {σ : L2.St} {H : Hp} {s : Shared} {Q : VK} {us : List Value} {vs : List V} (M : Mk X.K C fa) (G : FnG X.prog X.w X.K X.mg X.base k fa fd ps sp) (hr : Room (k + 1) X.A) (gd : X.A.guards = some []) (hb : Binds X.K fd ps []) (hx : PassesAt (L2.CX X.prog X.w) X σ E) (I : Inv X pins σ H s) (r : Vals vs us)
    (h : ∀ x dx, H x = none → H dx = none → dx ≠ x → sp (.ref x :: vs) (upd (upd H dx (.own x)) x (.ins C dx [])) (fun v H2 => v = .non ∧ Q (.ref x) H2) E) : wpAny (model X.prog X.w) X.A (call (.ref C) us) (EP X pins σ Q) X.xe s := by
  have hq := h (s.heap.objs.size + 1) s.heap.objs.size (I.hok.fresh (Nat.le_succ _)) (I.hok.fresh (Nat.le_refl _)) (Nat.ne_of_lt (Nat.lt_succ_self _))
  have J := Inv.made (C := C) I
  have rr : Vals (V.ref (s.heap.objs.size + 1) :: vs) (Value.ref (s.heap.objs.size + 1) :: us) := .cons rfl r
  have hl : (Value.ref (s.heap.objs.size + 1) :: us).length = ps.length := by rw [← rr.length]; exact G.len _ _ _ _ hq
  have bb := hb _ (Value.ref (s.heap.objs.size + 1) :: us) J.kIn (by rw [List.append_nil]; exact hl)
  rw [List.append_nil] at bb
  refine wpAny_call (make_map (f := fa) I.kIn M.makes M.init (beq_iff_eq.mp M.fn) (codeAny_mono (G.run _ X.stack _ _ ⟨Value.ref (s.heap.objs.size + 1) :: us, []⟩ (Value.ref (s.heap.objs.size + 1) :: us) _ _ E (hr.make C us []) gd (J.env0.make C us []) bb rr hq) fun res s' hq' => ?_))
  match res, hq' with
  | .error er, hq' => exact hx pins _ _ er s' J hq'
  | .ok (.ret u), hq' =>
    obtain ⟨v, H', J3, rv, ⟨ev, q3⟩⟩ := J.after hq'
    subst ev
    exact ⟨rv, ⟨V.ref (s.heap.objs.size + 1), H', J3, rfl, q3⟩⟩
  | .ok .next, z => exact z.elim
  | .ok .brk, z => exact z.elim
  | .ok .cont, z => exact z.elim
theorem made_rel {K : PySem.W.Frag} {W : Wd} {F H : Hp} {m : Sto} {C x dx : Addr} (rel : Rel K W F H m) (ad : Cl.ad c = some C) (hx : H x = none) (hd : H dx = none) (ne : dx ≠ x) :
    Rel K ⟨W.be ++ [x], upd W.st dx (.own x)⟩ F (upd (upd H dx (.own x)) x (.ins C dx [])) (m ++ [.ins c []]) ∧ W.Le ⟨W.be ++ [x], upd W.st dx (.own x)⟩ := by
  have l1 := cold_le (o := .own x) rel.toRel0 hd
  have r1 := rel.cold (o := .own x) hd
  have hx' : (upd H dx (.own x)) x = none := by rw [upd_ne (Ne.symm ne)]; exact hx
  have r2 := r1.hot (o := .ins C dx []) (c := .ins c []) hx' ⟨C, dx, [], ad, upd_same, upd_same, .nil⟩
  exact ⟨r2, l1.trans hot_le⟩
theorem make_wk {C : Addr} {n : Nat} {W : Wd} {F : Hp} {r : DSt} {q : D → Sto → Prop} {Q : VK} {s : L2.St} {W1 : Wd} {H1 : Hp} {m1 : Sto} {vs : List V} {ds : List D} (har : ∀ ds m q xq, g ds m q xq → ds.length = n) (ad : Cl.ad c = some C) (rs : RSt X.K W s r) (kk : Fol X.K W F q Q) (l1 : W.Le W1) (rel1 : Rel X.K W1 F H1 m1) (ra : RA X.K W1 vs ds)
    (hf : g (.ptr m1.length :: ds) (m1 ++ [.ins c []]) (fun v m2 => v = .non ∧ q (.ptr m1.length) m2) fun ex m2 => w ex r m2) (x dx : Addr) (hx : H1 x = none) (hd : H1 dx = none) (ne : dx ≠ x) :
    spOfX X.K n g (.ref x :: vs) (upd (upd H1 dx (.own x)) x (.ins C dx [])) (fun v H2 => v = .non ∧ Q (.ref x) H2) (WE (liftW X.K w) s) := by
  obtain ⟨rel2, l2⟩ := made_rel rel1 ad hx hd ne
  have ptr : R X.K ⟨W1.be ++ [x], upd W1.st dx (.own x)⟩ (.ref x) (.ptr m1.length) := .ptr (hot_at (p := x) rel1.toRel0)
  refine ⟨by rw [List.length_cons, ra.len]; exact har _ _ _ _ hf, _, F, _, .ptr m1.length :: ds, _, _, rel2.toRel0, .cons ptr (ra.mono l2), hf, fun W2 H2 m2 v d l3 rel3 rv hq => ?_, fun W2 H2 m2 cls d ex l3 rel3 rx hw => ?_⟩
  · obtain ⟨rfl, hq⟩ := hq
    cases rv
    exact ⟨rfl, kk W2 H2 m2 _ _ (l1.trans (l2.trans l3)) (rel2.of l3 rel3) (ptr.mono l3) hq⟩
  · exact ⟨W2, m2, r, ex, rel2.lw.trans l3, rel3.less rel2.lf, rs.mono (l1.trans (l2.trans l3)), rx, hw⟩
theorem je_make (T : KnI X.prog X.w X.K X.mg X.base k c g) (tk : TakesD X w) (hr : Room j X.A) (hk : k + 1 ≤ j) (gd : X.A.guards = some []) (hg : Gl X c) (ha : JA X (e :: es) ta) (hdb : (c == ("__debug__" : Str)) = false := by decide)
    (he : starEach (e :: es) X.env = (false, eval e X.env) :: starEach es X.env := by rfl) (hpl : (backTo pos (starEach es X.env)).any (·.1) = false := by rfl) : JE X (.Call (.Name c p) (e :: es) [] pos) (dMakeX g c w ta) := by
  obtain ⟨C, fa, fd, ps, n, ad, hm, M, G, hb, har⟩ := T.ex
  refine ⟨fun pins s sg H Q I ⟨W, F', m, r, q, rel, rs, h, kk⟩ => wpAny_Call_Name_kw (ld_glob I hg hm ?_ hdb)⟩
  refine PySem.W.callWith_K (h₀ := X.base) I.ok.mod.kin M.kp (thn (ha.run pos pins s sg H (fun vs H1 => ∀ x dx, H1 x = none → H1 dx = none → dx ≠ x → spOfX X.K n g (.ref x :: vs) (upd (upd H1 dx (.own x)) x (.ins C dx [])) (fun v H2 => v = .non ∧ Q (.ref x) H2) (WE (liftW X.K w) sg)) I ?_) ?_) he hpl
  · exact ⟨W, F', m, r, _, rel, rs, h, fun W1 H1 m1 vs ds l1 rel1 ra hf => make_wk har ad rs kk l1 rel1 ra hf⟩
  · rintro us s1 ⟨vs, H1, I1, rv, sp⟩
    exact ⟨I1.kIn, make_run M G (hr.mono hk) gd hb (passAt tk sg) I1 rv sp⟩
end
end DL
namespace DL
open PySem PySem.Spec PyProof.Rows L2
abbrev noW : WD := fun _ _ _ => False
/-- the addresses that names stand for -/
abbrev clOf (mg : Str → Option Value) : Cl := ⟨fun x => match mg x with | some (.ref a) => some a | _ => none⟩
theorem clOf_ad {mg : Str → Option Value} {x : Str} {a : Addr} (h : mg x = some (.ref a)) : (clOf mg).ad x = some a := by
  show (match mg x with | some (.ref a) => some a | _ => none) = _
  rw [h]
variable [Cl]
theorem takesD_no [Lk] {X : Cx} : TakesD X noW := fun _ _ x => by
  obtain ⟨_, _, _, _, _, _, _, _, _, _, _, _, _, _, _, _, _, _, _, _, _, _, _, _, z⟩ := x
  exact z.elim
inductive TblE (P : Params) : List (Str × V) → List DictEntry → Prop
  | nil : TblE P [] []
  | cons {x : Str} {v : V} {r : List (Str × V)} {e : DictEntry} {es : List DictEntry} : (∃ t, e.key = .str x t) → e.hash = PyData.keyHash P x → RelV v e.val → TblE P r es → TblE P ((x, v) :: r) (e :: es)
theorem TblE.lit {P : Params} : ∀ {r : List (Str × V)} {es : List DictEntry}, TblE P r es → PySem.W.KeysLit P es
  | _, _, .nil => trivial
  | _, _, .cons ⟨t, h1⟩ h2 _ r => ⟨⟨_, t, h1, h2⟩, r.lit⟩
theorem TblE.find {P : Params} (x : Str) : ∀ {r : List (Str × V)} {es : List DictEntry}, TblE P r es → RelO (r.lookup x) ((es.find? fun d => Value.isStrOf x d.key).map (·.val))
  | _, _, .nil => trivial
  | _, _, .cons (x := y) (e := e) ⟨t, h1⟩ _ h3 r => by
    rw [List.lookup_cons, List.find?_cons]
    have q : Value.isStrOf x e.key = (x == y) := by
      rw [h1]
      show (y == x) = (x == y)
      rw [Bool.eq_iff_iff, beq_iff_eq, beq_iff_eq]
      exact ⟨Eq.symm, Eq.symm⟩
    rw [q]
    cases z : x == y with
    | true => exact h3
    | false => exact r.find x
def flatT : List (Str × D) → Option (List (Str × V))
  | [] => some []
  | (x, d) :: r => match toV d, flatT r with
    | some v, some vs => some ((x, v) :: vs)
    | _, _ => none
theorem flatT_look {x : Str} : ∀ {t : List (Str × D)} {vs : List (Str × V)}, flatT t = some vs → (vs.lookup x) = (t.lookup x).bind toV
  | [], _, e => by cases e; rfl
  | (y, d) :: r, vs, e => by
    unfold flatT at e
    cases e1 : toV d with
    | none => rw [e1] at e; simp at e
    | some v =>
      cases e2 : flatT r with
      | none => rw [e1, e2] at e; simp at e
      | some us =>
        rw [e1, e2] at e
        cases e
        rw [List.lookup_cons, List.lookup_cons]
        cases z : x == y with
        | true => exact e1.symm
        | false => exact flatT_look e2
theorem toV_r {K : PySem.W.Frag} {W : Wd} {d : D} {v : V} (e : toV d = some v) : R K W v d := by
  cases d <;> cases e
  · exact .non
  · exact .bl _
  · exact .int _
  · exact .str _
structure DicT (K : PySem.W.Frag) (mg : Str → Option Value) (P : Params) (x : Str) (t : List (Str × D)) : Prop where
  ex : ∃ u es n vs, mg x = some (.ref u) ∧ K.lookup u = some ⟨.type "dict", none, .dict es n, #[]⟩ ∧ (u == sysModules) = false ∧ flatT t = some vs ∧ TblE P vs es.toList
def dKIx (t : List (Str × D)) (te : DE) : DE := fun r m q => te r m fun y m1 => match y with
  | .str z => onS (t.lookup z) fun v => q v m1
  | _ => False
def dKIn (neg : Bool) (t : List (Str × D)) (te : DE) : DE := fun r m q => te r m fun y m1 => match y with
  | .str z => q (.bl (if neg then !(t.lookup z).isSome else (t.lookup z).isSome)) m1
  | _ => False
section
variable [Lk] {X : Cx} {x : Str} {t : List (Str × D)} {e : Expr} {te : DE} {np pos : Pos}
theorem find_tbl {es : Array DictEntry} {vs : List (Str × V)} {P : Params} (h : TblE P vs es.toList) (z : Str) : RelO (vs.lookup z) (findBy Value.isStrOf es z) := by
  have q := h.find z
  unfold findBy
  obtain ⟨l⟩ := es
  rw [List.find?_toArray]
  exact q
theorem je_kix (T : DicT X.K X.mg X.w.params x t) (hg : Gl X x) (he : JE X e te) (hd : (x == ("__debug__" : Str)) = false := by decide) (hs : PlainIx e := by exact fun _ _ => rfl) : JE X (.Subscript (.Name x np) e pos) (dKIx t te) := by
  obtain ⟨u, es, n, vs, hm, hl, hu, ft, te'⟩ := T.ex
  have pn : PE X (.Name x np) (tC (.ref u)) := pe_glob hg hm rfl hd
  have rule : IxR X (fun a b H Q => ∃ z v, a = .ref u ∧ b = .str z ∧ vs.lookup z = some v ∧ Q v H) := by
    intro value slice pins s σ H a b v w Q I rx ry h hs
    obtain ⟨z, r, rfl, rfl, e1, q⟩ := h
    obtain rfl : v = Value.ref u := rx
    obtain ⟨tk, rfl⟩ := ry
    have hm' := PySem.W.mapOf_K (prog := X.prog) (w := X.w) I.kIn hl te'.lit
    obtain ⟨w', e2, ru⟩ := RelO.some_of (v := r) (o := findBy Value.isStrOf es z) (by rw [← e1]; exact find_tbl te' z)
    exact tail_any hm'.typeIs slot_dict_getitem.lookup (wpAny_getItem_of (strKind_is X.prog X.w z tk) hm' e2 ⟨r, H, I.tok _, ru, q⟩) hs
  refine pe_wk (pe_ix rule pn he hs) ?_
  rintro s H Q ⟨W, F, m, r, q, rel, rs, h, k⟩
  refine ⟨W, F, m, r, _, rel, rs, h, fun W1 H1 m1 v d l1 rel1 rv hq => ?_⟩
  cases d with
  | str z =>
    cases rv
    obtain ⟨d, e1, hq⟩ := onS_some hq
    have e2 := flatT_look (x := z) ft
    rw [e1, Option.bind_some] at e2
    cases e3 : toV d with
    | none =>
      exfalso
      have key : ∀ {t : List (Str × D)} {vs : List (Str × V)}, flatT t = some vs → t.lookup z = some d → False := by
        intro t
        induction t with
        | nil => intro vs _ h; cases h
        | cons p t ih =>
          obtain ⟨y, d'⟩ := p
          intro vs e h
          unfold flatT at e
          rw [List.lookup_cons] at h
          cases q1 : toV d' with
          | none => rw [q1] at e; simp at e
          | some v =>
            cases q2 : flatT t with
            | none => rw [q1, q2] at e; simp at e
            | some us =>
              cases q3 : z == y with
              | true => rw [q3] at h; cases h; rw [e3] at q1; cases q1
              | false => rw [q3] at h; exact ih q2 h
      exact key ft e1
    | some v =>
      rw [e3] at e2
      exact ⟨z, v, rfl, rfl, e2, k _ _ _ _ _ l1 rel1 (toV_r e3) hq⟩
  | _ => exact hq.elim
theorem tbl_some {z : Str} {t : List (Str × D)} {vs : List (Str × V)} (ft : flatT t = some vs) : (vs.lookup z).isSome = (t.lookup z).isSome := by
  induction t generalizing vs with
  | nil => cases ft; rfl
  | cons p t ih =>
    obtain ⟨y, d⟩ := p
    unfold flatT at ft
    cases q1 : toV d with
    | none => rw [q1] at ft; simp at ft
    | some v =>
      cases q2 : flatT t with
      | none => rw [q1, q2] at ft; simp at ft
      | some us =>
        rw [q1, q2] at ft
        cases ft
        rw [List.lookup_cons, List.lookup_cons]
        cases q3 : z == y with
        | true => rfl
        | false => exact ih q2
theorem relO_isSome {o : Option V} {u : Option Value} (h : RelO o u) : u.isSome = o.isSome := by
  cases o <;> cases u <;> first | rfl | exact h.elim
theorem op_knotin {u : Addr} {es : Array DictEntry} {n : Nat} {vs : List (Str × V)} (hl : X.K.lookup u = some ⟨.type "dict", none, .dict es n, #[]⟩) (hu : (u == sysModules) = false) (te' : TblE X.w.params vs es.toList) :
    OpR X (compareOp .NotIn) (fun a b H Q => ∃ z, a = .str z ∧ b = .ref u ∧ Q (.bl (!(vs.lookup z).isSome)) H) := by
  intro pins s σ H a b v w Q I ra rb h
  obtain ⟨z, rfl, rfl, q⟩ := h
  obtain ⟨tk, rfl⟩ := ra
  obtain rfl : w = Value.ref u := rb
  have hm' := PySem.W.mapOf_K (prog := X.prog) (w := X.w) I.kIn hl te'.lit
  refine wpAny_notIn_of (strKind_is X.prog X.w z tk) hu hm' ?_
  rw [relO_isSome (find_tbl te' z)]
  exact ⟨.bl _, H, I.tok _, rfl, q⟩
theorem kin_wk {u : Addr} {vs : List (Str × V)} {neg : Bool} (ft : flatT t = some vs) (s : L2.St) (H : Hp) (Q : VK) (h : liftE X.K (dKIn neg t te) s H Q) :
    tOp (fun a b H Q => ∃ z, a = .str z ∧ b = .ref u ∧ Q (.bl (if neg then !(vs.lookup z).isSome else (vs.lookup z).isSome)) H) (liftE X.K te) (tC (.ref u)) s H Q := by
  obtain ⟨W, F, m, r, q, rel, rs, h, k⟩ := h
  refine ⟨W, F, m, r, _, rel, rs, h, fun W1 H1 m1 v d l1 rel1 rv hq => ?_⟩
  cases d with
  | str z =>
    cases rv
    have e := tbl_some (z := z) ft
    exact ⟨z, rfl, rfl, by rw [e]; exact k _ _ _ _ _ l1 rel1 (.bl _) hq⟩
  | _ => exact hq.elim
theorem jt_knotin (T : DicT X.K X.mg X.w.params x t) (hg : Gl X x) (he : JE X e te) (hd : (x == ("__debug__" : Str)) = false := by decide) : JT X (.Compare e [.NotIn] [.Name x np] pos) (dTest (dKIn true t te)) := by
  obtain ⟨u, es, n, vs, hm, hl, hu, ft, te'⟩ := T.ex
  refine pt_wk (pt_cmpR (op_knotin hl hu te') he (pe_glob (v := .ref u) hg hm rfl hd) (by rfl)) fun s H Q h => ?_
  obtain ⟨W, F, m, r, q, rel, rs, h, k⟩ := h
  exact kin_wk (u := u) ft s H (fun x H' => ∃ k, x = .bl k ∧ Q k H') ⟨W, F, m, r, fun x m1 => match x with | .bl c => q c m1 | _ => False, rel, rs, h, fun W1 H1 m1 v d l1 rel1 rv hq => by
    cases d with
    | bl c => cases rv; exact ⟨c, rfl, k _ _ _ _ l1 rel1 hq⟩
    | _ => exact hq.elim⟩
end
def keyD : D → Option L2.Key
  | .int i => some (.inl i)
  | .str x => some (.inr x)
  | _ => none
theorem keyD_v {K : PySem.W.Frag} {W : Wd} {d : D} {k : L2.Key} {v : V} (e : keyD d = some k) (r : R K W v d) : v = kV k := by
  cases d <;> cases e <;> cases r <;> rfl
def dicOf : D → Sto → Option (List (L2.Key × D))
  | .dic ds, _ => some ds
  | .ptr i, m => match m[i]? with | some (.dic ds) => some ds | _ => none
  | _, _ => none
section
variable [Lk] {K : PySem.W.Frag} {W : Wd} {F H : Hp} {m : Sto} {x : V} {d : D} {ds : List (L2.Key × D)}
theorem dicOf_ptr {i : Nat} (h : m[i]? = some (.dic ds)) : dicOf (.ptr i) m = some ds := by simp only [dicOf, h]
theorem dicOf_at (rel : Rel K W F H m) (rv : R K W x d) (e : dicOf d m = some ds) : ∃ a xs, x = .ref a ∧ H a = some (.dK xs) ∧ RD K W xs ds := by
  cases rv with
  | dic h r => cases e; exact ⟨_, _, rfl, rel.sub _ _ h, r⟩
  | @ptr a i hb =>
    unfold dicOf at e
    cases q : m[i]? with
    | none => simp only [q] at e; cases e
    | some c =>
      cases c with
      | dic es =>
        simp only [q] at e
        cases e
        obtain ⟨b, h1, h2, h3, xs, h4, h5⟩ := rel.cell i _ q (fun z => by cases z)
        obtain rfl : b = a := Option.some.inj (h1.symm.trans hb)
        exact ⟨b, xs, rfl, h4, h5⟩
      | _ => simp only [q] at e; cases e
  | _ => cases e
def valD (k : L2.Key) : List (L2.Key × D) → Option D
  | [] => none
  | (k', d) :: r => if k' = k then some d else valD k r
def putKD (k : L2.Key) (y : D) (ds : List (L2.Key × D)) : List (L2.Key × D) :=
  if (ds.any fun kv => decide (kv.1 = k)) = true then ds.map (fun kv => if kv.1 = k then (kv.1, y) else kv) else ds ++ [(k, y)]
def dropD (k : L2.Key) (ds : List (L2.Key × D)) : List (L2.Key × D) := ds.filter fun kv => decide (kv.1 ≠ k)
theorem RD.val {k : L2.Key} : ∀ {xs : List (L2.Key × V)} {ds : List (L2.Key × D)}, RD K W xs ds → match valD k ds with | some d => ∃ v, valV xs k = some v ∧ R K W v d | none => valV xs k = none
  | _, _, .nil => rfl
  | _, _, .cons (k := k') h r => by
    unfold valD
    by_cases e : k' = k
    · rw [if_pos e]; exact ⟨_, valV_pos e, h⟩
    · rw [if_neg e, valV_neg e]; exact r.val
theorem RD.some {k : L2.Key} {xs : List (L2.Key × V)} {ds : List (L2.Key × D)} {d : D} (r : RD K W xs ds) (e : valD k ds = some d) : ∃ v, valV xs k = some v ∧ R K W v d := by
  have z := r.val (k := k)
  rw [e] at z
  exact z
theorem RD.none {k : L2.Key} {xs : List (L2.Key × V)} {ds : List (L2.Key × D)} (r : RD K W xs ds) (e : valD k ds = none) : valV xs k = none := by
  have z := r.val (k := k)
  rw [e] at z
  exact z
theorem RD.keys : ∀ {xs : List (L2.Key × V)} {ds : List (L2.Key × D)}, RD K W xs ds → xs.map (·.1) = ds.map (·.1)
  | _, _, .nil => rfl
  | _, _, .cons _ r => by rw [List.map_cons, List.map_cons, r.keys]
theorem RD.drop {k : L2.Key} : ∀ {xs : List (L2.Key × V)} {ds : List (L2.Key × D)}, RD K W xs ds → RD K W (L2.dropK xs k) (dropD k ds)
  | _, _, .nil => .nil
  | _, _, .cons (k := k') h r => by
    unfold dropK dropD
    by_cases e : k' = k
    · rw [List.filter_cons_of_neg (by simp [e]), List.filter_cons_of_neg (by simp [e])]; exact r.drop
    · rw [List.filter_cons_of_pos (by simp [e]), List.filter_cons_of_pos (by simp [e])]; exact .cons h r.drop
theorem RD.any {k : L2.Key} : ∀ {xs : List (L2.Key × V)} {ds : List (L2.Key × D)}, RD K W xs ds → (xs.any fun kv => decide (kv.1 = k)) = (ds.any fun kv => decide (kv.1 = k))
  | _, _, .nil => rfl
  | _, _, .cons _ r => by rw [List.any_cons, List.any_cons, r.any]
theorem RD.app : ∀ {xs ys : List (L2.Key × V)} {ds es : List (L2.Key × D)}, RD K W xs ds → RD K W ys es → RD K W (xs ++ ys) (ds ++ es)
  | _, _, _, _, .nil, s => s
  | _, _, _, _, .cons h r, s => .cons h (r.app s)
theorem RD.repl {k : L2.Key} {v : V} {y : D} (h : R K W v y) : ∀ {xs : List (L2.Key × V)} {ds : List (L2.Key × D)}, RD K W xs ds → RD K W (xs.map fun kv => if kv.1 = k then (kv.1, v) else kv) (ds.map fun kv => if kv.1 = k then (kv.1, y) else kv)
  | _, _, .nil => .nil
  | _, _, .cons (k := k') q r => by
    rw [List.map_cons, List.map_cons]
    by_cases e : k' = k
    · rw [if_pos e, if_pos e]; exact .cons h (r.repl h)
    · rw [if_neg e, if_neg e]; exact .cons q (r.repl h)
theorem RD.put {k : L2.Key} {v : V} {y : D} (h : R K W v y) {xs : List (L2.Key × V)} {ds : List (L2.Key × D)} (r : RD K W xs ds) : RD K W (putK xs k v) (putKD k y ds) := by
  unfold putK putKD
  rw [r.any (k := k)]
  split
  · exact r.repl h
  · exact r.app (.cons h .nil)
theorem valD_any {k : L2.Key} : ∀ {ds : List (L2.Key × D)}, (ds.any fun kv => decide (kv.1 = k)) = (valD k ds).isSome
  | [] => rfl
  | (k', d) :: r => by
    rw [List.any_cons, valD_any]
    unfold valD
    by_cases e : k' = k
    · rw [if_pos e, decide_eq_true e]; rfl
    · rw [if_neg e, decide_eq_false e, Bool.false_or]; cases r <;> rfl
theorem valD_put {k j : L2.Key} {y : D} : ∀ {ds : List (L2.Key × D)}, valD j (putKD k y ds) = if j = k then some y else valD j ds := by
  intro ds
  have mp : ∀ ds : List (L2.Key × D), valD j (ds.map fun kv => if kv.1 = k then (kv.1, y) else kv) = (valD j ds).map fun d => if j = k then y else d := by
    intro ds
    induction ds with
    | nil => rfl
    | cons p r ih =>
      obtain ⟨k', d⟩ := p
      rw [List.map_cons]
      by_cases e : k' = k
      · subst e
        rw [if_pos rfl]
        unfold valD
        by_cases e2 : k' = j
        · rw [if_pos e2, if_pos e2, Option.map_some, if_pos e2.symm]
        · rw [if_neg e2, if_neg e2, ih]
      · rw [if_neg e]
        unfold valD
        by_cases e2 : k' = j
        · rw [if_pos e2, if_pos e2, Option.map_some, if_neg (fun z => e (e2.trans z))]
        · rw [if_neg e2, if_neg e2, ih]
  have ap : ∀ ds : List (L2.Key × D), valD k ds = none → valD j (ds ++ [(k, y)]) = if j = k then some y else valD j ds := by
    intro ds
    induction ds with
    | nil =>
      intro _
      show (if k = j then some y else none) = _
      by_cases e : j = k
      · rw [if_pos e, if_pos e.symm]
      · rw [if_neg e, if_neg (Ne.symm e)]; rfl
    | cons p r ih =>
      obtain ⟨k', d⟩ := p
      intro h
      unfold valD at h
      by_cases e : k' = k
      · rw [if_pos e] at h; cases h
      · rw [if_neg e] at h
        rw [List.cons_append]
        unfold valD
        by_cases e2 : k' = j
        · rw [if_pos e2, if_pos e2, if_neg (fun z => e (e2.trans z))]
        · rw [if_neg e2, if_neg e2, ih h]
  unfold putKD
  by_cases a : (ds.any fun kv => decide (kv.1 = k)) = true
  · rw [if_pos a, mp]
    rw [valD_any] at a
    obtain ⟨x, hx⟩ := Option.isSome_iff_exists.mp a
    by_cases e : j = k
    · rw [if_pos e, e, hx]; simp
    · rw [if_neg e]; cases valD j ds <;> simp [e]
  · rw [if_neg a]
    refine ap ds ?_
    rw [valD_any] at a
    cases q : valD k ds with
    | none => rfl
    | some x => rw [q] at a; exact absurd rfl a
end
def dDicP : DE := fun _ m q => q (.ptr m.length) (m ++ [.dic []])
def dDIx (to ti : DE) : DE := fun r m q => to r m fun x m1 => ti r m1 fun y m2 => onS (dicOf x m2) fun ds => onS (keyD y) fun k => onS (valD k ds) fun v => q v m2
def dDGet2 (to ti te : DE) : DE := fun r m q => to r m fun x m1 => onS (dicOf x m1) fun _ => ti r m1 fun y m2 => te r m2 fun z m3 => onS (dicOf x m3) fun ds => onS (keyD y) fun k => q ((valD k ds).getD z) m3
def dDPut (to ti tv : DE) : DS := fun d r m => tv r m fun v m1 => to r m1 fun x m2 => ti r m2 fun y m3 => match x with
  | .ptr j => onS (dicOf (.ptr j) m3) fun ds => onS (keyD y) fun k => ds.length ≤ 1000000 ∧ d.nx r (m3.set j (.dic (putKD k v ds)))
  | _ => False
section
variable [Lk] {X : Cx} {o e i value : Expr} {to te ti tv : DE} {pos pos' apos tpos cpos : Pos} {k : Nat}
theorem je_dicP : JE X (.Dict [] [] pos) dDicP := pe_wk pe_dnewK fun s H Q ⟨W, F, m, r, q, rel, rs, h, kk⟩ p hp =>
  kk _ _ (m ++ [Cell.dic []]) (.ref p) (.ptr m.length) hot_le (rel.hot (c := .dic []) hp ⟨[], upd_same, .nil⟩) (.ptr (hot_at rel.toRel0)) (show q (.ptr m.length) (m ++ [Cell.dic []]) from h)
theorem units1 {A : Around} (hr : Room k A) : A.units + 1 < cLine := by have := hr.un; omega
theorem dget_at {K : PySem.W.Frag} {W : Wd} {F H : Hp} {m : Sto} {x y : V} {d e : D} {ds : List (L2.Key × D)} {kk : L2.Key} (rel : Rel K W F H m) (rx : R K W x d) (ry : R K W y e) (e1 : dicOf d m = some ds) (e2 : keyD e = some kk) :
    ∃ a o, x = .ref a ∧ DGet H a y o ∧ match valD kk ds with | some v => ∃ u, o = some u ∧ R K W u v | none => o = none := by
  obtain ⟨a, xs, rfl, h, r⟩ := dicOf_at rel rx e1
  have ey := keyD_v e2 ry
  subst ey
  refine ⟨a, valV xs kk, rfl, .k h, ?_⟩
  exact r.val
theorem je_dix (hr : Room k X.A) (ho : JE X o to) (hi : JE X i ti) (hs : NoSl i := by exact fun _ _ => rfl) : JE X (.Subscript o i pos) (dDIx to ti) := pe_wk (pe_dget (units1 hr) ho hi hs) fun s H Q ⟨W, F, m, r, q, rel, rs, h, kk⟩ => by
  refine ⟨W, F, m, r, _, rel, rs, h, fun W1 H1 m1 v d l1 rel1 rv hq => ?_⟩
  refine ⟨W1, F, m1, r, _, rel1, rs.mono l1, hq, fun W2 H2 m2 u y l2 rel2 ru hq2 => ?_⟩
  obtain ⟨ds, e1, hq2⟩ := onS_some hq2
  obtain ⟨kk', e2, hq2⟩ := onS_some hq2
  obtain ⟨w, e3, hq2⟩ := onS_some hq2
  obtain ⟨a, o', rfl, g, z⟩ := dget_at rel2 (rv.mono l2) ru e1 e2
  rw [e3] at z
  obtain ⟨u', rfl, ru'⟩ := z
  exact ⟨a, u', rfl, g, kk _ _ _ _ _ (l1.trans l2) rel2 ru' hq2⟩
theorem isD_of {K : PySem.W.Frag} {W : Wd} {F H : Hp} {m : Sto} {x : V} {d : D} {ds : List (L2.Key × D)} (rel : Rel K W F H m) (rx : R K W x d) (e1 : dicOf d m = some ds) : ∃ a, x = .ref a ∧ IsD H a := by
  obtain ⟨a, xs, rfl, h, r⟩ := dicOf_at rel rx e1
  exact ⟨a, rfl, .inl ⟨xs, .inl h⟩⟩
theorem je_dget2 (hr : Room k X.A) (ho : JE X o to) (hi : JE X i ti) (he : JE X e te) (m : M2 X o "get" apos i e cpos := by exact ⟨rfl, rfl, rfl, rfl⟩) : JE X (.Call (.Attribute o "get" apos) [i, e] [] cpos) (dDGet2 to ti te) := pe_wk (pe_dget2 (units1 hr) ho hi he m) fun s H Q ⟨W, F, m, r, q, rel, rs, h, kk⟩ => by
  refine ⟨W, F, m, r, _, rel, rs, h, fun W1 H1 m1 v d l1 rel1 rv hq => ?_⟩
  obtain ⟨ds0, e0, hq⟩ := onS_some hq
  obtain ⟨a, rfl, isd⟩ := isD_of rel1 rv e0
  refine ⟨a, rfl, isd, W1, F, m1, r, _, rel1, rs.mono l1, hq, fun W2 H2 m2 u y l2 rel2 ru hq2 => ?_⟩
  refine ⟨W2, F, m2, r, _, rel2, rs.mono (l1.trans l2), hq2, fun W3 H3 m3 w z l3 rel3 rw3 hq3 => ?_⟩
  obtain ⟨ds, e1, hq3⟩ := onS_some hq3
  obtain ⟨kk', e2, hq3⟩ := onS_some hq3
  obtain ⟨a', o', ea, g, zz⟩ := dget_at rel3 (rv.mono (l2.trans l3)) (ru.mono l3) e1 e2
  cases ea
  refine ⟨o', g, ?_⟩
  cases e3 : valD kk' ds with
  | some v =>
    rw [e3] at zz hq3
    obtain ⟨u', rfl, ru'⟩ := zz
    exact kk _ _ _ _ _ (l1.trans (l2.trans l3)) rel3 ru' hq3
  | none =>
    rw [e3] at zz hq3
    have zz' : o' = none := zz
    subst zz'
    exact kk _ _ _ _ _ (l1.trans (l2.trans l3)) rel3 rw3 hq3
theorem js_dput (hr : Room k X.A) (ho : JE X o to) (hi : JE X i ti) (hv : JE X value tv) (hs : swapsWith value (some (.Subscript o i pos')) pos.line X.env = pure false := by rfl) : JS X (.Assign [.Subscript o i pos'] value pos) (dDPut to ti tv) := ps_wk (ps_dput (units1 hr) ho hi hv hs) fun E s H ⟨W, F, m, r, d, rel, rs, h, L⟩ => by
  refine ⟨W, F, m, r, _, rel, rs, h, fun W1 H1 m1 w z l1 rel1 rz hq => ?_⟩
  refine ⟨W1, F, m1, r, _, rel1, rs.mono l1, hq, fun W2 H2 m2 v x l2 rel2 rv hq2 => ?_⟩
  refine ⟨W2, F, m2, r, _, rel2, rs.mono (l1.trans l2), hq2, fun W3 H3 m3 u y l3 rel3 ru hq3 => ?_⟩
  cases x with
  | ptr j =>
    obtain ⟨ds, e1, hq3⟩ := onS_some hq3
    obtain ⟨kk', e2, hl, hq3⟩ := onS_some hq3
    have hm : m3[j]? = some (.dic ds) := by
      unfold dicOf at e1
      cases q : m3[j]? with
      | none => simp only [q] at e1; cases e1
      | some c => cases c <;> simp only [q] at e1 <;> cases e1; rfl
    obtain ⟨a, xs, rfl, h1, rd⟩ := dicOf_at rel3 (rv.mono l3) e1
    have ey := keyD_v e2 ru
    subst ey
    refine ⟨a, _, rfl, .k (k := kk') (v := w) h1 (by rw [rd.len]; exact Nat.lt_of_le_of_lt hl mil_line), ?_⟩
    have hb : W3.be[j]? = some a := by
      cases (rv.mono l3) with | ptr hb => exact hb
    exact L.nx W3 _ _ _ _ (l1.trans (l2.trans l3)) (rel3.write (c' := .dic (putKD kk' z ds)) hb hm (fun z => by cases z) (fun z => by cases z) ⟨_, upd_same, rd.put (rz.mono (l2.trans l3))⟩) (rs.mono (l1.trans (l2.trans l3))) hq3
  | _ => exact hq3.elim
end
end DL
namespace DL
open PySem PySem.Spec PyProof.Rows L2
theorem ints_are : ∀ {ns : List Int} {us : List Value}, Vals (ns.map V.int) us → IntsAre us ns
  | [], _, .nil => .nil
  | n :: ns, _, .cons h r => by
    obtain ⟨t, rfl⟩ := h
    exact .cons n t (ints_are r)
def rCountI (K : PySem.W.Frag) : V → List V → Hp → VK → Prop := fun x xs H Q => ∃ (a : Addr) (ns : List Int) (i : Int), x = .ref a ∧ xs = [.int i] ∧ SqL K H a (ns.map V.int) ∧ Q (.int (ns.count i : Nat)) H
theorem mt_countI {X : Cx} (hu : X.A.units + 65 < cLine) : MtR X "list.count" (rCountI X.K) := by
  intro pins s σ H x xs v us Q I rx rxs h
  obtain ⟨a, ns, i, rfl, rfl, hl, q⟩ := h
  cases rx
  cases rxs with
  | cons ry rt =>
    rename_i uy ut
    cases rt
    obtain ⟨t, rfl⟩ := ry
    obtain ⟨its, rv, pl, hz⟩ := I.list hl
    obtain ⟨o, n, ho, hc, hd, hn⟩ := pl
    have isl : s.heap.IsList a its.toArray := ⟨o, ho, hc, n, hn⟩
    refine PySem.W.count_list_datum (α := Int) (xs := ns) (x := i) isl (PySem.W.HoldAll.of_ints (ints_are rv)) (PySem.W.holds_int i t) ?_ ?_
    · show X.A.units + 1 + PySem.W.Datum.depth Int < cLine
      have : PySem.W.Datum.depth Int = 0 := rfl
      omega
    · exact ⟨.int (ns.count i : Nat), H, I.tok _, ⟨_, rfl⟩, q⟩
variable [Cl]
def dCount (to te : DE) : DE := fun r m q => to r m fun x m1 => onS (seqL x m1) fun _ => te r m1 fun y m2 => match y with
  | .int i => onS (seqL x m2) fun ds => onS (intsOf ds) fun ns => q (.int (ns.count i : Nat)) m2
  | _ => False
section
variable [Lk] {X : Cx} {a b e o : Expr} {ta tb te to : DE} {p np pos apos : Pos} {k : Nat}
theorem je_count (hr : Room k X.A) (ho : JE X o to) (he : JE X e te) (hbase : attributeBase o "count" X.env (eval o X.env) = eval o X.env := by rfl)
    (hfew : ((backTo pos (starEach (e :: []) X.env)).all (fun x => !x.1) && (backToKw pos (keywordEach [] X.env)).all (fun x => x.1.isSome)
      && decide ((e :: []).length + ([] : List Keyword).length + (if ([] : List Keyword).isEmpty then 0 else 1) < 30)) = true := by rfl)
    (hline : (apos.endLine == pos.line) = true := by rfl) (hs : starEach [e] X.env = (false, eval e X.env) :: starEach [] X.env := by rfl) (hp : (backTo pos (starEach [] X.env)).any (·.1) = false := by rfl) :
    JE X (.Call (.Attribute o "count" apos) [e] [] pos) (dCount to te) :=
  pe_wk (pe_bm PySem.F.plainAttrs_list PySem.F.slot_list_count PySem.F.type_list_count (mt_countI (units65 hr)) ho (pa_cons he pa_nil hs) hbase hfew hline hs hp) fun s H Q ⟨W, F, m, r, q, rel, rs, h, k⟩ => by
    refine ⟨W, F, m, r, _, rel, rs, h, fun W1 H1 m1 v d l1 rel1 rv hq => ?_⟩
    obtain ⟨es, e1, hq⟩ := onS_some hq
    obtain ⟨b, xs, rfl, g1, g2⟩ := seqL_at rel1 rv e1
    refine ⟨.inl ⟨rfl, xs, g1⟩, W1, F, m1, r, _, rel1, rs.mono l1, hq, fun W2 H2 m2 u y l2 rel2 ru hq2 => ?_⟩
    cases y with
    | int i =>
      cases ru
      obtain ⟨ds, e2, hq2⟩ := onS_some hq2
      obtain ⟨ns, e3, hq2⟩ := onS_some hq2
      obtain ⟨b', ys, e4, g3, g4⟩ := seqL_at rel2 (rv.mono l2) e2
      cases e4
      rw [intsOf_eq e3] at g4
      have := ra_ints_eq g4
      subst this
      exact ⟨b, ns, i, rfl, rfl, g3, k _ _ _ _ _ (l1.trans l2) rel2 (.int _) hq2⟩
    | _ => exact hq2.elim
def dClear (to : DE) : DE := fun r m q => to r m fun x m1 => match x with
  | .ptr j => onS (lstOf (.ptr j) m1) fun _ => q .non (m1.set j (.lst []))
  | _ => False
theorem je_clear (ho : JE X o to) (hbase : attributeBase o "clear" X.env (eval o X.env) = eval o X.env := by rfl) (hline : (apos.endLine == pos.line) = true := by rfl) : JE X (.Call (.Attribute o "clear" apos) [] [] pos) (dClear to) :=
  pe_wk (pe_bm0 PySem.F.plainAttrs_list PySem.F.slot_list_clear PySem.F.type_list_clear mt_clear ho hbase hline) fun s H Q ⟨W, F, m, r, q, rel, rs, h, k⟩ => by
    refine ⟨W, F, m, r, _, rel, rs, h, fun W1 H1 m1 v d l1 rel1 rv hq => ?_⟩
    cases d with
    | ptr j =>
      obtain ⟨es, e1, hq⟩ := onS_some hq
      obtain ⟨b, xs, rfl, g1, g2, g5⟩ := cell_write (ds' := []) rel1 rv e1
      exact ⟨.inl ⟨rfl, xs, SqL.of g1⟩, b, xs, rfl, rfl, g1, k _ _ _ _ _ l1 (g5 _ .nil) .non hq⟩
    | _ => exact hq.elim
def keysI : List (L2.Key × D) → Option (List Int)
  | [] => some []
  | (.inl i, _) :: r => (keysI r).map (i :: ·)
  | _ => none
theorem keysI_eq : ∀ {ds : List (L2.Key × D)} {ns : List Int}, keysI ds = some ns → ds.map (·.1) = ns.map Sum.inl
  | [], _, e => by cases e; rfl
  | (.inl i, d) :: ds, ns, e => by
    simp only [keysI, Option.map_eq_some_iff] at e
    obtain ⟨l, e, rfl⟩ := e
    rw [List.map_cons, List.map_cons, keysI_eq e]
  | (.inr x, d) :: ds, ns, e => by cases e
def dSortedD : FN
  | [x], m, q => onS (dicOf x m) fun ds => onS (keysI ds) fun ns => ns.length < 64 ∧ ∀ ns' : List Int, ns'.Perm ns → ns'.Pairwise (· ≤ ·) → q (.lst (ns'.map D.int)) m
  | _, _, _ => False
theorem o_sortedD {K : PySem.W.Frag} : OpN K dSortedD (fun xs H Q => ∃ (a : Addr) (kvs : List (L2.Key × V)) (ks : List Int), xs = [.ref a] ∧ Rd H a (.dK kvs) ∧ kvs.map (·.1) = ks.map Sum.inl ∧ ks.length < 64 ∧
    ∀ (ys : List Int) (p : Addr), ys.Perm ks → ys.Pairwise (· ≤ ·) → H p = none → Q (.ref p) (upd H p (.lst (ys.map V.int)))) := by
  intro W F H m xs ds q Q rel ra h k
  unfold dSortedD at h
  split at h
  · obtain ⟨v, rfl, rv⟩ := ra1 ra
    obtain ⟨es, e1, h⟩ := onS_some h
    obtain ⟨ns, e2, hl, h⟩ := onS_some h
    obtain ⟨a, ys, rfl, g, r⟩ := dicOf_at rel rv e1
    refine ⟨a, ys, ns, rfl, .inl g, by rw [r.keys]; exact keysI_eq e2, hl, fun zs p h1 h2 hp => cold_lst rel (ra_ints zs) (h zs h1 h2) k hp⟩
  · exact h.elim
theorem je_sortedD (hc : X.calm = true) (hg : Gl X "sorted") (hm : X.mg "sorted" = none) (ha : JE X a ta) (hs : starEach [a] X.env = (false, eval a X.env) :: starEach [] X.env := by rfl) (hp : (backTo pos (starEach [] X.env)).any (·.1) = false := by rfl) : JE X (.Call (.Name "sorted" p) [a] [] pos) (dCallB dSortedD (a1 ta)) :=
  je_callB (call_sortedDI hc) o_sortedD hg hm (by decide +kernel) (ja_cons ha ja_nil hs) (by decide) (by decide) hs hp
end
end DL
namespace DL
open PySem PySem.Spec PyProof.Rows L2
theorem clsB_ok {K : PySem.W.Frag} {C : Addr} (h : clsB K C = true) : Cls K C := by
  obtain ⟨h1, h⟩ := Bool.and_eq_true_iff.mp h
  obtain ⟨h2, h⟩ := Bool.and_eq_true_iff.mp h
  obtain ⟨h3, h4⟩ := Bool.and_eq_true_iff.mp h
  exact ⟨h1, h2, h3, of_decide_eq_true h4⟩
theorem metB_ok {K : PySem.W.Frag} {C f : Addr} {m : Str} (h : metB K C f m = true) : Meth K C m f := by
  obtain ⟨h1, h⟩ := Bool.and_eq_true_iff.mp h
  obtain ⟨h2, h3⟩ := Bool.and_eq_true_iff.mp h
  exact ⟨of_decide_eq_true h1, h2, h3⟩
theorem makB_ok {K : PySem.W.Frag} {C f : Addr} (h : makB K C f = true) : Mk K C f := by
  obtain ⟨h1, h⟩ := Bool.and_eq_true_iff.mp h
  obtain ⟨h2, h⟩ := Bool.and_eq_true_iff.mp h
  obtain ⟨h3, h4⟩ := Bool.and_eq_true_iff.mp h
  exact ⟨h1, of_decide_eq_true h2, h3, h4⟩
structure IsoC (K : PySem.W.Frag) (C : Addr) : Prop where
  ca : PySem.W.findIn K (.ref C) "__class__" = some (some (.builtin "object.__class__"))
  cn : PySem.W.specialIn K (.builtin "object.__class__") "__get__" = some (some (.builtin "getset_descriptor.__get__"))
  ct : PySem.W.takesIn K (.builtin "object.__class__") = some true
  cm : PySem.W.mroIn K C (.type "object") = some true
theorem isoB_ok {K : PySem.W.Frag} {C : Addr} (h : isoB K C = true) : IsoC K C := by
  obtain ⟨h1, h⟩ := Bool.and_eq_true_iff.mp h
  obtain ⟨h2, h⟩ := Bool.and_eq_true_iff.mp h
  obtain ⟨h3, h4⟩ := Bool.and_eq_true_iff.mp h
  exact ⟨of_decide_eq_true h1, of_decide_eq_true h2, of_decide_eq_true h3, of_decide_eq_true h4⟩
/-- an own exception class -/
theorem oexIn_ok {K : PySem.W.Frag} {C : Addr} (q : oexIn K C = true) : ∃ nm q N bs bm sn sub ab col dd k0 k1 k2 k3 k5, K.lookup C = some (excClassObj nm q C N bs bm true sn sub ab col dd k0 k1 k2 k3 k5 "ValueError.__new__") ∧ PySem.HandSPX.refsVE bm = true := by
  unfold oexIn at q
  split at q
  · rename_i dd cd sl ho
    split at q
    · rename_i C' bm k0 k1 k2 k3 n k5 hm hs
      simp only [Bool.and_eq_true, beq_iff_eq, Bool.not_eq_true'] at q
      obtain ⟨rfl, rfl, hdel, hdc, hr⟩ := q
      obtain ⟨nm, bs, mro, ns, qn, hd, sn, sub, ab, col, del⟩ := cd
      dsimp only at hm hdel hdc
      subst hm hdel hdc
      have hsl : sl = #[k0, k1, k2, k3, some (.builtin "ValueError.__new__"), k5] := by
        obtain ⟨l⟩ := sl
        simp only at hs
        rw [hs]
      subst hsl
      exact ⟨nm, qn, ns, bs, bm, sn, sub, ab, col, dd, k0, k1, k2, k3, k5, ho, hr⟩
    · cases q
  · cases q
theorem exfB_ok {K : PySem.W.Frag} {C : Addr} (h : exfB K C = true) : ExF K C := by
  obtain ⟨h1, h⟩ := Bool.and_eq_true_iff.mp h
  obtain ⟨h2, h⟩ := Bool.and_eq_true_iff.mp h
  obtain ⟨h3, h⟩ := Bool.and_eq_true_iff.mp h
  obtain ⟨h4, h⟩ := Bool.and_eq_true_iff.mp h
  obtain ⟨h5, h⟩ := Bool.and_eq_true_iff.mp h
  obtain ⟨h6, h⟩ := Bool.and_eq_true_iff.mp h
  obtain ⟨h7, h8⟩ := Bool.and_eq_true_iff.mp h
  have i := isoB_ok h8
  exact ⟨⟨oexIn_ok h1, of_decide_eq_true h2, of_decide_eq_true h3, of_decide_eq_true h4, h5⟩, xfB_ok h6, h7, i.ca, i.cn, i.ct, i.cm⟩
variable [Cl]
section
variable {P : Program} {w : World} {K : PySem.W.Frag} {mg : Str → Option Value} {base : Heap} {k k' : Nat} {c c' mn f : Str} {C fa : Addr} {fd : FuncData} {ps : List Str} {n : Nat} {g : FNX} {g0 : FN}
theorem fng_mono {sp : Sp} (hk : k ≤ k') (G : FnG P w K mg base k fa fd ps sp) : FnG P w K mg base k' fa fd ps sp := ⟨G.len, fun A outer s H args us vs Q E hr gd => G.run A outer s H args us vs Q E (hr.mono hk) gd⟩
theorem knA_mk (a : mg c = some (.ref C)) (ad : Cl.ad c = some C) (h : clsB K C = true) (na : PySem.W.findIn K (.ref C) f = some none) : KnA K c f := ⟨C, ad, clsB_ok h, na⟩
theorem knA_nil : ∀ c ∈ ([] : List Str), KnA K c f := fun _ z => nomatch z
theorem knA_cons {cs : List Str} (h : KnA K c f) (r : ∀ c ∈ cs, KnA K c f) : ∀ x ∈ c :: cs, KnA K x f := fun x hx => by
  rcases List.mem_cons.mp hx with z | z
  · rw [z]; exact h
  · exact r x z
theorem knM_mk (ad : Cl.ad c = some C) (h : clsB K C = true) (hm : metB K C fa mn = true) (G : FnG P w K mg base k fa fd ps (spOfX K n g)) (hk : k ≤ k') (b : Binds K fd ps []) (ar : ∀ ds m q xq, g ds m q xq → ds.length = n) : KnM P w K mg base k' c mn g :=
  ⟨C, fa, fd, ps, n, ad, clsB_ok h, metB_ok hm, fng_mono hk G, b, ar⟩
theorem knM_nil : ∀ c g, ([] : List (Str × FNX)).lookup c = some g → KnM P w K mg base k c mn g := fun _ _ z => nomatch z
theorem knM_cons {tbl : List (Str × FNX)} (h : KnM P w K mg base k c mn g) (r : ∀ c g, tbl.lookup c = some g → KnM P w K mg base k c mn g) : ∀ c' g', ((c, g) :: tbl).lookup c' = some g' → KnM P w K mg base k c' mn g' := fun c' g' e => by
  rw [List.lookup_cons] at e
  cases z : c' == c with
  | true =>
    rw [z] at e
    cases e
    rw [beq_iff_eq.mp z]
    exact h
  | false =>
    rw [z] at e
    exact r c' g' e
theorem knI_mk (a : mg c = some (.ref C)) (ad : Cl.ad c = some C) (hm : makB K C fa = true) (G : FnG P w K mg base k fa fd ps (spOfX K n g)) (b : Binds K fd ps []) (ar : ∀ ds m q xq, g ds m q xq → ds.length = n) : KnI P w K mg base k c g :=
  ⟨C, fa, fd, ps, n, ad, a, makB_ok hm, G, b, ar⟩
theorem knS_mk (a : mg c = some (.ref C)) (ga : PySem.W.specialIn K (.ref C) "__getattribute__" = some (some (.builtin "type.__getattribute__"))) (rd : PySem.W.readsIn K C (.type "type") = true) (fc : PySem.W.findCls K (.ref C) (.type "type") mn = some (.val (.ref fa)))
    (kp : PySem.W.keepIn K (.ref fa) = true) (G : FnG P w K mg base k fa fd ps (spOfX K n g)) (b : Binds K fd ps []) (ar : ∀ ds m q xq, g ds m q xq → ds.length = n) : KnS P w K mg base k c mn g :=
  ⟨C, fa, fd, ps, n, a, ga, rd, fc, kp, G, b, ar⟩
theorem arX (h : ∀ ds m q, g0 ds m q → ds.length = n) : ∀ ds m q xq, g0.toX ds m q xq → ds.length = n := fun ds m q _ z => h ds m q z
def tIni0 (K : PySem.W.Frag) (txt : Str) : TS := tDrop (tVeI K (tCons (tVar 0) (tCons (tC (.str txt)) tNil)))
theorem xk0_mk {txt qual : Str} {st : Stmt} (F : L2.Fun K "__init__" qual st fa fd) (S : FnScope ["self"] ["self"] (defScope st)) (ad : Cl.ad c = some C) (hm : mg c = some (.ref C)) (ef : exfB K C = true) (iC : PySem.W.findIn K (.ref C) "__init__" = some (some (.ref fa)))
    (tI : PySem.W.typeIn K (.ref fa) = some (.type "function")) (b : Binds K fd ["self"] [])
    (body : ∀ (cdv : Value) (A : Around) (outer : List Env) (s : Shared) (H : Hp) (E : XK), PSs (cxOf (L2.CX P w) P w K mg base ["self"] qual (defScope st) fa cdv A outer s H E) (defBody st) (tIni0 K txt)) : XK0 P w K mg base c := by
  have ef := exfB_ok ef
  refine ⟨C, fa, fd, ["self"], ad, hm, ef, iC, tI, Fun.okX F S (fun vs H Q E ⟨_, e, _⟩ => by rw [e]; rfl) fun cdv A outer s H vs Q E hr ⟨a, e, ha, hq⟩ => ⟨_, body cdv A outer s H E, ?_⟩, b⟩
  subst e
  refine ⟨.ref a, rfl, a, C, [.str txt], rfl, by show 1 ≤ 1000; decide, ef.ox, ha, hq⟩
end
end DL
namespace DL
open PySem PySem.Spec PyProof.Rows L2
theorem get_app {m dn : Sto} {i : Nat} {c : Cell} (h : m[i]? = some c) : (m ++ dn)[i]? = some c := by
  obtain ⟨hi, e⟩ := List.getElem?_eq_some_iff.mp h
  rw [List.getElem?_append_left hi]; exact h
theorem py0A_ints : ∀ ns : List Int, py0A (ns.map D.int) = some (ns.map PyData.int)
  | [] => rfl
  | n :: ns => by
    rw [List.map_cons, List.map_cons]
    unfold py0A
    rw [py0A_ints ns]
    rfl
theorem lay_ints : ∀ ns : List Int, PyData.canLayAll0 (ns.map PyData.int) = true ∧ PyData.depthAll (ns.map PyData.int) = 0
  | [] => ⟨rfl, rfl⟩
  | n :: ns => by
    obtain ⟨h1, h2⟩ := lay_ints ns
    rw [List.map_cons]
    constructor
    · show (PyData.canLay0 (.int n) && PyData.canLayAll0 (ns.map PyData.int)) = true
      rw [h1]; rfl
    · show max (PyData.depth (.int n)) (PyData.depthAll (ns.map PyData.int)) = 0
      rw [h2]; rfl
theorem shaped_ints (ns : List Int) : SeqAt.shaped (.list (ns.map PyData.int)) = true := by
  obtain ⟨h1, h2⟩ := lay_ints ns
  show (PyData.canLayAll0 (ns.map PyData.int) && decide (PyData.depthAll (ns.map PyData.int) + 1 ≤ 64)) = true
  rw [h1, h2]; rfl
theorem any_ints (i : Int) : ∀ ns : List Int, ((ns.map PyData.int).any fun z => PyData.eqv z (.int i)) = ns.contains i
  | [] => rfl
  | n :: ns => by
    rw [List.map_cons, List.any_cons, any_ints i ns, List.contains_cons, eqv_int]
    have : (i == n) = decide (n = i) := by
      rw [Bool.eq_iff_iff, beq_iff_eq, decide_eq_true_eq]; exact ⟨Eq.symm, Eq.symm⟩
    rw [this]
theorem inB_ints {y : D} {m : Sto} {ns : List Int} {i : Int} {neg : Bool} {q : D → Sto → Prop} (e : seqL y m = some (ns.map D.int)) (h : q (.bl (if neg then !ns.contains i else ns.contains i)) m) : dInB neg (.int i) y m q := by
  have go : onS (py m (.int i)) (fun p => onS (py m y) fun l => match l with
    | .list ps => SeqAt.shaped p = true ∧ SeqAt.shaped (.list ps) = true ∧ q (.bl (if neg then !ps.any (fun z => PyData.eqv z p) else ps.any fun z => PyData.eqv z p)) m
    | _ => False) := by
    rw [py_seq e, py0A_ints]
    refine ⟨rfl, shaped_ints ns, ?_⟩
    rw [any_ints]; exact h
  cases y <;> first | exact go | cases e
@[irreducible] def dInG (neg : Bool) : F2 := dInB neg
section
variable [Cl] [Lk] {X : Cx} {a b : Expr} {ta tb : DE} {pos : Pos} {k : Nat}
theorem jt_inG (hr : Room k X.A) (ha : JE X a ta) (hb : JE X b tb) (hm : behindInMarks .In b = false := by rfl) : JT X (.Compare a [.In] [b] pos) (dTest (dBin (dInG false) ta tb)) := by unfold dInG; exact jt_in hr ha hb hm
theorem jt_notinG (hr : Room k X.A) (ha : JE X a ta) (hb : JE X b tb) (hm : behindInMarks .NotIn b = false := by rfl) : JT X (.Compare a [.NotIn] [b] pos) (dTest (dBin (dInG true) ta tb)) := by unfold dInG; exact jt_notin hr ha hb hm
end
theorem in_ints {y : D} {m : Sto} {ns : List Int} {i : Int} {q : D → Sto → Prop} (e : seqL y m = some (ns.map D.int)) (h : q (.bl (ns.contains i)) m) : dInG false (.int i) y m q := by unfold dInG; exact inB_ints e h
theorem notin_ints {y : D} {m : Sto} {ns : List Int} {i : Int} {q : D → Sto → Prop} (e : seqL y m = some (ns.map D.int)) (h : q (.bl (!ns.contains i)) m) : dInG true (.int i) y m q := by unfold dInG; exact inB_ints e h
def btw (x : D) (lo hi : Int) : Bool := match x with
  | .int i => decide (lo ≤ i) && decide (i ≤ hi)
  | _ => false
theorem btw_int {x : D} {lo hi : Int} (h : btw x lo hi = true) : ∃ i, x = .int i ∧ lo ≤ i ∧ i ≤ hi := by
  cases x with
  | int i =>
    obtain ⟨h1, h2⟩ := Bool.and_eq_true_iff.mp h
    exact ⟨i, rfl, of_decide_eq_true h1, of_decide_eq_true h2⟩
  | _ => cases h
def Kd0 (x : D) (m : Sto) : Prop := ∃ k, kd x m = some k
/-- a thing that may be asked whether it is a list of things -/
def Kds (x : D) (m : Sto) : Prop := ∃ k, kd x m = some k ∧ ((k = .lst ∧ ∃ ds, seqL x m = some ds ∧ ∀ d ∈ ds, Kd0 d m) ∨ (k ≠ .lst ∧ seqL x m = none))
theorem kds_ints {x : D} {m : Sto} {ns : List Int} (e : seqL x m = some (ns.map D.int)) : Kds x m := by
  have k0 : ∀ d ∈ ns.map D.int, Kd0 d m := fun d hd => by
    obtain ⟨i, _, rfl⟩ := List.mem_map.mp hd
    exact ⟨_, rfl⟩
  have kx : kd x m = some .lst := by
    cases x with
    | lst es => rfl
    | fz es => rfl
    | ptr i =>
      have h' : lstOf (.ptr i) m = some (ns.map D.int) := e
      unfold lstOf at h'
      unfold kd
      cases e : m[i]? with
      | none => simp only [e] at h'; cases h'
      | some c =>
        cases c with
        | lst es => simp only [e]
        | _ => simp only [e] at h'; cases h'
    | _ => cases e
  exact ⟨.lst, kx, .inl ⟨rfl, _, e, k0⟩⟩
/-- points, none less than the one ahead -/
def upD : Int → List D → Bool
  | _, [] => true
  | l, .int i :: r => btw (.int i) 0 1000 && (decide (l ≤ i) && upD i r)
  | _, _ => false
def spotD (x : D) (m : Sto) : Bool := match seqL x m with
  | some ds => decide (1 ≤ ds.length ∧ ds.length ≤ 6) && upD 0 ds
  | none => false
/-- a spot -/
structure Spot (sp : List Int) : Prop where
  h1 : 1 ≤ sp.length
  h6 : sp.length ≤ 6
  up : sp.Pairwise (· ≤ ·)
  rg : ∀ i ∈ sp, 0 ≤ i ∧ i ≤ 1000
theorem upD_of : ∀ {sp : List Int} {l : Int}, (l :: sp).Pairwise (· ≤ ·) → (∀ i ∈ sp, 0 ≤ i ∧ i ≤ 1000) → upD l (sp.map D.int) = true
  | [], _, _, _ => rfl
  | i :: sp, l, h, hr => by
    rw [List.map_cons]
    obtain ⟨h1, h2⟩ := List.pairwise_cons.mp h
    have r := hr i List.mem_cons_self
    have hl := h1 i List.mem_cons_self
    show ((decide (0 ≤ i) && decide (i ≤ 1000)) && (decide (l ≤ i) && upD i (sp.map D.int))) = true
    rw [decide_eq_true r.1, decide_eq_true r.2, decide_eq_true hl, upD_of h2 fun j hj => hr j (List.mem_cons_of_mem _ hj)]; rfl
theorem Spot.is {sp : List Int} {x : D} {m : Sto} (h : Spot sp) (e : seqL x m = some (sp.map D.int)) : spotD x m = true := by
  unfold spotD
  rw [e]
  have u : upD 0 (sp.map D.int) = true := upD_of (List.pairwise_cons.mpr ⟨fun i hi => (h.rg i hi).1, h.up⟩) h.rg
  show (decide (1 ≤ (sp.map D.int).length ∧ (sp.map D.int).length ≤ 6) && upD 0 (sp.map D.int)) = true
  rw [u, List.length_map, decide_eq_true ⟨h.h1, h.h6⟩]; rfl
/-- strictly rising -/
def rises : List Int → Bool
  | a :: b :: r => decide (a < b) && rises (b :: r)
  | _ => true
def marksD (x : D) (few : Int) (m : Sto) : Bool := match seqL x m with
  | some ds => decide (few ≤ (ds.length : Int) ∧ ds.length ≤ 8) && match intsOf ds with
    | some ns => ns.all (fun i => decide (0 ≤ i) && decide (i ≤ 1000)) && rises ns
    | none => false
  | none => false
structure Marks (few : Int) (ms : List Int) : Prop where
  h1 : few ≤ (ms.length : Int)
  h8 : ms.length ≤ 8
  up : ms.Pairwise (· < ·)
  rg : ∀ i ∈ ms, 0 ≤ i ∧ i ≤ 1000
theorem rises_of : ∀ {ms : List Int}, ms.Pairwise (· < ·) → rises ms = true
  | [], _ => rfl
  | [_], _ => rfl
  | a :: b :: r, h => by
    obtain ⟨h1, h2⟩ := List.pairwise_cons.mp h
    unfold rises
    rw [decide_eq_true (h1 b List.mem_cons_self), rises_of h2]; rfl
theorem rises_step : ∀ {ms : List Int}, rises ms = true ↔ ∀ j, (h : j + 1 < ms.length) → ms[j] < ms[j + 1]
  | [] => ⟨fun _ j h => absurd h (by simp), fun _ => rfl⟩
  | [a] => ⟨fun _ j h => absurd h (by simp), fun _ => rfl⟩
  | a :: b :: r => by
    unfold rises
    rw [Bool.and_eq_true_iff, decide_eq_true_eq, rises_step (ms := b :: r)]
    constructor
    · rintro ⟨h1, h2⟩ j hj
      cases j with
      | zero => exact h1
      | succ j => exact h2 j (by simpa using hj)
    · intro h
      exact ⟨h 0 (by simp), fun j hj => h (j + 1) (by simpa using hj)⟩
theorem Marks.is {few : Int} {ms : List Int} {x : D} {m : Sto} (h : Marks few ms) (e : seqL x m = some (ms.map D.int)) : marksD x few m = true := by
  unfold marksD
  rw [e]
  show (decide (few ≤ (((ms.map D.int).length : Nat) : Int) ∧ (ms.map D.int).length ≤ 8) && match intsOf (ms.map D.int) with | some ns => ns.all (fun i => decide (0 ≤ i) && decide (i ≤ 1000)) && rises ns | none => false) = true
  rw [intsOf_map, List.length_map, decide_eq_true ⟨h.h1, h.h8⟩]
  show (ms.all (fun i => decide (0 ≤ i) && decide (i ≤ 1000)) && rises ms) = true
  rw [rises_of h.up, Bool.and_true, List.all_eq_true]
  intro i hi
  have := h.rg i hi
  rw [decide_eq_true this.1, decide_eq_true this.2]; rfl
theorem seqL_app {x : D} {m dn : Sto} {ds : List D} (h : seqL x m = some ds) : seqL x (m ++ dn) = some ds := by
  cases x with
  | ptr i =>
    have h' : lstOf (.ptr i) m = some ds := h
    unfold lstOf at h'
    cases e : m[i]? with
    | none => simp only [e] at h'; cases h'
    | some c =>
      cases c with
      | lst es => simp only [e] at h'; cases h'; exact lstOf_ptr (get_app e)
      | _ => simp only [e] at h'; cases h'
  | lst es => exact h
  | fz es => exact h
  | _ => cases h
theorem items_app {x : D} {m : Sto} {ds : List D} (h : seqL x m = some ds) : ∃ o, ∀ dn, items x (m ++ dn) = some (ds, o) ∧ okP o (m ++ dn) := by
  cases x with
  | ptr i =>
    have h' : lstOf (.ptr i) m = some ds := h
    unfold lstOf at h'
    cases e : m[i]? with
    | none => simp only [e] at h'; cases h'
    | some c =>
      cases c with
      | lst es =>
        simp only [e] at h'; cases h'
        refine ⟨some (i, ds), fun dn => ⟨?_, get_app e⟩⟩
        show (match (m ++ dn)[i]? with | some (.lst ds) => some (ds, some (i, ds)) | _ => none) = _
        rw [get_app e]
      | _ => simp only [e] at h'; cases h'
  | lst es => cases h; exact ⟨none, fun dn => ⟨rfl, trivial⟩⟩
  | fz es => cases h; exact ⟨none, fun dn => ⟨rfl, trivial⟩⟩
  | _ => cases h
theorem dic_end {m : Sto} {ds : List (L2.Key × D)} : dicOf (.ptr m.length) (m ++ [Cell.dic ds]) = some ds := dicOf_ptr (by simp)
theorem set_end {m : Sto} {c c' : Cell} : (m ++ [c]).set m.length c' = m ++ [c'] := by simp
def boxFits (ms sp : List Int) : Bool := sp.all fun p => ms.contains p && decide (sp.count p ≤ 1)
abbrev boxPt (p : Int) : D := .tup [.int p, fr 1 1]
end DL
namespace DL
open PySem PySem.Spec PyProof.Rows L2
abbrev dv (t b : Int) : Rat := (t : Rat) / (b : Rat)
theorem icast_ne {b : Int} (h : b ≠ 0) : (b : Rat) ≠ 0 := fun z => h (by exact_mod_cast z)
theorem icast_inj {a b : Int} (h : (a : Rat) = (b : Rat)) : a = b := by exact_mod_cast h
theorem rat_eq (x : Rat) : x = dv x.num (x.den : Int) := by
  have h := Rat.num_divInt_den x
  rw [Rat.divInt_eq_div] at h
  exact h.symm
theorem den_pos (x : Rat) : (0 : Int) < (x.den : Int) := by have := x.den_pos; omega
theorem rat_cop (x : Rat) : Int.gcd x.num (x.den : Int) = 1 := x.reduced
theorem cross_of {t b t' b' : Int} (hb : b ≠ 0) (hb' : b' ≠ 0) (h : dv t b = dv t' b') : t * b' = t' * b := by
  have h1 := icast_ne hb
  have h2 := icast_ne hb'
  apply icast_inj
  rw [Rat.intCast_mul, Rat.intCast_mul]
  have h' : (t : Rat) / (b : Rat) = (t' : Rat) / (b' : Rat) := h
  grind
theorem low_rat {t b : Int} {x : Rat} (hb : b ≠ 0) (h : dv t b = x) : lowT t b = x.num ∧ lowB t b = (x.den : Int) := by
  have e : dv t b = dv x.num (x.den : Int) := h.trans (rat_eq x)
  have c := cross_of hb (Int.ne_of_gt (den_pos x)) e
  have u := low_unique (x := x.num) (y := (x.den : Int)) hb (den_pos x) (rat_cop x) (by rw [c, Int.mul_comm])
  exact ⟨u.1.symm, u.2.symm⟩
/-- a fraction's data -/
abbrev frQ (x : Rat) : D := fr x.num (x.den : Int)
theorem fr_low {t b : Int} {x : Rat} (hb : b ≠ 0) (h : dv t b = x) : fr (lowT t b) (lowB t b) = frQ x := by
  obtain ⟨h1, h2⟩ := low_rat hb h
  rw [h1, h2]
theorem dv_add {a b c d : Int} (hb : b ≠ 0) (hd : d ≠ 0) : dv (a * d + c * b) (b * d) = dv a b + dv c d := by
  have h1 := icast_ne hb
  have h2 := icast_ne hd
  show ((a * d + c * b : Int) : Rat) / ((b * d : Int) : Rat) = (a : Rat) / (b : Rat) + (c : Rat) / (d : Rat)
  rw [Rat.intCast_add, Rat.intCast_mul, Rat.intCast_mul, Rat.intCast_mul]
  grind
/-- of bounded size -/
structure QS (n : Nat) (x : Rat) : Prop where
  st : Sm n x.num
  sb : Sm n (x.den : Int)
theorem QS.mono {k n : Nat} {x : Rat} (h : QS k x) (hk : k ≤ n) : QS n x := ⟨h.st.mono hk, h.sb.mono hk⟩
theorem qs_dv {t b : Int} {x : Rat} {n : Nat} (hb : b ≠ 0) (h : dv t b = x) (st : Sm n t) (sb : Sm n b) : QS n x := by
  obtain ⟨h1, h2⟩ := low_rat hb h
  exact ⟨h1 ▸ lowT_sm hb st, h2 ▸ lowB_sm hb sb⟩
theorem QS.add {k n : Nat} {x y : Rat} (h : QS k x) (h' : QS n y) : QS (k + n + 1) (x + y) := by
  have e : dv (x.num * y.den + y.num * x.den) ((x.den : Int) * y.den) = x + y := by
    rw [dv_add (Int.ne_of_gt (den_pos x)) (Int.ne_of_gt (den_pos y)), ← rat_eq, ← rat_eq]
  refine qs_dv (Int.mul_ne_zero (Int.ne_of_gt (den_pos x)) (Int.ne_of_gt (den_pos y))) e ?_ ((h.sb.mul h'.sb).mono (by omega))
  exact Sm.add (h.st.mul h'.sb) ((h'.st.mul h.sb).mono (by omega))
theorem dv_pos {t b : Int} (ht : 0 < t) (hb : 0 < b) : 0 < dv t b := by
  have h1 : (0 : Rat) < (t : Rat) := by exact_mod_cast ht
  have h2 : (0 : Rat) < (b : Rat) := by exact_mod_cast hb
  show 0 < (t : Rat) / (b : Rat)
  rw [Rat.lt_div_iff h2, Rat.zero_mul]
  exact h1
def sumQ (f : Nat → Rat) : Nat → Rat
  | 0 => 0
  | n + 1 => sumQ f n + f n
def updQ (f : Nat → Rat) (j : Nat) (w : Rat) : Nat → Rat := fun i => if i = j then f i + w else f i
theorem sumQ_upd {f : Nat → Rat} {j : Nat} {w : Rat} : ∀ {n : Nat}, sumQ (updQ f j w) n = if j < n then sumQ f n + w else sumQ f n
  | 0 => rfl
  | n + 1 => by
    show sumQ (updQ f j w) n + (if n = j then f n + w else f n) = if j < n + 1 then sumQ f n + f n + w else sumQ f n + f n
    rw [sumQ_upd]
    by_cases h : j < n
    · have h1 : ¬ n = j := by omega
      have h2 : j < n + 1 := by omega
      rw [if_pos h, if_neg h1, if_pos h2]; grind
    · by_cases e : n = j
      · have h2 : j < n + 1 := by omega
        rw [if_neg h, if_pos e, if_pos h2]; grind
      · have h2 : ¬ j < n + 1 := by omega
        rw [if_neg h, if_neg e, if_neg h2]
theorem sumQ_zero {n : Nat} : sumQ (fun _ => 0) n = 0 := by
  induction n with
  | zero => rfl
  | succ n ih => show sumQ (fun _ => 0) n + 0 = 0; rw [ih, Rat.add_zero]
/-- one's share of a list of things -/
def addQ (c : Int → Nat → Rat) (L : List Int) (j : Nat) : Rat := L.foldl (fun a p => a + c p j) 0
theorem addQ_snoc {c : Int → Nat → Rat} {L : List Int} {p : Int} {j : Nat} : addQ c (L ++ [p]) j = addQ c L j + c p j := by
  unfold addQ
  rw [List.foldl_append]; rfl
/-- what the mark at j gets of a point -/
def at0 (ms : List Int) (i : Nat) : Int := ms.getD i 0
def shr (ms : List Int) (p : Int) (i : Nat) : Rat :=
  if p = at0 ms i then 1 else if 0 < i ∧ at0 ms (i - 1) < p ∧ p < at0 ms i then dv (p - at0 ms (i - 1)) (at0 ms i - at0 ms (i - 1))
  else if i + 1 < ms.length ∧ at0 ms i < p ∧ p < at0 ms (i + 1) then dv (at0 ms (i + 1) - p) (at0 ms (i + 1) - at0 ms i) else 0
end DL
namespace DL
open PySem PySem.Spec PyProof.Rows L2
theorem sorted_ext : ∀ {l k : List Int}, l.Pairwise (· < ·) → k.Pairwise (· < ·) → (∀ x, x ∈ l ↔ x ∈ k) → l = k
  | [], [], _, _, _ => rfl
  | [], b :: k, _, _, h => absurd ((h b).mpr List.mem_cons_self) (by simp)
  | a :: l, [], _, _, h => absurd ((h a).mp List.mem_cons_self) (by simp)
  | a :: l, b :: k, hl, hk, h => by
    obtain ⟨l1, l2⟩ := List.pairwise_cons.mp hl
    obtain ⟨k1, k2⟩ := List.pairwise_cons.mp hk
    have e : a = b := by
      rcases List.mem_cons.mp ((h a).mp List.mem_cons_self) with z | z
      · exact z
      · rcases List.mem_cons.mp ((h b).mpr List.mem_cons_self) with y | y
        · exact y.symm
        · have := k1 a z; have := l1 b y; omega
    subst e
    rw [sorted_ext l2 k2 fun x => ?_]
    constructor
    · intro hx
      rcases List.mem_cons.mp ((h x).mp (List.mem_cons_of_mem _ hx)) with z | z
      · have := l1 x hx; omega
      · exact z
    · intro hx
      rcases List.mem_cons.mp ((h x).mpr (List.mem_cons_of_mem _ hx)) with z | z
      · have := k1 x hx; omega
      · exact z
theorem strict_of : ∀ {l : List Int}, l.Pairwise (· ≤ ·) → l.Nodup → l.Pairwise (· < ·)
  | [], _, _ => .nil
  | a :: l, h, hn => by
    obtain ⟨h1, h2⟩ := List.pairwise_cons.mp h
    obtain ⟨n1, n2⟩ := List.nodup_cons.mp hn
    refine List.pairwise_cons.mpr ⟨fun x hx => ?_, strict_of h2 n2⟩
    have := h1 x hx
    rcases Int.lt_or_eq_of_le this with z | z
    · exact z
    · exact absurd (z ▸ hx) n1
theorem at0_eq {ms : List Int} {i : Nat} (h : i < ms.length) : at0 ms i = ms[i] := by
  show ms.getD i 0 = ms[i]
  rw [List.getD_eq_getElem?_getD, List.getElem?_eq_getElem h]; rfl
theorem at0_get {ms : List Int} {i : Nat} (h : i < ms.length) : ms[i]? = some (at0 ms i) := by rw [at0_eq h]; exact List.getElem?_eq_getElem h
theorem at0_lt {ms : List Int} (h : ms.Pairwise (· < ·)) {i j : Nat} (hij : i < j) (hj : j < ms.length) : at0 ms i < at0 ms j := by
  rw [at0_eq hj, at0_eq (by omega)]
  exact List.pairwise_iff_getElem.mp h i j _ _ hij
theorem at0_inj {ms : List Int} (h : ms.Pairwise (· < ·)) {i j : Nat} (hi : i < ms.length) (hj : j < ms.length) (e : at0 ms i = at0 ms j) : i = j := by
  rcases Nat.lt_trichotomy i j with z | z | z
  · have := at0_lt h z hj; omega
  · exact z
  · have := at0_lt h z hi; omega
theorem at0_mem {ms : List Int} {i : Nat} (h : i < ms.length) : at0 ms i ∈ ms := by rw [at0_eq h]; exact List.getElem_mem h
theorem mem_at0 {ms : List Int} {k : Int} (h : k ∈ ms) : ∃ i, i < ms.length ∧ at0 ms i = k := by
  obtain ⟨i, hi, e⟩ := List.mem_iff_getElem.mp h
  exact ⟨i, hi, by rw [at0_eq hi]; exact e⟩
/-- what a point counts where -/
inductive EntS (ms : List Int) (p : Int) : List (Nat × Rat) → Prop
  | on {j : Nat} : j < ms.length → at0 ms j = p → EntS ms p [(j, 1)]
  | off {a : Nat} : a + 1 < ms.length → at0 ms a < p → p < at0 ms (a + 1) → EntS ms p [(a, dv (at0 ms (a + 1) - p) (at0 ms (a + 1) - at0 ms a)), (a + 1, dv (p - at0 ms a) (at0 ms (a + 1) - at0 ms a))]
def accE : List (Nat × Rat) → Nat → Rat
  | [], _ => 0
  | (j, w) :: r, i => accE r i + (if i = j then w else 0)
theorem qs_one : QS 11 1 := ⟨sm (k := 1) (by decide) (by decide), sm (k := 1) (by decide) (by decide)⟩
theorem ent_ok {ms : List Int} {p : Int} {E : List (Nat × Rat)} (h : EntS ms p E) (hr : ∀ i ∈ ms, 0 ≤ i ∧ i ≤ 1000) : E.length ≤ 2 ∧ ∀ e ∈ E, e.1 < ms.length ∧ 0 < e.2 ∧ QS 11 e.2 := by
  cases h with
  | on hj e =>
    refine ⟨by simp, fun x hx => ?_⟩
    rw [List.mem_singleton] at hx
    subst hx
    exact ⟨hj, (by decide : (0 : Rat) < 1), qs_one⟩
  | @off a ha h1 h2 =>
    refine ⟨by simp, fun x hx => ?_⟩
    have r1 := hr _ (at0_mem (show a < ms.length by omega))
    have r2 := hr _ (at0_mem ha)
    have sz : ∀ t : Int, 0 ≤ t → t ≤ 1000 → Sm 11 t := fun t h0 h1 => sm_le 11 (by omega) (by omega)
    rcases List.mem_cons.mp hx with z | z
    · subst z
      exact ⟨by show a < _; omega, dv_pos (by omega) (by omega), qs_dv (by omega) rfl (sz _ (by omega) (by omega)) (sz _ (by omega) (by omega))⟩
    · rw [List.mem_singleton] at z
      subst z
      exact ⟨ha, dv_pos (by omega) (by omega), qs_dv (by omega) rfl (sz _ (by omega) (by omega)) (sz _ (by omega) (by omega))⟩
theorem dv_one {x y p : Int} (h : x < y) : dv (y - p) (y - x) + dv (p - x) (y - x) = 1 := by
  have h1 := icast_ne (show y - x ≠ 0 by omega)
  show ((y - p : Int) : Rat) / ((y - x : Int) : Rat) + ((p - x : Int) : Rat) / ((y - x : Int) : Rat) = 1
  rw [Rat.intCast_sub, Rat.intCast_sub, Rat.intCast_sub] at *
  grind
theorem shr_acc {ms : List Int} {p : Int} {E : List (Nat × Rat)} (h : EntS ms p E) (hp : ms.Pairwise (· < ·)) {i : Nat} (hi : i < ms.length) : shr ms p i = accE E i := by
  have lt : ∀ {i j : Nat}, i < j → j < ms.length → at0 ms i < at0 ms j := fun a b => at0_lt hp a b
  unfold shr
  cases h with
  | @on j hj e =>
    show _ = (0 : Rat) + (if i = j then 1 else 0)
    rw [Rat.zero_add]
    by_cases c : i = j
    · subst c
      rw [if_pos e.symm, if_pos rfl]
    · have ne : p ≠ at0 ms i := fun z => c (at0_inj hp hi hj (z.symm.trans e.symm))
      rw [if_neg ne, if_neg c, if_neg, if_neg]
      · rintro ⟨h1, z⟩
        rcases Nat.lt_or_ge i j with q | q
        · rcases Nat.lt_or_ge (i + 1) j with q2 | q2
          · have := lt q2 hj; omega
          · have : j = i + 1 := by omega
            rw [this] at e; omega
        · have := lt (show j < i by omega) hi; omega
      · rintro ⟨h0, z⟩
        rcases Nat.lt_or_ge i j with q | q
        · have := lt q hj; omega
        · rcases Nat.lt_or_ge j (i - 1) with q2 | q2
          · have := lt q2 (show i - 1 < ms.length by omega); omega
          · have : j = i - 1 := by omega
            rw [this] at e; omega
  | @off a ha h1 h2 =>
    show _ = (0 : Rat) + (if i = a + 1 then _ else 0) + (if i = a then _ else 0)
    have ne : p ≠ at0 ms i := fun z => by
      rcases Nat.lt_or_ge i a with q | q
      · have := lt q (show a < ms.length by omega); omega
      · rcases Nat.lt_or_ge (a + 1) i with q2 | q2
        · have := lt q2 hi; omega
        · have : i = a + 1 ∨ i = a := by omega
          rcases this with y | y <;> (rw [y] at z; omega)
    rw [if_neg ne, Rat.zero_add]
    by_cases c1 : i = a + 1
    · subst c1
      have e1 : a + 1 - 1 = a := rfl
      rw [if_pos rfl, if_neg (show ¬ a + 1 = a by omega), e1, if_pos ⟨by omega, h1, h2⟩, Rat.add_zero]
    · rw [if_neg c1, Rat.zero_add, if_neg]
      · by_cases c2 : i = a
        · subst c2
          rw [if_pos rfl, if_pos ⟨ha, h1, h2⟩]
        · rw [if_neg c2, if_neg]
          rintro ⟨hl, z⟩
          rcases Nat.lt_or_ge i a with q | q
          · rcases Nat.lt_or_ge (i + 1) a with q2 | q2
            · have := lt q2 (show a < ms.length by omega); omega
            · have : i + 1 = a := by omega
              rw [this] at z; omega
          · have := lt (show a + 1 < i by omega) hi; omega
      · rintro ⟨h0, z⟩
        rcases Nat.lt_or_ge i (a + 1) with q | q
        · rcases Nat.lt_or_ge i a with q2 | q2
          · have := lt q2 (show a < ms.length by omega); omega
          · have : i = a := by omega
            rw [this] at z; omega
        · rcases Nat.lt_or_ge (a + 1) (i - 1) with q2 | q2
          · have := lt q2 (show i - 1 < ms.length by omega); omega
          · have : i - 1 = a + 1 := by omega
            rw [this] at z; omega
theorem keysI_any {k : Int} : ∀ {ds : List (L2.Key × D)} {ks : List Int}, keysI ds = some ks → ((ds.any fun kv => decide (kv.1 = (.inl k : L2.Key))) = true ↔ k ∈ ks)
  | [], _, e => by cases e; simp
  | (.inl i, d) :: ds, ks, e => by
    simp only [keysI, Option.map_eq_some_iff] at e
    obtain ⟨l, e, rfl⟩ := e
    rw [List.any_cons, Bool.or_eq_true, keysI_any e, decide_eq_true_eq, List.mem_cons]
    constructor
    · rintro (z | z)
      · exact .inl (Sum.inl.inj z).symm
      · exact .inr z
    · rintro (z | z)
      · exact .inl (by rw [z])
      · exact .inr z
  | (.inr x, d) :: ds, ks, e => by cases e
theorem keysI_of {ds es : List (L2.Key × D)} (h : es.map (·.1) = ds.map (·.1)) : keysI es = keysI ds := by
  induction ds generalizing es with
  | nil =>
    cases es with
    | nil => rfl
    | cons _ _ => cases h
  | cons e ds ih =>
    cases es with
    | nil => cases h
    | cons e' es =>
      obtain ⟨k, d⟩ := e
      obtain ⟨k', d'⟩ := e'
      simp only [List.map_cons, List.cons.injEq] at h
      obtain ⟨rfl, h⟩ := h
      cases k' with
      | inl i => simp only [keysI, ih h]
      | inr x => rfl
theorem keysI_app {k : Int} {y : D} : ∀ {ds : List (L2.Key × D)} {ks : List Int}, keysI ds = some ks → keysI (ds ++ [(.inl k, y)]) = some (ks ++ [k])
  | [], _, e => by cases e; rfl
  | (.inl i, d) :: ds, ks, e => by
    simp only [keysI, Option.map_eq_some_iff] at e
    obtain ⟨l, e, rfl⟩ := e
    simp only [List.cons_append, keysI, keysI_app e, Option.map_some]
  | (.inr x, d) :: ds, ks, e => by cases e
theorem keysI_put {k : Int} {y : D} {ds : List (L2.Key × D)} {ks : List Int} (e : keysI ds = some ks) : keysI (putKD (.inl k) y ds) = some (if k ∈ ks then ks else ks ++ [k]) := by
  unfold putKD
  by_cases h : k ∈ ks
  · rw [if_pos ((keysI_any e).mpr h), if_pos h, ← e]
    refine keysI_of ?_
    rw [List.map_map]
    congr 1
    funext kv
    show (if kv.1 = .inl k then (kv.1, y) else kv).1 = kv.1
    split <;> rfl
  · rw [if_neg fun z => h ((keysI_any e).mp z), if_neg h]
    exact keysI_app e
structure DicI (ms : List Int) (ds : List (L2.Key × D)) (f : Nat → Rat) (n : Nat) : Prop where
  val : ∀ i, i < ms.length → valD (.inl (at0 ms i)) ds = if 0 < f i then some (frQ (f i)) else none
  ks : ∃ ks, keysI ds = some ks ∧ ks.Nodup ∧ ∀ k ∈ ks, k ∈ ms
  nn : ∀ i, 0 ≤ f i
  sz : ∀ i, QS (12 * n + 12) (f i)
  ln : ds.length ≤ n
theorem dicI_nil {ms : List Int} : DicI ms [] (fun _ => 0) 0 := ⟨fun i _ => by rw [if_neg (by decide)]; rfl, ⟨[], rfl, .nil, fun _ z => nomatch z⟩, fun _ => by decide, fun _ => ⟨sm_zero, sm (k := 1) (by decide) (by decide)⟩, Nat.le_refl _⟩
theorem DicI.put {ms : List Int} {ds : List (L2.Key × D)} {f : Nat → Rat} {n j : Nat} {w : Rat} (h : DicI ms ds f n) (hp : ms.Pairwise (· < ·)) (hj : j < ms.length) (hw : 0 < w) (hq : QS 11 w) :
    DicI ms (putKD (.inl (at0 ms j)) (frQ (f j + w)) ds) (updQ f j w) (n + 1) := by
  have fw : 0 < f j + w := by have := h.nn j; grind
  refine ⟨fun i hi => ?_, ?_, fun i => ?_, fun i => ?_, ?_⟩
  · rw [valD_put, h.val i hi]
    unfold updQ
    by_cases e : i = j
    · subst e
      rw [if_pos rfl, if_pos rfl, if_pos fw]
    · rw [if_neg e, if_neg fun z => e (at0_inj hp hi hj (Sum.inl.inj z))]
  · obtain ⟨ks, e, nd, hm⟩ := h.ks
    refine ⟨_, keysI_put e, ?_, ?_⟩
    · by_cases c : at0 ms j ∈ ks
      · rw [if_pos c]; exact nd
      · rw [if_neg c]
        rw [List.nodup_append]
        exact ⟨nd, by simp, fun a ha b hb => by rw [List.mem_singleton] at hb; rw [hb]; exact fun z => c (z ▸ ha)⟩
    · intro k hk
      split at hk
      · exact hm k hk
      · rcases List.mem_append.mp hk with z | z
        · exact hm k z
        · rw [List.mem_singleton] at z; rw [z]; exact at0_mem hj
  · unfold updQ
    split
    · have := h.nn i; grind
    · exact h.nn i
  · unfold updQ
    split
    · exact ((h.sz i).add hq).mono (by omega)
    · exact (h.sz i).mono (by omega)
  · unfold putKD
    split
    · rw [List.length_map]; have := h.ln; omega
    · rw [List.length_append, List.length_singleton]; have := h.ln; omega
theorem DicI.get {ms : List Int} {ds : List (L2.Key × D)} {f : Nat → Rat} {n j : Nat} (h : DicI ms ds f n) (hj : j < ms.length) : (valD (.inl (at0 ms j)) ds).getD (fr 0 1) = frQ (f j) := by
  rw [h.val j hj]
  by_cases c : 0 < f j
  · rw [if_pos c]; rfl
  · have : f j = 0 := by have := h.nn j; grind
    rw [if_neg c, this]; rfl
/-- the marks that count -/
def posI (ms : List Int) (f : Nat → Rat) : List Nat := (List.range ms.length).filter fun i => decide (0 < f i)
theorem posI_mem {ms : List Int} {f : Nat → Rat} {i : Nat} : i ∈ posI ms f ↔ i < ms.length ∧ 0 < f i := by
  unfold posI
  rw [List.mem_filter, List.mem_range, decide_eq_true_eq]
theorem posI_up {ms : List Int} {f : Nat → Rat} (hp : ms.Pairwise (· < ·)) : ((posI ms f).map (at0 ms)).Pairwise (· < ·) := by
  rw [List.pairwise_map]
  have h : (posI ms f).Pairwise (· < ·) := List.Pairwise.sublist List.filter_sublist List.pairwise_lt_range
  refine h.imp_of_mem fun {a b} ha hb hab => at0_lt hp hab (posI_mem.mp hb).1
theorem DicI.keys {ms : List Int} {ds : List (L2.Key × D)} {f : Nat → Rat} {n : Nat} (h : DicI ms ds f n) {ks : List Int} (e : keysI ds = some ks) {k : Int} : k ∈ ks ↔ ∃ i, i < ms.length ∧ at0 ms i = k ∧ 0 < f i := by
  obtain ⟨ks', e', _, hm⟩ := h.ks
  rw [e] at e'
  cases e'
  rw [← keysI_any e, valD_any]
  constructor
  · intro z
    have : k ∈ ks := (keysI_any e).mp (by rw [valD_any]; exact z)
    obtain ⟨i, hi, ei⟩ := mem_at0 (hm k this)
    refine ⟨i, hi, ei, ?_⟩
    rw [← ei, h.val i hi] at z
    by_cases c : 0 < f i
    · exact c
    · rw [if_neg c] at z; cases z
  · rintro ⟨i, hi, rfl, c⟩
    rw [h.val i hi, if_pos c]; rfl
theorem DicI.sorted {ms : List Int} {ds : List (L2.Key × D)} {f : Nat → Rat} {n : Nat} (h : DicI ms ds f n) (hp : ms.Pairwise (· < ·)) {ks ns : List Int} (e : keysI ds = some ks) (p : ns.Perm ks) (s : ns.Pairwise (· ≤ ·)) : ns = (posI ms f).map (at0 ms) := by
  obtain ⟨ks', e', nd, _⟩ := h.ks
  rw [e] at e'
  cases e'
  refine sorted_ext (strict_of s (p.symm.nodup nd)) (posI_up hp) fun x => ?_
  rw [p.mem_iff, h.keys e, List.mem_map]
  constructor
  · rintro ⟨i, hi, rfl, c⟩; exact ⟨i, posI_mem.mpr ⟨hi, c⟩, rfl⟩
  · rintro ⟨i, hi, rfl⟩; exact ⟨i, (posI_mem.mp hi).1, rfl, (posI_mem.mp hi).2⟩
def updE (f : Nat → Rat) : List (Nat × Rat) → Nat → Rat
  | [] => f
  | (j, w) :: r => updE (updQ f j w) r
theorem updE_at {i : Nat} : ∀ {E : List (Nat × Rat)} {f : Nat → Rat}, updE f E i = f i + accE E i
  | [], f => by show f i = f i + 0; rw [Rat.add_zero]
  | (j, w) :: r, f => by
    show updE (updQ f j w) r i = f i + (accE r i + if i = j then w else 0)
    rw [updE_at]
    unfold updQ
    split <;> grind
theorem updE_sum {ms : List Int} {p : Int} {E : List (Nat × Rat)} {f : Nat → Rat} (h : EntS ms p E) : sumQ (updE f E) ms.length = sumQ f ms.length + 1 := by
  cases h with
  | on hj e =>
    show sumQ (updQ f _ 1) _ = _
    rw [sumQ_upd, if_pos hj]
  | @off a ha h1 h2 =>
    show sumQ (updQ (updQ f a _) (a + 1) _) _ = _
    rw [sumQ_upd, if_pos ha, sumQ_upd, if_pos (show a < ms.length by omega), Rat.add_assoc, dv_one (by omega)]
/-- what a mix is told as -/
abbrev mixD (ms : List Int) (f : Nat → Rat) : List D := (posI ms f).map fun i => .tup [.int (at0 ms i), frQ (f i)]
theorem posI_ext {ms : List Int} {f g : Nat → Rat} (h : ∀ i, i < ms.length → f i = g i) : mixD ms f = mixD ms g := by
  have e : posI ms f = posI ms g := by
    unfold posI
    refine List.filter_congr fun i hi => ?_
    rw [h i (List.mem_range.mp hi)]
  unfold mixD
  rw [e]
  refine List.map_congr_left fun i hi => ?_
  rw [h i (posI_mem.mp hi).1]
end DL
namespace DL
open PySem PySem.Spec PyProof.Rows L2
end DL
namespace DL
open PySem PySem.Spec PyProof.Rows L2
/-- top below 2 ^ n, bottom below 2 ^ d -/
structure QZ (n d : Nat) (x : Rat) : Prop where
  st : Sm n x.num
  sb : Sm d (x.den : Int)
theorem QZ.mono {n d n' d' : Nat} {x : Rat} (h : QZ n d x) (hn : n ≤ n') (hd : d ≤ d') : QZ n' d' x := ⟨h.st.mono hn, h.sb.mono hd⟩
theorem qz_dv {t b : Int} {x : Rat} {n d : Nat} (hb : b ≠ 0) (h : dv t b = x) (st : Sm n t) (sb : Sm d b) : QZ n d x := by
  obtain ⟨h1, h2⟩ := low_rat hb h
  exact ⟨h1 ▸ lowT_sm hb st, h2 ▸ lowB_sm hb sb⟩
theorem dv_sub {a b c d : Int} (hb : b ≠ 0) (hd : d ≠ 0) : dv (a * d - c * b) (b * d) = dv a b - dv c d := by
  have h1 := icast_ne hb
  have h2 := icast_ne hd
  show ((a * d - c * b : Int) : Rat) / ((b * d : Int) : Rat) = (a : Rat) / (b : Rat) - (c : Rat) / (d : Rat)
  rw [Rat.intCast_sub, Rat.intCast_mul, Rat.intCast_mul, Rat.intCast_mul]
  grind
theorem dv_mul {a b c d : Int} (hb : b ≠ 0) (hd : d ≠ 0) : dv (a * c) (b * d) = dv a b * dv c d := by
  have h1 := icast_ne hb
  have h2 := icast_ne hd
  show ((a * c : Int) : Rat) / ((b * d : Int) : Rat) = (a : Rat) / (b : Rat) * ((c : Rat) / (d : Rat))
  rw [Rat.intCast_mul, Rat.intCast_mul]
  grind
theorem dn (x : Rat) : (x.den : Int) ≠ 0 := Int.ne_of_gt (den_pos x)
theorem QZ.add {n d n' d' k : Nat} {x y : Rat} (h : QZ n d x) (h' : QZ n' d' y) (h1 : n + d' ≤ k) (h2 : n' + d ≤ k) : QZ (k + 1) (d + d') (x + y) := by
  have e : dv (x.num * y.den + y.num * x.den) ((x.den : Int) * y.den) = x + y := by rw [dv_add (dn x) (dn y), ← rat_eq, ← rat_eq]
  exact qz_dv (Int.mul_ne_zero (dn x) (dn y)) e (Sm.add ((h.st.mul h'.sb).mono h1) ((h'.st.mul h.sb).mono h2)) (h.sb.mul h'.sb)
theorem QZ.sub {n d n' d' k : Nat} {x y : Rat} (h : QZ n d x) (h' : QZ n' d' y) (h1 : n + d' ≤ k) (h2 : n' + d ≤ k) : QZ (k + 1) (d + d') (x - y) := by
  have e : dv (x.num * y.den - y.num * x.den) ((x.den : Int) * y.den) = x - y := by rw [dv_sub (dn x) (dn y), ← rat_eq, ← rat_eq]
  exact qz_dv (Int.mul_ne_zero (dn x) (dn y)) e (Sm.sub ((h.st.mul h'.sb).mono h1) ((h'.st.mul h.sb).mono h2)) (h.sb.mul h'.sb)
theorem QZ.mul {n d n' d' : Nat} {x y : Rat} (h : QZ n d x) (h' : QZ n' d' y) : QZ (n + n') (d + d') (x * y) := by
  have e : dv (x.num * y.num) ((x.den : Int) * y.den) = x * y := by rw [dv_mul (dn x) (dn y), ← rat_eq, ← rat_eq]
  exact qz_dv (Int.mul_ne_zero (dn x) (dn y)) e (h.st.mul h'.st) (h.sb.mul h'.sb)
end DL
namespace DL
open PySem PySem.Spec PyProof.Rows L2
variable [Cl] [Lk]
def dMaxL : FN
  | [x], m, q => onS (seqL x m) fun ds => onS (intsOf ds) fun ns => 0 < ns.length ∧ ∀ k, k ∈ ns → (∀ y, y ∈ ns → y ≤ k) → q (.int k) m
  | _, _, _ => False
def dMinL : FN
  | [x], m, q => onS (seqL x m) fun ds => onS (intsOf ds) fun ns => 0 < ns.length ∧ ∀ k, k ∈ ns → (∀ y, y ∈ ns → k ≤ y) → q (.int k) m
  | _, _, _ => False
theorem o_maxL {K : PySem.W.Frag} : OpN K dMaxL (rMax K) := by
  intro W F H m xs ds q Q rel ra h k
  unfold dMaxL at h
  split at h
  · obtain ⟨v, rfl, rv⟩ := ra1 ra
    obtain ⟨es, e1, h⟩ := onS_some h
    obtain ⟨ns, e2, hl, h⟩ := onS_some h
    obtain ⟨a, ys, rfl, g, r⟩ := seqL_at rel rv e1
    rw [intsOf_eq e2] at r
    have := ra_ints_eq r
    subst this
    exact ⟨a, ns, rfl, g, hl, fun i hi hy => k _ _ _ _ _ (.refl _) rel (.int _) (h i hi hy)⟩
  · exact h.elim
theorem o_minL {K : PySem.W.Frag} : OpN K dMinL (rMin K) := by
  intro W F H m xs ds q Q rel ra h k
  unfold dMinL at h
  split at h
  · obtain ⟨v, rfl, rv⟩ := ra1 ra
    obtain ⟨es, e1, h⟩ := onS_some h
    obtain ⟨ns, e2, hl, h⟩ := onS_some h
    obtain ⟨a, ys, rfl, g, r⟩ := seqL_at rel rv e1
    rw [intsOf_eq e2] at r
    have := ra_ints_eq r
    subst this
    exact ⟨a, ns, rfl, g, hl, fun i hi hy => k _ _ _ _ _ (.refl _) rel (.int _) (h i hi hy)⟩
  · exact h.elim
variable {X : Cx} {a : Expr} {ta : DE} {p pos : Pos}
theorem je_maxL (hc : X.calm = true) (hg : Gl X "max") (hm : X.mg "max" = none) (ha : JE X a ta) (hs : starEach [a] X.env = (false, eval a X.env) :: starEach [] X.env := by rfl) (hp : (backTo pos (starEach [] X.env)).any (·.1) = false := by rfl) : JE X (.Call (.Name "max" p) [a] [] pos) (dCallB dMaxL (a1 ta)) :=
  je_callB (cr_max hc) o_maxL hg hm (by decide +kernel) (ja_cons ha ja_nil hs) (by decide) (by decide) hs hp
theorem je_minL (hc : X.calm = true) (hg : Gl X "min") (hm : X.mg "min" = none) (ha : JE X a ta) (hs : starEach [a] X.env = (false, eval a X.env) :: starEach [] X.env := by rfl) (hp : (backTo pos (starEach [] X.env)).any (·.1) = false := by rfl) : JE X (.Call (.Name "min" p) [a] [] pos) (dCallB dMinL (a1 ta)) :=
  je_callB (cr_min hc) o_minL hg hm (by decide +kernel) (ja_cons ha ja_nil hs) (by decide) (by decide) hs hp
end DL
namespace DL
open PySem PySem.Spec PyProof.Rows L2
abbrev bareSet (w : World) : Obj := { data := .set #[] 0 (.fresh 0 0 (!w.params.followText "set-order")), cls := .type "set", dict := none }
section
variable {P : Program} {w : World} {K : Type} [DecidableEq K]
/-- no two stand for the same key -/
def Unl (N : KeyKind P w K) (l : List (Int × Value)) : Prop := l.Pairwise fun e f => ∀ k, N.is k e.2 = true → N.is k f.2 = true → False
def Mem (N : KeyKind P w K) (S : K → Bool) (l : List (Int × Value)) : Prop := ∀ k, S k = true ↔ ∃ e ∈ l, N.is k e.2 = true
theorem Unl.perm {N : KeyKind P w K} {l l' : List (Int × Value)} (p : l.Perm l') (u : Unl N l) : Unl N l' := (p.pairwise_iff (fun h k a b => h k b a)).mp u
theorem Mem.perm {N : KeyKind P w K} {S : K → Bool} {l l' : List (Int × Value)} (p : l.Perm l') (u : Mem N S l) : Mem N S l' := fun k => by
  rw [u k]
  exact ⟨fun ⟨e, h1, h2⟩ => ⟨e, p.mem_iff.mp h1, h2⟩, fun ⟨e, h1, h2⟩ => ⟨e, p.mem_iff.mpr h1, h2⟩⟩
structure Tab (w : World) (n : Nat) (es : Array (Int × Value)) (t : SetTable) : Prop where
  room : es.size < scanBound
  fit : t.fits es.size = true
  num : es.size = n
  ris : Ris t.place.toList
  led : w.params.followText "set-order" = true ∨ t.led = true
def SetG (N : KeyKind P w K) (h : Heap) (a : Addr) (S : K → Bool) (n : Nat) : Prop :=
  ∃ o es ep t, h.get? a = some o ∧ o.ExactSet ∧ o.data = .set es ep t ∧ ElemsOf N es.toList ∧ Unl N es.toList ∧ Mem N S es.toList ∧ Tab w n es t
variable {N : KeyKind P w K} {h h' : Heap} {a : Addr} {S : K → Bool} {n : Nat} {A : Around} {E : Value → Shared → Prop} {s : Shared}
theorem SetG.keep (R : SetG N h a S n) (k : ∀ o, h.get? a = some o → h'.get? a = some o) : SetG N h' a S n := by
  obtain ⟨o, es, ep, t, z, r⟩ := R
  exact ⟨o, es, ep, t, k o z, r⟩
theorem SetG.alike {S' : K → Bool} (R : SetG N h a S n) (e : ∀ k, S' k = S k) : SetG N h a S' n := by
  obtain rfl : S' = S := funext e
  exact R
theorem ElemsOf.perm' {l l' : List (Int × Value)} (p : l.Perm l') (u : ElemsOf N l) : ElemsOf N l' := fun e he => u e (p.mem_iff.mpr he)
theorem setG_bare {ns : List K} (z : h.get? a = some (bareSet w)) : SetG N h a (fun j => decide (j ∈ ns.take 0)) 0 := by
  refine ⟨_, #[], 0, _, z, ⟨rfl, rfl, rfl⟩, rfl, (by intro e he; cases he), List.Pairwise.nil, fun k => by simp, ⟨by decide, rfl, rfl, List.Pairwise.nil, ?_⟩⟩
  show _ ∨ (!w.params.followText "set-order") = true
  cases w.params.followText "set-order"
  · exact .inr rfl
  · exact .inl rfl
/-- the new element stands in the table: it is stored, the table perhaps laid anew -/
theorem setG_tail {g : Bool → Sem Unit} (free : ∀ (b : Bool) (s₁ : Shared) (Q' : Unit → Shared → Prop), Q' () s₁ → wpAny (model P w) A (g b) Q' E s₁)
    {o : Obj} {es xs : Array (Int × Value)} {ep : Nat} {t u : SetTable} (z : s.heap.get? a = some o) (ex : o.ExactSet) (dz : o.data = .set es ep t) (el : ElemsOf N xs.toList) (un : Unl N xs.toList) (me : Mem N S xs.toList) (T : Tab w n xs u)
    {old : Bool} {R : Option Bool → Shared → Prop} (fin : ∀ h', Heap.SameBut a s.heap h' → SetG N h' a S n → R (some true) { s with heap := h' }) :
    wpAny (model P w) A (do { storeSet a xs u; if (!old && u.tooFull) = true then (do { g (relayAll u xs (SetTable.grown xs.size)).2.2; storeSet a (relayAll u xs (SetTable.grown xs.size)).1 (relayAll u xs (SetTable.grown xs.size)).2.1; pure (some true) }) else pure (some true) }) R E s := by
  refine wpAny_bind (wpAny_storeSet_of z dz ?_ (fits_of_scanBound T.room))
  have z1 := store_at (es' := xs) (t' := u) z dz
  have b1 := Heap.SameBut.update s.heap a (Obj.putSet xs u)
  split
  · have p := relayAll_perm u xs (SetTable.grown xs.size)
    have f3 := relayAll_fits u xs (SetTable.grown xs.size)
    have r3 := relayAll_ris u xs (SetTable.grown xs.size)
    have l3 := relayAll_led u xs (SetTable.grown xs.size)
    generalize relayAll u xs (SetTable.grown xs.size) = Y at p f3 r3 l3 ⊢
    obtain ⟨ys, v, way⟩ := Y
    simp only at p f3 r3 l3 ⊢
    have sz : ys.size = xs.size := by rw [← Array.length_toList, p.length_eq, Array.length_toList]
    have rm : ys.size < scanBound := sz ▸ T.room
    refine wpAny_bind (free _ _ _ ?_)
    refine wpAny_bind (wpAny_storeSet_of z1 rfl ?_ (fits_of_scanBound rm))
    refine wpAny_pure (fin _ (b1.trans (Heap.SameBut.update _ a _)) ⟨_, ys, _, v, store_at (es' := ys) (t' := v) z1 rfl, ex, rfl, ElemsOf.perm' p.symm el, un.perm p.symm, me.perm p.symm, ⟨rm, f3, sz.trans T.num, r3, T.led.imp id fun q => l3.trans q⟩⟩)
  · exact wpAny_pure (fin _ b1 ⟨_, xs, _, u, z1, ex, rfl, el, un, me, T⟩)
theorem setG_add {k : K} {x : Value} {Q : Bool → Shared → Prop} (kx : N.is k x = true) (sc : x.scannable = true) (R : SetG N s.heap a S n) (room : n + 1 < scanBound)
    (fin : ∀ h', Heap.SameBut a s.heap h' → SetG N h' a (fun j => S j || decide (j = k)) (if S k = true then n else n + 1) → Q (!S k) { s with heap := h' }) : wpAny (model P w) A (setAddHashed a x (N.hash k)) Q E s := by
  obtain ⟨o, es, ep, t, z, ex, dz, el, un, me, T⟩ := R
  have kd : ∀ j, N.is j x = decide (j = k) := fun j => KeyKind.is_eq_decide kx j
  unfold setAddHashed setAddHashedIn
  refine wpAny_holding (wpAny_bind (wpAny_setState_of z dz T.fit ?_))
  simp only [byScan_of sc T.room el, ↓reduceIte]
  unfold setAddByScan
  refine wpAny_bind ?_
  refine wpAny_bind (wpAny_rule (wpAny_bind (wpAny_setScan_of kx z dz T.fit el ?_)))
  cases fi : List.findIdx? (fun e => N.is k e.2) es.toList with
  | some j =>
    simp only
    obtain ⟨hj, pj, _⟩ := List.findIdx?_eq_some_iff_getElem.mp fi
    have Sk : S k = true := (me k).2 ⟨es.toList[j], List.getElem_mem hj, pj⟩
    refine wpAny_pure (wpAny_pure ?_)
    have q := fin s.heap (Heap.SameBut.refl a s.heap) ⟨o, es, ep, t, z, ex, dz, el, un, fun i => by
      rw [Bool.or_eq_true, decide_eq_true_eq, ← me i]
      exact ⟨fun y => y.elim id (fun e => e ▸ Sk), .inl⟩, by rw [if_pos Sk]; exact T⟩
    rw [Sk] at q
    exact q
  | none =>
    simp only
    have no : ∀ e ∈ es.toList, N.is k e.2 = false := fun e he => by
      have c := List.findIdx?_eq_none_iff.mp fi e he
      cases q : N.is k e.2 with
      | false => rfl
      | true => rw [q] at c; cases c
    have Sk : S k = false := by
      cases q : S k with
      | false => rfl
      | true =>
        obtain ⟨e, he, c⟩ := (me k).1 q
        rw [no e he] at c; cases c
    have way : ∀ (b : Bool) {s₁ : Shared} {Q' : Unit → Shared → Prop}, Q' () s₁ → wpAny (model P w) A (match b with | true => rule "set.scan.the-table-gave-way" | false => pure ()) Q' E s₁ :=
      fun b s₁ Q' q => by cases b <;> first | exact wpAny_pure q | exact wpAny_rule q
    have pm := layNew_perm t es (N.hash k) x
    have f1 := layNew_fits t es (N.hash k) x
    have r1 := layNew_ris t es (N.hash k) x T.ris
    have l1 := layNew_led t es (N.hash k) x
    generalize layNew t es (N.hash k) x = Y at pm f1 r1 l1 ⊢
    obtain ⟨xs, u, was, gave⟩ := Y
    simp only at pm f1 r1 l1 ⊢
    rw [Array.toList_push] at pm
    have p : ((N.hash k, x) :: es.toList).Perm xs.toList := ((List.perm_append_singleton _ _).symm.trans pm.symm)
    have el1 : ElemsOf N xs.toList := ElemsOf.perm' p fun e he => by
      rcases List.mem_cons.mp he with y | y
      · rw [y]; exact ⟨⟨k, kx, rfl⟩, sc⟩
      · exact el e y
    have un1 : Unl N xs.toList := Unl.perm p (List.pairwise_cons.mpr ⟨fun e he j h1 h2 => (by
      rw [kd j, decide_eq_true_eq] at h1
      rw [h1, no e he] at h2
      cases h2), un⟩)
    have me1 : Mem N (fun j => S j || decide (j = k)) xs.toList := Mem.perm p fun i => by
      rw [Bool.or_eq_true, decide_eq_true_eq, me i]
      constructor
      · rintro (⟨e, h1, h2⟩ | rfl)
        · exact ⟨e, List.mem_cons_of_mem _ h1, h2⟩
        · exact ⟨_, List.mem_cons_self, kx⟩
      · rintro ⟨e, h1, h2⟩
        rcases List.mem_cons.mp h1 with y | y
        · rw [y] at h2
          have h2 : N.is i x = true := h2
          rw [kd i, decide_eq_true_eq] at h2
          exact .inr h2
        · exact .inl ⟨e, y, h2⟩
    have sz : xs.size = n + 1 := by rw [← Array.length_toList, ← p.length_eq, List.length_cons, Array.length_toList, T.num]
    have T1 : ∀ v : SetTable, v.fits xs.size = true → Ris v.place.toList → v.led = u.led → Tab w (n + 1) xs v := fun v f r l => ⟨sz ▸ room, f, sz, r, T.led.imp id fun q => by rw [l, l1]; exact q⟩
    have last : ∀ h', Heap.SameBut a s.heap h' → SetG N h' a (fun j => S j || decide (j = k)) (n + 1) → Q true { s with heap := h' } := fun h' sb r => by
      have q := fin h' sb
      rw [Sk] at q
      exact q r
    refine wpAny_bind (way _ ?_)
    split
    · refine wpAny_bind ?_
      rw [hashByValue_scannable 8 sc]
      refine wpAny_pure ?_
      refine setG_tail (n := n + 1) (S := fun j => S j || decide (j = k)) ?_ z ex dz el1 un1 me1 (T1 _ ?_ ?_ ?_) ?_
      · intro b s₁ Q' q; cases b <;> first | exact wpAny_pure q | exact wpAny_rule q
      · first | (split <;> first | exact f1 | exact SetTable.fits_plain_off f1) | exact f1
      · first | (split <;> exact r1) | exact r1
      · first | (split <;> rfl) | rfl
      · intro h' sb r; simp only; exact wpAny_pure (last h' sb r)
    · refine wpAny_bind (wpAny_pure ?_)
      simp only [↓reduceIte]
      refine setG_tail (n := n + 1) (S := fun j => S j || decide (j = k)) ?_ z ex dz el1 un1 me1 (T1 _ f1 r1 rfl) ?_
      · intro b s₁ Q' q; cases b <;> first | exact wpAny_pure q | exact wpAny_rule q
      · intro h' sb r; simp only; exact wpAny_pure (last h' sb r)
/-- the loop that fills it -/
theorem setG_fill {I : Addr} {fp wr : List Addr} {G : Array GenState → Array GenState → Prop} {c : Nat} {Pv : Nat → Value → Prop} {St : Nat → Shared → Prop} {R : Result → Shared → Prop} (W : WalksS P w A.in1 I fp wr G c Pv St) (B : Addr) (out : B ∉ fp)
    (ks : List K) (hc : c = ks.length) (room : ks.length + 1 < scanBound) (val : ∀ i v, Pv i v → ∃ k, ks[i]? = some k ∧ N.is k v = true ∧ v.scannable = true) : ∀ (j i : Nat) (s : Shared), c - i = j → i ≤ c → St i s → (∃ b, b ≤ i ∧ SetG N s.heap B (fun j => decide (j ∈ ks.take i)) b) →
    (∀ s' b, Moved (B :: wr) G s s' → b ≤ c → SetG N s'.heap B (fun j => decide (j ∈ ks)) b → R (.ok (.ret .none)) s') → codeAny (model P w) A (.builtin "set.update.loop" ⟨[.ref B, .ref I], []⟩) R s := by
  have out' : B ∉ wr := fun q => out (W.sub _ q)
  have more : ∀ b ∈ wr, b ∈ B :: wr := fun b hb => List.mem_cons_of_mem _ hb
  intro j
  induction j with
  | zero =>
    rintro i s hj hi st ⟨b, hb, g⟩ fin
    obtain rfl : i = c := by omega
    refine codeAny_builtin F.entry_set_update_loop ?_
    rw [Around.under_plainId F.plain_set_update_loop _]; show wpAny _ A.in1 (pyNext (.ref I) >>= _) _ _ s
    refine wpAny_bind (W.done s _ _ st fun s1 mv => ?_)
    show wpAny _ A.in1 (ret Value.none) _ _ s1
    rw [List.take_of_length_le (by omega)] at g
    exact wpAny_pure (fin s1 b (mv.mono more) hb (g.keep fun o e => mv.heap B o out' e))
  | succ j ih =>
    rintro i s hj hi st ⟨b, hb, g⟩ fin
    have lt : i < c := by omega
    refine codeAny_builtin F.entry_set_update_loop ?_
    rw [Around.under_plainId F.plain_set_update_loop _]; show wpAny _ A.in1 (pyNext (.ref I) >>= _) _ _ s
    refine wpAny_bind (W.item i s _ _ lt st fun v s1 pv st1 mv => ?_)
    obtain ⟨k, hk, kx, sc⟩ := val i v pv
    have g1 : SetG N s1.heap B (fun j => decide (j ∈ ks.take i)) b := g.keep fun o e => mv.heap B o out' e
    show wpAny _ A.in1 (holding [v] (setAdd B v) >>= _) _ _ s1
    refine wpAny_bind (wpAny_holding ?_)
    unfold setAdd
    refine wpAny_holding (wpAny_bind (N.pyHash (k := k) kx ?_))
    refine setG_add (s := { s1 with toks := s1.toks + 1 }) kx sc g1 (by omega) fun h' sb g2 => ?_
    have g3 : SetG N h' B (fun j => decide (j ∈ ks.take (i + 1))) (if decide (k ∈ ks.take i) = true then b else b + 1) := g2.alike fun j => by
      rw [List.take_add_one, hk]; simp [List.mem_append]
    have up : (if decide (k ∈ ks.take i) = true then b else b + 1) ≤ i + 1 := by split <;> omega
    refine wpAny_pure ⟨plainId_quiet F.plain_set_update_loop _, ih (i + 1) _ (by omega) lt (W.frame _ s1 _ _ st1 (Nat.le_succ _) fun x hx o e => ?_) ⟨_, up, g3⟩ fun s2 d mv2 hd g4 => ?_⟩
    · rw [sb.2 x (fun q : x = B => out (q ▸ hx))]; exact e
    · refine fin s2 d (Moved.trans W.gtrans ((mv.mono more).then_heap (Nat.le_succ _) fun x o hx e => ?_) mv2) hd g4
      rw [sb.2 x (fun q : x = B => hx (q ▸ List.mem_cons_self))]; exact e
/-- set(l) of a list -/
theorem set_list {l : Addr} {items : Array Value} (ks : List K) {Q : Value → Shared → Prop} (calm : A.handled = none) (hl : s.heap.IsList l items) (len : items.size = ks.length) (room : ks.length + 1 < scanBound)
    (val : ∀ (i : Nat) (v : Value), items[i]? = some v → ∃ k, ks[i]? = some k ∧ N.is k v = true ∧ v.scannable = true)
    (fin : ∀ (h' : Heap) (tk c : Nat), SetG N h' s.heap.objs.size (fun j => decide (j ∈ ks)) c → c ≤ ks.length → (∀ b o, s.heap.get? b = some o → h'.get? b = some o) → Q (.ref s.heap.objs.size) { s with heap := h', toks := tk }) :
    wpAny (model P w) A (call (.type "set") [.ref l]) Q E s := by
  obtain ⟨cc, tl, mro⟩ := F.called_set.mro
  have made := F.called_set.made
  have sub := F.called_set.sub
  refine wpAny_call (codeAny_of_tree ?_)
  show wpAny _ _ (callAny (.type "set") _) _ _ _
  refine wpAny_pure ⟨Code.quiet_builtin _ (by decide +kernel), codeAny_builtin F.entry_type_call ?_⟩
  rw [Around.under_plain (weight_type_call_type "set" [.ref l] []) rfl]
  have f1 := F.called_set.notType
  have f2 := F.called_set.canCreate
  have f3 := F.typeCall_set_1 (.ref l)
  repeat any_goals (first | assumption | wp_step)
  refine codeAny_mono (code_set_led1 (.ref l) (E := E) (Q₁ := fun obj s₁ => obj = .ref s.heap.objs.size ∧ s₁ = { s with heap := s.heap.push (bareSet w) }) ⟨rfl, rfl⟩) fun r s₁ got => ?_
  match r, got with
  | .error e, got => exact got
  | .ok (.ret obj), got =>
    obtain ⟨rfl, rfl⟩ := got
    have zS : (s.heap.push (bareSet w)).get? s.heap.objs.size = some (bareSet w) := Heap.get?_push_size _ rfl
    have tS : Shared.TypeIs { s with heap := s.heap.push (bareSet w) } (.ref s.heap.objs.size) "set" := ⟨_, zS, rfl⟩
    have il := F.called_set.init.lookup
    have ib := F.called_set.init.bind (.ref s.heap.objs.size)
    repeat any_goals (first | assumption | wp_step)
    refine codeAny_mono (codeAny_call_builtin (R := wants (fun r s₂ => r = .none ∧ ∃ h' tk c, s₂ = { s with heap := h', toks := tk } ∧ SetG N h' s.heap.objs.size (fun j => decide (j ∈ ks)) c ∧ c ≤ ks.length ∧ (∀ b o, s.heap.get? b = some o → h'.get? b = some o)) E) F.called_set.init.plain F.entry_set_init (check_set_init_1 tS ?_)) fun r₂ s₂ got₂ => ?_
    · obtain ⟨ol, hol, hcl, nl, hdl⟩ := hl
      obtain ⟨ocls, odict, odata, oslots⟩ := ol
      simp only at hcl hdl
      subst hcl hdl
      have hol1 : (s.heap.push (bareSet w)).get? l = some { cls := .type "list", dict := odict, data := .seq items nl, slots := oslots } := Heap.get?_push_of_some _ hol
      have n1 : (Value.type "list" == Value.type "dict") = false := by decide
      have hl1 : (s.heap.push (bareSet w)).IsList l items := ⟨_, hol1, rfl, nl, rfl⟩
      have g1 := F.sub_list_set
      have g2 := F.sub_list_frozenset
      unfold Builtin.«set.__init__» noKeywords Builtin.Frozenset.updateFrom
      generalize ePI : pyIter = PI
      wp_walk
      subst ePI
      refine wpAny_pyIter_list hl1 (wpAny_bind (wpAny_runValue ?_))
      have lS : l < s.heap.objs.size := Heap.lt_size hol
      have calm3 : A.in1.in1.in1.handled = none := by simp [calm]
      have sz1 : (s.heap.push (bareSet w)).objs.size = s.heap.objs.size + 1 := Heap.size_push ..
      have lI : l ≠ (s.heap.push (bareSet w)).objs.size := by rw [sz1]; exact Nat.ne_of_lt (Nat.lt_succ_of_lt lS)
      have outf : s.heap.objs.size ∉ [(s.heap.push (bareSet w)).objs.size, l] := by
        rw [sz1]
        intro q
        rcases List.mem_cons.mp q with q | q
        · exact absurd q (Nat.ne_of_lt (Nat.lt_succ_self _))
        · exact absurd (List.mem_singleton.mp q) (Nat.ne_of_gt lS)
      refine setG_fill (N := N) ((Walks.list calm3 _ l lI items).toS) s.heap.objs.size outf ks len room val (items.size - 0) 0 _ (by omega) (Nat.zero_le _) ⟨⟨_, Heap.get?_push_size _ rfl, rfl, rfl⟩, (hl1.push _)⟩ ?start ?last
      case start => exact ⟨0, Nat.le_refl 0, setG_bare (Heap.get?_push_of_some _ zS)⟩
      case last =>
        intro s' c mv hc g
        obtain ⟨h', gg, d', tk', os'⟩ := s'
        obtain rfl : gg = s.gens := mv.gens
        obtain rfl : d' = s.drawn := mv.drawn
        obtain rfl : os' = s.os := mv.os
        show wpAny _ _ _ _ _ _
        refine wpAny_pure ?_
        show wpAny _ _ (ret Value.none) _ _ _
        rw [len] at hc
        refine wpAny_pure ⟨rfl, h', tk', c, rfl, g, hc, fun b o e => ?_⟩
        have b0 : b < s.heap.objs.size := Heap.lt_size e
        refine mv.heap b o (fun q => ?_) (Heap.get?_push_of_some _ (Heap.get?_push_of_some _ e))
        rcases List.mem_cons.mp q with q | q
        · exact absurd q (Nat.ne_of_lt b0)
        · have q := List.mem_singleton.mp q
          rw [sz1] at q
          exact absurd q (Nat.ne_of_lt (Nat.lt_succ_of_lt b0))
    · match r₂, got₂ with
      | .error e, got₂ => exact got₂
      | .ok (.ret r), got₂ =>
        obtain ⟨rfl, h', tk, c, rfl, g, hc, kk⟩ := got₂
        repeat any_goals (first | assumption | wp_step)
        exact fin _ _ _ g hc kk
end
end DL
namespace DL
open PySem PySem.Spec PyProof.Rows L2
section
variable {P : Program} {w : World} {K : Type} [DecidableEq K] {N : KeyKind P w K} {a : Addr} {S : K → Bool} {n : Nat} {A : Around} {E : Value → Shared → Prop} {s : Shared}
/-- what sorts a list of such keys -/
def SortsBy (P : Program) (w : World) (Are : List Value → List K → Prop) (ord : List K → Prop) : Prop :=
  ∀ {A : Around} {E : Value → Shared → Prop} {s : Shared} {p : Addr} {vs : List Value} {ks : List K} {c : Nat} {T : Fin → Shared → Prop}, s.heap.get? p = some (seqObj "list" vs.toArray c) → Are vs ks → vs.length < 64 →
  (∀ (out : Array Value) (ks' : List K), Are out.toList ks' → ks'.Perm ks → ord ks' → T (.done (.ret .none)) { s with heap := sortedHeap s.heap p vs out }) → wpAny (model P w) A (Builtin.«list.sort» ⟨[.ref p], []⟩) T E s
theorem sorts_ints : SortsBy P w IntsAre (fun ns => ns.Pairwise (· ≤ ·)) := fun z i l h => PyProof.Rows.list_sort_tree z i l h
theorem sorts_strs : SortsBy P w StrsAre (fun ns => sortedS ns = true) := fun z i l h => PyProof.Rows.list_sort_treeK PyProof.Rows.strKind_oneLt z i.keysOf (fun v₁ v₂ rest e => PyProof.Rows.keyKind_strs (by rw [← e]; exact i)) l fun st p o => by
  obtain ⟨ss, h1, h2, h3⟩ := PyProof.Rows.sorted_out_str i p o
  exact h _ ss h1 h2 h3
theorem unl_nodup {ofV : Value → K} (of : ∀ k v, N.is k v = true → ofV v = k) : ∀ {l : List (Int × Value)}, Unl N l → ElemsOf N l → (l.map fun e => ofV e.2).Nodup
  | [], _, _ => List.Pairwise.nil
  | e :: l, u, el => by
    obtain ⟨u1, u2⟩ := List.pairwise_cons.mp u
    refine List.nodup_cons.mpr ⟨fun z => ?_, unl_nodup of u2 fun x hx => el x (List.mem_cons_of_mem _ hx)⟩
    obtain ⟨f, hf, q⟩ := List.mem_map.mp z
    obtain ⟨⟨k, hk, _⟩, _⟩ := el e List.mem_cons_self
    obtain ⟨⟨j, hj, _⟩, _⟩ := el f (List.mem_cons_of_mem _ hf)
    have q : ofV f.2 = ofV e.2 := q
    rw [of _ _ hk, of _ _ hj] at q
    subst q
    exact u1 f hf _ hk hj
theorem sorted_setG {Are : List Value → List K → Prop} {ord : List K → Prop} {ofV : Value → K} (srt : SortsBy P w Are ord) (of : ∀ k v, N.is k v = true → ofV v = k) (are : ∀ vs : List Value, (∀ v ∈ vs, ∃ k, N.is k v = true) → Are vs (vs.map ofV))
    {Q : Value → Shared → Prop} (R : SetG N s.heap a S n) (calm : A.handled = none) (few : n < 64)
    (fin : ∀ s' p (out : Array Value) (c : Nat) (ks : List K), (∀ b o, s.heap.get? b = some o → s'.heap.get? b = some o) → s'.gens = s.gens → s'.os = s.os → s.heap.objs.size ≤ p → s'.heap.get? p = some (seqObj "list" out c) → Are out.toList ks → ord ks → ks.Nodup → (∀ k, k ∈ ks ↔ S k = true) → ks.length = n → Q (.ref p) s') :
    wpAny (model P w) A (call (.builtin "sorted") [.ref a]) Q E s := by
  obtain ⟨o, es, ep, t, z, ex, dz, el, un, me, T⟩ := R
  refine Calls.call_function_entry PyProof.Rows.kind_sorted PyProof.Rows.plain_sorted PyProof.Rows.entry_sorted (PyProof.Rows.args_sorted1 _) ?_
  unfold Builtin.«sorted»
  refine wpAny_bind (m := checkCount "sorted" 1 1 _) (wpAny_pure (wpAny_bind ?_))
  refine collect_set (A := A.in1) calm ⟨o, z, ex.1, dz⟩ T.fit T.room T.ris T.led fun s1 vs k1 hz g1 o1 pm => ?_
  have ln : vs.length = n := by rw [pm.length_eq, List.length_map, Array.length_toList]; exact T.num
  have ar : Are vs (vs.map ofV) := are vs fun v hv => by
    obtain ⟨e, he, q⟩ := List.mem_map.mp (pm.mem_iff.mp hv)
    obtain ⟨⟨k, hk, _⟩, _⟩ := el e he
    exact ⟨k, q ▸ hk⟩
  have pk : (vs.map ofV).Perm (es.toList.map fun e => ofV e.2) := by
    have q := pm.map ofV
    rw [List.map_map] at q
    exact q
  refine wpAny_bind (wpAny_newList ?_ (by rw [ln, sizeLine_eq]; omega))
  have zL : (s1.heap.push (seqObj "list" vs.toArray 0)).get? s1.heap.objs.size = some (seqObj "list" vs.toArray 0) := Heap.get?_push_size _ rfl
  refine wpAny_bind (wpAny_holding ?_)
  refine wpAny_call_entry PyProof.Rows.slot_list_sort ⟨_, zL, rfl⟩ PyProof.Rows.entry_list_sort (srt zL ar (by rw [ln]; exact few) fun out ks a1 a2 a3 => ⟨_, rfl, ?_⟩) (PyProof.Rows.args_list_sort _)
  obtain ⟨c, hc⟩ := PyProof.Rows.sortedHeap_at (vs := vs) (out := out) zL
  have pn := a2.trans pk
  refine wpAny_pure ⟨_, rfl, fin _ s1.heap.objs.size out c ks (fun b u e => ?_) g1 o1 hz hc a1 a3 (pn.nodup_iff.mpr (unl_nodup of un el)) (fun k => ?_) ?_⟩
  · have q := k1 b u e
    have lt := Heap.lt_size q
    show (sortedHeap (s1.heap.push (seqObj "list" vs.toArray 0)) s1.heap.objs.size vs out).get? b = some u
    rw [PyProof.Rows.sortedHeap_old (Nat.ne_of_lt lt) (by rw [Heap.size_push]; exact Nat.lt_succ_of_lt lt)]
    exact Heap.get?_push_of_some _ q
  · rw [pn.mem_iff, List.mem_map, me k]
    constructor
    · rintro ⟨e, he, q⟩
      obtain ⟨⟨j, hj, _⟩, _⟩ := el e he
      have q : ofV e.2 = k := q
      rw [of _ _ hj] at q
      exact ⟨e, he, q ▸ hj⟩
    · rintro ⟨e, he, q⟩
      exact ⟨e, he, of _ _ q⟩
  · rw [pn.length_eq, List.length_map, Array.length_toList]; exact T.num
end
/-- a set in the abstract heap -/
def SetHG {K : Type} [DecidableEq K] {P : Program} {w : World} (N : KeyKind P w K) (a : Addr) (S : K → Bool) (n : Nat) : HO := .ext fun h => SetG N h a S n
section
variable {X : Cx} {K : Type} [DecidableEq K] {N : KeyKind X.prog X.w K}
theorem setHG_ok {H : Hp} {h : Heap} {a : Addr} {S : K → Bool} {n : Nat} (R : SetG N h a S n) : ObjOk X.prog X.w H h a (SetHG N a S n) :=
  ⟨R, let ⟨o, _, _, _, z, _⟩ := R; ⟨o, z⟩, fun h1 h2 p k => SetG.keep p k⟩
theorem setHG_at {pins : List (Addr × Obj)} {σ : L2.St} {H : Hp} {s : Shared} {a : Addr} {S : K → Bool} {n : Nat} (I : Inv X pins σ H s) (z : H a = some (SetHG N a S n)) : SetG N s.heap a S n := (I.hok a _ z).1
/-- set(xs), xs a list of keys vk -/
def rSetL (N : KeyKind X.prog X.w K) (vk : K → V) : List V → Hp → VK → Prop := fun xs H Q => ∃ (l : Addr) (ks : List K), xs = [.ref l] ∧ SqL X.K H l (ks.map vk) ∧ ks.length ≤ 1000 ∧
  ∀ p c, H p = none → c ≤ ks.length → Q (.ref p) (upd H p (SetHG N p (fun j => decide (j ∈ ks)) c))
theorem cr_setL {vk : K → V} (calm : X.calm = true) (kv : ∀ k u, RelV (vk k) u → N.is k u = true ∧ u.scannable = true) : CallR X (.type "set") (rSetL N vk) := by
  intro pins s σ H xs us Q I r h
  obtain ⟨l, ks, rfl, hs, few, q⟩ := h
  obtain ⟨its, rv, hl, _⟩ := I.list hs
  rw [Vals.ref1 r]
  have len : its.length = ks.length := by rw [← rv.length, List.length_map]
  refine set_list (N := N) ks (I.ok.hd calm) hl.isList (by rw [List.size_toArray]; exact len) (by unfold scanBound; omega) (fun i v hv => ?_) fun h' tk c g hc kk => ?_
  · rw [List.getElem?_toArray] at hv
    have hi : i < ks.length := by rw [← len]; exact (List.getElem?_eq_some_iff.mp hv).1
    obtain ⟨u, hu, ru⟩ := rv.get (i := i) (by rw [List.getElem?_map, List.getElem?_eq_getElem hi]; rfl)
    obtain rfl : u = v := Option.some.inj (hu.symm.trans hv)
    exact ⟨_, List.getElem?_eq_getElem hi, kv _ _ ru⟩
  · have fr : H s.heap.objs.size = none := I.hok.fresh (Nat.le_refl _)
    have J : Inv X pins σ (upd H s.heap.objs.size (SetHG N s.heap.objs.size (fun j => decide (j ∈ ks)) c)) { s with heap := h', toks := tk } :=
      I.call (ch := []) (Un.laid kk (Nat.le_refl _) fr) (I.hok.laid kk (Nat.le_refl _) (setHG_ok g)) I.bare (fun _ z => nomatch z)
    exact ⟨.ref _, _, J, rfl, q _ c fr hc⟩
def rSortG (N : KeyKind X.prog X.w K) (vk : K → V) (ord : List K → Prop) : List V → Hp → VK → Prop := fun xs H Q => ∃ (a : Addr) (S : K → Bool) (n : Nat), xs = [.ref a] ∧ H a = some (SetHG N a S n) ∧ n < 64 ∧
  ∀ (ks : List K) (p : Addr), ord ks → ks.Nodup → (∀ k, k ∈ ks ↔ S k = true) → ks.length = n → H p = none → Q (.ref p) (upd H p (.lst (ks.map vk)))
theorem cr_sortG {vk : K → V} {Are : List Value → List K → Prop} {ord : List K → Prop} {ofV : Value → K} (calm : X.calm = true) (srt : SortsBy X.prog X.w Are ord) (of : ∀ k v, N.is k v = true → ofV v = k) (are : ∀ vs : List Value, (∀ v ∈ vs, ∃ k, N.is k v = true) → Are vs (vs.map ofV))
    (vals : ∀ {us : List Value} {ks : List K}, Are us ks → Vals (ks.map vk) us) : CallR X (.builtin "sorted") (rSortG N vk ord) := by
  intro pins s σ H xs us Q I r h
  obtain ⟨a, S, n, rfl, ha, few, q⟩ := h
  rw [Vals.ref1 r]
  refine sorted_setG srt of are (setHG_at I ha) (I.ok.hd calm) few fun s' p out c ks k g o hp hg ar od nd me ln => ?_
  have small : (ks.map vk).length ≤ sizeLine := by rw [List.length_map, ln, sizeLine_eq]; omega
  have fr : H p = none := I.hok.fresh hp
  have J : Inv X pins σ (upd H p (.lst (ks.map vk))) { s with heap := s'.heap, gens := s'.gens, drawn := s'.drawn, toks := s'.toks } :=
    I.call (ch := []) (Un.laid k hp fr) (I.hok.laid k hp ⟨small, out.toList, c, vals ar, hg⟩) (by rw [g]; exact I.bare) (fun _ z => nomatch z)
  have e : s' = { s with heap := s'.heap, gens := s'.gens, drawn := s'.drawn, toks := s'.toks } := by
    cases s'; cases s; cases o; rfl
  rw [e]
  exact ⟨.ref p, _, J, rfl, q ks p od nd me ln fr⟩
end
section
variable [Cl] [Lk] {X : Cx}
theorem is_int {k : Int} {v : Value} (h : (PySem.intKind X.prog X.w).is k v = true) : ∃ t, v = .int k t := Value.isInt_shape h
theorem is_str {k : Str} {v : Value} (h : (PySem.strKind X.prog X.w).is k v = true) : ∃ t, v = .str k t := Value.isStrOf_shape h
def intV : Value → Int | .int k _ => k | _ => 0
theorem intsAre_is : ∀ vs : List Value, (∀ v ∈ vs, ∃ k, (PySem.intKind X.prog X.w).is k v = true) → IntsAre vs (vs.map intV)
  | [], _ => .nil
  | v :: vs, h => by
    obtain ⟨k, hk⟩ := h v List.mem_cons_self
    obtain ⟨t, rfl⟩ := is_int hk
    exact .cons k t (intsAre_is vs fun u hu => h u (List.mem_cons_of_mem _ hu))
theorem strs_are (vs : List Value) (h : ∀ v ∈ vs, ∃ k, (PySem.strKind X.prog X.w).is k v = true) : StrsAre vs (vs.map PyProof.Rows.strOf) := PyProof.Rows.strsAre_map vs fun v hv => by
  obtain ⟨k, hk⟩ := h v hv
  obtain ⟨t, e⟩ := is_str hk
  exact ⟨k, t, e⟩
theorem cr_setI (calm : X.calm = true) : CallR X (.type "set") (rSetL (PySem.intKind X.prog X.w) V.int) := cr_setL calm fun k u r => by
  obtain ⟨t, rfl⟩ := r
  exact ⟨by show (k == k) = true; exact beq_self_eq_true k, rfl⟩
theorem cr_setS (calm : X.calm = true) : CallR X (.type "set") (rSetL (PySem.strKind X.prog X.w) V.str) := cr_setL calm fun k u r => by
  obtain ⟨t, rfl⟩ := r
  exact ⟨by show (k == k) = true; exact beq_self_eq_true k, rfl⟩
theorem cr_sortSI (calm : X.calm = true) : CallR X (.builtin "sorted") (rSortG (PySem.intKind X.prog X.w) V.int fun ns => ns.Pairwise (· ≤ ·)) :=
  cr_sortG (ofV := intV) calm sorts_ints (fun k v h => by obtain ⟨t, rfl⟩ := is_int h; rfl) intsAre_is vals_of_ints
theorem cr_sortSS (calm : X.calm = true) : CallR X (.builtin "sorted") (rSortG (PySem.strKind X.prog X.w) V.str fun ns => sortedS ns = true) :=
  cr_sortG (ofV := PyProof.Rows.strOf) calm sorts_strs (fun k v h => by obtain ⟨t, rfl⟩ := is_str h; rfl) strs_are vals_of_strs
abbrev rSetE (X : Cx) : List V → Hp → VK → Prop := fun xs H Q => rSetL (PySem.intKind X.prog X.w) V.int xs H Q ∨ rSetL (PySem.strKind X.prog X.w) V.str xs H Q
abbrev rSortE (X : Cx) : List V → Hp → VK → Prop := fun xs H Q => rSortG (PySem.intKind X.prog X.w) V.int (fun ns => ns.Pairwise (· ≤ ·)) xs H Q ∨ rSortG (PySem.strKind X.prog X.w) V.str (fun ns => sortedS ns = true) xs H Q
def rSortSet (X : Cx) : List V → Hp → VK → Prop := fun xs H Q => rSetE X xs H fun v H1 => rSortE X [v] H1 Q
theorem lt_nodup : ∀ l : List Int, l.Pairwise (· ≤ ·) → l.Nodup → l.Pairwise (· < ·) := fun l h d => (List.Pairwise.and h d).imp fun ⟨a, b⟩ => by omega
end
end DL
namespace DL
open PySem PySem.Spec PyProof.Rows L2
end DL
namespace DL
open PySem PySem.Spec PyProof.Rows L2
variable [Cl] [Lk]
abbrev DPs := List (L2.Key × DE)
def dPairs : DPs → DSt → Sto → (List (L2.Key × D) → Sto → Prop) → Prop
  | [], _, m, q => q [] m
  | (k, t) :: r, s, m, q => t s m fun v m1 => dPairs r s m1 fun ps m2 => q ((k, v) :: ps) m2
def dDisp (ts : DPs) : DE := fun r m q => dPairs ts r m fun ps m1 => q (.dic ps) m1
inductive JPs (X : Cx) (pos : Pos) : List (Option Expr) → List Expr → DPs → Prop
  | nil : JPs X pos [] [] []
  | cons {k v : Expr} {ks : List (Option Expr)} {vs : List Expr} {kk : L2.Key} {t : DE} {ts : DPs} : PE X k (tC (kV kk)) → JE X v t → JPs X pos ks vs ts → JPs X pos (some k :: ks) (v :: vs) ((kk, t) :: ts)
def trOf (K : PySem.W.Frag) : DPs → List (TE × TE)
  | [] => []
  | (k, t) :: r => (tC (kV k), liftE K t) :: trOf K r
theorem JPs.pps {X : Cx} {pos : Pos} : ∀ {ks : List (Option Expr)} {vs : List Expr} {ts : DPs}, JPs X pos ks vs ts → PPs X pos ks vs (trOf X.K ts)
  | _, _, _, .nil => pps_nil
  | _, _, _, .cons a b r => pps_cons a b r.pps
theorem JPs.all {X : Cx} {pos : Pos} : ∀ {ks : List (Option Expr)} {vs : List Expr} {ts : DPs}, JPs X pos ks vs ts → ks.all (·.isSome) = true ∧ ks.length = vs.length ∧ ks.length = ts.length
  | _, _, _, .nil => ⟨rfl, rfl, rfl⟩
  | _, _, _, .cons a b r => ⟨by rw [List.all_cons]; simp [r.all.1], by rw [List.length_cons, List.length_cons, r.all.2.1], by rw [List.length_cons, List.length_cons, r.all.2.2]⟩
theorem pairs_wk {K : PySem.W.Frag} : ∀ {ts : DPs} {W : Wd} {F H : Hp} {m : Sto} {s : L2.St} {r : DSt} {q : List (L2.Key × D) → Sto → Prop} {Q : List (V × V) → Hp → Prop}, Rel K W F H m → RSt K W s r → dPairs ts r m q →
    (∀ W' H' m' xs ps, W.Le W' → Rel K W' F H' m' → RD K W' xs ps → xs.map (·.1) = ts.map (·.1) → q ps m' → Q (xs.map fun kv => (kV kv.1, kv.2)) H') → tPairs (trOf K ts) s H Q
  | [], W, F, H, m, s, r, q, Q, rel, rs, h, k => k W H m [] [] (.refl _) rel .nil rfl h
  | (kk, t) :: ts, W, F, H, m, s, r, q, Q, rel, rs, h, k => by
    show liftE K t s H fun y H2 => tPairs (trOf K ts) s H2 fun ps H3 => Q ((kV kk, y) :: ps) H3
    refine ⟨W, F, m, r, _, rel, rs, h, fun W1 H1 m1 v d l1 rel1 rv hq => ?_⟩
    refine pairs_wk rel1 (rs.mono l1) hq fun W2 H2 m2 xs ps l2 rel2 rd ek hq2 => ?_
    exact k W2 H2 m2 ((kk, v) :: xs) ((kk, d) :: ps) (l1.trans l2) rel2 (.cons (rv.mono l2) rd) (by rw [List.map_cons, List.map_cons, ek]) hq2
theorem putK_new {kvs : List (L2.Key × V)} {k : L2.Key} {v : V} (h : k ∉ kvs.map (·.1)) : putK kvs k v = kvs ++ [(k, v)] := by
  unfold putK
  rw [if_neg]
  intro z
  obtain ⟨kv, h1, h2⟩ := List.any_eq_true.mp z
  exact h (List.mem_map.mpr ⟨kv, h1, of_decide_eq_true h2⟩)
theorem mergeK_app : ∀ (more kvs : List (L2.Key × V)), ((kvs ++ more).map (·.1)).Nodup → mergeK kvs more = kvs ++ more
  | [], kvs, _ => by rw [List.append_nil]; rfl
  | p :: r, kvs, h => by
    have h1 : p.1 ∉ kvs.map (·.1) := fun z => by
      rw [List.map_append, List.nodup_append] at h
      exact h.2.2 _ z _ (List.mem_map.mpr ⟨p, List.mem_cons_self, rfl⟩) rfl
    show mergeK (putK kvs p.1 p.2) r = _
    rw [putK_new h1, mergeK_app r (kvs ++ [(p.1, p.2)]) (by rw [List.append_assoc]; exact h), List.append_assoc]; rfl
theorem disp_wk {K : PySem.W.Frag} {ts : DPs} {s : L2.St} {H : Hp} {Q : VK} {W : Wd} {F : Hp} {m : Sto} {r : DSt} {q : List (L2.Key × D) → Sto → Prop} (nd : (ts.map (·.1)).Nodup) (few : ts.length ≤ 15) (rel : Rel K W F H m) (rs : RSt K W s r) (h : dPairs ts r m q)
    (k : ∀ W' H' m' xs ps p, W.Le W' → F p = none → Rel K W' (upd F p (.dK [])) H' m' → RD K W' xs ps → q ps m' → Q (.ref p) (upd H' p (.dK xs))) : tDisp (trOf K ts) s H Q := by
  intro p hp
  refine pairs_wk (rel.framed hp) rs h fun W1 H1 m1 xs ps l1 rel1 rd ek hq => ⟨rel1.frm _ _ upd_same, xs, rfl, ?_, ?_⟩
  · have := congrArg List.length ek
    rw [List.length_map, List.length_map] at this
    omega
  · have : mergeK [] xs = xs := by rw [mergeK_app xs [] (by rw [List.nil_append, ek]; exact nd)]; rfl
    rw [this]
    exact k W1 H1 m1 xs ps p l1 (rel.toRel0.fF hp) rel1 rd hq
section
variable {X : Cx} {pos : Pos} {keys : List (Option Expr)} {values : List Expr} {ts : DPs}
theorem je_disp (h : JPs X pos keys values ts) (nd : (ts.map (·.1)).Nodup := by decide +kernel) (few : ts.length ≤ 15 := by decide) (h0 : keys ≠ [] := by simp) : JE X (.Dict keys values pos) (dDisp ts) :=
  pe_wk (pe_disp h.pps h.all.1 h.all.2.1 h0 (by rw [h.all.2.2]; exact few)) fun s H Q ⟨W, F, m, r, q, rel, rs, z, k⟩ => disp_wk nd few rel rs z fun W1 H1 m1 xs ps p l1 hF rel1 rd hq => by
    have r2 := rel1.reframe (o' := .dK xs) hF rel.lf
    obtain ⟨r3, l3⟩ := r2.thaw hF rel.lf
    exact k _ _ m1 (.ref p) (.dic ps) (l1.trans l3) r3 (.dic upd_same (rd.mono l3)) hq
end
def dSortedP : FN
  | [x], m, q => onS (seqL x m) fun ds => onS (intsOf ds) fun ns => ∀ ns' : List Int, ns'.Perm ns → ns'.Pairwise (· ≤ ·) → q (.ptr m.length) (m ++ [.lst (ns'.map D.int)])
  | _, _, _ => False
theorem o_sortedP {K : PySem.W.Frag} : OpN K dSortedP (fun xs H Q => rSortedI K xs H Q ∨ rSortedS K xs H Q) := by
  intro W F H m xs ds q Q rel ra h k
  unfold dSortedP at h
  split at h
  · obtain ⟨v, rfl, rv⟩ := ra1 ra
    obtain ⟨es, e1, h⟩ := onS_some h
    obtain ⟨ns, e2, h⟩ := onS_some h
    obtain ⟨a, ys, rfl, g, r⟩ := seqL_at rel rv e1
    rw [intsOf_eq e2] at r
    have := ra_ints_eq r
    subst this
    exact .inl ⟨a, ns, rfl, g, fun ns' p h1 h2 hp => hot_lst rel (ra_ints ns') (h ns' h1 h2) k hp⟩
  · exact h.elim
theorem je_sortedP {X : Cx} {a : Expr} {ta : DE} {p pos : Pos} (hg : Gl X "sorted") (hm : X.mg "sorted" = none) (ha : JE X a ta) (hs : starEach [a] X.env = (false, eval a X.env) :: starEach [] X.env := by rfl) (hp : (backTo pos (starEach [] X.env)).any (·.1) = false := by rfl) : JE X (.Call (.Name "sorted" p) [a] [] pos) (dCallB dSortedP (a1 ta)) :=
  je_callB (cr_or cr_sortedI cr_sortedS) o_sortedP hg hm (by decide +kernel) (ja_cons ha ja_nil hs) (by decide) (by decide) hs hp
theorem eqG_nil {x : D} {ds : List D} {k c : Nat} {m : Sto} {q : D → Sto → Prop} {neg : Bool} (hx : seqL x m = some ds) (hd : ∀ d ∈ ds, Gd k c d) (hk : k < 60) (h : q (.bl (if neg then !ds.isEmpty else ds.isEmpty)) m) : dEqG neg x (.lst []) m q := by
  obtain ⟨v, e, p⟩ := gd_lstP hd
  refine eqG_py (c := _) (c' := 2) ((py_seq hx).trans e) py_nil (p.mono (by omega) (Nat.le_refl _)) (pd_nil.mono (by decide) (Nat.le_refl _)) ?_
  have ev : PyData.eqv v (.list []) = ds.isEmpty := by
    cases ds with
    | nil => rw [nilA] at e; cases e; rfl
    | cons d es => exact eqv_nil (by simp) e
  rw [ev]; exact h
end DL
namespace DL
open PySem PySem.Spec PyProof.Rows L2
mutual
inductive RdN (h : Heap) : Value → PyData → Prop
  | non : RdN h .none .none
  | bl (b : Bool) : RdN h (.bool b) (.bool b)
  | int (i : Int) (t : Tok) : RdN h (.int i t) (.int i)
  | str (x : Str) (t : Tok) : RdN h (.str x t) (.str x)
  | lst {a : Addr} {o : Obj} {vs : Array Value} {n : Nat} {xs : List PyData} : h.get? a = some o → o.cls = .type "list" → o.data = .seq vs n → RdNA h vs.toList xs → RdN h (.ref a) (.list xs)
  | tup {a : Addr} {o : Obj} {vs : Array Value} {n : Nat} {xs : List PyData} : h.get? a = some o → o.cls = .type "tuple" → o.data = .seq vs n → RdNA h vs.toList xs → RdN h (.ref a) (.tuple xs)
  | dic {a : Addr} {o : Obj} {es : Array DictEntry} {n : Nat} {l : List (PyData × PyData)} : h.get? a = some o → o.cls = .type "dict" → o.data = .dict es n → (a == sysModules) = false → RdNA h (es.toList.map (·.key)) (l.map (·.1)) → RdNA h (es.toList.map (·.val)) (l.map (·.2)) → RdN h (.ref a) (.dict l)
inductive RdNA (h : Heap) : List Value → List PyData → Prop
  | nil : RdNA h [] []
  | cons {v : Value} {vs : List Value} {d : PyData} {ds : List PyData} : RdN h v d → RdNA h vs ds → RdNA h (v :: vs) (d :: ds)
end
section
variable {h : Heap}
mutual
theorem RdN.reads : ∀ {v : Value} {d : PyData}, RdN h v d → ∃ as, Reads h v d as
  | _, _, .non => ⟨_, .none⟩
  | _, _, .bl b => ⟨_, .bool b⟩
  | _, _, .int i t => ⟨_, .int i t⟩
  | _, _, .str x t => ⟨_, .str x t⟩
  | _, _, .lst h1 h2 h3 r => let ⟨_, q⟩ := r.reads; ⟨_, .list h1 h2 h3 q⟩
  | _, _, .tup h1 h2 h3 r => let ⟨_, q⟩ := r.reads; ⟨_, .tuple h1 h2 h3 q⟩
  | _, _, .dic h1 h2 h3 _ r s => let ⟨_, q⟩ := r.reads; let ⟨_, p⟩ := s.reads; ⟨_, .dict h1 h2 h3 q p⟩
theorem RdNA.reads : ∀ {vs : List Value} {ds : List PyData}, RdNA h vs ds → ∃ as, ReadsAll h vs ds as
  | _, _, .nil => ⟨_, .nil⟩
  | _, _, .cons r s => let ⟨_, q⟩ := r.reads; let ⟨_, p⟩ := s.reads; ⟨_, .cons q p⟩
end
mutual
theorem RdN.reprK {P : Program} {w : World} : ∀ {v : Value} {d : PyData}, RdN h v d → d.showable = true → d.shown.length ≤ sizeLine → ∃ bs, ReadAtMost h d.depth bs ∧ ReprK P w bs h d.depth v d.shown
  | _, _, .non, s, z => ReprK.of_reads .none s (fun e => nomatch e) z
  | _, _, .bl b, s, z => ReprK.of_reads (.bool b) s (fun e => nomatch e) z
  | _, _, .int i t, s, z => ReprK.of_reads (.int i t) s (fun e => nomatch e) z
  | _, _, .str x t, s, z => ReprK.of_reads (.str x t) s (fun e => nomatch e) z
  | _, _, .lst (a := a) (vs := vs) (xs := xs) h1 h2 h3 r, s, z => by
    have z1 : (listText (PyData.shownAll xs)).length ≤ sizeLine := by simpa only [PyData.shown] using z
    obtain ⟨bs, hb, hk⟩ := r.reprK (P := P) (w := w) (by simpa [PyData.showable] using s) fun t ht => Nat.le_trans (listText_mem_le ht) z1
    obtain ⟨as, q⟩ := r.reads
    have rr : Reads h (.ref a) (.list xs) _ := .list h1 h2 h3 q
    have no : a ∉ bs := not_mem_of_deeper rr (by simp only [PyData.depth]; omega) hb
    refine ⟨a :: bs, ReadAtMost.cons rr (by simp only [PyData.depth]; omega) hb, ?_⟩
    simp only [PyData.depth, PyData.shown]
    obtain ⟨l⟩ := vs
    cases l with
    | nil =>
      have r' : RdNA h [] xs := r
      cases r'
      simp only [PyData.shownAll, listText_nil]
      exact ReprK.listEmpty h1 h2 h3
    | cons x l => exact ReprK.list h1 h2 h3 no (by simpa using hk.length_eq) fun i y e => hk.item i y (by simpa using e)
  | _, _, .tup (a := a) (xs := xs) h1 h2 h3 r, s, z => by
    have z1 : (tupleText (PyData.shownAll xs)).length ≤ sizeLine := by simpa only [PyData.shown] using z
    obtain ⟨bs, hb, hk⟩ := r.reprK (P := P) (w := w) (by simpa [PyData.showable] using s) fun t ht => Nat.le_trans (tupleText_mem_le ht) z1
    obtain ⟨as, q⟩ := r.reads
    have rr : Reads h (.ref a) (.tuple xs) _ := .tuple h1 h2 h3 q
    have no : a ∉ bs := not_mem_of_deeper rr (by simp only [PyData.depth]; omega) hb
    refine ⟨a :: bs, ReadAtMost.cons rr (by simp only [PyData.depth]; omega) hb, ?_⟩
    simp only [PyData.depth, PyData.shown]
    exact ReprK.tuple h1 h2 h3 no hk
  | _, _, .dic (a := a) (es := es) (l := l) h1 h2 h3 sy r1 r2, s, z => by
    have z1 : (dictText (PyData.shownKv l)).length ≤ sizeLine := by simpa only [PyData.shown] using z
    obtain ⟨s1, s2⟩ := PyData.showableKv_split l (by simpa [PyData.showable] using s)
    obtain ⟨b1, hb1, k1⟩ := r1.reprK (P := P) (w := w) s1 fun t ht => let ⟨p, hp, hl⟩ := PyData.shownKv_key_le l t ht; Nat.le_trans hl (Nat.le_trans (dictText_mem_le hp) z1)
    obtain ⟨b2, hb2, k2⟩ := r2.reprK (P := P) (w := w) s2 fun t ht => let ⟨p, hp, hl⟩ := PyData.shownKv_val_le l t ht; Nat.le_trans hl (Nat.le_trans (dictText_mem_le hp) z1)
    obtain ⟨as, q1⟩ := r1.reads
    obtain ⟨as', q2⟩ := r2.reads
    have rr : Reads h (.ref a) (.dict l) _ := .dict h1 h2 h3 q1 q2
    have hb : ReadAtMost h (PyData.depthKv l) (b1 ++ b2) := (hb1.mono (PyData.depthAll_keys_le l)).append (hb2.mono (PyData.depthAll_vals_le l))
    have no : a ∉ b1 ++ b2 := not_mem_of_deeper rr (by simp only [PyData.depth]; omega) hb
    refine ⟨a :: (b1 ++ b2), ReadAtMost.cons rr (by simp only [PyData.depth]; omega) hb, ?_⟩
    simp only [PyData.depth, PyData.shown, PyData.shownKv_eq]
    refine ReprK.dict h1 h2 h3 sy no (ReprEntriesK.of_two es.toList _ _ ?_ ?_)
    · exact k1.more_le (fun b hb => List.mem_append_left _ hb) (PyData.depthAll_keys_le l)
    · exact k2.more_le (fun b hb => List.mem_append_right _ hb) (PyData.depthAll_vals_le l)
theorem RdNA.reprK {P : Program} {w : World} : ∀ {vs : List Value} {ds : List PyData}, RdNA h vs ds → PyData.showableAll ds = true → (∀ t ∈ PyData.shownAll ds, t.length ≤ sizeLine) → ∃ bs, ReadAtMost h (PyData.depthAll ds) bs ∧ ReprAllK P w bs h (PyData.depthAll ds) vs (PyData.shownAll ds)
  | _, _, .nil, _, _ => ⟨[], (fun _ h => nomatch h), by simp only [PyData.shownAll]; exact .nil⟩
  | _, _, .cons (d := d) (ds := ds) r rs, s, z => by
    have s' : d.showable = true ∧ PyData.showableAll ds = true := by simpa [PyData.showableAll] using s
    obtain ⟨b1, hb1, k1⟩ := r.reprK (P := P) (w := w) s'.1 (z _ (by simp only [PyData.shownAll]; exact List.mem_cons_self ..))
    obtain ⟨b2, hb2, k2⟩ := rs.reprK (P := P) (w := w) s'.2 fun t ht => z t (by simp only [PyData.shownAll]; exact List.mem_cons_of_mem _ ht)
    refine ⟨b1 ++ b2, fun b hm => ?_, ?_⟩
    · simp only [PyData.depthAll]
      rcases List.mem_append.mp hm with hm | hm
      · obtain ⟨d', as', r', hd'⟩ := hb1 b hm
        exact ⟨d', as', r', Nat.le_trans hd' (Nat.le_max_left ..)⟩
      · obtain ⟨d', as', r', hd'⟩ := hb2 b hm
        exact ⟨d', as', r', Nat.le_trans hd' (Nat.le_max_right ..)⟩
    · simp only [PyData.depthAll, PyData.shownAll]
      refine .cons ?_ (k2.more_le (fun b hb => List.mem_append_right _ hb) (Nat.le_max_right ..))
      exact (k1.more fun b hb => List.mem_append_left _ hb).level_le (Nat.le_max_left ..)
end
variable {P : Program} {w : World}
theorem RdN.repr {A : Around} {E : Value → Shared → Prop} {s : Shared} {a : Addr} {d : PyData} {Q : Value → Shared → Prop} (r : RdN s.heap (.ref a) d) (sh : d.showable = true) (z : d.shown.length ≤ sizeLine) (gd : A.guards = some []) (hu : A.units + (d.depth + 1) < cLine)
    (fin : ∀ h' u tk, (∀ b o, s.heap.get? b = some o → h'.get? b = some o) → Q (.str d.shown u) { s with heap := h', toks := tk }) : wpAny (model P w) A (call (.builtin "repr") [.ref a]) Q E s := by
  have use : ∀ {T idr : String}, SlotG T "__repr__" idr → s.TypeIs (.ref a) T → wpAny (model P w) A.in1 (call (.builtin idr) [.ref a]) (fun r s₁ => ∃ x t, r = .str x t ∧ Q r s₁) E s → wpAny (model P w) A (call (.builtin "repr") [.ref a]) Q E s :=
    fun sl ty c => call_repr_slot (by omega) ty sl c
  have g1 : A.in1.guards = some [] := gd
  cases r with
  | lst h1 h2 h3 r =>
    rename_i o vs n xs
    have z1 : (listText (PyData.shownAll xs)).length ≤ sizeLine := by simpa only [PyData.shown] using z
    obtain ⟨bs, hb, hk⟩ := r.reprK (P := P) (w := w) (by simpa [PyData.showable] using sh) fun t ht => Nat.le_trans (listText_mem_le ht) z1
    obtain ⟨as, q⟩ := r.reads
    have no : a ∉ bs := not_mem_of_deeper (.list h1 h2 h3 q) (by simp only [PyData.depth]; omega) hb
    refine use PySem.F.slot_list_repr.toG ⟨o, h1, h2⟩ ?_
    simp only [PyData.depth] at hu
    simp only [PyData.shown] at fin
    obtain ⟨l⟩ := vs
    cases l with
    | nil =>
      have r' : RdNA s.heap [] xs := r
      cases r'
      simp only [PyData.shownAll, listText_nil] at fin
      exact call_list_repr_empty ⟨o, h1, h2⟩ h1 h3 ⟨_, _, rfl, fin s.heap _ _ fun _ _ e => e⟩
    | cons x l =>
      exact call_list_reprK h1 h2 h3 no (by simpa using hk.length_eq) (fun i y e => hk.item i y (by simpa using e)) g1 (fun b _ => Clear.nil b) (by show A.units + 1 + _ < _; omega) (fun _ _ e => e) (fun h' u tk kk => ⟨_, _, rfl, fin h' u tk kk⟩) z1
  | tup h1 h2 h3 r =>
    rename_i o vs n xs
    have z1 : (tupleText (PyData.shownAll xs)).length ≤ sizeLine := by simpa only [PyData.shown] using z
    obtain ⟨bs, hb, hk⟩ := r.reprK (P := P) (w := w) (by simpa [PyData.showable] using sh) fun t ht => Nat.le_trans (tupleText_mem_le ht) z1
    obtain ⟨as, q⟩ := r.reads
    have no : a ∉ bs := not_mem_of_deeper (.tuple h1 h2 h3 q) (by simp only [PyData.depth]; omega) hb
    refine use PySem.F.slot_tuple_repr ⟨o, h1, h2⟩ ?_
    simp only [PyData.depth] at hu
    simp only [PyData.shown] at fin
    exact call_tuple_reprK h1 h2 h3 no hk g1 (fun b _ => Clear.nil b) (by show A.units + 1 + _ < _; omega) (fun _ _ e => e) (fun h' u tk kk => ⟨_, _, rfl, fin h' u tk kk⟩) z1
  | dic h1 h2 h3 sy r1 r2 =>
    rename_i o es n l
    have z1 : (dictText (PyData.shownKv l)).length ≤ sizeLine := by simpa only [PyData.shown] using z
    obtain ⟨s1, s2⟩ := PyData.showableKv_split l (by simpa [PyData.showable] using sh)
    obtain ⟨b1, hb1, k1⟩ := r1.reprK (P := P) (w := w) s1 fun t ht => let ⟨p, hp, hl⟩ := PyData.shownKv_key_le l t ht; Nat.le_trans hl (Nat.le_trans (dictText_mem_le hp) z1)
    obtain ⟨b2, hb2, k2⟩ := r2.reprK (P := P) (w := w) s2 fun t ht => let ⟨p, hp, hl⟩ := PyData.shownKv_val_le l t ht; Nat.le_trans hl (Nat.le_trans (dictText_mem_le hp) z1)
    obtain ⟨as, q1⟩ := r1.reads
    obtain ⟨as', q2⟩ := r2.reads
    have hb : ReadAtMost s.heap (PyData.depthKv l) (b1 ++ b2) := (hb1.mono (PyData.depthAll_keys_le l)).append (hb2.mono (PyData.depthAll_vals_le l))
    have no : a ∉ b1 ++ b2 := not_mem_of_deeper (.dict h1 h2 h3 q1 q2) (by simp only [PyData.depth]; omega) hb
    refine use PySem.F.slot_dict_repr ⟨o, h1, h2⟩ ?_
    simp only [PyData.depth] at hu
    simp only [PyData.shown, PyData.shownKv_eq] at fin
    refine call_dict_reprK (d := PyData.depthKv l) h1 h2 h3 sy no (ReprEntriesK.of_two es.toList _ _ ?_ ?_) g1 (fun b _ => Clear.nil b) (by show A.units + 1 + _ < _; omega) (fun _ _ e => e) (fun h' u tk kk => ⟨_, _, rfl, fin h' u tk kk⟩) (by rw [← PyData.shownKv_eq]; exact z1)
    · exact k1.more_le (fun b hb => List.mem_append_left _ hb) (PyData.depthAll_keys_le l)
    · exact k2.more_le (fun b hb => List.mem_append_right _ hb) (PyData.depthAll_vals_le l)
end
def keyP : L2.Key → PyData
  | .inl i => .int i
  | .inr x => .str x
mutual
inductive PyR (m : Sto) : D → PyData → Prop
  | non : PyR m .non .none
  | bl (b : Bool) : PyR m (.bl b) (.bool b)
  | int (i : Int) : PyR m (.int i) (.int i)
  | str (x : Str) : PyR m (.str x) (.str x)
  | tup {ds : List D} {ps : List PyData} : PyRA m ds ps → PyR m (.tup ds) (.tuple ps)
  | lst {ds : List D} {ps : List PyData} : PyRA m ds ps → PyR m (.lst ds) (.list ps)
  | fz {ds : List D} {ps : List PyData} : PyRA m ds ps → PyR m (.fz ds) (.list ps)
  | ptr {i : Nat} {ds : List D} {ps : List PyData} : m[i]? = some (.lst ds) → PyRA m ds ps → PyR m (.ptr i) (.list ps)
  | dic {kvs : List (L2.Key × D)} {l : List (PyData × PyData)} : PyRD m kvs l → PyR m (.dic kvs) (.dict l)
  | dptr {i : Nat} {kvs : List (L2.Key × D)} {l : List (PyData × PyData)} : m[i]? = some (.dic kvs) → PyRD m kvs l → PyR m (.ptr i) (.dict l)
inductive PyRA (m : Sto) : List D → List PyData → Prop
  | nil : PyRA m [] []
  | cons {d : D} {ds : List D} {p : PyData} {ps : List PyData} : PyR m d p → PyRA m ds ps → PyRA m (d :: ds) (p :: ps)
inductive PyRD (m : Sto) : List (L2.Key × D) → List (PyData × PyData) → Prop
  | nil : PyRD m [] []
  | cons {k : L2.Key} {d : D} {kvs : List (L2.Key × D)} {p : PyData} {l : List (PyData × PyData)} : PyR m d p → PyRD m kvs l → PyRD m ((k, d) :: kvs) ((keyP k, p) :: l)
end
variable [Cl] [Lk]
section
variable {X : Cx} {pins : List (Addr × Obj)} {σ : L2.St} {H : Hp} {s : Shared} {W : Wd} {F : Hp} {m : Sto}
theorem key_reads {P : Program} {w : World} {h : Heap} {k : L2.Key} {v : Value} (e : (mixKind P w).is k v = true) : RdN h v (keyP k) := by
  cases k with
  | inl i =>
    obtain ⟨t, rfl⟩ := Value.isInt_shape (show Value.isInt i v = true from e)
    exact .int i t
  | inr x =>
    obtain ⟨t, rfl⟩ := Value.isStrOf_shape (show Value.isStrOf x v = true from e)
    exact .str x t
mutual
theorem rdn_of (I : Inv X pins σ H s) (rel : Rel X.K W F H m) : ∀ {d : D} {p : PyData} {x : V} {u : Value}, PyR m d p → R X.K W x d → RelV x u → RdN s.heap u p
  | _, _, _, _, .non, r, ru => by cases r; cases ru; exact .non
  | _, _, _, _, .bl b, r, ru => by cases r; cases ru; exact .bl b
  | _, _, _, _, .int i, r, ru => by cases r; obtain ⟨t, rfl⟩ := ru; exact .int i t
  | _, _, _, _, .str x, r, ru => by cases r; obtain ⟨t, rfl⟩ := ru; exact .str x t
  | _, _, _, _, .tup q, r, ru => by
    cases r with
    | tup hs ra =>
      cases ru
      obtain ⟨its, rv, ⟨o, ho, hc, n, hd⟩, _⟩ := I.tuple (same_seqT rel.sub hs)
      exact .tup ho hc hd (rdnA_of I rel q ra rv)
  | _, _, _, _, .lst q, r, ru => by
    cases r with
    | lst hs ra =>
      cases ru
      obtain ⟨its, rv, ⟨o, n, ho, hc, _, hd⟩, _⟩ := I.list (SqL.of (rel.sub _ _ hs))
      exact .lst ho hc hd (rdnA_of I rel q ra rv)
  | _, _, _, _, .fz q, r, ru => by
    cases r with
    | fz hs ra =>
      cases ru
      obtain ⟨its, rv, ⟨o, n, ho, hc, _, hd⟩, _⟩ := I.list (same_seqL rel.sub hs)
      exact .lst ho hc hd (rdnA_of I rel q ra rv)
  | _, _, _, _, .ptr hm q, r, ru => by
    cases r with
    | ptr hb =>
      cases ru
      obtain ⟨b, h1, _, _, xs, h4, ra⟩ := rel.cell _ _ hm (fun z => by cases z)
      obtain rfl := Option.some.inj (h1.symm.trans hb)
      obtain ⟨its, rv, ⟨o, n, ho, hc, _, hd⟩, _⟩ := I.list (SqL.of h4)
      exact .lst ho hc hd (rdnA_of I rel q ra rv)
  | _, _, _, _, .dic q, r, ru => by
    cases r with
    | dic hs rd =>
      cases ru
      obtain ⟨hz, hS, vs, kv, o, es, ep, ho, hx, hd, hk, hp, hn⟩ := I.hok _ _ (rel.sub _ _ hs)
      obtain ⟨g1, g2⟩ := rdnD_of I rel q rd kv hp
      exact .dic ho hx.1 hd hS g1 g2
  | _, _, _, _, .dptr hm q, r, ru => by
    cases r with
    | ptr hb =>
      cases ru
      obtain ⟨b, h1, _, _, xs, h4, rd⟩ := rel.cell _ _ hm (fun z => by cases z)
      obtain rfl := Option.some.inj (h1.symm.trans hb)
      obtain ⟨hz, hS, vs, kv, o, es, ep, ho, hx, hd, hk, hp, hn⟩ := I.hok _ _ h4
      obtain ⟨g1, g2⟩ := rdnD_of I rel q rd kv hp
      exact .dic ho hx.1 hd hS g1 g2
theorem rdnA_of (I : Inv X pins σ H s) (rel : Rel X.K W F H m) : ∀ {ds : List D} {ps : List PyData} {xs : List V} {us : List Value}, PyRA m ds ps → RA X.K W xs ds → Vals xs us → RdNA s.heap us ps
  | _, _, _, _, .nil, r, ru => by cases r; cases ru; exact .nil
  | _, _, _, _, .cons q qs, r, ru => by
    cases r with
    | cons r1 r2 =>
      cases ru with
      | cons u1 u2 => exact .cons (rdn_of I rel q r1 u1) (rdnA_of I rel qs r2 u2)
theorem rdnD_of (I : Inv X pins σ H s) (rel : Rel X.K W F H m) : ∀ {ds : List (L2.Key × D)} {l : List (PyData × PyData)} {xs : List (L2.Key × V)} {vs : List (L2.Key × Value)} {es : List DictEntry}, PyRD m ds l → RD X.K W xs ds → KV xs vs → Pairs (mixKind X.prog X.w) es vs →
    RdNA s.heap (es.map (·.key)) (l.map (·.1)) ∧ RdNA s.heap (es.map (·.val)) (l.map (·.2))
  | _, _, _, _, _, .nil, r, kv, p => by cases r; cases kv; cases p; exact ⟨.nil, .nil⟩
  | _, _, _, _, es, .cons q qs, r, kv, p => by
    cases r with
    | @cons k v vs d ds r1 r2 =>
      cases kv with
      | @cons a b as bs hh t =>
        cases p with
        | @cons e kv' es' kvs' h1 h2 p' =>
          obtain ⟨g1, g2⟩ := rdnD_of I rel qs r2 t p'
          obtain ⟨b1, b2⟩ := b
          obtain ⟨e1, e2⟩ := hh
          simp only at e1 e2
          subst e1
          exact ⟨.cons (key_reads h1) g1, .cons (by show RdN s.heap e.val _; rw [h2]; exact rdn_of I rel q r1 e2) g2⟩
end
end
mutual
theorem dp_pyr {K : PySem.W.Frag} {W : Wd} {F H : Hp} {m : Sto} (rel : Rel K W F H m) : ∀ {d : D} {p : PyData} {x : V}, PyR m d p → p.hasDict = false → R K W x d → Dp K H x p
  | _, _, _, .non, _, r => by cases r; exact .non
  | _, _, _, .bl b, _, r => by cases r; exact .bl b
  | _, _, _, .int i, _, r => by cases r; exact .int i
  | _, _, _, .str x, _, r => by cases r; exact .str x
  | _, _, _, .tup q, n, r => by
    cases r with
    | tup hs ra => exact .tup (same_seqT rel.sub hs) (dpA_pyr rel q (by simpa only [PyData.hasDict] using n) ra)
  | _, _, _, .lst q, n, r => by
    cases r with
    | lst hs ra => exact .lst (SqL.of (rel.sub _ _ hs)) (dpA_pyr rel q (by simpa only [PyData.hasDict] using n) ra)
  | _, _, _, .fz q, n, r => by
    cases r with
    | fz hs ra => exact .lst (same_seqL rel.sub hs) (dpA_pyr rel q (by simpa only [PyData.hasDict] using n) ra)
  | _, _, _, .ptr hm q, n, r => by
    cases r with
    | ptr hb =>
      obtain ⟨b, h1, _, _, xs, h4, ra⟩ := rel.cell _ _ hm (fun z => by cases z)
      obtain rfl := Option.some.inj (h1.symm.trans hb)
      exact .lst (SqL.of h4) (dpA_pyr rel q (by simpa only [PyData.hasDict] using n) ra)
  | _, _, _, .dic q, n, r => by simp only [PyData.hasDict] at n; cases n
  | _, _, _, .dptr hm q, n, r => by simp only [PyData.hasDict] at n; cases n
theorem dpA_pyr {K : PySem.W.Frag} {W : Wd} {F H : Hp} {m : Sto} (rel : Rel K W F H m) : ∀ {ds : List D} {ps : List PyData} {xs : List V}, PyRA m ds ps → PyData.hasDictAll ps = false → RA K W xs ds → DpAll K H xs ps
  | _, _, _, .nil, _, r => by cases r; exact .nil
  | _, _, _, .cons q qs, n, r => by
    cases r with
    | cons r1 r2 =>
      rw [PyData.hasDictAll, Bool.or_eq_false_iff] at n
      have n' := n
      exact .cons (dp_pyr rel q n'.1 r1) (dpA_pyr rel qs n'.2 r2)
end
@[irreducible] def dEqS (neg : Bool) (x y : D) (m : Sto) (q : D → Sto → Prop) : Prop := ∃ a b, PyR m x a ∧ PyR m y b ∧ (a.hasDict = false ∧ SeqAt.shaped a = true) ∧ (b.hasDict = false ∧ SeqAt.shaped b = true) ∧ q (.bl (if neg then !PyData.eqv a b else PyData.eqv a b)) m
def dEqD : F2
  | .int i, .int j, m, q => q (.bl (decide (i = j))) m
  | .bl i, .bl j, m, q => q (.bl (decide (i = j))) m
  | .str i, .str j, m, q => q (.bl (decide (i = j))) m
  | x, y, m, q => dEqS false x y m q
theorem o_eqD {K : PySem.W.Frag} : Op2 K dEqD (rrEq K) := by
  intro W F H m x y d e q Q rel rx ry h k
  unfold dEqD at h
  split at h
  · cases rx; cases ry
    refine .inl ⟨rfl, ?_⟩
    rw [v_int]
    exact k _ _ _ _ _ (.refl _) rel (.bl _) h
  · cases rx; cases ry
    refine .inl ⟨rfl, ?_⟩
    rw [v_bl]
    exact k _ _ _ _ _ (.refl _) rel (.bl _) h
  · cases rx; cases ry
    refine .inl ⟨rfl, ?_⟩
    rw [v_str]
    exact k _ _ _ _ _ (.refl _) rel (.bl _) h
  · unfold dEqS at h
    obtain ⟨a, b, e1, e2, h1, h2, h⟩ := h
    exact .inr ⟨a, b, dp_pyr rel e1 h1.1 rx, dp_pyr rel e2 h2.1 ry, h1.2, h2.2, k _ _ _ _ _ (.refl _) rel (.bl _) h⟩
section
variable {X : Cx} {a b : Expr} {ta tb : DE} {p pos : Pos} {k : Nat}
theorem je_eqD (hr : Room k X.A) (ha : JE X a ta) (hb : JE X b tb) : JE X (.Compare a [.Eq] [b] pos) (dBin dEqD ta tb) := je_cmp (op_eqAll (units64 hr)) o_eqD ha hb (nobehind _ (by decide) (by decide))
theorem jt_eqD (hr : Room k X.A) (ha : JE X a ta) (hb : JE X b tb) : JT X (.Compare a [.Eq] [b] pos) (dTest (dBin dEqD ta tb)) := jt_cmp (op_eqAll (units64 hr)) o_eqD ha hb (nobehind _ (by decide) (by decide))
/-- what can be shown -/
structure Sd (k c : Nat) (v : PyData) : Prop where
  dep : v.depth ≤ k
  sho : v.showable = true
  len : v.shown.length ≤ c
@[irreducible] def dReprSF (x : D) (m : Sto) (q : D → Sto → Prop) : Prop := ∃ v, PyR m x v ∧ Sd 60 sizeLine v ∧ q (.str v.shown) m
def dReprS : FN
  | [x], m, q => dReprSF x m q
  | _, _, _ => False
def rReprS (X : Cx) : List V → Hp → VK → Prop := fun xs H Q => ∃ x v, xs = [x] ∧ (∀ (pins : List (Addr × Obj)) (σ : L2.St) (s : Shared) (u : Value), Inv X pins σ H s → RelV x u → RdN s.heap u v) ∧ Sd 60 sizeLine v ∧ Q (.str v.shown) H
theorem call_reprS (gd : X.A.guards = some []) (hu : X.A.units + 65 < cLine) : CallR X (.builtin "repr") (rReprS X) := by
  intro pins s σ H xs us Q I r h
  obtain ⟨x, v, rfl, rd, sd, q⟩ := h
  obtain ⟨u, rfl, rx⟩ := vals1 r
  have rd := rd pins σ s u I rx
  have dp := sd.dep
  have fin : ∀ (h' : Heap) (tk : Tok) (tk2 : Nat), (∀ b o, s.heap.get? b = some o → h'.get? b = some o) → EP X pins σ Q (.str v.shown tk) { s with heap := h', toks := tk2 } := fun h' tk tk2 kk => ⟨.str v.shown, H, I.kept kk, ⟨tk, rfl⟩, q⟩
  have deep : ∀ {a : Addr}, RdN s.heap (.ref a) v → wpAny (model X.prog X.w) X.A (call (.builtin "repr") [.ref a]) (EP X pins σ Q) X.xe s := fun rd => rd.repr sd.sho sd.len gd (by omega) fun h' tk tk2 kk => fin h' tk tk2 kk
  have s1 := sd.sho
  have s2 := sd.len
  cases rd with
  | non => exact PySem.P.repr_of_none (fin s.heap _ _ fun _ _ e => e)
  | bl b => exact PySem.P.repr_of_bool (fin s.heap _ _ fun _ _ e => e)
  | int i t =>
    have hz : i.natAbs.log2 < 1920 := by simpa [PyData.showable] using s1
    exact PySem.P.repr_of_int hz (fin s.heap _ _ fun _ _ e => e)
  | str z t => exact PySem.P.repr_of_str (fin s.heap _ _ fun _ _ e => e) s2
  | lst h1 h2 h3 r' => exact deep (.lst h1 h2 h3 r')
  | tup h1 h2 h3 r' => exact deep (.tup h1 h2 h3 r')
  | dic h1 h2 h3 sy r1 r2 => exact deep (.dic h1 h2 h3 sy r1 r2)
theorem o_reprS : OpN X.K dReprS (rReprS X) := by
  intro W F H m xs ds q Q rel ra h k
  unfold dReprS at h
  split at h
  · unfold dReprSF at h
    obtain ⟨v, rfl, rv⟩ := ra1 ra
    obtain ⟨p, py, sd, h⟩ := h
    exact ⟨v, p, rfl, fun pins σ s u I ru => rdn_of I rel py rv ru, sd, k _ _ _ _ _ (.refl _) rel (.str _) h⟩
  · exact h.elim
theorem je_reprS (hr : Room k X.A) (gd : X.A.guards = some []) (hg : Gl X "repr") (hm : X.mg "repr" = none) (ha : JE X a ta) (hs : starEach [a] X.env = (false, eval a X.env) :: starEach [] X.env := by rfl) (hp : (backTo pos (starEach [] X.env)).any (·.1) = false := by rfl) : JE X (.Call (.Name "repr" p) [a] [] pos) (dCallB dReprS (a1 ta)) :=
  je_callB (call_reprS gd (units65 hr)) o_reprS hg hm (by decide +kernel) (ja_cons ha ja_nil hs) (by decide) (by decide) hs hp
end
theorem Sd.mono {k c k' c' : Nat} {v : PyData} (h : Sd k c v) (hk : k ≤ k') (hc : c ≤ c') : Sd k' c' v := ⟨Nat.le_trans h.dep hk, h.sho, Nat.le_trans h.len hc⟩
theorem Pd.sd {k c : Nat} {v : PyData} (h : Pd k c v) : Sd k c v := ⟨h.dep, h.sho, h.len⟩
/-- what may be shown, and what may be compared too -/
def Sh (m : Sto) (k c : Nat) (d : D) : Prop := ∃ v, PyR m d v ∧ Sd k c v
def Cm (m : Sto) (k c : Nat) (d : D) : Prop := ∃ v, PyR m d v ∧ Pd k c v
mutual
theorem pyr_py {m : Sto} : ∀ {d : D} {v : PyData}, py0 d = some v → PyR m d v
  | .non, _, e => by cases e; exact .non
  | .bl b, _, e => by cases e; exact .bl b
  | .int i, _, e => by cases e; exact .int i
  | .str x, _, e => by cases e; exact .str x
  | .tup ds, _, e => by
    simp only [py0, Option.map_eq_some_iff] at e
    obtain ⟨ps, e, rfl⟩ := e
    exact .tup (pyrA_py e)
  | .lst ds, _, e => by
    simp only [py0, Option.map_eq_some_iff] at e
    obtain ⟨ps, e, rfl⟩ := e
    exact .lst (pyrA_py e)
  | .fz ds, _, e => by
    simp only [py0, Option.map_eq_some_iff] at e
    obtain ⟨ps, e, rfl⟩ := e
    exact .fz (pyrA_py e)
  | .ptr _, _, e => by cases e
  | .ty _, _, e => by cases e
  | .dic _, _, e => by cases e
  | .adr _, _, e => by cases e
  | .gl _, _, e => by cases e
theorem pyrA_py {m : Sto} : ∀ {ds : List D} {ps : List PyData}, py0A ds = some ps → PyRA m ds ps
  | [], _, e => by cases e; exact .nil
  | d :: ds, ps, e => by
    unfold py0A at e
    cases e1 : py0 d with
    | none => rw [e1] at e; simp at e
    | some p =>
      cases e2 : py0A ds with
      | none => rw [e1, e2] at e; simp at e
      | some qs =>
        rw [e1, e2] at e
        cases e
        exact .cons (pyr_py e1) (pyrA_py e2)
end
theorem Gd.cm {m : Sto} {k c : Nat} {d : D} (h : Gd k c d) : Cm m k c d := let ⟨v, e, p⟩ := h; ⟨v, pyr_py e, p⟩
theorem Sh.mono {m : Sto} {k c k' c' : Nat} {d : D} (h : Sh m k c d) (hk : k ≤ k') (hc : c ≤ c') : Sh m k' c' d := let ⟨v, a, b⟩ := h; ⟨v, a, b.mono hk hc⟩
theorem Cm.mono {m : Sto} {k c k' c' : Nat} {d : D} (h : Cm m k c d) (hk : k ≤ k') (hc : c ≤ c') : Cm m k' c' d := let ⟨v, a, b⟩ := h; ⟨v, a, b.mono hk hc⟩
theorem reprS_i {x : D} {m : Sto} {v : PyData} {q : D → Sto → Prop} (hx : PyR m x v) (p : Sd 60 sizeLine v) (h : q (.str v.shown) m) : dReprSF x m q := by unfold dReprSF; exact ⟨v, hx, p, h⟩
theorem noDict {k c : Nat} {v : PyData} (p : Pd k c v) : v.hasDict = false := PyData.hasDict_of_canLay v p.lay
theorem eqS_py {x y : D} {m : Sto} {a b : PyData} {neg : Bool} {q : D → Sto → Prop} {c c' : Nat} (hx : PyR m x a) (hy : PyR m y b) (pa : Pd 60 c a) (pb : Pd 60 c' b) (h : q (.bl (if neg then !PyData.eqv a b else PyData.eqv a b)) m) : dEqS neg x y m q := by
  unfold dEqS
  exact ⟨a, b, hx, hy, ⟨noDict pa, pd_shaped pa⟩, ⟨noDict pb, pd_shaped pb⟩, h⟩
theorem eqD_py {x y : D} {m : Sto} {a b : PyData} {q : D → Sto → Prop} {c c' : Nat} (hx : PyR m x a) (hy : PyR m y b) (pa : Pd 60 c a) (pb : Pd 60 c' b) (h : q (.bl (PyData.eqv a b)) m) : dEqD x y m q := by
  unfold dEqD
  split
  · cases hx; cases hy; rw [eqv_int] at h; exact h
  · cases hx; cases hy; rw [eqv_bl] at h; exact h
  · cases hx; cases hy; rw [eqv_str] at h; exact h
  · exact eqS_py (neg := false) hx hy pa pb h
theorem eqD_same {x y : D} {m : Sto} {v : PyData} {q : D → Sto → Prop} {c : Nat} (hx : PyR m x v) (hy : PyR m y v) (p : Pd 60 c v) (h : q (.bl true) m) : dEqD x y m q := by
  refine eqD_py hx hy p p ?_
  rw [SeqAt.eqv_refl v p.lay]
  exact h
end DL
namespace DL
open PySem PySem.Spec PyProof.Rows L2
end DL
namespace DL
open PySem PySem.Spec PyProof.Rows L2
end DL
namespace DL
open PySem PySem.Spec PyProof.Rows L2
end DL
namespace DL
open PySem PySem.Spec PyProof.Rows L2
end DL
namespace DL
open PySem PySem.Spec PyProof.Rows L2
end DL
namespace DL
open PySem PySem.Spec PyProof.Rows L2
def rEqLen : R2 := fun x y H Q => ∃ a b xs ys, x = .ref a ∧ y = .ref b ∧ H a = some (.lst xs) ∧ H b = some (.lst ys) ∧ xs.length ≠ ys.length ∧ Q (.bl false) H
theorem op_eqLen {X : Cx} (hu : X.A.units + 64 < cLine) : OpR X (compareOp .Eq) rEqLen := by
  intro pins s σ H x y v u Q I rx ry h
  obtain ⟨a, b, xs, ys, rfl, rfl, ea, eb, hn, q⟩ := h
  obtain rfl : v = Value.ref a := rx
  obtain rfl : u = Value.ref b := ry
  obtain ⟨its, r1, p1, -⟩ := I.list (show SqL X.K H a xs from .inl (.inl ea))
  obtain ⟨its2, r2, p2, -⟩ := I.list (show SqL X.K H b ys from .inl (.inl eb))
  have l1 := r1.length
  have l2 := r2.length
  exact SeqAt.RcAt.lists_lengths p1.isList p2.isList (by simp only [List.size_toArray, bne_iff_ne, ne_eq]; omega) (by omega) X.prog X.w X.xe _ ⟨.bl false, H, I, rfl, q⟩
/-- xs == [] -/
@[irreducible] def dEqNilF (x y : D) (m : Sto) (q : D → Sto → Prop) : Prop := y = .lst [] ∧ onS (lstOf x m) fun ds => q (.bl ds.isEmpty) m
def dEqNil : F2 := dEqNilF
def rrEqNil (K : PySem.W.Frag) : R2 := fun x y H Q => rrEq K x y H Q ∨ rEqLen x y H Q
theorem o_eqNil [Cl] [Lk] {K : PySem.W.Frag} : Op2 K dEqNil (rrEqNil K) := by
  intro W F H m x y d e q Q rel rx ry h k
  unfold dEqNil dEqNilF at h
  obtain ⟨rfl, h⟩ := h
  obtain ⟨ds, e1, h⟩ := onS_some h
  cases ds with
  | nil =>
    have go : dEq d (.lst []) m q := by
      have z : dEqG false d (.lst []) m q := eqG_nil (k := 0) (c := 0) (show seqL d m = some [] by cases d <;> first | exact e1 | cases e1) (fun _ z => absurd z (List.not_mem_nil)) (by decide) h
      unfold dEq
      split <;> first | exact z | cases e1
    exact .inl (o_eq W F H m x y d _ q Q rel rx ry go k)
  | cons d0 ds =>
    obtain ⟨a, xs, rfl, g, ra⟩ := lstOf_at rel rx e1
    obtain ⟨b, ys, rfl, g2, rb⟩ := lstOf_at rel ry (ds := []) rfl
    exact .inr ⟨a, b, xs, ys, rfl, rfl, g, g2, by rw [ra.len, rb.len]; simp, k _ _ _ _ _ (.refl _) rel (.bl _) h⟩
section
variable [Cl] [Lk] {X : Cx} {a b : Expr} {ta tb : DE} {pos : Pos} {k : Nat}
theorem je_eqNil (hr : Room k X.A) (ha : JE X a ta) (hb : JE X b tb) : JE X (.Compare a [.Eq] [b] pos) (dBin dEqNil ta tb) := je_cmp ((op_eqAll (units64 hr)).or (op_eqLen (units64 hr))) o_eqNil ha hb (nobehind _ (by decide) (by decide))
end
theorem eqNil_i {x : D} {m : Sto} {ds : List D} {q : D → Sto → Prop} (e : lstOf x m = some ds) (h : q (.bl ds.isEmpty) m) : dEqNil x (.lst []) m q := by
  unfold dEqNil dEqNilF
  rw [e]
  exact ⟨rfl, h⟩
end DL
namespace DL
open PySem PySem.Spec PyProof.Rows L2
end DL
namespace DL
open PySem PySem.Spec PyProof.Rows L2
/-- what a set of tuples stores -/
abbrev stored {P : Program} {w : World} {κ : Type} [DecidableEq κ] (N : KeyKind P w κ) (L : List (Addr × List κ)) : List (Int × Value) := L.map fun p => (tupleKeyHash N p.2, Value.ref p.1)
abbrev hashes {P : Program} {w : World} {κ : Type} [DecidableEq κ] (N : KeyKind P w κ) (L : List (Addr × List κ)) : List Int := L.map fun p => tupleKeyHash N p.2
section
variable {P : Program} {w : World} {κ : Type} [DecidableEq κ]
structure Sits (N : KeyKind P w κ) (h : Heap) (L : List (Addr × List κ)) (es : Array (Int × Value)) (t : SetTable) : Prop where
  rows : es.toList = stored N L
  tab : TabOk t (hashes N L)
  nd : (L.map (·.2)).Nodup
  tup : ∀ p ∈ L, IsTupleKey N h p.2 p.1
  led : w.params.followText "set-order" = true ∨ t.led = true
  room : L.length * 5 < t.mask * 3
  few : L.length < 64
structure TSet (N : KeyKind P w κ) (h : Heap) (a : Addr) (L : List (Addr × List κ)) : Prop where
  ex : ∃ o es ep t, h.get? a = some o ∧ o.ExactSet ∧ o.data = .set es ep t ∧ Sits N h L es t
variable {N : KeyKind P w κ} {h h' : Heap} {a : Addr} {L : List (Addr × List κ)} {es : Array (Int × Value)} {t : SetTable}
theorem Sits.size (S : Sits N h L es t) : es.size = L.length := by
  rw [← Array.length_toList, S.rows, List.length_map]
theorem Sits.fits (S : Sits N h L es t) : t.fits es.size = true := by
  have a1 := S.tab.sz
  rw [List.length_map] at a1
  have a2 := S.size
  have a3 := S.room
  unfold SetTable.fits SetTable.fill
  rw [S.tab.dm, Bool.and_eq_true, beq_iff_eq, decide_eq_true_eq]
  refine ⟨?_, ?_⟩
  · omega
  · show t.place.size + 0 ≤ t.mask; omega
theorem Sits.at (S : Sits N h L es t) {i : Nat} {p : Addr × List κ} (e : L[i]? = some p) : es[i]? = some (tupleKeyHash N p.2, Value.ref p.1) := by
  rw [← Array.getElem?_toList, S.rows, List.getElem?_map, e]; rfl
theorem Sits.calm (S : Sits N h L es t) : ¬ t.gaveWay = true := by
  unfold SetTable.gaveWay
  rw [mask_odd S.tab.mok]
  decide
theorem Sits.keep (S : Sits N h L es t) (k : ∀ p ∈ L, IsTupleKey N h' p.2 p.1) : Sits N h' L es t := ⟨S.rows, S.tab, S.nd, k, S.led, S.room, S.few⟩
theorem TSet.keep (T : TSet N h a L) (ha : ∀ o, h.get? a = some o → h'.get? a = some o) (k : ∀ p ∈ L, IsTupleKey N h' p.2 p.1) : TSet N h' a L := by
  obtain ⟨o, es, ep, t, h1, h2, h3, S⟩ := T.ex
  exact ⟨o, es, ep, t, ha o h1, h2, h3, S.keep k⟩
variable {A : Around} {E : Value → Shared → Prop} {s : Shared}
end
end DL
namespace DL
open PySem PySem.Spec PyProof.Rows L2
def keyOf : D → Option L2.Key
  | .int i => some (.inl i)
  | .str x => some (.inr x)
  | _ => none
def keysOf : List D → Option (List L2.Key)
  | [] => some []
  | d :: ds => match keyOf d, keysOf ds with
    | some k, some ks => some (k :: ks)
    | _, _ => none
/-- as many as there are unlike ones -/
def many {α : Type} [DecidableEq α] : List α → Nat
  | [] => 0
  | x :: xs => if x ∈ xs then many xs else many xs + 1
end DL
namespace DL
open PySem PySem.Spec PyProof.Rows L2
variable [Cl]
section
variable {P : Program} {w : World} {K : PySem.W.Frag} {mg : Str → Option Value} {base : Heap}
theorem Kn.up {k k' : Nat} {x : Str} {g : FN} (c : Kn P w K mg base k x g) (h : k ≤ k') : Kn P w K mg base k' x g := by
  obtain ⟨n, fa, fd, ps, G, h1, h2, h3, h4⟩ := c.ex
  exact ⟨n, fa, fd, ps, ⟨G.len, fun A outer s H args us vs Q E hr gd e0 hb r z => G.run A outer s H args us vs Q E (hr.mono h) gd e0 hb r z⟩, h1, h2, h3, h4⟩
end
end DL
namespace DL
open PySem PySem.Spec PyProof.Rows L2
section
variable {m m' : Sto} {d : D} {v : PyData}
theorem PyRA.len : ∀ {ds : List D} {vs : List PyData}, PyRA m ds vs → ds.length = vs.length
  | _, _, .nil => rfl
  | _, _, .cons _ r => by rw [List.length_cons, List.length_cons, PyRA.len r]
theorem PyRA.get : ∀ {ds : List D} {vs : List PyData} {i : Nat} {v : PyData}, PyRA m ds vs → vs[i]? = some v → ∃ d, ds[i]? = some d ∧ PyR m d v
  | _, _, _, _, .nil, e => by simp at e
  | _, _, 0, _, .cons h _, e => by
    simp only [List.getElem?_cons_zero, Option.some.injEq] at e
    subst e
    exact ⟨_, rfl, h⟩
  | _, _, i + 1, _, .cons _ r, e => by
    rw [List.getElem?_cons_succ] at e ⊢
    exact PyRA.get r e
theorem PyRA.getD : ∀ {ds : List D} {vs : List PyData} {i : Nat} {d : D}, PyRA m ds vs → ds[i]? = some d → ∃ v, vs[i]? = some v ∧ PyR m d v
  | _, _, _, _, .nil, e => by simp at e
  | _, _, 0, _, .cons h _, e => by
    simp only [List.getElem?_cons_zero, Option.some.injEq] at e
    subst e
    exact ⟨_, rfl, h⟩
  | _, _, i + 1, _, .cons _ r, e => by
    rw [List.getElem?_cons_succ] at e ⊢
    exact PyRA.getD r e
theorem PyRA.all : ∀ {ds : List D} {vs : List PyData}, PyRA m ds vs → ∀ d ∈ ds, ∃ v, v ∈ vs ∧ PyR m d v
  | _, _, .nil, _, z => nomatch z
  | _, _, .cons h r, d, z => by
    rcases List.mem_cons.mp z with e | z
    · subst e; exact ⟨_, List.mem_cons_self, h⟩
    · obtain ⟨v, h1, h2⟩ := PyRA.all r d z
      exact ⟨v, List.mem_cons_of_mem _ h1, h2⟩
theorem PyRA.app : ∀ {ds es : List D} {vs us : List PyData}, PyRA m ds vs → PyRA m es us → PyRA m (ds ++ es) (vs ++ us)
  | _, _, _, _, .nil, s => s
  | _, _, _, _, .cons h r, s => .cons h (PyRA.app r s)
theorem PyR.seq {vs : List PyData} (h : PyR m d (.list vs)) : ∃ ds, seqL d m = some ds ∧ PyRA m ds vs := by
  cases h with
  | lst r => exact ⟨_, rfl, r⟩
  | fz r => exact ⟨_, rfl, r⟩
  | ptr hm r => exact ⟨_, lstOf_ptr hm, r⟩
def btwP (v : PyData) (lo hi : Int) : Bool := match v with
  | .int i => decide (lo ≤ i) && decide (i ≤ hi)
  | _ => false
def upP : Int → List PyData → Bool
  | _, [] => true
  | l, .int i :: r => btwP (.int i) 0 1000 && (decide (l ≤ i) && upP i r)
  | _, _ => false
theorem PyRA.up : ∀ {ds : List D} {vs : List PyData} (l : Int), PyRA m ds vs → upD l ds = upP l vs
  | _, _, _, .nil => rfl
  | _, _, l, .cons (d := d) (p := p) h r => by
    cases h with
    | int i => show (_ && (_ && upD i _)) = (_ && (_ && upP i _)); rw [PyRA.up i r]; rfl
    | _ => rfl
end
mutual
theorem PyR.grow {m : Sto} (c : Sto) : ∀ {d : D} {v : PyData}, PyR m d v → PyR (m ++ c) d v
  | _, _, .non => .non
  | _, _, .bl b => .bl b
  | _, _, .int i => .int i
  | _, _, .str x => .str x
  | _, _, .tup r => .tup (PyRA.grow c r)
  | _, _, .lst r => .lst (PyRA.grow c r)
  | _, _, .fz r => .fz (PyRA.grow c r)
  | _, _, .ptr hm r => .ptr (get_app hm) (PyRA.grow c r)
  | _, _, .dic r => .dic (PyRD.grow c r)
  | _, _, .dptr hm r => .dptr (get_app hm) (PyRD.grow c r)
theorem PyRA.grow {m : Sto} (c : Sto) : ∀ {ds : List D} {vs : List PyData}, PyRA m ds vs → PyRA (m ++ c) ds vs
  | _, _, .nil => .nil
  | _, _, .cons h r => .cons (PyR.grow c h) (PyRA.grow c r)
theorem PyRD.grow {m : Sto} (c : Sto) : ∀ {ds : List (L2.Key × D)} {vs : List (PyData × PyData)}, PyRD m ds vs → PyRD (m ++ c) ds vs
  | _, _, .nil => .nil
  | _, _, .cons h r => .cons (PyR.grow c h) (PyRD.grow c r)
end
mutual
/-- a thing that looks into the store within [lo, hi) alone -/
inductive PyIn (m : Sto) (lo hi : Nat) : D → PyData → Prop
  | non : PyIn m lo hi .non .none
  | bl (b : Bool) : PyIn m lo hi (.bl b) (.bool b)
  | int (i : Int) : PyIn m lo hi (.int i) (.int i)
  | str (x : Str) : PyIn m lo hi (.str x) (.str x)
  | tup {ds : List D} {vs : List PyData} : PyInA m lo hi ds vs → PyIn m lo hi (.tup ds) (.tuple vs)
  | lst {ds : List D} {vs : List PyData} : PyInA m lo hi ds vs → PyIn m lo hi (.lst ds) (.list vs)
  | fz {ds : List D} {vs : List PyData} : PyInA m lo hi ds vs → PyIn m lo hi (.fz ds) (.list vs)
  | ptr {i : Nat} {ds : List D} {vs : List PyData} : lo ≤ i → i < hi → m[i]? = some (.lst ds) → PyInA m lo hi ds vs → PyIn m lo hi (.ptr i) (.list vs)
inductive PyInA (m : Sto) (lo hi : Nat) : List D → List PyData → Prop
  | nil : PyInA m lo hi [] []
  | cons {d : D} {v : PyData} {ds : List D} {vs : List PyData} : PyIn m lo hi d v → PyInA m lo hi ds vs → PyInA m lo hi (d :: ds) (v :: vs)
end
mutual
theorem PyIn.r {m : Sto} {lo hi : Nat} : ∀ {d : D} {v : PyData}, PyIn m lo hi d v → PyR m d v
  | _, _, .non => .non
  | _, _, .bl b => .bl b
  | _, _, .int i => .int i
  | _, _, .str x => .str x
  | _, _, .tup r => .tup (PyInA.r r)
  | _, _, .lst r => .lst (PyInA.r r)
  | _, _, .fz r => .fz (PyInA.r r)
  | _, _, .ptr _ _ hm r => .ptr hm (PyInA.r r)
theorem PyInA.r {m : Sto} {lo hi : Nat} : ∀ {ds : List D} {vs : List PyData}, PyInA m lo hi ds vs → PyRA m ds vs
  | _, _, .nil => .nil
  | _, _, .cons h r => .cons (PyIn.r h) (PyInA.r r)
end
mutual
/-- in another store that is alike there -/
theorem PyIn.on {m m' : Sto} {lo hi lo' hi' : Nat} (hl : lo' ≤ lo) (hh : hi ≤ hi') (k : ∀ i c, lo ≤ i → i < hi → m[i]? = some c → m'[i]? = some c) : ∀ {d : D} {v : PyData}, PyIn m lo hi d v → PyIn m' lo' hi' d v
  | _, _, .non => .non
  | _, _, .bl b => .bl b
  | _, _, .int i => .int i
  | _, _, .str x => .str x
  | _, _, .tup r => .tup (PyInA.on hl hh k r)
  | _, _, .lst r => .lst (PyInA.on hl hh k r)
  | _, _, .fz r => .fz (PyInA.on hl hh k r)
  | _, _, .ptr h1 h2 hm r => .ptr (Nat.le_trans hl h1) (Nat.lt_of_lt_of_le h2 hh) (k _ _ h1 h2 hm) (PyInA.on hl hh k r)
theorem PyInA.on {m m' : Sto} {lo hi lo' hi' : Nat} (hl : lo' ≤ lo) (hh : hi ≤ hi') (k : ∀ i c, lo ≤ i → i < hi → m[i]? = some c → m'[i]? = some c) : ∀ {ds : List D} {vs : List PyData}, PyInA m lo hi ds vs → PyInA m' lo' hi' ds vs
  | _, _, .nil => .nil
  | _, _, .cons h r => .cons (PyIn.on hl hh k h) (PyInA.on hl hh k r)
end
theorem PyInA.len {m : Sto} {lo hi : Nat} {ds : List D} {vs : List PyData} (h : PyInA m lo hi ds vs) : ds.length = vs.length := h.r.len
theorem PyInA.get {m : Sto} {lo hi : Nat} : ∀ {ds : List D} {vs : List PyData} {i : Nat} {v : PyData}, PyInA m lo hi ds vs → vs[i]? = some v → ∃ d, ds[i]? = some d ∧ PyIn m lo hi d v
  | _, _, _, _, .nil, e => by simp at e
  | _, _, 0, _, .cons h _, e => by
    simp only [List.getElem?_cons_zero, Option.some.injEq] at e
    subst e
    exact ⟨_, rfl, h⟩
  | _, _, i + 1, _, .cons _ r, e => by
    rw [List.getElem?_cons_succ] at e ⊢
    exact PyInA.get r e
mutual
def al : PyData → Nat → D × Sto
  | .list vs, k => (.ptr (k + (alA vs k).2.length), (alA vs k).2 ++ [.lst (alA vs k).1])
  | .tuple vs, k => (.tup (alA vs k).1, (alA vs k).2)
  | .int i, _ => (.int i, [])
  | .str x, _ => (.str x, [])
  | .bool b, _ => (.bl b, [])
  | .none, _ => (.non, [])
  | .dict _, _ => (.non, [])
def alA : List PyData → Nat → List D × Sto
  | [], _ => ([], [])
  | v :: vs, k => ((al v k).1 :: (alA vs (k + (al v k).2.length)).1, (al v k).2 ++ (alA vs (k + (al v k).2.length)).2)
end
end DL
namespace DL
open PySem PySem.Spec PyProof.Rows L2
/-- a name of one to k small letters -/
def nameB (k : Nat) (x : Str) : Bool := decide (1 ≤ x.length) && decide (x.length ≤ k) && x.cps.toList.all fun c => decide (97 ≤ c) && decide (c ≤ 122)
abbrev NameS (k : Nat) (x : Str) : Prop := nameB k x = true
theorem NameS.of {k : Nat} {x : Str} (h1 : 1 ≤ x.length) (h2 : x.length ≤ k) (h3 : ∀ c ∈ x.cps.toList, 97 ≤ c ∧ c ≤ 122) : NameS k x := by
  unfold NameS nameB
  simp only [Bool.and_eq_true, decide_eq_true_eq, List.all_eq_true]
  exact ⟨⟨h1, h2⟩, h3⟩
def nameD (x : D) : Bool := match x with | .str z => nameB 8 z | _ => false
def nameP : PyData → Bool
  | .str x => nameB 8 x
  | _ => false
theorem PyR.name {m : Sto} {d : D} {v : PyData} (h : PyR m d v) : nameD d = nameP v := by cases h <;> rfl
mutual
/-- no number, no text is too great to be asked -/
def Tame : PyData → Prop
  | .int i => Sm 8900 i
  | .str x => x.length ≤ 16777216
  | .tuple vs => TameA vs
  | .list vs => TameA vs
  | _ => True
def TameA : List PyData → Prop
  | [] => True
  | v :: vs => Tame v ∧ TameA vs
end
theorem TameA.of : ∀ {vs : List PyData}, (∀ v ∈ vs, Tame v) → TameA vs
  | [], _ => by simp only [TameA]
  | v :: vs, h => by
    simp only [TameA]
    exact ⟨h v List.mem_cons_self, TameA.of fun u hu => h u (List.mem_cons_of_mem _ hu)⟩
end DL
namespace DL
open PySem PySem.Spec PyProof.Rows L2
theorem PyInA.app {m : Sto} {lo hi : Nat} : ∀ {ds es : List D} {vs us : List PyData}, PyInA m lo hi ds vs → PyInA m lo hi es us → PyInA m lo hi (ds ++ es) (vs ++ us)
  | _, _, _, _, .nil, s => s
  | _, _, _, _, .cons h r, s => .cons h (PyInA.app r s)
/-- a store is written at a place that is not looked at -/
theorem PyIn.set {m : Sto} {lo hi i : Nat} {c : Cell} {d : D} {v : PyData} (h : PyIn m lo hi d v) (hi' : i < lo ∨ hi ≤ i) : PyIn (m.set i c) lo hi d v := h.on (Nat.le_refl _) (Nat.le_refl _) fun j x h1 h2 e => by
  rw [List.getElem?_set_ne (by omega)]; exact e
theorem PyInA.set {m : Sto} {lo hi i : Nat} {c : Cell} {ds : List D} {vs : List PyData} (h : PyInA m lo hi ds vs) (hi' : i < lo ∨ hi ≤ i) : PyInA (m.set i c) lo hi ds vs := h.on (Nat.le_refl _) (Nat.le_refl _) fun j x h1 h2 e => by
  rw [List.getElem?_set_ne (by omega)]; exact e
theorem PyIn.app {m : Sto} {lo hi : Nat} {d : D} {v : PyData} (c : Sto) (h : PyIn m lo hi d v) : PyIn (m ++ c) lo hi d v := h.on (Nat.le_refl _) (Nat.le_refl _) fun _ _ _ _ e => get_app e
end DL
namespace DL
open PySem PySem.Spec PyProof.Rows L2
/-- the cells of a copy of v lie from k on -/
def AlAt (m : Sto) (k : Nat) (v : PyData) : Prop := ∀ i c, (al v k).2[i]? = some c → m[k + i]? = some c
def AlAtA (m : Sto) (k : Nat) (vs : List PyData) : Prop := ∀ i c, (alA vs k).2[i]? = some c → m[k + i]? = some c
theorem AlAtA.cons {m : Sto} {k : Nat} {v : PyData} {vs : List PyData} (h : AlAtA m k (v :: vs)) : AlAt m k v ∧ AlAtA m (k + (al v k).2.length) vs := by
  constructor
  · intro i c e
    refine h i c ?_
    simp only [alA]
    exact get_app e
  · intro i c e
    have z := h ((al v k).2.length + i) c (by
      simp only [alA]
      rw [List.getElem?_append_right (Nat.le_add_right _ _), Nat.add_sub_cancel_left]; exact e)
    rwa [← Nat.add_assoc] at z
theorem AlAtA.new {m : Sto} {vs : List PyData} : AlAtA (m ++ (alA vs m.length).2) m.length vs := fun i c e => by
  rw [List.getElem?_append_right (Nat.le_add_right _ _), Nat.add_sub_cancel_left]; exact e
theorem AlAt.new {m : Sto} {v : PyData} : AlAt (m ++ (al v m.length).2) m.length v := fun i c e => by
  rw [List.getElem?_append_right (Nat.le_add_right _ _), Nat.add_sub_cancel_left]; exact e
theorem AlAtA.app {m : Sto} {k : Nat} {vs : List PyData} (c : Sto) (h : AlAtA m k vs) : AlAtA (m ++ c) k vs := fun i x e => get_app (h i x e)
theorem AlAt.app {m : Sto} {k : Nat} {v : PyData} (c : Sto) (h : AlAt m k v) : AlAt (m ++ c) k v := fun i x e => get_app (h i x e)
theorem AlAtA.set {m : Sto} {k j : Nat} {vs : List PyData} {x : Cell} (h : AlAtA m k vs) (hj : j < k ∨ k + (alA vs k).2.length ≤ j) : AlAtA (m.set j x) k vs := fun i c e => by
  have hi := (List.getElem?_eq_some_iff.mp e).1
  rw [List.getElem?_set_ne (by omega)]
  exact h i c e
theorem AlAt.set {m : Sto} {k j : Nat} {v : PyData} {x : Cell} (h : AlAt m k v) (hj : j < k ∨ k + (al v k).2.length ≤ j) : AlAt (m.set j x) k v := fun i c e => by
  have hi := (List.getElem?_eq_some_iff.mp e).1
  rw [List.getElem?_set_ne (by omega)]
  exact h i c e
end DL
namespace DL
open PySem PySem.Spec PyProof.Rows L2
end DL
namespace DL
open PySem PySem.Spec PyProof.Rows L2
end DL
namespace DL
open PySem PySem.Spec PyProof.Rows L2
end DL
namespace DL
open PySem PySem.Spec PyProof.Rows L2
end DL
namespace DL
open PySem PySem.Spec PyProof.Rows L2
end DL
namespace DL
open PySem PySem.Spec PyProof.Rows L2
end DL
namespace DL
open PySem PySem.Spec PyProof.Rows L2
end DL
namespace DL
open PySem PySem.Spec PyProof.Rows L2
end DL
namespace DL
open PySem PySem.Spec PyProof.Rows L2
end DL
namespace DL
open PySem PySem.Spec PyProof.Rows L2
end DL
namespace DL
open PySem PySem.Spec PyProof.Rows L2
end DL
namespace DL
open PySem PySem.Spec PyProof.Rows L2
end DL
namespace DL
open PySem PySem.Spec PyProof.Rows L2
end DL
namespace DL
open PySem PySem.Spec PyProof.Rows L2
end DL
namespace DL
open PySem PySem.Spec PyProof.Rows L2
end DL
namespace DL
open PySem PySem.Spec PyProof.Rows L2
/-- a def that the module holds under another name -/
theorem kn_as [Cl] {P : Program} {w : World} {K : PySem.W.Frag} {mg : Str → Option Value} {base : Heap} {x y z : Str} {st : Stmt} {f : Addr} {fd : FuncData} {ps : List Str} {k n : Nat} {g : FN} (F : L2.Fun K x z st f fd) (hm : mg y = some (.ref f)) (b : Binds K fd ps []) (G : FnG P w K mg base k f fd ps (spOf K n g)) (ar : ∀ ds m q, g ds m q → ds.length = n) : Kn P w K mg base k y g :=
  ⟨n, f, fd, ps, G, hm, F.kp, b, ar⟩
end DL
namespace DL
open PySem PySem.Spec PyProof.Rows L2
end DL
namespace DL
open PySem PySem.Spec PyProof.Rows L2
abbrev t3 (p : Int × Int × Int) : D := .tup [.int p.1, .int p.2.1, .int p.2.2]
end DL
namespace DL
open PySem PySem.Spec PyProof.Rows L2
end DL
namespace DL
open PySem PySem.Spec PyProof.Rows L2
end DL
namespace HK
open PySem PySem.Spec PyProof.Rows L2 He
section
variable {ex : List (List Ck)} {fn : List FnD} {ts : List (Str × List Str)} {w : World} {K : PySem.W.Frag}
theorem Says3.fact (c : Says3 ex fn ts w K) (i j : Nat) {r : List Ck} {f : Ck} (h : ex[i]? = some r := by rfl) (h2 : r[j]? = some f := by rfl) : f K = true := by
  have c1 := (ba (show ((ex.all fun r => r.all fun f => f K) && fn.all fun d => (Fa.code d.at_ d.qual).ok K) = true from congrArg (fun z : Al3 => z.1) c)).1
  exact List.all_eq_true.mp (List.all_eq_true.mp c1 r (List.mem_of_getElem? h)) f (List.mem_of_getElem? h2)
theorem Says3.def_ (c : Says3 ex fn ts w K) (i : Nat) {d : FnD} (h : fn[i]? = some d := by rfl) :
    ∃ oc od osl kV doc pm an cdv ct, K.lookup (fAd K d.at_) = some ⟨oc, od, .func (PySem.W.fnOf d.name d.qual d.params d.body d.scope .none kV doc pm an cdv ct), osl⟩ ∧ PySem.W.codeIn K cdv d.qual = true := by
  have c2 := (ba (show ((ex.all fun r => r.all fun f => f K) && fn.all fun d => (Fa.code d.at_ d.qual).ok K) = true from congrArg (fun z : Al3 => z.1) c)).2
  have e : fn.map (fun d => fnObs K d.at_) = fn.map FnD.val := congrArg (fun z : Al3 => z.2.1) c
  have e2 : (fn.map fun d => fnObs K d.at_)[i]? = (fn.map FnD.val)[i]? := by rw [e]
  rw [List.getElem?_map, List.getElem?_map, h] at e2
  exact fn_ok (Option.some.inj e2) (List.all_eq_true.mp c2 d (List.mem_of_getElem? h))
theorem Says3.tab (c : Says3 ex fn ts w K) (i : Nat) {t : Str × List Str} (h : ts[i]? = some t := by rfl) : dicW K (ga K t.1) = some (keysIn w.params t.2) := by
  have e : ts.map (fun t => dicW K (ga K t.1)) = ts.map fun t => some (keysIn w.params t.2) := congrArg (fun z : Al3 => z.2.2) c
  have e2 : (ts.map fun t => dicW K (ga K t.1))[i]? = (ts.map fun t => some (keysIn w.params t.2))[i]? := by rw [e]
  rw [List.getElem?_map, List.getElem?_map, h] at e2
  exact Option.some.inj e2
end
theorem int_at {K : PySem.W.Frag} {x : Str} {i : Int} (c : (Fa.int x i).ok K = true) : ∃ t, PySem.W.nsIn K mainGlobals x = some (some (.int i t)) := by
  have c2 : (match PySem.W.nsIn K mainGlobals x with
    | some (some (.int j _)) => decide (j = i)
    | _ => false) = true := c
  cases e : PySem.W.nsIn K mainGlobals x with
  | none => rw [e] at c2; cases c2
  | some o =>
    rw [e] at c2
    cases o with
    | none => cases c2
    | some v =>
      cases v with
      | int j t =>
        have ej : j = i := of_decide_eq_true c2
        exact ⟨t, by rw [ej]⟩
      | _ => cases c2
theorem tblE_of {P : Params} : ∀ {l : List DictEntry} {kvs : List (Str × V)}, l.map He.keyOf = keysIn P (kvs.map (·.1)) → Vals (kvs.map (·.2)) (l.map (·.val)) → DL.TblE P kvs l
  | [], [], _, _ => .nil
  | [], _ :: _, h, _ => by cases h
  | _ :: _, [], h, _ => by cases h
  | e :: r, (k, v) :: ks, h, hv => by
    have h1 : He.keyOf e :: r.map He.keyOf = some (k, PyData.keyHash P k) :: keysIn P (ks.map (·.1)) := h
    injection h1 with h2 h3
    cases hv with
    | cons v1 v2 =>
      unfold He.keyOf at h2
      split at h2
      · rename_i x t q
        have h4 := Option.some.inj h2
        obtain ⟨h5, h6⟩ := Prod.mk.inj h4
        exact .cons ⟨t, by rw [q, h5]⟩ h6 v1 (tblE_of h3 v2)
      · cases h2
theorem dic_at {K : PySem.W.Frag} {w : World} {x : Str} {kvs : List (Str × V)} (c : dicB K x kvs = true) (h : dicW K (ga K x) = some (keysIn w.params (kvs.map (·.1)))) :
    ∃ (u : Addr) (es : Array DictEntry) (n : Nat), PySem.W.nsIn K mainGlobals x = some (some (.ref u)) ∧ K.lookup u = some ⟨.type "dict", none, .dict es n, #[]⟩ ∧ (u == sysModules) = false ∧ DL.TblE w.params kvs es.toList := by
  obtain ⟨c1, c2⟩ := ba c
  unfold dicW at h
  cases q : K.lookup (ga K x) with
  | none => rw [q] at h; cases h
  | some o =>
    obtain ⟨oc, od, dt, osl⟩ := o
    rw [q] at h c2
    cases oc with
    | type t =>
      cases od with
      | none =>
        cases dt with
        | dict es n =>
          have h1 : (match decide (t = "dict") && (osl.isEmpty && !(ga K x == sysModules)) with
            | true => some (es.toList.map He.keyOf)
            | false => none) = some (keysIn w.params (kvs.map (·.1))) := h
          cases z : decide (t = "dict") && (osl.isEmpty && !(ga K x == sysModules)) with
          | false => rw [z] at h1; cases h1
          | true =>
            rw [z] at h1
            obtain ⟨z1, z2⟩ := ba z
            obtain ⟨z3, z4⟩ := ba z2
            have e1 : t = "dict" := of_decide_eq_true z1
            have e2 : osl = #[] := Array.isEmpty_iff.mp z3
            have e3 : (ga K x == sysModules) = false := by
              cases y : ga K x == sysModules with
              | false => rfl
              | true => rw [y] at z4; cases z4
            subst e1 e2
            exact ⟨_, es, n, eqO_ok c1, q, e3, tblE_of (Option.some.inj h1) (relAll_ok c2)⟩
        | _ => cases h
      | some b => cases dt <;> cases h
    | _ => cases od <;> cases dt <;> cases h
theorem isO_ok {a b : Option Value} (h : isO a b = true) : a = b := of_decide_eq_true h
theorem isB_ok {a b : Option Bool} (h : isB a b = true) : a = b := of_decide_eq_true h
theorem isC_ok {a : Option PySem.W.CFound} {v : Value} (h : isC a v = true) : a = some (.val v) := by
  unfold isC at h
  split at h
  · rw [of_decide_eq_true h]
  · cases h
theorem walkH {l : PySem.W.OpenLaw} {k : Nat} {q : Program} {loose : List Str} {XP : (Str → Option Value) → Heap → Prop} {d : DefRec} {n : Nat} {ex : List (List Ck)} {fn : List FnD} {ts : List (Str × List Str)} {x : Str}
    (hn : l.most = some 63) (hdf : d.params.defaults = []) (hr : Room k callerA) (hd : d.name = ("law" : Str))
    (F : ∀ (w : World) (K : PySem.W.Frag) (mg : Str → Option Value) (fa : Addr) (h : Heap), K.In h → h.Ns mainGlobals mg → mg ("law" : Str) = some (.ref fa) → Says3 ex fn ts w K →
      ∃ (_ : DL.Cl) (fd : FuncData), (∀ (s : Shared) (u : Value), BindsTo s fd ⟨[u], []⟩ [(x, u)]) ∧ ∀ base : Heap, K.In base → base.Ns mainGlobals mg → DL.FnG l.prog w K mg base k fa fd [x] (DL.spOf K 1 DL.lawD)) :
    PySem.W.WalkO q loose XP (hook3 n ex fn ts).says l.row.toRowW d [] (fun f vs => PySem.call f vs) := by
  apply Att.attach_call hn hdf
  intro w s0 s1 mg mb fa o pm cd doc a vs ns G Y ho hd' hcd hmg hobj hints hlen hg
  obtain ⟨K, inK, c⟩ := Y
  rw [hd] at hmg
  obtain ⟨_, fd, hb, hF⟩ := F w K mg fa _ inK G.T.g hmg c
  exact DL.law_end inK G.T.g G.T.b G.T.builtins G.T.nolimit hg hobj hints hlen hr hF hb
end HK
namespace DL
open PySem PySem.Spec PyProof.Rows L2
end DL
namespace DL
open PySem PySem.Spec PyProof.Rows L2
end DL
namespace DL
open PySem PySem.Spec PyProof.Rows L2
variable [Cl]
theorem RA.eraseIdx {K : PySem.W.Frag} {W : Wd} : ∀ {xs : List V} {ds : List D} (k : Nat), RA K W xs ds → RA K W (xs.eraseIdx k) (ds.eraseIdx k)
  | _, _, _, .nil => .nil
  | _, _, 0, .cons h r => r
  | _, _, k + 1, .cons h r => .cons h (RA.eraseIdx k r)
/-- xs.pop(i) -/
def dPopAt (to te : DE) : DE := fun r m q => to r m fun x m1 => match x with
  | .ptr j => onS (lstOf (.ptr j) m1) fun _ => te r m1 fun y m2 => match y with
    | .int i => onS (lstOf (.ptr j) m2) fun ds => (-(2 ^ 63) ≤ i ∧ i < 2 ^ 63) ∧ onS (seqIndex? i ds.length) fun k => onS ds[k]? fun z => q z (m2.set j (.lst (ds.eraseIdx k)))
    | _ => False
  | _ => False
section
variable [Lk] {X : Cx} {o e : Expr} {to te : DE} {pos apos : Pos}
theorem je_popat (ho : JE X o to) (he : JE X e te) (hbase : attributeBase o "pop" X.env (eval o X.env) = eval o X.env := by rfl)
    (hfew : ((backTo pos (starEach (e :: []) X.env)).all (fun x => !x.1) && (backToKw pos (keywordEach [] X.env)).all (fun x => x.1.isSome)
      && decide ((e :: []).length + ([] : List Keyword).length + (if ([] : List Keyword).isEmpty then 0 else 1) < 30)) = true := by rfl)
    (hline : (apos.endLine == pos.line) = true := by rfl) (hs : starEach [e] X.env = (false, eval e X.env) :: starEach [] X.env := by rfl) (hp : (backTo pos (starEach [] X.env)).any (·.1) = false := by rfl) :
    JE X (.Call (.Attribute o "pop" apos) [e] [] pos) (dPopAt to te) :=
  pe_wk (pe_bm PySem.F.plainAttrs_list PySem.F.slot_list_pop PySem.F.type_list_pop mt_popAt ho (pa_cons he pa_nil hs) hbase hfew hline hs hp) fun s H Q ⟨W, F, m, r, q, rel, rs, h, k⟩ => by
    refine ⟨W, F, m, r, _, rel, rs, h, fun W1 H1 m1 v d l1 rel1 rv hq => ?_⟩
    cases d with
    | ptr j =>
      obtain ⟨es, e1, hq⟩ := onS_some hq
      obtain ⟨b, xs, rfl, g1, g2⟩ := lstOf_at rel1 rv e1
      refine ⟨.inl ⟨rfl, xs, SqL.of g1⟩, W1, F, m1, r, _, rel1, rs.mono l1, hq, fun W2 H2 m2 u y l2 rel2 ru hq2 => ?_⟩
      cases y with
      | int i =>
        cases ru
        obtain ⟨ds, e2, ⟨i0, i1⟩, hq2⟩ := onS_some hq2
        obtain ⟨n, e3, hq2⟩ := onS_some hq2
        obtain ⟨z, e4, hq2⟩ := onS_some hq2
        obtain ⟨b', ys, e5, g3, g4, g5⟩ := cell_write (ds' := ds.eraseIdx n) rel2 (rv.mono l2) e2
        cases e5
        obtain ⟨u, e6, ru⟩ := g4.get e4
        exact ⟨b, ys, i, n, u, rfl, rfl, g3, i0, i1, by rw [g4.len]; exact e3, e6, k _ _ _ _ _ (l1.trans l2) (g5 _ (g4.eraseIdx n)) ru hq2⟩
      | _ => exact hq2.elim
    | _ => exact hq.elim
end
end DL
namespace DL
open PySem PySem.Spec PyProof.Rows L2
end DL
namespace DL
open PySem PySem.Spec PyProof.Rows L2
end DL
namespace DL
open PySem PySem.Spec PyProof.Rows L2
section
variable {prog : Program} {w : World} {A : Around} {E : Value → Shared → Prop} {s : Shared}
theorem bounds_all (n : Nat) : sliceBounds none none none n = (0, (n : Int), 1) := by
  obtain ⟨h1, h2, h3⟩ := slice_bounds none none n
  have e0 : HT.sIx n 0 none = 0 := HT.sIx_none n 0
  have e1 : HT.sIx n n none = n := HT.sIx_none n n
  rw [e0] at h1
  rw [e1] at h2
  exact Prod.ext h1 (Prod.ext h2 h3)
theorem splice_all (its its2 : List Value) : its.toArray.extract 0 0 ++ its2.toArray ++ its.toArray.extract its.toArray.size its.toArray.size = its2.toArray := by simp
set_option maxRecDepth 100000 in
/-- the whole of a list put otherwise: the slice has no parts -/
theorem setItem_all {p r z : Addr} {us vs : Array Value} {k k2 : Nat} {Q : Unit → Shared → Prop} (ep : s.heap.get? p = some { cls := .type "list", data := .seq us k }) (er : s.heap.get? r = some { cls := .type "list", data := .seq vs k2 })
    (ne : p ≠ r) (hz : s.heap.IsSliceOf z .none .none .none) (few : us.size + vs.size ≤ sizeLine) (h : Q () { s with heap := s.heap.update p (Obj.mapSeq fun ws => ws.extract 0 0 ++ vs ++ ws.extract us.size ws.size) }) : wpAny (model prog w) A (setItem (.ref p) (.ref z) (.ref r)) Q E s := by
  have lp : s.heap.IsList p us := PySem.IsL.isList ep
  have lr : s.heap.IsList r vs := PySem.IsL.isList er
  obtain ⟨oz, h1, h2, h3⟩ := id hz
  have tz : s.TypeIs (.ref z) "slice" := ⟨oz, h1, h2⟩
  have st : ¬ ((rawPart none == rawInt 0) = true) := Bool.false_ne_true
  have unlike : Builtin.List.listSameRef (.ref p) (.ref r) = false := by unfold Builtin.List.listSameRef; exact beq_eq_false_iff_ne.mpr ne
  have mx : (max (0 : Int) (us.size : Int)).toNat = us.size := by omega
  have fz : ((fun ws : Array Value => ws.extract 0 0 ++ vs ++ ws.extract us.size ws.size) us).size ≤ sizeLine + 1 := by simp only [Array.size_append, Array.size_extract]; omega
  unfold setItem
  try with_reducible refine wpAny_holding ?_
  (first | refine wpAny_bind (wpAny_pure ?_) | skip)
  refine wpAny_bind (wpAny_sequenceKey lp.typeIs (by decide) ?_)
  refine wpAny_bind (wpAny_callSpecial?_slot (name := Str.ofString "__setitem__") lp.typeIs slot_list_setitem (wpAny_call_entry slot_list_setitem lp.typeIs entry_list_setitem ?_ (args_list_setitem _ _ _)))
  show wpAny _ _ (Builtin.List.listSubscript? (.ref z) >>= _) _ _ s
  refine wpAny_bind ?_
  unfold Builtin.List.listSubscript?
  refine wpAny_bind (wpAny_specialOf tz slice_no_index ?_)
  simp only [Option.isNone_none, if_true]
  refine wpAny_pure ?_
  show wpAny _ _ (typeOf (.ref z) >>= _) _ _ s
  refine wpAny_bind (wpAny_typeOf tz ?_)
  (first | rw [if_neg (by decide)] | refine PySem.W.KFB.if_not (by decide) ?_)
  rw [listSliceParts_eq]
  refine wpAny_bind (wpAny_bind (wpAny_field h1 h3 (x := .none) rfl (wpAny_bind (wpAny_listPart .none ?_))))
  rw [if_neg st]
  refine wpAny_bind (wpAny_field h1 h3 (x := .none) rfl (wpAny_bind (wpAny_listPart .none ?_)))
  refine wpAny_bind (wpAny_field h1 h3 (x := .none) rfl (wpAny_bind (wpAny_listPart .none (wpAny_pure ?_))))
  (first | simp only [unlike, Bool.false_eq_true, if_false] | refine PySem.W.KFB.if_not unlike ?_ | (dsimp only; rw [if_neg (by rw [unlike]; exact Bool.false_ne_true)]))
  refine wpAny_bind (m := Builtin.List.listAllItems (.ref r) "must assign iterable to extended slice") ?_
  unfold Builtin.List.listAllItems
  refine wpAny_bind (wpAny_typeOf lr.typeIs ?_)
  (first | refine PySem.W.KFB.if_so (by decide) ?_ | rw [if_pos (by decide)] | simp only [beq_self_eq_true, Bool.true_or, if_true])
  unfold Builtin.List.listItems
  refine wpAny_bind (wpAny_seqItems er rfl (wpAny_pure ?_))
  refine wpAny_bind (wpAny_bind (wpAny_seqItems ep rfl (wpAny_pure ?_)))
  refine wpAny_bind (wpAny_of_eq ((sliceIndices_raw none none none us.size (by simp)).trans (congrArg (pure : Int × Int × Int → Sem (Int × Int × Int)) (bounds_all us.size))) ?_)
  show wpAny _ _ (if ((1 : Int) == 1) = true then _ else _) _ _ s
  rw [if_pos (by decide)]
  refine wpAny_bind (wpAny_rule ?_)
  (first | simp only [notLongL few, Bool.false_eq_true, if_false] | refine PySem.W.KFB.if_not (notLongL few) ?_)
  (first | refine wpAny_bind (wpAny_pure ?_) | skip)
  show wpAny _ _ (updateSeq p (fun ws => ws.extract 0 ((0 : Int)).toNat ++ vs ++ ws.extract (max (0 : Int) (us.size : Int)).toNat ws.size) >>= _) _ _ s
  rw [mx, Int.toNat_zero]
  refine wpAny_bind (wpAny_updateSeq (hz := Nat.le_trans (Nat.le_add_right _ _) few) (_hz' := fz) ep rfl ?_)
  refine wpAny_bind (wpAny_letGo ?_)
  (first | exact wpAny_bind (wpAny_pure (wpAny_pure ⟨.none, rfl, wpAny_pure h⟩)) | exact wpAny_pure ⟨.none, rfl, wpAny_pure h⟩)
end
section
variable {X : Cx} {o : Expr} {to : TE} {p2 pos : Pos}
def gAllT (to : TE) : TG := fun v σ H Q => to σ H fun x H1 => ∃ l b xs ys, x = .ref l ∧ v = .ref b ∧ H1 l = some (.lst xs) ∧ H1 b = some (.lst ys) ∧ l ≠ b ∧ xs.length + ys.length ≤ sizeLine ∧ Q σ (upd H1 l (.lst ys))
theorem pg_all (ho : PE X o to) (ha : ∀ v, assign (.Subscript o (.Slice none none none p2) pos) X.env v = (do
      let c ← holding [v] (eval o X.env)
      let i ← holding [v, c] (eval (.Slice none none none p2) X.env)
      standAt pos
      holding [v, c, i] (setItem c i v)
      release [i, v, c] []) := by intro _; rfl) : PG X (.Subscript o (.Slice none none none p2) pos) (gAllT to) := by
  refine ⟨fun pins s σ H v u Q I rv h => ?_⟩
  rw [ha]
  refine wpAny_bind (wpAny_holding (thn (ho.run pins s σ H _ I h) fun c s1 ⟨x, H1, I1, rx, l, b, xs, ys, ex, ev, el, eb, ne, few, q⟩ => ?_))
  subst ex ev
  obtain rfl : c = Value.ref l := rx
  obtain rfl : u = Value.ref b := rv
  refine wpAny_bind (wpAny_holding (wpAny_Slice ?_))
  rw [evalPart_none]
  refine wpAny_pure (wpAny_pure (wpAny_pure ?_))
  have I2 : L2.Inv X pins σ H1 { s1 with heap := s1.heap.push { cls := .type "slice", data := .fields #[.none, .none, .none] } } := I1.kept (t' := s1.toks) fun c ob z => Heap.get?_push_of_some _ z
  obtain ⟨z1, its, n1, r1, hl1, e1⟩ := I2.lstM el
  obtain ⟨z2, its2, n2, r2, hl2, e2⟩ := I2.lstM eb
  refine wpAny_bind (wpAny_standAt (wpAny_bind (wpAny_holding ?_)))
  refine setItem_all e1 e2 ne (Heap.IsSliceOf.new ..) (by rw [List.size_toArray, List.size_toArray]; omega) ?_
  refine wpAny_release ⟨σ, _, I2.lset (its' := its2) (t' := s1.toks) el e1 ?_ r2 (by omega), q⟩
  exact splice_all its its2
end
section
variable [Cl] [Lk] {X : Cx} {o : Expr} {to : DE} {p2 pos : Pos}
/-- o[:] = .. : all of a list of the store -/
def gAll (to : DE) : DG := fun d r m q => to r m fun x m1 => match x with
  | .ptr j => onS (lstOf (.ptr j) m1) fun ds => onS (lstOf d m1) fun es => (∀ k, d = .ptr k → k ≠ j) ∧ ds.length + es.length ≤ 1000000 ∧ q r (m1.set j (.lst es))
  | _ => False
theorem jg_all (ho : JE X o to) (ha : ∀ v, assign (.Subscript o (.Slice none none none p2) pos) X.env v = (do
      let c ← holding [v] (eval o X.env)
      let i ← holding [v, c] (eval (.Slice none none none p2) X.env)
      standAt pos
      holding [v, c, i] (setItem c i v)
      release [i, v, c] []) := by intro _; rfl) : JG X (.Subscript o (.Slice none none none p2) pos) (gAll to) :=
  pg_wk (pg_all ho ha) fun v s H Q ⟨W, F, m, r, d, q, rel, rs, rv, h, k⟩ => by
    refine ⟨W, F, m, r, _, rel, rs, h, fun W1 H1 m1 x dx l1 rel1 rx hq => ?_⟩
    cases dx with
    | ptr j =>
      obtain ⟨ds, e1, hq⟩ := onS_some hq
      obtain ⟨es, e2, ne, few, hq⟩ := onS_some hq
      obtain ⟨a, xs, rfl, h1, h2, h3⟩ := cell_write (ds' := es) rel1 rx e1
      obtain ⟨b, ys, rfl, g1, g2⟩ := lstOf_at rel1 (rv.mono l1) e2
      have nab : a ≠ b := by
        rintro rfl
        cases rx with
        | ptr hb =>
          have hm : m1[j]? = some (.lst ds) := by
            unfold lstOf at e1
            cases z : m1[j]? with
            | none => simp only [z] at e1; cases e1
            | some c => cases c <;> simp only [z] at e1 <;> cases e1; rfl
          obtain ⟨a', c1, c2, _⟩ := rel1.cell j _ hm (by simp)
          rw [hb] at c1
          cases c1
          have rv1 := rv.mono l1
          cases d with
          | lst es' =>
            cases rv1 with
            | lst c3 _ => rw [c2] at c3; cases c3
          | ptr k =>
            cases rv1 with
            | ptr hk =>
              have hm2 : m1[k]? = some (.lst es) := by
                unfold lstOf at e2
                cases z : m1[k]? with
                | none => simp only [z] at e2; cases e2
                | some c => cases c <;> simp only [z] at e2 <;> cases e2; rfl
              exact ne k rfl (rel1.inj k j _ _ _ hk hb hm2 hm (by simp) (by simp))
          | _ => cases e2
      refine ⟨a, b, xs, ys, rfl, rfl, h1, g1, nab, by rw [h2.len, g2.len, sizeLine_eq]; omega, ?_⟩
      exact k W1 _ _ s r l1 (h3 _ g2) (rs.mono l1) hq
    | _ => exact hq.elim
end
end DL
namespace DL
open PySem PySem.Spec PyProof.Rows L2
variable [Cl] [Lk]
def dSortSetI : FN
  | [x], m, q => onS (seqL x m) fun ds => ds.length < 64 ∧ ∃ ns, intsOf ds = some ns ∧ ∀ ms : List Int, ms.Pairwise (· < ·) → (∀ k, k ∈ ms ↔ k ∈ ns) → ms.length ≤ ns.length → q (.ptr m.length) (m ++ [.lst (ms.map D.int)])
  | _, _, _ => False
section
variable {X : Cx}
theorem o_sortSetI : OpN X.K dSortSetI (rSortSet X) := by
  intro W F H m xs ds q Q rel ra h k
  unfold dSortSetI at h
  split at h
  · obtain ⟨v, rfl, rv⟩ := ra1 ra
    obtain ⟨es, e1, few, ns, e2, h⟩ := onS_some h
    obtain ⟨a, ys, rfl, g, r⟩ := seqL_at rel rv e1
    rw [intsOf_eq e2] at r few
    rw [List.length_map] at few
    have := ra_ints_eq r
    subst this
    refine .inl ⟨a, ns, rfl, g, by omega, fun p c hp hc => .inl ⟨p, _, c, rfl, upd_same, by omega, fun ms p' od nd me ln hp' => ?_⟩⟩
    have rel1 := rel.grow (o := SetHG (PySem.intKind X.prog X.w) p (fun j => decide (j ∈ ns)) c) hp
    have hq := h ms (lt_nodup ms od nd) (fun k => by rw [me k, decide_eq_true_eq]) (by omega)
    exact hot_lst rel1 (ra_ints ms) hq k hp'
  · exact h.elim
theorem je_sortSetI {a : Expr} {ta : DE} {p p2 pos qos : Pos} (calm : X.calm = true) (hg : Gl X "sorted") (hm : X.mg "sorted" = none) (hg2 : Gl X "set") (hm2 : X.mg "set" = none) (ha : JE X a ta) (hs : starEach [a] X.env = (false, eval a X.env) :: starEach [] X.env := by rfl) (hp : (backTo qos (starEach [] X.env)).any (·.1) = false := by rfl)
    (hs2 : starEach [.Call (.Name "set" p2) [a] [] qos] X.env = (false, eval (.Call (.Name "set" p2) [a] [] qos) X.env) :: starEach [] X.env := by rfl) (hp2 : (backTo pos (starEach [] X.env)).any (·.1) = false := by rfl) : JE X (.Call (.Name "sorted" p) [.Call (.Name "set" p2) [a] [] qos] [] pos) (dCallB dSortSetI (a1 ta)) :=
  pe_wk (pe_callB (e := .Call (.Name "set" p2) [a] [] qos) (cr_or (cr_sortSI calm) (cr_sortSS calm)) hg hm (by decide +kernel) (pa_cons (pe_callTy (cr_or (cr_setI calm) (cr_setS calm)) hg2 hm2 (by decide +kernel) (ja_cons ha ja_nil hs) (by decide) (by decide) hs hp) pa_nil hs2) (by decide) (by decide) hs2 hp2) fun s H Q h => call_wk o_sortSetI s H Q h
end
end DL
namespace K29
open PySem PySem.Spec PyProof.Rows L2 DL
abbrev N_is_whole : List Str := ["thing"]
theorem sc_is_whole : FnScope N_is_whole ["thing"] (defScope s_is_whole) := ⟨rfl, rfl, rfl, by decide +kernel, rfl, by decide +kernel, by decide +kernel⟩
abbrev N_is_between : List Str := ["thing", "low", "high"]
theorem sc_is_between : FnScope N_is_between ["thing", "low", "high"] (defScope s_is_between) := ⟨rfl, rfl, rfl, by decide +kernel, rfl, by decide +kernel, by decide +kernel⟩
abbrev N_is_point : List Str := ["thing"]
theorem sc_is_point : FnScope N_is_point ["thing"] (defScope s_is_point) := ⟨rfl, rfl, rfl, by decide +kernel, rfl, by decide +kernel, by decide +kernel⟩
abbrev N_is_spot : List Str := ["thing", "last", "point"]
theorem sc_is_spot : FnScope N_is_spot ["thing"] (defScope s_is_spot) := ⟨rfl, rfl, rfl, by decide +kernel, rfl, by decide +kernel, by decide +kernel⟩
abbrev N_lowest : List Str := ["top", "bottom", "one", "other"]
theorem sc_lowest : FnScope N_lowest ["top", "bottom"] (defScope s_lowest) := ⟨rfl, rfl, rfl, by decide +kernel, rfl, by decide +kernel, by decide +kernel⟩
abbrev N_is_fraction : List Str := ["thing"]
theorem sc_is_fraction : FnScope N_is_fraction ["thing"] (defScope s_is_fraction) := ⟨rfl, rfl, rfl, by decide +kernel, rfl, by decide +kernel, by decide +kernel⟩
abbrev N_need_two : List Str := ["one", "other"]
theorem sc_need_two : FnScope N_need_two ["one", "other"] (defScope s_need_two) := ⟨rfl, rfl, rfl, by decide +kernel, rfl, by decide +kernel, by decide +kernel⟩
abbrev N_fraction : List Str := ["top", "bottom"]
theorem sc_fraction : FnScope N_fraction ["top", "bottom"] (defScope s_fraction) := ⟨rfl, rfl, rfl, by decide +kernel, rfl, by decide +kernel, by decide +kernel⟩
abbrev N_plus : List Str := ["one", "other"]
theorem sc_plus : FnScope N_plus ["one", "other"] (defScope s_plus) := ⟨rfl, rfl, rfl, by decide +kernel, rfl, by decide +kernel, by decide +kernel⟩
abbrev N_are_marks : List Str := ["thing", "fewest", "mark", "at"]
theorem sc_are_marks : FnScope N_are_marks ["thing", "fewest"] (defScope s_are_marks) := ⟨rfl, rfl, rfl, by decide +kernel, rfl, by decide +kernel, by decide +kernel⟩
abbrev N_Marking___init : List Str := ["self", "marks", "fewest"]
theorem sc_Marking___init : FnScope N_Marking___init ["self", "marks", "fewest"] (defScope s_Marking___init) := ⟨rfl, rfl, rfl, by decide +kernel, rfl, by decide +kernel, by decide +kernel⟩
abbrev N_Marking_marks : List Str := ["self"]
theorem sc_Marking_marks : FnScope N_Marking_marks ["self"] (defScope s_Marking_marks) := ⟨rfl, rfl, rfl, by decide +kernel, rfl, by decide +kernel, by decide +kernel⟩
abbrev N_Marking_counts : List Str := ["self", "point"]
theorem sc_Marking_counts : FnScope N_Marking_counts ["self", "point"] (defScope s_Marking_counts) := ⟨rfl, rfl, rfl, by decide +kernel, rfl, by decide +kernel, by decide +kernel⟩
abbrev N_Scale_takes : List Str := ["self", "spot"]
theorem sc_Scale_takes : FnScope N_Scale_takes ["self", "spot"] (defScope s_Scale_takes) := ⟨rfl, rfl, rfl, by decide +kernel, rfl, by decide +kernel, by decide +kernel⟩
abbrev N_Box_takes : List Str := ["self", "spot", "point"]
theorem sc_Box_takes : FnScope N_Box_takes ["self", "spot"] (defScope s_Box_takes) := ⟨rfl, rfl, rfl, by decide +kernel, rfl, by decide +kernel, by decide +kernel⟩
abbrev N_Marking_fits : List Str := ["self", "spot"]
theorem sc_Marking_fits : FnScope N_Marking_fits ["self", "spot"] (defScope s_Marking_fits) := ⟨rfl, rfl, rfl, by decide +kernel, rfl, by decide +kernel, by decide +kernel⟩
abbrev N_Scale_counts : List Str := ["self", "point", "above", "one", "two"]
theorem sc_Scale_counts : FnScope N_Scale_counts ["self", "point"] (defScope s_Scale_counts) := ⟨rfl, rfl, rfl, by decide +kernel, rfl, by decide +kernel, by decide +kernel⟩
abbrev N_Marking_mix : List Str := ["self", "spot", "found", "point", "mark", "weight"]
theorem sc_Marking_mix : FnScope N_Marking_mix ["self", "spot"] (defScope s_Marking_mix) := ⟨rfl, rfl, rfl, by decide +kernel, rfl, by decide +kernel, by decide +kernel⟩
abbrev N_Scale___init : List Str := ["self", "marks"]
theorem sc_Scale___init : FnScope N_Scale___init ["self", "marks"] (defScope s_Scale___init) := ⟨rfl, rfl, rfl, by decide +kernel, rfl, by decide +kernel, by decide +kernel⟩
abbrev N_Box___init : List Str := ["self", "marks"]
theorem sc_Box___init : FnScope N_Box___init ["self", "marks"] (defScope s_Box___init) := ⟨rfl, rfl, rfl, by decide +kernel, rfl, by decide +kernel, by decide +kernel⟩
abbrev N_marks_of : List Str := ["sort", "marks"]
theorem sc_marks_of : FnScope N_marks_of ["sort", "marks"] (defScope s_marks_of) := ⟨rfl, rfl, rfl, by decide +kernel, rfl, by decide +kernel, by decide +kernel⟩
abbrev N_law_bag : List Str := ["_law_script", "_law_cell"]
theorem sc_law_bag : FnScope N_law_bag ["_law_script"] (defScope s_law_bag) := ⟨rfl, rfl, rfl, by decide +kernel, rfl, by decide +kernel, by decide +kernel⟩
abbrev N_law_take : List Str := ["_law_bag_here", "_law_many", "_law_cell", "_law_value", "_law_first", "_law_second"]
theorem sc_law_take : FnScope N_law_take ["_law_bag_here", "_law_many"] (defScope s_law_take) := ⟨rfl, rfl, rfl, by decide +kernel, rfl, by decide +kernel, by decide +kernel⟩
abbrev N_law_alike : List Str := ["_law_found", "_law_due"]
theorem sc_law_alike : FnScope N_law_alike ["_law_found", "_law_due"] (defScope s_law_alike) := ⟨rfl, rfl, rfl, by decide +kernel, rfl, by decide +kernel, by decide +kernel⟩
abbrev N_law_copy : List Str := ["_law_thing", "_law_one"]
theorem sc_law_copy : FnScope N_law_copy ["_law_thing"] (defScope s_law_copy) := ⟨rfl, rfl, rfl, by decide +kernel, rfl, by decide +kernel, by decide +kernel⟩
abbrev N_law_low : List Str := ["_law_top", "_law_bottom", "_law_one", "_law_other"]
theorem sc_law_low : FnScope N_law_low ["_law_top", "_law_bottom"] (defScope s_law_low) := ⟨rfl, rfl, rfl, by decide +kernel, rfl, by decide +kernel, by decide +kernel⟩
abbrev N_law_plus : List Str := ["_law_one", "_law_other"]
theorem sc_law_plus : FnScope N_law_plus ["_law_one", "_law_other"] (defScope s_law_plus) := ⟨rfl, rfl, rfl, by decide +kernel, rfl, by decide +kernel, by decide +kernel⟩
abbrev N_law_marks : List Str := ["_law_bag_here", "_law_sort", "_law_many", "_law_step", "_law_last", "_law_found", "_law_k"]
theorem sc_law_marks : FnScope N_law_marks ["_law_bag_here", "_law_sort"] (defScope s_law_marks) := ⟨rfl, rfl, rfl, by decide +kernel, rfl, by decide +kernel, by decide +kernel⟩
abbrev N_law_spot : List Str := ["_law_bag_here", "_law_sort", "_law_marks_here", "_law_many", "_law_found", "_law_k"]
theorem sc_law_spot : FnScope N_law_spot ["_law_bag_here", "_law_sort", "_law_marks_here"] (defScope s_law_spot) := ⟨rfl, rfl, rfl, by decide +kernel, rfl, by decide +kernel, by decide +kernel⟩
abbrev N_law_fits : List Str := ["_law_thing", "_law_spot_here", "_law_marks_here", "_law_point"]
theorem sc_law_fits : FnScope N_law_fits ["_law_thing", "_law_spot_here"] (defScope s_law_fits) := ⟨rfl, rfl, rfl, by decide +kernel, rfl, by decide +kernel, by decide +kernel⟩
abbrev N_law_mix : List Str := ["_law_thing", "_law_spot_here", "_law_found", "_law_marks_here", "_law_point", "_law_some", "_law_one", "_law_mark", "_law_two", "_law_weight"]
theorem sc_law_mix : FnScope N_law_mix ["_law_thing", "_law_spot_here"] (defScope s_law_mix) := ⟨rfl, rfl, rfl, by decide +kernel, rfl, by decide +kernel, by decide +kernel⟩
abbrev N_law_made : List Str := ["_law_sort", "_law_marks_here", "_law_way"]
theorem sc_law_made : FnScope N_law_made ["_law_sort", "_law_marks_here", "_law_way"] (defScope s_law_made) := ⟨rfl, rfl, rfl, by decide +kernel, rfl, by decide +kernel, by decide +kernel⟩
abbrev N_law_put : List Str := ["_law_bag_here", "_law_some", "_law_thing", "_law_way", "_law_at"]
theorem sc_law_put : FnScope N_law_put ["_law_bag_here", "_law_some", "_law_thing"] (defScope s_law_put) := ⟨rfl, rfl, rfl, by decide +kernel, rfl, by decide +kernel, by decide +kernel⟩
abbrev N_law_mix_told : List Str := ["_law_thing", "_law_spot_here", "_law_told"]
theorem sc_law_mix_told : FnScope N_law_mix_told ["_law_thing", "_law_spot_here"] (defScope s_law_mix_told) := ⟨rfl, rfl, rfl, by decide +kernel, rfl, by decide +kernel, by decide +kernel⟩
abbrev N_law_asked : List Str := ["_law_bag_here", "_law_thing", "_law_plain", "_law_spot_here", "_law_held", "_law_way", "_law_told", "_law_due", "_law_reply"]
theorem sc_law_asked : FnScope N_law_asked ["_law_bag_here", "_law_thing", "_law_plain", "_law_spot_here", "_law_held"] (defScope s_law_asked) := ⟨rfl, rfl, rfl, by decide +kernel, rfl, by decide +kernel, by decide +kernel⟩
abbrev N_law_spots : List Str := ["_law_bag_here", "_law_plains", "_law_found", "_law_plain"]
theorem sc_law_spots : FnScope N_law_spots ["_law_bag_here", "_law_plains"] (defScope s_law_spots) := ⟨rfl, rfl, rfl, by decide +kernel, rfl, by decide +kernel, by decide +kernel⟩
abbrev N_law : List Str := ["_law_script", "_law_bag_here", "_law_rounds", "_law_same", "_law_ways", "_law_sorts", "_law_rows", "_law_plains", "_law_k", "_law_very", "_law_things", "_law_held", "_law_spots_here", "_law_at", "_law_spot_here", "_law_asked_here", "_law_way", "_law_other", "_law_told", "_law_was"]
theorem sc_law : FnScope N_law ["_law_script"] (defScope s_law) := ⟨rfl, rfl, rfl, by decide +kernel, rfl, by decide +kernel, by decide +kernel⟩
theorem sc_NoSpot___init : FnScope ["self"] ["self"] (defScope s_NoSpot___init) := ⟨rfl, rfl, rfl, by decide +kernel, rfl, by decide +kernel, by decide +kernel⟩
abbrev t_is_whole : DS := DL.t_is_whole
abbrev g_is_whole : FN := DL.g_is_whole
theorem ar_is_whole : ∀ ds m q, g_is_whole ds m q → ds.length = 1 := DL.ar_is_whole
abbrev t_lowest : DS := DL.t_lowest
abbrev g_lowest : FN := DL.g_lowest
theorem ar_lowest : ∀ ds m q, g_lowest ds m q → ds.length = 2 := DL.ar_lowest
abbrev t_law_bag : DS := DL.t_law_bag
abbrev g_law_bag : FN := DL.g_law_bag
theorem ar_law_bag : ∀ ds m q, g_law_bag ds m q → ds.length = 1 := DL.ar_law_bag
abbrev t_law_take : DS := DL.tk0
abbrev g_law_take : FN := DL.g_law_take
theorem ar_law_take : ∀ ds m q, g_law_take ds m q → ds.length = 2 := DL.ar_law_take
/-- a fraction below 2 ^ n -/
structure Fp (n : Nat) (t b : Int) : Prop where
  pos : 0 < b
  cop : Int.gcd t b = 1
  st : Sm n t
  sb : Sm n b
theorem Fp.mono {k n : Nat} {t b : Int} (h : Fp k t b) (hk : k ≤ n) : Fp n t b := ⟨h.pos, h.cop, h.st.mono hk, h.sb.mono hk⟩
def isFrac : D → Bool
  | .tup [.int t, .int b] => decide (0 < b ∧ Int.gcd t b = 1)
  | _ => false
/-- the parts' kinds are known, and whole numbers are not too great -/
structure FrIn (d : D) (m : Sto) : Prop where
  kd : ∃ k, kd d m = some k
  parts : ∀ x y, d = .tup [x, y] → (∃ k, DL.kd x m = some k) ∧ (∃ k, DL.kd y m = some k)
  small : ∀ t b, d = fr t b → Sm 8900 b
theorem frIn_fr {t b : Int} {m : Sto} (h : Sm 8900 b) : FrIn (fr t b) m := ⟨⟨_, rfl⟩, fun x y e => by cases e; exact ⟨⟨_, rfl⟩, ⟨_, rfl⟩⟩, fun t b e => by cases e; exact h⟩
theorem isFrac_fr {n : Nat} {t b : Int} (h : Fp n t b) : isFrac (fr t b) = true := decide_eq_true ⟨h.pos, h.cop⟩
theorem kd_notTup {d : D} {m : Sto} {k : Kd} (h : DL.kd d m = some k) (hn : ∀ ds, d ≠ .tup ds) : isT .tuple k = false := by
  cases k <;> first | rfl | skip
  exfalso
  unfold DL.kd at h
  split at h <;> first | (cases h; done) | exact hn _ rfl | (split at h <;> cases h)
theorem isWhole_int {d : D} (h : isWhole d = true) : ∃ i, d = .int i := by
  cases d <;> first | exact ⟨_, rfl⟩ | cases h
theorem isFrac_two {x y : D} (h : isWhole x = false ∨ isWhole y = false) : isFrac (.tup [x, y]) = false := by
  cases x <;> first | rfl | (cases y <;> first | rfl | (rcases h with h | h <;> cases h))
theorem isFrac_notTup {d : D} (hn : ∀ ds, d ≠ .tup ds) : isFrac d = false := by
  cases d <;> first | rfl | exact absurd rfl (hn _)
theorem low_iff {t b : Int} (hb : 0 < b) : (lowT t b = t ∧ lowB t b = b) ↔ Int.gcd t b = 1 := by
  constructor
  · rintro ⟨e1, e2⟩
    have := (low_ok t b (by omega)).2.2
    rwa [e1, e2] at this
  · exact fun h => low_id hb h
@[irreducible] def g_is_fraction : FN := fun dz m q => ∃ (d : D), dz = [d] ∧ (FrIn d m ∧ q (.bl (isFrac d)) m)
theorem ar_is_fraction : ∀ ds m q, g_is_fraction ds m q → ds.length = 1 := by
  unfold g_is_fraction
  rintro _ m q ⟨_, rfl, _⟩; rfl
theorem i_is_fraction {d : D} {m : Sto} {q : D → Sto → Prop} (h : FrIn d m ∧ q (.bl (isFrac d)) m) : g_is_fraction [d] m q := by unfold g_is_fraction; exact ⟨d, rfl, h⟩
def t_is_fraction : DS :=
    (dSeq (dIf (dTOr (dTNot (dTest (dIsi .tuple (dVar 0)))) (dTOr (dTest (dBin dNe (dCallB dLen (a1 (dVar 0))) (dC (.int 2)))) (dTOr (dTNot (dTest (dCallB g_is_whole (dCons (dBin dIx (dVar 0) (dC (.int 0))) dNil)))) (dTNot (dTest (dCallB g_is_whole (dCons (dBin dIx (dVar 0) (dC (.int 1))) dNil))))))) (dRet (dC (.bl false))) dNext)
    (dRet (dAnd (dBin dGt (dBin dIx (dVar 0) (dC (.int 1))) (dC (.int 0))) (dBin dEq (dCallB g_lowest (dCons (dBin dIx (dVar 0) (dC (.int 0))) (dCons (dBin dIx (dVar 0) (dC (.int 1))) dNil))) (dVar 0)))))
theorem r_is_fraction (dz : List D) (m : Sto) (q : D → Sto → Prop) (hl : dz.length = 1) (h : g_is_fraction dz m q) : t_is_fraction { nx := fun _ m' => q .non m', rt := q } (startD N_is_fraction dz) m := by
  unfold g_is_fraction at h
  obtain ⟨d, rfl, h⟩ := h
  unfold t_is_fraction
  obtain ⟨⟨⟨k, hk⟩, hp, hs⟩, h⟩ := h
  by_cases ht : ∃ ds, d = .tup ds
  · obtain ⟨ds, rfl⟩ := ht
    match ds, hk, hp, hs, h with
    | [], hk, hp, hs, h => (try simp only [DL.dSeq, DL.dIf, DL.dTest, DL.dBin, DL.dUn, DL.dCallB, DL.dVar, DL.dC, DL.dCons, DL.dNil, DL.a1, DL.a2, DL.dTup, DL.dLst, DL.dLstP, DL.dAsg, DL.gN, DL.gsC, DL.gsN, DL.gT, DL.gIx, DL.dPar, DL.dAug, DL.dAugIx, DL.dSub, DL.dMul, DL.dMod, DL.dDiv, DL.dPow, DL.dLt, DL.dLe, DL.dGt, DL.dGe, DL.dI0, DL.dI2, DL.dB0, DL.dNeg, DL.dIsN, DL.dNotN, DL.isNon, DL.dBits, DL.dEq_int, DL.dEq_bl, DL.dEq_str, DL.dEq_fr, DL.dNe_int, DL.dNe_bl, DL.dNe_str, DL.dNe_fr, DL.dIx, DL.dAdd, DL.dAnd, DL.dOr, DL.dNot, DL.dIfE, DL.dTNot, DL.dTAnd, DL.dTOr, DL.dRet, DL.dRetN, DL.dDrop, DL.dNext, DL.dNever, DL.dBreak, DL.dCont, DL.slot, DL.put, DL.onS_mk, DL.dIsi, DL.kd_non, DL.kd_bl, DL.kd_int, DL.kd_str, DL.kd_tup, DL.kd_lst, DL.kd_fz, DL.isT_int_non, DL.isT_int_bl, DL.isT_int_int, DL.isT_int_str, DL.isT_int_tup, DL.isT_int_lst, DL.isT_bool_non, DL.isT_bool_bl, DL.isT_bool_int, DL.isT_bool_str, DL.isT_bool_tup, DL.isT_bool_lst, DL.isT_str_non, DL.isT_str_bl, DL.isT_str_int, DL.isT_str_str, DL.isT_str_tup, DL.isT_str_lst, DL.isT_list_non, DL.isT_list_bl, DL.isT_list_int, DL.isT_list_str, DL.isT_list_tup, DL.isT_list_lst, DL.isT_tuple_non, DL.isT_tuple_bl, DL.isT_tuple_int, DL.isT_tuple_str, DL.isT_tuple_tup, DL.isT_tuple_lst, DL.isT_dict_non, DL.isT_dict_bl, DL.isT_dict_int, DL.isT_dict_str, DL.isT_dict_tup, DL.isT_dict_lst, DL.dAbs, DL.dLen, DL.dInt, DL.dMin, DL.dMax, DL.dApp, DL.dChain, DL.seqL_lst, DL.seqL_fz, DL.seqL_ptr, DL.lstOf_lst, DL.dFor, DL.dIter, DL.dYes, DL.startD, List.map_cons, List.map_nil, List.length_cons, List.length_nil, List.replicate, List.cons_append, List.nil_append, Nat.reduceAdd, Nat.reduceSub, Nat.reduceLeDiff, true_and, and_true, DL.cond_dec, DL.cond_ndec, Bool.not_true, Bool.not_false, true_imp_iff, false_imp_iff, Bool.false_eq_true, Bool.true_eq_false, not_true_eq_false, not_false_eq_true, Int.cast_ofNat_Int, DL.atI_0, DL.atI_1, DL.atI_2, DL.atI_3, DL.atI_4, List.set_cons_zero, List.set_cons_succ, N_is_fraction]); exact ⟨fun _ => h, fun e => absurd e (by decide)⟩
    | [x], hk, hp, hs, h =>
      have hf : isFrac (.tup [x]) = false := by cases x <;> rfl
      rw [hf] at h
      (try simp only [DL.dSeq, DL.dIf, DL.dTest, DL.dBin, DL.dUn, DL.dCallB, DL.dVar, DL.dC, DL.dCons, DL.dNil, DL.a1, DL.a2, DL.dTup, DL.dLst, DL.dLstP, DL.dAsg, DL.gN, DL.gsC, DL.gsN, DL.gT, DL.gIx, DL.dPar, DL.dAug, DL.dAugIx, DL.dSub, DL.dMul, DL.dMod, DL.dDiv, DL.dPow, DL.dLt, DL.dLe, DL.dGt, DL.dGe, DL.dI0, DL.dI2, DL.dB0, DL.dNeg, DL.dIsN, DL.dNotN, DL.isNon, DL.dBits, DL.dEq_int, DL.dEq_bl, DL.dEq_str, DL.dEq_fr, DL.dNe_int, DL.dNe_bl, DL.dNe_str, DL.dNe_fr, DL.dIx, DL.dAdd, DL.dAnd, DL.dOr, DL.dNot, DL.dIfE, DL.dTNot, DL.dTAnd, DL.dTOr, DL.dRet, DL.dRetN, DL.dDrop, DL.dNext, DL.dNever, DL.dBreak, DL.dCont, DL.slot, DL.put, DL.onS_mk, DL.dIsi, DL.kd_non, DL.kd_bl, DL.kd_int, DL.kd_str, DL.kd_tup, DL.kd_lst, DL.kd_fz, DL.isT_int_non, DL.isT_int_bl, DL.isT_int_int, DL.isT_int_str, DL.isT_int_tup, DL.isT_int_lst, DL.isT_bool_non, DL.isT_bool_bl, DL.isT_bool_int, DL.isT_bool_str, DL.isT_bool_tup, DL.isT_bool_lst, DL.isT_str_non, DL.isT_str_bl, DL.isT_str_int, DL.isT_str_str, DL.isT_str_tup, DL.isT_str_lst, DL.isT_list_non, DL.isT_list_bl, DL.isT_list_int, DL.isT_list_str, DL.isT_list_tup, DL.isT_list_lst, DL.isT_tuple_non, DL.isT_tuple_bl, DL.isT_tuple_int, DL.isT_tuple_str, DL.isT_tuple_tup, DL.isT_tuple_lst, DL.isT_dict_non, DL.isT_dict_bl, DL.isT_dict_int, DL.isT_dict_str, DL.isT_dict_tup, DL.isT_dict_lst, DL.dAbs, DL.dLen, DL.dInt, DL.dMin, DL.dMax, DL.dApp, DL.dChain, DL.seqL_lst, DL.seqL_fz, DL.seqL_ptr, DL.lstOf_lst, DL.dFor, DL.dIter, DL.dYes, DL.startD, List.map_cons, List.map_nil, List.length_cons, List.length_nil, List.replicate, List.cons_append, List.nil_append, Nat.reduceAdd, Nat.reduceSub, Nat.reduceLeDiff, true_and, and_true, DL.cond_dec, DL.cond_ndec, Bool.not_true, Bool.not_false, true_imp_iff, false_imp_iff, Bool.false_eq_true, Bool.true_eq_false, not_true_eq_false, not_false_eq_true, Int.cast_ofNat_Int, DL.atI_0, DL.atI_1, DL.atI_2, DL.atI_3, DL.atI_4, List.set_cons_zero, List.set_cons_succ, N_is_fraction])
      exact ⟨fun _ => h, fun e => absurd e (by decide)⟩
    | x :: y :: z :: r, hk, hp, hs, h =>
      have hf : isFrac (.tup (x :: y :: z :: r)) = false := by cases x <;> first | rfl | (cases y <;> rfl)
      rw [hf] at h
      (try simp only [DL.dSeq, DL.dIf, DL.dTest, DL.dBin, DL.dUn, DL.dCallB, DL.dVar, DL.dC, DL.dCons, DL.dNil, DL.a1, DL.a2, DL.dTup, DL.dLst, DL.dLstP, DL.dAsg, DL.gN, DL.gsC, DL.gsN, DL.gT, DL.gIx, DL.dPar, DL.dAug, DL.dAugIx, DL.dSub, DL.dMul, DL.dMod, DL.dDiv, DL.dPow, DL.dLt, DL.dLe, DL.dGt, DL.dGe, DL.dI0, DL.dI2, DL.dB0, DL.dNeg, DL.dIsN, DL.dNotN, DL.isNon, DL.dBits, DL.dEq_int, DL.dEq_bl, DL.dEq_str, DL.dEq_fr, DL.dNe_int, DL.dNe_bl, DL.dNe_str, DL.dNe_fr, DL.dIx, DL.dAdd, DL.dAnd, DL.dOr, DL.dNot, DL.dIfE, DL.dTNot, DL.dTAnd, DL.dTOr, DL.dRet, DL.dRetN, DL.dDrop, DL.dNext, DL.dNever, DL.dBreak, DL.dCont, DL.slot, DL.put, DL.onS_mk, DL.dIsi, DL.kd_non, DL.kd_bl, DL.kd_int, DL.kd_str, DL.kd_tup, DL.kd_lst, DL.kd_fz, DL.isT_int_non, DL.isT_int_bl, DL.isT_int_int, DL.isT_int_str, DL.isT_int_tup, DL.isT_int_lst, DL.isT_bool_non, DL.isT_bool_bl, DL.isT_bool_int, DL.isT_bool_str, DL.isT_bool_tup, DL.isT_bool_lst, DL.isT_str_non, DL.isT_str_bl, DL.isT_str_int, DL.isT_str_str, DL.isT_str_tup, DL.isT_str_lst, DL.isT_list_non, DL.isT_list_bl, DL.isT_list_int, DL.isT_list_str, DL.isT_list_tup, DL.isT_list_lst, DL.isT_tuple_non, DL.isT_tuple_bl, DL.isT_tuple_int, DL.isT_tuple_str, DL.isT_tuple_tup, DL.isT_tuple_lst, DL.isT_dict_non, DL.isT_dict_bl, DL.isT_dict_int, DL.isT_dict_str, DL.isT_dict_tup, DL.isT_dict_lst, DL.dAbs, DL.dLen, DL.dInt, DL.dMin, DL.dMax, DL.dApp, DL.dChain, DL.seqL_lst, DL.seqL_fz, DL.seqL_ptr, DL.lstOf_lst, DL.dFor, DL.dIter, DL.dYes, DL.startD, List.map_cons, List.map_nil, List.length_cons, List.length_nil, List.replicate, List.cons_append, List.nil_append, Nat.reduceAdd, Nat.reduceSub, Nat.reduceLeDiff, true_and, and_true, DL.cond_dec, DL.cond_ndec, Bool.not_true, Bool.not_false, true_imp_iff, false_imp_iff, Bool.false_eq_true, Bool.true_eq_false, not_true_eq_false, not_false_eq_true, Int.cast_ofNat_Int, DL.atI_0, DL.atI_1, DL.atI_2, DL.atI_3, DL.atI_4, List.set_cons_zero, List.set_cons_succ, N_is_fraction])
      exact ⟨fun _ => h, fun e => absurd e (by omega)⟩
    | [x, y], hk, hp, hs, h =>
      obtain ⟨⟨k1, hk1⟩, ⟨k2, hk2⟩⟩ := hp x y rfl
      (try simp only [DL.dSeq, DL.dIf, DL.dTest, DL.dBin, DL.dUn, DL.dCallB, DL.dVar, DL.dC, DL.dCons, DL.dNil, DL.a1, DL.a2, DL.dTup, DL.dLst, DL.dLstP, DL.dAsg, DL.gN, DL.gsC, DL.gsN, DL.gT, DL.gIx, DL.dPar, DL.dAug, DL.dAugIx, DL.dSub, DL.dMul, DL.dMod, DL.dDiv, DL.dPow, DL.dLt, DL.dLe, DL.dGt, DL.dGe, DL.dI0, DL.dI2, DL.dB0, DL.dNeg, DL.dIsN, DL.dNotN, DL.isNon, DL.dBits, DL.dEq_int, DL.dEq_bl, DL.dEq_str, DL.dEq_fr, DL.dNe_int, DL.dNe_bl, DL.dNe_str, DL.dNe_fr, DL.dIx, DL.dAdd, DL.dAnd, DL.dOr, DL.dNot, DL.dIfE, DL.dTNot, DL.dTAnd, DL.dTOr, DL.dRet, DL.dRetN, DL.dDrop, DL.dNext, DL.dNever, DL.dBreak, DL.dCont, DL.slot, DL.put, DL.onS_mk, DL.dIsi, DL.kd_non, DL.kd_bl, DL.kd_int, DL.kd_str, DL.kd_tup, DL.kd_lst, DL.kd_fz, DL.isT_int_non, DL.isT_int_bl, DL.isT_int_int, DL.isT_int_str, DL.isT_int_tup, DL.isT_int_lst, DL.isT_bool_non, DL.isT_bool_bl, DL.isT_bool_int, DL.isT_bool_str, DL.isT_bool_tup, DL.isT_bool_lst, DL.isT_str_non, DL.isT_str_bl, DL.isT_str_int, DL.isT_str_str, DL.isT_str_tup, DL.isT_str_lst, DL.isT_list_non, DL.isT_list_bl, DL.isT_list_int, DL.isT_list_str, DL.isT_list_tup, DL.isT_list_lst, DL.isT_tuple_non, DL.isT_tuple_bl, DL.isT_tuple_int, DL.isT_tuple_str, DL.isT_tuple_tup, DL.isT_tuple_lst, DL.isT_dict_non, DL.isT_dict_bl, DL.isT_dict_int, DL.isT_dict_str, DL.isT_dict_tup, DL.isT_dict_lst, DL.dAbs, DL.dLen, DL.dInt, DL.dMin, DL.dMax, DL.dApp, DL.dChain, DL.seqL_lst, DL.seqL_fz, DL.seqL_ptr, DL.lstOf_lst, DL.dFor, DL.dIter, DL.dYes, DL.startD, List.map_cons, List.map_nil, List.length_cons, List.length_nil, List.replicate, List.cons_append, List.nil_append, Nat.reduceAdd, Nat.reduceSub, Nat.reduceLeDiff, true_and, and_true, DL.cond_dec, DL.cond_ndec, Bool.not_true, Bool.not_false, true_imp_iff, false_imp_iff, Bool.false_eq_true, Bool.true_eq_false, not_true_eq_false, not_false_eq_true, Int.cast_ofNat_Int, DL.atI_0, DL.atI_1, DL.atI_2, DL.atI_3, DL.atI_4, List.set_cons_zero, List.set_cons_succ, N_is_fraction])
      refine i_is_whole hk1 ?_
      cases hx : isWhole x with
      | false =>
        rw [isFrac_two (.inl hx)] at h
        (try simp only [DL.dSeq, DL.dIf, DL.dTest, DL.dBin, DL.dUn, DL.dCallB, DL.dVar, DL.dC, DL.dCons, DL.dNil, DL.a1, DL.a2, DL.dTup, DL.dLst, DL.dLstP, DL.dAsg, DL.gN, DL.gsC, DL.gsN, DL.gT, DL.gIx, DL.dPar, DL.dAug, DL.dAugIx, DL.dSub, DL.dMul, DL.dMod, DL.dDiv, DL.dPow, DL.dLt, DL.dLe, DL.dGt, DL.dGe, DL.dI0, DL.dI2, DL.dB0, DL.dNeg, DL.dIsN, DL.dNotN, DL.isNon, DL.dBits, DL.dEq_int, DL.dEq_bl, DL.dEq_str, DL.dEq_fr, DL.dNe_int, DL.dNe_bl, DL.dNe_str, DL.dNe_fr, DL.dIx, DL.dAdd, DL.dAnd, DL.dOr, DL.dNot, DL.dIfE, DL.dTNot, DL.dTAnd, DL.dTOr, DL.dRet, DL.dRetN, DL.dDrop, DL.dNext, DL.dNever, DL.dBreak, DL.dCont, DL.slot, DL.put, DL.onS_mk, DL.dIsi, DL.kd_non, DL.kd_bl, DL.kd_int, DL.kd_str, DL.kd_tup, DL.kd_lst, DL.kd_fz, DL.isT_int_non, DL.isT_int_bl, DL.isT_int_int, DL.isT_int_str, DL.isT_int_tup, DL.isT_int_lst, DL.isT_bool_non, DL.isT_bool_bl, DL.isT_bool_int, DL.isT_bool_str, DL.isT_bool_tup, DL.isT_bool_lst, DL.isT_str_non, DL.isT_str_bl, DL.isT_str_int, DL.isT_str_str, DL.isT_str_tup, DL.isT_str_lst, DL.isT_list_non, DL.isT_list_bl, DL.isT_list_int, DL.isT_list_str, DL.isT_list_tup, DL.isT_list_lst, DL.isT_tuple_non, DL.isT_tuple_bl, DL.isT_tuple_int, DL.isT_tuple_str, DL.isT_tuple_tup, DL.isT_tuple_lst, DL.isT_dict_non, DL.isT_dict_bl, DL.isT_dict_int, DL.isT_dict_str, DL.isT_dict_tup, DL.isT_dict_lst, DL.dAbs, DL.dLen, DL.dInt, DL.dMin, DL.dMax, DL.dApp, DL.dChain, DL.seqL_lst, DL.seqL_fz, DL.seqL_ptr, DL.lstOf_lst, DL.dFor, DL.dIter, DL.dYes, DL.startD, List.map_cons, List.map_nil, List.length_cons, List.length_nil, List.replicate, List.cons_append, List.nil_append, Nat.reduceAdd, Nat.reduceSub, Nat.reduceLeDiff, true_and, and_true, DL.cond_dec, DL.cond_ndec, Bool.not_true, Bool.not_false, true_imp_iff, false_imp_iff, Bool.false_eq_true, Bool.true_eq_false, not_true_eq_false, not_false_eq_true, Int.cast_ofNat_Int, DL.atI_0, DL.atI_1, DL.atI_2, DL.atI_3, DL.atI_4, List.set_cons_zero, List.set_cons_succ])
        exact h
      | true =>
        (try simp only [DL.dSeq, DL.dIf, DL.dTest, DL.dBin, DL.dUn, DL.dCallB, DL.dVar, DL.dC, DL.dCons, DL.dNil, DL.a1, DL.a2, DL.dTup, DL.dLst, DL.dLstP, DL.dAsg, DL.gN, DL.gsC, DL.gsN, DL.gT, DL.gIx, DL.dPar, DL.dAug, DL.dAugIx, DL.dSub, DL.dMul, DL.dMod, DL.dDiv, DL.dPow, DL.dLt, DL.dLe, DL.dGt, DL.dGe, DL.dI0, DL.dI2, DL.dB0, DL.dNeg, DL.dIsN, DL.dNotN, DL.isNon, DL.dBits, DL.dEq_int, DL.dEq_bl, DL.dEq_str, DL.dEq_fr, DL.dNe_int, DL.dNe_bl, DL.dNe_str, DL.dNe_fr, DL.dIx, DL.dAdd, DL.dAnd, DL.dOr, DL.dNot, DL.dIfE, DL.dTNot, DL.dTAnd, DL.dTOr, DL.dRet, DL.dRetN, DL.dDrop, DL.dNext, DL.dNever, DL.dBreak, DL.dCont, DL.slot, DL.put, DL.onS_mk, DL.dIsi, DL.kd_non, DL.kd_bl, DL.kd_int, DL.kd_str, DL.kd_tup, DL.kd_lst, DL.kd_fz, DL.isT_int_non, DL.isT_int_bl, DL.isT_int_int, DL.isT_int_str, DL.isT_int_tup, DL.isT_int_lst, DL.isT_bool_non, DL.isT_bool_bl, DL.isT_bool_int, DL.isT_bool_str, DL.isT_bool_tup, DL.isT_bool_lst, DL.isT_str_non, DL.isT_str_bl, DL.isT_str_int, DL.isT_str_str, DL.isT_str_tup, DL.isT_str_lst, DL.isT_list_non, DL.isT_list_bl, DL.isT_list_int, DL.isT_list_str, DL.isT_list_tup, DL.isT_list_lst, DL.isT_tuple_non, DL.isT_tuple_bl, DL.isT_tuple_int, DL.isT_tuple_str, DL.isT_tuple_tup, DL.isT_tuple_lst, DL.isT_dict_non, DL.isT_dict_bl, DL.isT_dict_int, DL.isT_dict_str, DL.isT_dict_tup, DL.isT_dict_lst, DL.dAbs, DL.dLen, DL.dInt, DL.dMin, DL.dMax, DL.dApp, DL.dChain, DL.seqL_lst, DL.seqL_fz, DL.seqL_ptr, DL.lstOf_lst, DL.dFor, DL.dIter, DL.dYes, DL.startD, List.map_cons, List.map_nil, List.length_cons, List.length_nil, List.replicate, List.cons_append, List.nil_append, Nat.reduceAdd, Nat.reduceSub, Nat.reduceLeDiff, true_and, and_true, DL.cond_dec, DL.cond_ndec, Bool.not_true, Bool.not_false, true_imp_iff, false_imp_iff, Bool.false_eq_true, Bool.true_eq_false, not_true_eq_false, not_false_eq_true, Int.cast_ofNat_Int, DL.atI_0, DL.atI_1, DL.atI_2, DL.atI_3, DL.atI_4, List.set_cons_zero, List.set_cons_succ])
        refine i_is_whole hk2 ?_
        cases hy : isWhole y with
        | false =>
          rw [isFrac_two (.inr hy)] at h
          (try simp only [DL.dSeq, DL.dIf, DL.dTest, DL.dBin, DL.dUn, DL.dCallB, DL.dVar, DL.dC, DL.dCons, DL.dNil, DL.a1, DL.a2, DL.dTup, DL.dLst, DL.dLstP, DL.dAsg, DL.gN, DL.gsC, DL.gsN, DL.gT, DL.gIx, DL.dPar, DL.dAug, DL.dAugIx, DL.dSub, DL.dMul, DL.dMod, DL.dDiv, DL.dPow, DL.dLt, DL.dLe, DL.dGt, DL.dGe, DL.dI0, DL.dI2, DL.dB0, DL.dNeg, DL.dIsN, DL.dNotN, DL.isNon, DL.dBits, DL.dEq_int, DL.dEq_bl, DL.dEq_str, DL.dEq_fr, DL.dNe_int, DL.dNe_bl, DL.dNe_str, DL.dNe_fr, DL.dIx, DL.dAdd, DL.dAnd, DL.dOr, DL.dNot, DL.dIfE, DL.dTNot, DL.dTAnd, DL.dTOr, DL.dRet, DL.dRetN, DL.dDrop, DL.dNext, DL.dNever, DL.dBreak, DL.dCont, DL.slot, DL.put, DL.onS_mk, DL.dIsi, DL.kd_non, DL.kd_bl, DL.kd_int, DL.kd_str, DL.kd_tup, DL.kd_lst, DL.kd_fz, DL.isT_int_non, DL.isT_int_bl, DL.isT_int_int, DL.isT_int_str, DL.isT_int_tup, DL.isT_int_lst, DL.isT_bool_non, DL.isT_bool_bl, DL.isT_bool_int, DL.isT_bool_str, DL.isT_bool_tup, DL.isT_bool_lst, DL.isT_str_non, DL.isT_str_bl, DL.isT_str_int, DL.isT_str_str, DL.isT_str_tup, DL.isT_str_lst, DL.isT_list_non, DL.isT_list_bl, DL.isT_list_int, DL.isT_list_str, DL.isT_list_tup, DL.isT_list_lst, DL.isT_tuple_non, DL.isT_tuple_bl, DL.isT_tuple_int, DL.isT_tuple_str, DL.isT_tuple_tup, DL.isT_tuple_lst, DL.isT_dict_non, DL.isT_dict_bl, DL.isT_dict_int, DL.isT_dict_str, DL.isT_dict_tup, DL.isT_dict_lst, DL.dAbs, DL.dLen, DL.dInt, DL.dMin, DL.dMax, DL.dApp, DL.dChain, DL.seqL_lst, DL.seqL_fz, DL.seqL_ptr, DL.lstOf_lst, DL.dFor, DL.dIter, DL.dYes, DL.startD, List.map_cons, List.map_nil, List.length_cons, List.length_nil, List.replicate, List.cons_append, List.nil_append, Nat.reduceAdd, Nat.reduceSub, Nat.reduceLeDiff, true_and, and_true, DL.cond_dec, DL.cond_ndec, Bool.not_true, Bool.not_false, true_imp_iff, false_imp_iff, Bool.false_eq_true, Bool.true_eq_false, not_true_eq_false, not_false_eq_true, Int.cast_ofNat_Int, DL.atI_0, DL.atI_1, DL.atI_2, DL.atI_3, DL.atI_4, List.set_cons_zero, List.set_cons_succ])
          exact h
        | true =>
          obtain ⟨t, rfl⟩ := isWhole_int hx
          obtain ⟨b, rfl⟩ := isWhole_int hy
          (try simp only [DL.dSeq, DL.dIf, DL.dTest, DL.dBin, DL.dUn, DL.dCallB, DL.dVar, DL.dC, DL.dCons, DL.dNil, DL.a1, DL.a2, DL.dTup, DL.dLst, DL.dLstP, DL.dAsg, DL.gN, DL.gsC, DL.gsN, DL.gT, DL.gIx, DL.dPar, DL.dAug, DL.dAugIx, DL.dSub, DL.dMul, DL.dMod, DL.dDiv, DL.dPow, DL.dLt, DL.dLe, DL.dGt, DL.dGe, DL.dI0, DL.dI2, DL.dB0, DL.dNeg, DL.dIsN, DL.dNotN, DL.isNon, DL.dBits, DL.dEq_int, DL.dEq_bl, DL.dEq_str, DL.dEq_fr, DL.dNe_int, DL.dNe_bl, DL.dNe_str, DL.dNe_fr, DL.dIx, DL.dAdd, DL.dAnd, DL.dOr, DL.dNot, DL.dIfE, DL.dTNot, DL.dTAnd, DL.dTOr, DL.dRet, DL.dRetN, DL.dDrop, DL.dNext, DL.dNever, DL.dBreak, DL.dCont, DL.slot, DL.put, DL.onS_mk, DL.dIsi, DL.kd_non, DL.kd_bl, DL.kd_int, DL.kd_str, DL.kd_tup, DL.kd_lst, DL.kd_fz, DL.isT_int_non, DL.isT_int_bl, DL.isT_int_int, DL.isT_int_str, DL.isT_int_tup, DL.isT_int_lst, DL.isT_bool_non, DL.isT_bool_bl, DL.isT_bool_int, DL.isT_bool_str, DL.isT_bool_tup, DL.isT_bool_lst, DL.isT_str_non, DL.isT_str_bl, DL.isT_str_int, DL.isT_str_str, DL.isT_str_tup, DL.isT_str_lst, DL.isT_list_non, DL.isT_list_bl, DL.isT_list_int, DL.isT_list_str, DL.isT_list_tup, DL.isT_list_lst, DL.isT_tuple_non, DL.isT_tuple_bl, DL.isT_tuple_int, DL.isT_tuple_str, DL.isT_tuple_tup, DL.isT_tuple_lst, DL.isT_dict_non, DL.isT_dict_bl, DL.isT_dict_int, DL.isT_dict_str, DL.isT_dict_tup, DL.isT_dict_lst, DL.dAbs, DL.dLen, DL.dInt, DL.dMin, DL.dMax, DL.dApp, DL.dChain, DL.seqL_lst, DL.seqL_fz, DL.seqL_ptr, DL.lstOf_lst, DL.dFor, DL.dIter, DL.dYes, DL.startD, List.map_cons, List.map_nil, List.length_cons, List.length_nil, List.replicate, List.cons_append, List.nil_append, Nat.reduceAdd, Nat.reduceSub, Nat.reduceLeDiff, true_and, and_true, DL.cond_dec, DL.cond_ndec, Bool.not_true, Bool.not_false, true_imp_iff, false_imp_iff, Bool.false_eq_true, Bool.true_eq_false, not_true_eq_false, not_false_eq_true, Int.cast_ofNat_Int, DL.atI_0, DL.atI_1, DL.atI_2, DL.atI_3, DL.atI_4, List.set_cons_zero, List.set_cons_succ])
          refine ⟨fun hb => i_lowest (by omega) (hs t b rfl) ?_, fun hb => ?_⟩
          · (try simp only [DL.dSeq, DL.dIf, DL.dTest, DL.dBin, DL.dUn, DL.dCallB, DL.dVar, DL.dC, DL.dCons, DL.dNil, DL.a1, DL.a2, DL.dTup, DL.dLst, DL.dLstP, DL.dAsg, DL.gN, DL.gsC, DL.gsN, DL.gT, DL.gIx, DL.dPar, DL.dAug, DL.dAugIx, DL.dSub, DL.dMul, DL.dMod, DL.dDiv, DL.dPow, DL.dLt, DL.dLe, DL.dGt, DL.dGe, DL.dI0, DL.dI2, DL.dB0, DL.dNeg, DL.dIsN, DL.dNotN, DL.isNon, DL.dBits, DL.dEq_int, DL.dEq_bl, DL.dEq_str, DL.dEq_fr, DL.dNe_int, DL.dNe_bl, DL.dNe_str, DL.dNe_fr, DL.dIx, DL.dAdd, DL.dAnd, DL.dOr, DL.dNot, DL.dIfE, DL.dTNot, DL.dTAnd, DL.dTOr, DL.dRet, DL.dRetN, DL.dDrop, DL.dNext, DL.dNever, DL.dBreak, DL.dCont, DL.slot, DL.put, DL.onS_mk, DL.dIsi, DL.kd_non, DL.kd_bl, DL.kd_int, DL.kd_str, DL.kd_tup, DL.kd_lst, DL.kd_fz, DL.isT_int_non, DL.isT_int_bl, DL.isT_int_int, DL.isT_int_str, DL.isT_int_tup, DL.isT_int_lst, DL.isT_bool_non, DL.isT_bool_bl, DL.isT_bool_int, DL.isT_bool_str, DL.isT_bool_tup, DL.isT_bool_lst, DL.isT_str_non, DL.isT_str_bl, DL.isT_str_int, DL.isT_str_str, DL.isT_str_tup, DL.isT_str_lst, DL.isT_list_non, DL.isT_list_bl, DL.isT_list_int, DL.isT_list_str, DL.isT_list_tup, DL.isT_list_lst, DL.isT_tuple_non, DL.isT_tuple_bl, DL.isT_tuple_int, DL.isT_tuple_str, DL.isT_tuple_tup, DL.isT_tuple_lst, DL.isT_dict_non, DL.isT_dict_bl, DL.isT_dict_int, DL.isT_dict_str, DL.isT_dict_tup, DL.isT_dict_lst, DL.dAbs, DL.dLen, DL.dInt, DL.dMin, DL.dMax, DL.dApp, DL.dChain, DL.seqL_lst, DL.seqL_fz, DL.seqL_ptr, DL.lstOf_lst, DL.dFor, DL.dIter, DL.dYes, DL.startD, List.map_cons, List.map_nil, List.length_cons, List.length_nil, List.replicate, List.cons_append, List.nil_append, Nat.reduceAdd, Nat.reduceSub, Nat.reduceLeDiff, true_and, and_true, DL.cond_dec, DL.cond_ndec, Bool.not_true, Bool.not_false, true_imp_iff, false_imp_iff, Bool.false_eq_true, Bool.true_eq_false, not_true_eq_false, not_false_eq_true, Int.cast_ofNat_Int, DL.atI_0, DL.atI_1, DL.atI_2, DL.atI_3, DL.atI_4, List.set_cons_zero, List.set_cons_succ])
            have e : decide (lowT t b = t ∧ lowB t b = b) = isFrac (fr t b) := by
              show _ = decide (0 < b ∧ Int.gcd t b = 1)
              apply decide_eq_decide.mpr
              rw [low_iff hb]
              exact ⟨fun z => ⟨hb, z⟩, fun z => z.2⟩
            rw [e]
            exact h
          · have e : isFrac (fr t b) = false := decide_eq_false fun z => hb z.1
            rw [e] at h
            exact h
  · have hn : ∀ ds, d ≠ .tup ds := fun ds e => ht ⟨ds, e⟩
    rw [isFrac_notTup hn] at h
    (try simp only [DL.dSeq, DL.dIf, DL.dTest, DL.dBin, DL.dUn, DL.dCallB, DL.dVar, DL.dC, DL.dCons, DL.dNil, DL.a1, DL.a2, DL.dTup, DL.dLst, DL.dLstP, DL.dAsg, DL.gN, DL.gsC, DL.gsN, DL.gT, DL.gIx, DL.dPar, DL.dAug, DL.dAugIx, DL.dSub, DL.dMul, DL.dMod, DL.dDiv, DL.dPow, DL.dLt, DL.dLe, DL.dGt, DL.dGe, DL.dI0, DL.dI2, DL.dB0, DL.dNeg, DL.dIsN, DL.dNotN, DL.isNon, DL.dBits, DL.dEq_int, DL.dEq_bl, DL.dEq_str, DL.dEq_fr, DL.dNe_int, DL.dNe_bl, DL.dNe_str, DL.dNe_fr, DL.dIx, DL.dAdd, DL.dAnd, DL.dOr, DL.dNot, DL.dIfE, DL.dTNot, DL.dTAnd, DL.dTOr, DL.dRet, DL.dRetN, DL.dDrop, DL.dNext, DL.dNever, DL.dBreak, DL.dCont, DL.slot, DL.put, DL.onS_mk, DL.dIsi, DL.kd_non, DL.kd_bl, DL.kd_int, DL.kd_str, DL.kd_tup, DL.kd_lst, DL.kd_fz, DL.isT_int_non, DL.isT_int_bl, DL.isT_int_int, DL.isT_int_str, DL.isT_int_tup, DL.isT_int_lst, DL.isT_bool_non, DL.isT_bool_bl, DL.isT_bool_int, DL.isT_bool_str, DL.isT_bool_tup, DL.isT_bool_lst, DL.isT_str_non, DL.isT_str_bl, DL.isT_str_int, DL.isT_str_str, DL.isT_str_tup, DL.isT_str_lst, DL.isT_list_non, DL.isT_list_bl, DL.isT_list_int, DL.isT_list_str, DL.isT_list_tup, DL.isT_list_lst, DL.isT_tuple_non, DL.isT_tuple_bl, DL.isT_tuple_int, DL.isT_tuple_str, DL.isT_tuple_tup, DL.isT_tuple_lst, DL.isT_dict_non, DL.isT_dict_bl, DL.isT_dict_int, DL.isT_dict_str, DL.isT_dict_tup, DL.isT_dict_lst, DL.dAbs, DL.dLen, DL.dInt, DL.dMin, DL.dMax, DL.dApp, DL.dChain, DL.seqL_lst, DL.seqL_fz, DL.seqL_ptr, DL.lstOf_lst, DL.dFor, DL.dIter, DL.dYes, DL.startD, List.map_cons, List.map_nil, List.length_cons, List.length_nil, List.replicate, List.cons_append, List.nil_append, Nat.reduceAdd, Nat.reduceSub, Nat.reduceLeDiff, true_and, and_true, DL.cond_dec, DL.cond_ndec, Bool.not_true, Bool.not_false, true_imp_iff, false_imp_iff, Bool.false_eq_true, Bool.true_eq_false, not_true_eq_false, not_false_eq_true, Int.cast_ofNat_Int, DL.atI_0, DL.atI_1, DL.atI_2, DL.atI_3, DL.atI_4, List.set_cons_zero, List.set_cons_succ, N_is_fraction, hk, kd_notTup hk hn])
    exact h
@[irreducible] def g_need_two : FN := fun dz m q => ∃ (x y : D), dz = [x, y] ∧ (isFrac x = true ∧ isFrac y = true ∧ FrIn x m ∧ FrIn y m ∧ q .non m)
theorem ar_need_two : ∀ ds m q, g_need_two ds m q → ds.length = 2 := by
  unfold g_need_two
  rintro _ m q ⟨_, _, rfl, _⟩; rfl
theorem i_need_two {x y : D} {m : Sto} {q : D → Sto → Prop} (h : isFrac x = true ∧ isFrac y = true ∧ FrIn x m ∧ FrIn y m ∧ q .non m) : g_need_two [x, y] m q := by unfold g_need_two; exact ⟨x, y, rfl, h⟩
def t_need_two : DS :=
    (dSeq (dIf (dTNot (dTest (dCallB g_is_fraction (dCons (dVar 0) dNil)))) dNever dNext)
    (dIf (dTNot (dTest (dCallB g_is_fraction (dCons (dVar 1) dNil)))) dNever dNext))
theorem r_need_two (dz : List D) (m : Sto) (q : D → Sto → Prop) (hl : dz.length = 2) (h : g_need_two dz m q) : t_need_two { nx := fun _ m' => q .non m', rt := q } (startD N_need_two dz) m := by
  unfold g_need_two at h
  obtain ⟨x, y, rfl, h⟩ := h
  unfold t_need_two
  obtain ⟨e1, e2, f1, f2, h⟩ := h
  (try simp only [DL.dSeq, DL.dIf, DL.dTest, DL.dBin, DL.dUn, DL.dCallB, DL.dVar, DL.dC, DL.dCons, DL.dNil, DL.a1, DL.a2, DL.dTup, DL.dLst, DL.dLstP, DL.dAsg, DL.gN, DL.gsC, DL.gsN, DL.gT, DL.gIx, DL.dPar, DL.dAug, DL.dAugIx, DL.dSub, DL.dMul, DL.dMod, DL.dDiv, DL.dPow, DL.dLt, DL.dLe, DL.dGt, DL.dGe, DL.dI0, DL.dI2, DL.dB0, DL.dNeg, DL.dIsN, DL.dNotN, DL.isNon, DL.dBits, DL.dEq_int, DL.dEq_bl, DL.dEq_str, DL.dEq_fr, DL.dNe_int, DL.dNe_bl, DL.dNe_str, DL.dNe_fr, DL.dIx, DL.dAdd, DL.dAnd, DL.dOr, DL.dNot, DL.dIfE, DL.dTNot, DL.dTAnd, DL.dTOr, DL.dRet, DL.dRetN, DL.dDrop, DL.dNext, DL.dNever, DL.dBreak, DL.dCont, DL.slot, DL.put, DL.onS_mk, DL.dIsi, DL.kd_non, DL.kd_bl, DL.kd_int, DL.kd_str, DL.kd_tup, DL.kd_lst, DL.kd_fz, DL.isT_int_non, DL.isT_int_bl, DL.isT_int_int, DL.isT_int_str, DL.isT_int_tup, DL.isT_int_lst, DL.isT_bool_non, DL.isT_bool_bl, DL.isT_bool_int, DL.isT_bool_str, DL.isT_bool_tup, DL.isT_bool_lst, DL.isT_str_non, DL.isT_str_bl, DL.isT_str_int, DL.isT_str_str, DL.isT_str_tup, DL.isT_str_lst, DL.isT_list_non, DL.isT_list_bl, DL.isT_list_int, DL.isT_list_str, DL.isT_list_tup, DL.isT_list_lst, DL.isT_tuple_non, DL.isT_tuple_bl, DL.isT_tuple_int, DL.isT_tuple_str, DL.isT_tuple_tup, DL.isT_tuple_lst, DL.isT_dict_non, DL.isT_dict_bl, DL.isT_dict_int, DL.isT_dict_str, DL.isT_dict_tup, DL.isT_dict_lst, DL.dAbs, DL.dLen, DL.dInt, DL.dMin, DL.dMax, DL.dApp, DL.dChain, DL.seqL_lst, DL.seqL_fz, DL.seqL_ptr, DL.lstOf_lst, DL.dFor, DL.dIter, DL.dYes, DL.startD, List.map_cons, List.map_nil, List.length_cons, List.length_nil, List.replicate, List.cons_append, List.nil_append, Nat.reduceAdd, Nat.reduceSub, Nat.reduceLeDiff, true_and, and_true, DL.cond_dec, DL.cond_ndec, Bool.not_true, Bool.not_false, true_imp_iff, false_imp_iff, Bool.false_eq_true, Bool.true_eq_false, not_true_eq_false, not_false_eq_true, Int.cast_ofNat_Int, DL.atI_0, DL.atI_1, DL.atI_2, DL.atI_3, DL.atI_4, List.set_cons_zero, List.set_cons_succ, N_need_two])
  refine i_is_fraction ⟨f1, ?_⟩
  (try simp only [DL.dSeq, DL.dIf, DL.dTest, DL.dBin, DL.dUn, DL.dCallB, DL.dVar, DL.dC, DL.dCons, DL.dNil, DL.a1, DL.a2, DL.dTup, DL.dLst, DL.dLstP, DL.dAsg, DL.gN, DL.gsC, DL.gsN, DL.gT, DL.gIx, DL.dPar, DL.dAug, DL.dAugIx, DL.dSub, DL.dMul, DL.dMod, DL.dDiv, DL.dPow, DL.dLt, DL.dLe, DL.dGt, DL.dGe, DL.dI0, DL.dI2, DL.dB0, DL.dNeg, DL.dIsN, DL.dNotN, DL.isNon, DL.dBits, DL.dEq_int, DL.dEq_bl, DL.dEq_str, DL.dEq_fr, DL.dNe_int, DL.dNe_bl, DL.dNe_str, DL.dNe_fr, DL.dIx, DL.dAdd, DL.dAnd, DL.dOr, DL.dNot, DL.dIfE, DL.dTNot, DL.dTAnd, DL.dTOr, DL.dRet, DL.dRetN, DL.dDrop, DL.dNext, DL.dNever, DL.dBreak, DL.dCont, DL.slot, DL.put, DL.onS_mk, DL.dIsi, DL.kd_non, DL.kd_bl, DL.kd_int, DL.kd_str, DL.kd_tup, DL.kd_lst, DL.kd_fz, DL.isT_int_non, DL.isT_int_bl, DL.isT_int_int, DL.isT_int_str, DL.isT_int_tup, DL.isT_int_lst, DL.isT_bool_non, DL.isT_bool_bl, DL.isT_bool_int, DL.isT_bool_str, DL.isT_bool_tup, DL.isT_bool_lst, DL.isT_str_non, DL.isT_str_bl, DL.isT_str_int, DL.isT_str_str, DL.isT_str_tup, DL.isT_str_lst, DL.isT_list_non, DL.isT_list_bl, DL.isT_list_int, DL.isT_list_str, DL.isT_list_tup, DL.isT_list_lst, DL.isT_tuple_non, DL.isT_tuple_bl, DL.isT_tuple_int, DL.isT_tuple_str, DL.isT_tuple_tup, DL.isT_tuple_lst, DL.isT_dict_non, DL.isT_dict_bl, DL.isT_dict_int, DL.isT_dict_str, DL.isT_dict_tup, DL.isT_dict_lst, DL.dAbs, DL.dLen, DL.dInt, DL.dMin, DL.dMax, DL.dApp, DL.dChain, DL.seqL_lst, DL.seqL_fz, DL.seqL_ptr, DL.lstOf_lst, DL.dFor, DL.dIter, DL.dYes, DL.startD, List.map_cons, List.map_nil, List.length_cons, List.length_nil, List.replicate, List.cons_append, List.nil_append, Nat.reduceAdd, Nat.reduceSub, Nat.reduceLeDiff, true_and, and_true, DL.cond_dec, DL.cond_ndec, Bool.not_true, Bool.not_false, true_imp_iff, false_imp_iff, Bool.false_eq_true, Bool.true_eq_false, not_true_eq_false, not_false_eq_true, Int.cast_ofNat_Int, DL.atI_0, DL.atI_1, DL.atI_2, DL.atI_3, DL.atI_4, List.set_cons_zero, List.set_cons_succ, e1])
  refine i_is_fraction ⟨f2, ?_⟩
  (try simp only [DL.dSeq, DL.dIf, DL.dTest, DL.dBin, DL.dUn, DL.dCallB, DL.dVar, DL.dC, DL.dCons, DL.dNil, DL.a1, DL.a2, DL.dTup, DL.dLst, DL.dLstP, DL.dAsg, DL.gN, DL.gsC, DL.gsN, DL.gT, DL.gIx, DL.dPar, DL.dAug, DL.dAugIx, DL.dSub, DL.dMul, DL.dMod, DL.dDiv, DL.dPow, DL.dLt, DL.dLe, DL.dGt, DL.dGe, DL.dI0, DL.dI2, DL.dB0, DL.dNeg, DL.dIsN, DL.dNotN, DL.isNon, DL.dBits, DL.dEq_int, DL.dEq_bl, DL.dEq_str, DL.dEq_fr, DL.dNe_int, DL.dNe_bl, DL.dNe_str, DL.dNe_fr, DL.dIx, DL.dAdd, DL.dAnd, DL.dOr, DL.dNot, DL.dIfE, DL.dTNot, DL.dTAnd, DL.dTOr, DL.dRet, DL.dRetN, DL.dDrop, DL.dNext, DL.dNever, DL.dBreak, DL.dCont, DL.slot, DL.put, DL.onS_mk, DL.dIsi, DL.kd_non, DL.kd_bl, DL.kd_int, DL.kd_str, DL.kd_tup, DL.kd_lst, DL.kd_fz, DL.isT_int_non, DL.isT_int_bl, DL.isT_int_int, DL.isT_int_str, DL.isT_int_tup, DL.isT_int_lst, DL.isT_bool_non, DL.isT_bool_bl, DL.isT_bool_int, DL.isT_bool_str, DL.isT_bool_tup, DL.isT_bool_lst, DL.isT_str_non, DL.isT_str_bl, DL.isT_str_int, DL.isT_str_str, DL.isT_str_tup, DL.isT_str_lst, DL.isT_list_non, DL.isT_list_bl, DL.isT_list_int, DL.isT_list_str, DL.isT_list_tup, DL.isT_list_lst, DL.isT_tuple_non, DL.isT_tuple_bl, DL.isT_tuple_int, DL.isT_tuple_str, DL.isT_tuple_tup, DL.isT_tuple_lst, DL.isT_dict_non, DL.isT_dict_bl, DL.isT_dict_int, DL.isT_dict_str, DL.isT_dict_tup, DL.isT_dict_lst, DL.dAbs, DL.dLen, DL.dInt, DL.dMin, DL.dMax, DL.dApp, DL.dChain, DL.seqL_lst, DL.seqL_fz, DL.seqL_ptr, DL.lstOf_lst, DL.dFor, DL.dIter, DL.dYes, DL.startD, List.map_cons, List.map_nil, List.length_cons, List.length_nil, List.replicate, List.cons_append, List.nil_append, Nat.reduceAdd, Nat.reduceSub, Nat.reduceLeDiff, true_and, and_true, DL.cond_dec, DL.cond_ndec, Bool.not_true, Bool.not_false, true_imp_iff, false_imp_iff, Bool.false_eq_true, Bool.true_eq_false, not_true_eq_false, not_false_eq_true, Int.cast_ofNat_Int, DL.atI_0, DL.atI_1, DL.atI_2, DL.atI_3, DL.atI_4, List.set_cons_zero, List.set_cons_succ, e2])
  exact h
theorem need_two_fr {n : Nat} {a b c d : Int} {m : Sto} {q : D → Sto → Prop} (h1 : Fp n a b) (h2 : Fp n c d) (hn : n ≤ 8900) (h : q .non m) : g_need_two [fr a b, fr c d] m q :=
  i_need_two ⟨isFrac_fr h1, isFrac_fr h2, frIn_fr (h1.sb.mono hn), frIn_fr (h2.sb.mono hn), h⟩
@[irreducible] def g_plus : FN := fun dz m q => ∃ (a b c d : Int), dz = [fr a b, fr c d] ∧ (Fp 4400 a b ∧ Fp 4400 c d ∧ q (fr (lowT (a * d + c * b) (b * d)) (lowB (a * d + c * b) (b * d))) m)
theorem ar_plus : ∀ ds m q, g_plus ds m q → ds.length = 2 := by
  unfold g_plus
  rintro _ m q ⟨_, _, _, _, rfl, _⟩; rfl
theorem i_plus {a b c d : Int} {m : Sto} {q : D → Sto → Prop} (h : Fp 4400 a b ∧ Fp 4400 c d ∧ q (fr (lowT (a * d + c * b) (b * d)) (lowB (a * d + c * b) (b * d))) m) : g_plus [fr a b, fr c d] m q := by unfold g_plus; exact ⟨a, b, c, d, rfl, h⟩
def t_plus : DS :=
    (dSeq (dDrop (dCallB g_need_two (dCons (dVar 0) (dCons (dVar 1) dNil))))
    (dRet (dCallB g_lowest (dCons (dBin dAdd (dBin dMul (dBin dIx (dVar 0) (dC (.int 0))) (dBin dIx (dVar 1) (dC (.int 1)))) (dBin dMul (dBin dIx (dVar 1) (dC (.int 0))) (dBin dIx (dVar 0) (dC (.int 1))))) (dCons (dBin dMul (dBin dIx (dVar 0) (dC (.int 1))) (dBin dIx (dVar 1) (dC (.int 1)))) dNil)))))
theorem r_plus (dz : List D) (m : Sto) (q : D → Sto → Prop) (hl : dz.length = 2) (h : g_plus dz m q) : t_plus { nx := fun _ m' => q .non m', rt := q } (startD N_plus dz) m := by
  unfold g_plus at h
  obtain ⟨a, b, c, d, rfl, h⟩ := h
  unfold t_plus
  obtain ⟨f1, f2, h⟩ := h
  (try simp only [DL.dSeq, DL.dIf, DL.dTest, DL.dBin, DL.dUn, DL.dCallB, DL.dVar, DL.dC, DL.dCons, DL.dNil, DL.a1, DL.a2, DL.dTup, DL.dLst, DL.dLstP, DL.dAsg, DL.gN, DL.gsC, DL.gsN, DL.gT, DL.gIx, DL.dPar, DL.dAug, DL.dAugIx, DL.dSub, DL.dMul, DL.dMod, DL.dDiv, DL.dPow, DL.dLt, DL.dLe, DL.dGt, DL.dGe, DL.dI0, DL.dI2, DL.dB0, DL.dNeg, DL.dIsN, DL.dNotN, DL.isNon, DL.dBits, DL.dEq_int, DL.dEq_bl, DL.dEq_str, DL.dEq_fr, DL.dNe_int, DL.dNe_bl, DL.dNe_str, DL.dNe_fr, DL.dIx, DL.dAdd, DL.dAnd, DL.dOr, DL.dNot, DL.dIfE, DL.dTNot, DL.dTAnd, DL.dTOr, DL.dRet, DL.dRetN, DL.dDrop, DL.dNext, DL.dNever, DL.dBreak, DL.dCont, DL.slot, DL.put, DL.onS_mk, DL.dIsi, DL.kd_non, DL.kd_bl, DL.kd_int, DL.kd_str, DL.kd_tup, DL.kd_lst, DL.kd_fz, DL.isT_int_non, DL.isT_int_bl, DL.isT_int_int, DL.isT_int_str, DL.isT_int_tup, DL.isT_int_lst, DL.isT_bool_non, DL.isT_bool_bl, DL.isT_bool_int, DL.isT_bool_str, DL.isT_bool_tup, DL.isT_bool_lst, DL.isT_str_non, DL.isT_str_bl, DL.isT_str_int, DL.isT_str_str, DL.isT_str_tup, DL.isT_str_lst, DL.isT_list_non, DL.isT_list_bl, DL.isT_list_int, DL.isT_list_str, DL.isT_list_tup, DL.isT_list_lst, DL.isT_tuple_non, DL.isT_tuple_bl, DL.isT_tuple_int, DL.isT_tuple_str, DL.isT_tuple_tup, DL.isT_tuple_lst, DL.isT_dict_non, DL.isT_dict_bl, DL.isT_dict_int, DL.isT_dict_str, DL.isT_dict_tup, DL.isT_dict_lst, DL.dAbs, DL.dLen, DL.dInt, DL.dMin, DL.dMax, DL.dApp, DL.dChain, DL.seqL_lst, DL.seqL_fz, DL.seqL_ptr, DL.lstOf_lst, DL.dFor, DL.dIter, DL.dYes, DL.startD, List.map_cons, List.map_nil, List.length_cons, List.length_nil, List.replicate, List.cons_append, List.nil_append, Nat.reduceAdd, Nat.reduceSub, Nat.reduceLeDiff, true_and, and_true, DL.cond_dec, DL.cond_ndec, Bool.not_true, Bool.not_false, true_imp_iff, false_imp_iff, Bool.false_eq_true, Bool.true_eq_false, not_true_eq_false, not_false_eq_true, Int.cast_ofNat_Int, DL.atI_0, DL.atI_1, DL.atI_2, DL.atI_3, DL.atI_4, List.set_cons_zero, List.set_cons_succ, N_plus])
  refine need_two_fr f1 f2 (by decide) ?_
  (try simp only [DL.dSeq, DL.dIf, DL.dTest, DL.dBin, DL.dUn, DL.dCallB, DL.dVar, DL.dC, DL.dCons, DL.dNil, DL.a1, DL.a2, DL.dTup, DL.dLst, DL.dLstP, DL.dAsg, DL.gN, DL.gsC, DL.gsN, DL.gT, DL.gIx, DL.dPar, DL.dAug, DL.dAugIx, DL.dSub, DL.dMul, DL.dMod, DL.dDiv, DL.dPow, DL.dLt, DL.dLe, DL.dGt, DL.dGe, DL.dI0, DL.dI2, DL.dB0, DL.dNeg, DL.dIsN, DL.dNotN, DL.isNon, DL.dBits, DL.dEq_int, DL.dEq_bl, DL.dEq_str, DL.dEq_fr, DL.dNe_int, DL.dNe_bl, DL.dNe_str, DL.dNe_fr, DL.dIx, DL.dAdd, DL.dAnd, DL.dOr, DL.dNot, DL.dIfE, DL.dTNot, DL.dTAnd, DL.dTOr, DL.dRet, DL.dRetN, DL.dDrop, DL.dNext, DL.dNever, DL.dBreak, DL.dCont, DL.slot, DL.put, DL.onS_mk, DL.dIsi, DL.kd_non, DL.kd_bl, DL.kd_int, DL.kd_str, DL.kd_tup, DL.kd_lst, DL.kd_fz, DL.isT_int_non, DL.isT_int_bl, DL.isT_int_int, DL.isT_int_str, DL.isT_int_tup, DL.isT_int_lst, DL.isT_bool_non, DL.isT_bool_bl, DL.isT_bool_int, DL.isT_bool_str, DL.isT_bool_tup, DL.isT_bool_lst, DL.isT_str_non, DL.isT_str_bl, DL.isT_str_int, DL.isT_str_str, DL.isT_str_tup, DL.isT_str_lst, DL.isT_list_non, DL.isT_list_bl, DL.isT_list_int, DL.isT_list_str, DL.isT_list_tup, DL.isT_list_lst, DL.isT_tuple_non, DL.isT_tuple_bl, DL.isT_tuple_int, DL.isT_tuple_str, DL.isT_tuple_tup, DL.isT_tuple_lst, DL.isT_dict_non, DL.isT_dict_bl, DL.isT_dict_int, DL.isT_dict_str, DL.isT_dict_tup, DL.isT_dict_lst, DL.dAbs, DL.dLen, DL.dInt, DL.dMin, DL.dMax, DL.dApp, DL.dChain, DL.seqL_lst, DL.seqL_fz, DL.seqL_ptr, DL.lstOf_lst, DL.dFor, DL.dIter, DL.dYes, DL.startD, List.map_cons, List.map_nil, List.length_cons, List.length_nil, List.replicate, List.cons_append, List.nil_append, Nat.reduceAdd, Nat.reduceSub, Nat.reduceLeDiff, true_and, and_true, DL.cond_dec, DL.cond_ndec, Bool.not_true, Bool.not_false, true_imp_iff, false_imp_iff, Bool.false_eq_true, Bool.true_eq_false, not_true_eq_false, not_false_eq_true, Int.cast_ofNat_Int, DL.atI_0, DL.atI_1, DL.atI_2, DL.atI_3, DL.atI_4, List.set_cons_zero, List.set_cons_succ])
  refine ⟨mulS f1.st f2.sb (by decide) (by decide) (by decide), mulS f2.st f1.sb (by decide) (by decide) (by decide), mulS f1.sb f2.sb (by decide) (by decide) (by decide), ?_⟩
  exact i_lowest (Int.mul_ne_zero (Int.ne_of_gt f1.pos) (Int.ne_of_gt f2.pos)) ((f1.sb.mul f2.sb).mono (by decide)) h
/-- a pair with its second above none -/
structure Fz (n : Nat) (t b : Int) : Prop where
  pos : 0 < b
  st : Sm n t
  sb : Sm n b
theorem Fz.mono {k n : Nat} {t b : Int} (h : Fz k t b) (hk : k ≤ n) : Fz n t b := ⟨h.pos, h.st.mono hk, h.sb.mono hk⟩
theorem Fp.fz {n : Nat} {t b : Int} (h : Fp n t b) : Fz n t b := ⟨h.pos, h.st, h.sb⟩
theorem lowT_pos {t b : Int} (hb : 0 < b) : lowT t b = t / (Int.gcd t b : Int) := by unfold lowT; rw [if_neg (by omega)]
theorem lowB_pos {t b : Int} (hb : 0 < b) : lowB t b = b / (Int.gcd t b : Int) := by unfold lowB; rw [if_neg (by omega)]
@[irreducible] def g_law_low : FN := fun dz m q => ∃ (t b : Int), dz = [.int t, .int b] ∧ (0 < b ∧ Sm 8900 b ∧ q (fr (lowT t b) (lowB t b)) m)
theorem ar_law_low : ∀ ds m q, g_law_low ds m q → ds.length = 2 := by
  unfold g_law_low
  rintro _ m q ⟨_, _, rfl, _⟩; rfl
theorem i_law_low {t b : Int} {m : Sto} {q : D → Sto → Prop} (h : 0 < b ∧ Sm 8900 b ∧ q (fr (lowT t b) (lowB t b)) m) : g_law_low [.int t, .int b] m q := by unfold g_law_low; exact ⟨t, b, rfl, h⟩
def t_law_low : DS :=
    (dSeq (dPar 2 3 (dCons (dCallB dAbs (a1 (dVar 0))) (dCons (dVar 1) dNil)))
    (dSeq (dWhile (dTest (dBin dGt (dVar 3) (dC (.int 0)))) (dPar 2 3 (dCons (dVar 3) (dCons (dBin dMod (dVar 2) (dVar 3)) dNil))))
    (dRet (dTup (dCons (dBin dDiv (dVar 0) (dVar 2)) (dCons (dBin dDiv (dVar 1) (dVar 2)) dNil))))))
theorem r_law_low (dz : List D) (m : Sto) (q : D → Sto → Prop) (hl : dz.length = 2) (h : g_law_low dz m q) : t_law_low { nx := fun _ m' => q .non m', rt := q } (startD N_law_low dz) m := by
  unfold g_law_low at h
  obtain ⟨t, b, rfl, h⟩ := h
  unfold t_law_low
  obtain ⟨hb, sb, h⟩ := h
  rw [lowT_pos hb, lowB_pos hb] at h
  have hd : ∀ x, CDivW x (Int.gcd t b : Int) := fun x => gcd_div_ok t b (by omega) sb
  ((conv => whnf); (try (set_option simprocs false in dsimp only [])))
  refine gcd_loop _ _ _ _ _ _ (by rw [abs_if]; omega) (by omega) ?_
  rw [abs_if, abs_gcd]
  ((conv => whnf); (try (set_option simprocs false in dsimp only [])))
  refine ⟨hd _, ?_⟩
  ((conv => whnf); (try (set_option simprocs false in dsimp only [])))
  refine ⟨hd _, ?_⟩
  ((conv => whnf); (repeat ((first | refine ⟨Nat.le_of_ble_eq_true rfl, ?_⟩ | refine bt ?_ | refine bf ?_); (conv => whnf))); (try (set_option simprocs false in dsimp only [])))
  exact h
@[irreducible] def g_law_plus : FN := fun dz m q => ∃ (a b c d : Int), dz = [fr a b, fr c d] ∧ (Fz 4400 a b ∧ Fz 4400 c d ∧ q (fr (lowT (a * d + c * b) (b * d)) (lowB (a * d + c * b) (b * d))) m)
theorem ar_law_plus : ∀ ds m q, g_law_plus ds m q → ds.length = 2 := by
  unfold g_law_plus
  rintro _ m q ⟨_, _, _, _, rfl, _⟩; rfl
theorem i_law_plus {a b c d : Int} {m : Sto} {q : D → Sto → Prop} (h : Fz 4400 a b ∧ Fz 4400 c d ∧ q (fr (lowT (a * d + c * b) (b * d)) (lowB (a * d + c * b) (b * d))) m) : g_law_plus [fr a b, fr c d] m q := by unfold g_law_plus; exact ⟨a, b, c, d, rfl, h⟩
def t_law_plus : DS :=
    (dRet (dCallB g_law_low (dCons (dBin dAdd (dBin dMul (dBin dIx (dVar 0) (dC (.int 0))) (dBin dIx (dVar 1) (dC (.int 1)))) (dBin dMul (dBin dIx (dVar 1) (dC (.int 0))) (dBin dIx (dVar 0) (dC (.int 1))))) (dCons (dBin dMul (dBin dIx (dVar 0) (dC (.int 1))) (dBin dIx (dVar 1) (dC (.int 1)))) dNil))))
theorem r_law_plus (dz : List D) (m : Sto) (q : D → Sto → Prop) (hl : dz.length = 2) (h : g_law_plus dz m q) : t_law_plus { nx := fun _ m' => q .non m', rt := q } (startD N_law_plus dz) m := by
  unfold g_law_plus at h
  obtain ⟨a, b, c, d, rfl, h⟩ := h
  unfold t_law_plus
  obtain ⟨f1, f2, h⟩ := h
  ((conv => whnf); (try (set_option simprocs false in dsimp only [])))
  refine ⟨mulS f1.st f2.sb (by decide) (by decide) (by decide), ?_⟩
  ((conv => whnf); (try (set_option simprocs false in dsimp only [])))
  refine ⟨mulS f2.st f1.sb (by decide) (by decide) (by decide), ?_⟩
  ((conv => whnf); (try (set_option simprocs false in dsimp only [])))
  refine ⟨mulS f1.sb f2.sb (by decide) (by decide) (by decide), ?_⟩
  ((conv => whnf); (try (set_option simprocs false in dsimp only [])))
  exact i_law_low ⟨Int.mul_pos f1.pos f2.pos, (f1.sb.mul f2.sb).mono (by decide), h⟩
theorem qs_fp {n k : Nat} {x : Rat} (h : QS k x) (hk : k ≤ n) : Fp n x.num (x.den : Int) := ⟨den_pos x, rat_cop x, h.st.mono hk, h.sb.mono hk⟩
theorem qs_fz {n k : Nat} {x : Rat} (h : QS k x) (hk : k ≤ n) : Fz n x.num (x.den : Int) := ⟨den_pos x, h.st.mono hk, h.sb.mono hk⟩
section
variable {x y : Rat} {m : Sto} {q : D → Sto → Prop}
theorem low_add : fr (lowT (x.num * y.den + y.num * x.den) ((x.den : Int) * y.den)) (lowB (x.num * y.den + y.num * x.den) ((x.den : Int) * y.den)) = frQ (x + y) :=
  fr_low (Int.mul_ne_zero (dn x) (dn y)) (by rw [dv_add (dn x) (dn y), ← rat_eq, ← rat_eq])
theorem plusQ (hx : QS 4000 x) (hy : QS 4000 y) (h : q (frQ (x + y)) m) : g_plus [frQ x, frQ y] m q := i_plus ⟨qs_fp hx (by decide), qs_fp hy (by decide), by rw [low_add]; exact h⟩
theorem lplusQ (hx : QS 4000 x) (hy : QS 4000 y) (h : q (frQ (x + y)) m) : g_law_plus [frQ x, frQ y] m q := i_law_plus ⟨qs_fz hx (by decide), qs_fz hy (by decide), by rw [low_add]; exact h⟩
end
end K29
namespace K29
open PySem PySem.Spec PyProof.Rows L2 DL
@[irreducible] def g_is_between : FN := fun dz m q => ∃ (x : D) (lo hi : Int), dz = [x, .int lo, .int hi] ∧ (Kd0 x m ∧ q (.bl (btw x lo hi)) m)
theorem ar_is_between : ∀ ds m q, g_is_between ds m q → ds.length = 3 := by
  unfold g_is_between
  rintro _ m q ⟨_, _, _, rfl, _⟩; rfl
theorem i_is_between {x : D} {lo hi : Int} {m : Sto} {q : D → Sto → Prop} (h : Kd0 x m ∧ q (.bl (btw x lo hi)) m) : g_is_between [x, .int lo, .int hi] m q := by unfold g_is_between; exact ⟨x, lo, hi, rfl, h⟩
def t_is_between : DS :=
    (dRet (dAnd (dCallB g_is_whole (dCons (dVar 0) dNil)) (dChain dLe dLe (dVar 1) (dVar 0) (dVar 2))))
theorem r_is_between (dz : List D) (m : Sto) (q : D → Sto → Prop) (hl : dz.length = 3) (h : g_is_between dz m q) : t_is_between { nx := fun _ m' => q .non m', rt := q } (startD N_is_between dz) m := by
  unfold g_is_between at h
  obtain ⟨x, lo, hi, rfl, h⟩ := h
  unfold t_is_between
  obtain ⟨⟨k, hk⟩, h⟩ := h
  ((conv => whnf); (try (set_option simprocs false in dsimp only [])))
  refine i_is_whole hk ?_
  cases x with
  | int i =>
    ((conv => whnf); (try (set_option simprocs false in dsimp only [])))
    refine bt ?_
    ((conv => whnf); (try (set_option simprocs false in dsimp only [])))
    refine br (fun e => ?_) (fun e => ?_)
    · ((conv => whnf); (try (set_option simprocs false in dsimp only [])))
      have e' : btw (.int i) lo hi = decide (i ≤ hi) := by show (decide (lo ≤ i) && decide (i ≤ hi)) = _; rw [decide_eq_true e]; rfl
      rw [e'] at h; exact h
    · ((conv => whnf); (try (set_option simprocs false in dsimp only [])))
      have e' : btw (.int i) lo hi = false := by show (decide (lo ≤ i) && decide (i ≤ hi)) = _; rw [decide_eq_false e]; rfl
      rw [e'] at h; exact h
  | _ => ((conv => whnf); (try (set_option simprocs false in dsimp only []))); refine bf ?_; exact h
@[irreducible] def g_is_point : FN := fun dz m q => ∃ (x : D), dz = [x] ∧ (Kd0 x m ∧ q (.bl (btw x 0 1000)) m)
theorem ar_is_point : ∀ ds m q, g_is_point ds m q → ds.length = 1 := by
  unfold g_is_point
  rintro _ m q ⟨_, rfl, _⟩; rfl
theorem i_is_point {x : D} {m : Sto} {q : D → Sto → Prop} (h : Kd0 x m ∧ q (.bl (btw x 0 1000)) m) : g_is_point [x] m q := by unfold g_is_point; exact ⟨x, rfl, h⟩
def t_is_point : DS :=
    (dRet (dCallB g_is_between (dCons (dVar 0) (dCons (dC (.int 0)) (dCons (dC (.int 1000)) dNil)))))
theorem r_is_point (dz : List D) (m : Sto) (q : D → Sto → Prop) (hl : dz.length = 1) (h : g_is_point dz m q) : t_is_point { nx := fun _ m' => q .non m', rt := q } (startD N_is_point dz) m := by
  unfold g_is_point at h
  obtain ⟨x, rfl, h⟩ := h
  unfold t_is_point
  obtain ⟨hk, h⟩ := h
  ((conv => whnf); (try (set_option simprocs false in dsimp only [])))
  refine i_is_between ⟨hk, ?_⟩
  exact h
@[irreducible] def g_is_spot : FN := fun dz m q => ∃ (x : D), dz = [x] ∧ (Kds x m ∧ q (.bl (spotD x m)) m)
theorem ar_is_spot : ∀ ds m q, g_is_spot ds m q → ds.length = 1 := by
  unfold g_is_spot
  rintro _ m q ⟨_, rfl, _⟩; rfl
theorem i_is_spot {x : D} {m : Sto} {q : D → Sto → Prop} (h : Kds x m ∧ q (.bl (spotD x m)) m) : g_is_spot [x] m q := by unfold g_is_spot; exact ⟨x, rfl, h⟩
def b_is_spot_1 : DS :=
    (dSeq (dIf (dTOr (dTNot (dTest (dCallB g_is_point (dCons (dVar 2) dNil)))) (dTest (dBin dLt (dVar 2) (dVar 1)))) (dRet (dC (.bl false))) dNext)
    (dAsg (dVar 2) (gN 1)))
def t_is_spot : DS :=
    (dSeq (dIf (dTOr (dTNot (dTest (dIsi .list (dVar 0)))) (dTNot (dTest (dChain dLe dLe (dC (.int 1)) (dCallB dLen (a1 (dVar 0))) (dC (.int 6)))))) (dRet (dC (.bl false))) dNext)
    (dSeq (dAsg (dC (.int 0)) (gN 1))
    (dSeq (dFor (dIter (dVar 0)) (gN 2) b_is_spot_1)
    (dRet (dC (.bl true))))))
theorem r_is_spot (dz : List D) (m : Sto) (q : D → Sto → Prop) (hl : dz.length = 1) (h : g_is_spot dz m q) : t_is_spot { nx := fun _ m' => q .non m', rt := q } (startD N_is_spot dz) m := by
  unfold g_is_spot at h
  obtain ⟨x, rfl, h⟩ := h
  unfold t_is_spot
  obtain ⟨⟨k, hk, hs⟩, h⟩ := h
  ((conv => whnf); (try (set_option simprocs false in dsimp only [])))
  rw [hk]
  ((conv => whnf); (try (set_option simprocs false in dsimp only [])))
  rcases hs with ⟨rfl, ds, hs, hd⟩ | ⟨hn, hs⟩
  · refine bf ?_
    ((conv => whnf); (try (set_option simprocs false in dsimp only [])))
    refine dLen_seq hs ?_
    have e1 : spotD x m = (decide (1 ≤ ds.length ∧ ds.length ≤ 6) && upD 0 ds) := by unfold spotD; rw [hs]
    rw [e1] at h
    have stop : ¬ (1 ≤ ds.length ∧ ds.length ≤ 6) → q (.bl false) m := fun z => by rw [decide_eq_false z] at h; exact h
    ((conv => whnf); (try (set_option simprocs false in dsimp only [])))
    refine br (fun a => ?_) (fun a => ?_)
    · ((conv => whnf); (try (set_option simprocs false in dsimp only [])))
      refine nbr (fun b => ?_) (fun b => ?_)
      · ((conv => whnf); (try (set_option simprocs false in dsimp only [])))
        exact stop fun z => by omega
      · ((conv => whnf); (try (set_option simprocs false in dsimp only [])))
        obtain ⟨o, hi, ho⟩ := items_of_seq hs
        rw [hi]
        ((conv => whnf); (try (set_option simprocs false in dsimp only [])))
        rw [decide_eq_true (show 1 ≤ ds.length ∧ ds.length ≤ 6 by omega), Bool.true_and] at h
        refine forD_ind (fun xs r m' => ∃ l x2, r = [some x, some (.int l), x2] ∧ m' = m ∧ (∀ d ∈ xs, Kd0 d m) ∧ q (.bl (upD l xs)) m) ?_ (fun _ _ m' ⟨_, _, _, e, _⟩ => e ▸ ho) ?_ _ _ _ ⟨_, _, rfl, rfl, hd, h⟩
        · rintro y ys r m' N ⟨l, x2, rfl, rfl, hd, h⟩ kk
          unfold b_is_spot_1
          ((conv => whnf); (try (set_option simprocs false in dsimp only [])))
          refine i_is_point ⟨hd y List.mem_cons_self, ?_⟩
          ((conv => whnf); (try (set_option simprocs false in dsimp only [])))
          cases e : btw y 0 1000 with
          | false =>
            refine bt ?_
            ((conv => whnf); (try (set_option simprocs false in dsimp only [])))
            refine bt ?_
            ((conv => whnf); (try (set_option simprocs false in dsimp only [])))
            have : upD l (y :: ys) = false := by
              cases y <;> first | rfl | (show (btw _ 0 1000 && _) = false; rw [e]; rfl)
            rw [this] at h; exact h
          | true =>
            obtain ⟨i, rfl, _, _⟩ := btw_int e
            refine bf ?_
            ((conv => whnf); (try (set_option simprocs false in dsimp only [])))
            have : upD l (.int i :: ys) = (decide (l ≤ i) && upD i ys) := by show (btw (.int i) 0 1000 && _) = _; rw [e]; rfl
            rw [this] at h
            refine br (fun z => ?_) (fun z => ?_)
            · ((conv => whnf); (try (set_option simprocs false in dsimp only [])))
              rw [decide_eq_false (by omega)] at h; exact h
            · ((conv => whnf); (try (set_option simprocs false in dsimp only [])))
              rw [decide_eq_true (by omega), Bool.true_and] at h
              exact kk _ _ ⟨_, _, rfl, rfl, fun d hd' => hd d (List.mem_cons_of_mem _ hd'), h⟩
        · rintro r m' ⟨l, x2, rfl, rfl, hd, h⟩
          ((conv => whnf); (try (set_option simprocs false in dsimp only [])))
          exact h
    · ((conv => whnf); (try (set_option simprocs false in dsimp only [])))
      refine bt ?_
      ((conv => whnf); (try (set_option simprocs false in dsimp only [])))
      exact stop fun z => by omega
  · have : isT .list k = false := by cases k <;> first | rfl | exact absurd rfl hn
    rw [this]
    refine bt ?_
    ((conv => whnf); (try (set_option simprocs false in dsimp only [])))
    refine bt ?_
    ((conv => whnf); (try (set_option simprocs false in dsimp only [])))
    have e1 : spotD x m = false := by unfold spotD; rw [hs]
    rw [e1] at h
    exact h
@[irreducible] def g_are_marks : FN := fun dz m q => ∃ (x : D) (few : Int), dz = [x, .int few] ∧ (Kds x m ∧ q (.bl (marksD x few m)) m)
theorem ar_are_marks : ∀ ds m q, g_are_marks ds m q → ds.length = 2 := by
  unfold g_are_marks
  rintro _ m q ⟨_, _, rfl, _⟩; rfl
theorem i_are_marks {x : D} {few : Int} {m : Sto} {q : D → Sto → Prop} (h : Kds x m ∧ q (.bl (marksD x few m)) m) : g_are_marks [x, .int few] m q := by unfold g_are_marks; exact ⟨x, few, rfl, h⟩
def b_are_marks_1 : DS :=
    (dIf (dTNot (dTest (dCallB g_is_point (dCons (dVar 2) dNil)))) (dRet (dC (.bl false))) dNext)
def b_are_marks_2 : DS :=
    (dIf (dTest (dBin dGe (dBin dIx (dVar 0) (dVar 3)) (dBin dIx (dVar 0) (dBin dAdd (dVar 3) (dC (.int 1)))))) (dRet (dC (.bl false))) dNext)
def t_are_marks : DS :=
    (dSeq (dIf (dTOr (dTNot (dTest (dIsi .list (dVar 0)))) (dTNot (dTest (dChain dLe dLe (dVar 1) (dCallB dLen (a1 (dVar 0))) (dC (.int 8)))))) (dRet (dC (.bl false))) dNext)
    (dSeq (dFor (dIter (dVar 0)) (gN 2) b_are_marks_1)
    (dSeq (dFor (dRange1 (dBin dSub (dCallB dLen (a1 (dVar 0))) (dC (.int 1)))) (gN 3) b_are_marks_2)
    (dRet (dC (.bl true))))))
theorem r_are_marks (dz : List D) (m : Sto) (q : D → Sto → Prop) (hl : dz.length = 2) (h : g_are_marks dz m q) : t_are_marks { nx := fun _ m' => q .non m', rt := q } (startD N_are_marks dz) m := by
  unfold g_are_marks at h
  obtain ⟨x, few, rfl, h⟩ := h
  unfold t_are_marks
  obtain ⟨⟨k, hk, hs⟩, h⟩ := h
  ((conv => whnf); (try (set_option simprocs false in dsimp only [])))
  rw [hk]
  ((conv => whnf); (try (set_option simprocs false in dsimp only [])))
  rcases hs with ⟨rfl, ds, hs, hd⟩ | ⟨hn, hs⟩
  · refine bf ?_
    ((conv => whnf); (try (set_option simprocs false in dsimp only [])))
    refine dLen_seq hs ?_
    have e1 : marksD x few m = (decide (few ≤ (ds.length : Int) ∧ ds.length ≤ 8) && match intsOf ds with | some ns => ns.all (fun i => decide (0 ≤ i) && decide (i ≤ 1000)) && rises ns | none => false) := by unfold marksD; rw [hs] <;> rfl
    rw [e1] at h
    have stop : ¬ (few ≤ (ds.length : Int) ∧ ds.length ≤ 8) → q (.bl false) m := fun z => by rw [decide_eq_false z] at h; exact h
    ((conv => whnf); (try (set_option simprocs false in dsimp only [])))
    refine br (fun a => ?_) (fun a => ?_)
    · ((conv => whnf); (try (set_option simprocs false in dsimp only [])))
      refine nbr (fun b => ?_) (fun b => ?_)
      · ((conv => whnf); (try (set_option simprocs false in dsimp only [])))
        exact stop fun z => by omega
      · ((conv => whnf); (try (set_option simprocs false in dsimp only [])))
        obtain ⟨o, hi, ho⟩ := items_of_seq hs
        rw [hi]
        ((conv => whnf); (try (set_option simprocs false in dsimp only [])))
        rw [decide_eq_true (show few ≤ (ds.length : Int) ∧ ds.length ≤ 8 by omega), Bool.true_and] at h
        refine forD_ind (fun xs r m' => ∃ x2 ns, r = [some x, some (.int few), x2, none] ∧ m' = m ∧ (∀ d ∈ xs, Kd0 d m) ∧ ds = ns.map D.int ++ xs ∧ (∀ i ∈ ns, 0 ≤ i ∧ i ≤ 1000)) ?_ (fun _ _ m' ⟨_, _, _, e, _⟩ => e ▸ ho) ?_ _ _ _ ⟨_, [], rfl, rfl, hd, rfl, fun _ z => nomatch z⟩
        · rintro y ys r m' N ⟨x2, ns, rfl, rfl, hd, hds, hr⟩ kk
          unfold b_are_marks_1
          ((conv => whnf); (try (set_option simprocs false in dsimp only [])))
          refine i_is_point ⟨hd y List.mem_cons_self, ?_⟩
          ((conv => whnf); (try (set_option simprocs false in dsimp only [])))
          cases e : btw y 0 1000 with
          | false =>
            refine bt ?_
            ((conv => whnf); (try (set_option simprocs false in dsimp only [])))
            have key : (match intsOf ds with | some ns => ns.all (fun i => decide (0 ≤ i) && decide (i ≤ 1000)) && rises ns | none => false) = false := by
              cases e2 : intsOf ds with
              | none => rfl
              | some us =>
                have e3 := intsOf_eq e2
                have : y ∈ us.map D.int := by rw [← e3, hds]; exact List.mem_append_right _ List.mem_cons_self
                obtain ⟨i, hi', rfl⟩ := List.mem_map.mp this
                have e4 : (us.all fun i => decide (0 ≤ i) && decide (i ≤ 1000)) = false := by
                  rw [List.all_eq_false]; exact ⟨i, hi', by rw [show (decide (0 ≤ i) && decide (i ≤ 1000)) = btw (.int i) 0 1000 from rfl, e]; simp⟩
                show (us.all _ && rises us) = false
                rw [e4]; rfl
            rw [key] at h; exact h
          | true =>
            obtain ⟨i, rfl, i1, i2⟩ := btw_int e
            refine bf ?_
            exact kk _ _ ⟨_, ns ++ [i], rfl, rfl, fun d hd' => hd d (List.mem_cons_of_mem _ hd'), by rw [hds, List.map_append]; simp, fun j hj => by
              rcases List.mem_append.mp hj with z | z
              · exact hr j z
              · rw [List.mem_singleton] at z; rw [z]; exact ⟨i1, i2⟩⟩
        · rintro r m' ⟨x2, ns, rfl, rfl, hd, hds, hr⟩
          rw [List.append_nil] at hds
          subst hds
          have all : (ns.all fun i => decide (0 ≤ i) && decide (i ≤ 1000)) = true := List.all_eq_true.mpr fun i hi => by rw [decide_eq_true (hr i hi).1, decide_eq_true (hr i hi).2]; rfl
          rw [intsOf_map] at h
          have h' : q (.bl (rises ns)) m' := by
            have e : (ns.all (fun i => decide (0 ≤ i) && decide (i ≤ 1000)) && rises ns) = rises ns := by rw [all]; rfl
            rw [← e]; exact h
          rw [List.length_map] at a b
          ((conv => whnf); (try (set_option simprocs false in dsimp only [])))
          refine dLen_seq hs ?_
          ((conv => whnf); (try (set_option simprocs false in dsimp only [])))
          rw [List.length_map]
          refine ⟨⟨by omega, by omega⟩, ?_⟩
          refine forD_ind (fun xs r m2 => ∃ x3, ∃ k : Nat, r = [some x, some (.int few), x2, x3] ∧ m2 = m' ∧ xs = ((List.range ((ns.length : Int) - 1 - 0).toNat).map fun (j : Nat) => D.int (0 + (j : Int))).drop k ∧ ∀ j, j < k → (hj : j + 1 < ns.length) → ns[j] < ns[j + 1]) ?_ (fun _ _ _ _ => trivial) ?_ _ _ _ ⟨_, 0, rfl, rfl, by simp, fun j hj => by omega⟩
          · rintro y ys r m2 N ⟨x3, kq, rfl, rfl, hxs, hlt⟩ kk
            have hkl : kq < ((List.range ((ns.length : Int) - 1 - 0).toNat).map fun (j : Nat) => D.int (0 + (j : Int))).length := by
              have := congrArg List.length hxs
              rw [List.length_drop, List.length_cons] at this
              omega
            rw [List.drop_eq_getElem_cons hkl] at hxs
            have ey : y = D.int (0 + (kq : Int)) := by rw [(List.cons.inj hxs).1]; simp
            have eys := (List.cons.inj hxs).2
            rw [List.length_map, List.length_range] at hkl
            subst ey
            have k1 : kq + 1 < ns.length := by omega
            unfold b_are_marks_2
            ((conv => whnf); (try (set_option simprocs false in dsimp only [])))
            have g1 : (ns.map D.int)[kq]? = some (.int ns[kq]) := by rw [List.getElem?_map, List.getElem?_eq_getElem (by omega)]; rfl
            have g2 : (ns.map D.int)[kq + 1]? = some (.int ns[kq + 1]) := by rw [List.getElem?_map, List.getElem?_eq_getElem k1]; rfl
            refine dIx_seq (d := .int ns[kq]) hs (by rw [show (0 + (kq : Int)) = ((kq : Nat) : Int) by omega]; exact atI_nat g1) ?_
            ((conv => whnf); (try (set_option simprocs false in dsimp only [])))
            refine dIx_seq (d := .int ns[kq + 1]) hs (by rw [show (0 + (kq : Int) + 1) = ((kq + 1 : Nat) : Int) by omega]; exact atI_nat g2) ?_
            ((conv => whnf); (try (set_option simprocs false in dsimp only [])))
            refine br (fun z => ?_) (fun z => ?_)
            · ((conv => whnf); (try (set_option simprocs false in dsimp only [])))
              have : rises ns = false := by
                cases e : rises ns with
                | false => rfl
                | true => exact absurd (rises_step.mp e kq k1) (by omega)
              rw [this] at h'; exact h'
            · ((conv => whnf); (try (set_option simprocs false in dsimp only [])))
              refine kk _ _ ⟨_, kq + 1, rfl, rfl, eys, fun j hj hl => ?_⟩
              by_cases ej : j = kq
              · subst ej; omega
              · exact hlt j (by omega) hl
          · rintro r m2 ⟨x3, kq, rfl, rfl, hxs, hlt⟩
            ((conv => whnf); (try (set_option simprocs false in dsimp only [])))
            have hk : ns.length - 1 ≤ kq := by
              have := congrArg List.length hxs
              rw [List.length_drop, List.length_map, List.length_range, List.length_nil] at this
              omega
            have : rises ns = true := rises_step.mpr fun j hj => hlt j (by omega) hj
            rw [this] at h'; exact h'
    · ((conv => whnf); (try (set_option simprocs false in dsimp only [])))
      refine bt ?_
      ((conv => whnf); (try (set_option simprocs false in dsimp only [])))
      exact stop fun z => by omega
  · have : isT .list k = false := by cases k <;> first | rfl | exact absurd rfl hn
    rw [this]
    refine bt ?_
    ((conv => whnf); (try (set_option simprocs false in dsimp only [])))
    refine bt ?_
    ((conv => whnf); (try (set_option simprocs false in dsimp only [])))
    have e1 : marksD x few m = false := by unfold marksD; rw [hs]
    rw [e1] at h
    exact h
end K29
namespace K29
open PySem PySem.Spec PyProof.Rows L2 DL
abbrev CS : List Str := ["Scale", "Box"]
theorem al0 {α : Type} {P : α → Prop} : ∀ d ∈ ([] : List α), P d := fun _ z => nomatch z
theorem al1 {α : Type} {P : α → Prop} {x : α} {L : List α} (h : P x) (t : ∀ d ∈ L, P d) : ∀ d ∈ x :: L, P d := fun d hd => by
  rcases List.mem_cons.mp hd with e | e
  · rw [e]; exact h
  · exact t d e
theorem onS_at {α : Type} {P K : α → Prop} {L : List α} {v : Int} (h : ∀ d ∈ L, P d) (h0 : 0 ≤ v) (h1 : v < L.length) (k : ∀ d, P d → K d) : onS (atI L v) K := by
  obtain ⟨j, rfl⟩ : ∃ j : Nat, v = j := ⟨v.toNat, by omega⟩
  have hj : j < L.length := by omega
  rw [atI_nat (List.getElem?_eq_getElem hj)]
  exact k _ (h _ (List.getElem_mem hj))
theorem ix_last {α : Type} {L : List α} {x : α} : ixN (L ++ [x]).length (-1) = some L.length := by
  unfold ixN
  rw [if_neg (by omega), List.length_append, List.length_singleton, if_pos (by omega)]
  congr 1
  omega
theorem at_last {α : Type} {L : List α} {x : α} : atI (L ++ [x]) (-1) = some x := by
  unfold atI
  rw [ix_last]
  simp
theorem set_last {α : Type} {L : List α} {x y : α} : (L ++ [x]).set L.length y = L ++ [y] := by simp
abbrev Obj (i : Nat) (c : Str) (ms : List Int) (m : Sto) : Prop := m[i]? = some (.ins c [("told_marks", .lst (ms.map D.int))])
@[irreducible] def g_Marking___init : FN := fun dz m q => ∃ (i : Nat) (c : Str) (x : D) (few : Int) (ms : List Int), dz = [.ptr i, x, .int few] ∧ (m[i]? = some (.ins c []) ∧ c ∈ CS ∧ seqL x m = some (ms.map D.int) ∧ Marks few ms ∧ q .non (m.set i (.ins c [("told_marks", .lst (ms.map D.int))])))
theorem ar_Marking___init : ∀ ds m q, g_Marking___init ds m q → ds.length = 3 := by
  unfold g_Marking___init
  rintro _ m q ⟨_, _, _, _, _, rfl, _⟩; rfl
theorem i_Marking___init {i : Nat} {c : Str} {x : D} {few : Int} {ms : List Int} {m : Sto} {q : D → Sto → Prop} (h : m[i]? = some (.ins c []) ∧ c ∈ CS ∧ seqL x m = some (ms.map D.int) ∧ Marks few ms ∧ q .non (m.set i (.ins c [("told_marks", .lst (ms.map D.int))]))) : g_Marking___init [.ptr i, x, .int few] m q := by unfold g_Marking___init; exact ⟨i, c, x, few, ms, rfl, h⟩
def t_Marking___init : DS :=
    (dSeq (dIf (dTNot (dTest (dCallB g_are_marks (dCons (dVar 1) (dCons (dVar 2) dNil))))) dNever dNext)
    (dSetF ["Scale", "Box"] "told_marks" (dVar 0) (dCallB dList (a1 (dVar 1)))))
theorem r_Marking___init (dz : List D) (m : Sto) (q : D → Sto → Prop) (hl : dz.length = 3) (h : g_Marking___init dz m q) : t_Marking___init { nx := fun _ m' => q .non m', rt := q } (startD N_Marking___init dz) m := by
  unfold g_Marking___init at h
  obtain ⟨i, c, x, few, ms, rfl, h⟩ := h
  unfold t_Marking___init
  obtain ⟨hi, hc, e, mk, h⟩ := h
  ((conv => whnf); (try (set_option simprocs false in dsimp only [])))
  refine i_are_marks ⟨kds_ints e, ?_⟩
  rw [mk.is e]
  ((conv => whnf); (repeat ((first | refine ⟨Nat.le_of_ble_eq_true rfl, ?_⟩ | refine bt ?_ | refine bf ?_); (conv => whnf))); (try (set_option simprocs false in dsimp only [])))
  refine dList_seq e ?_
  ((conv => whnf); (try (set_option simprocs false in dsimp only [])))
  rw [hi]
  ((conv => whnf); (try (set_option simprocs false in dsimp only [])))
  refine ⟨⟨hc, by decide⟩, ?_⟩
  exact h
@[irreducible] def g_Marking_marks : FN := fun dz m q => ∃ (i : Nat) (c : Str) (ms : List Int), dz = [.ptr i] ∧ (Obj i c ms m ∧ c ∈ CS ∧ q (.ptr m.length) (m ++ [.lst (ms.map D.int)]))
theorem ar_Marking_marks : ∀ ds m q, g_Marking_marks ds m q → ds.length = 1 := by
  unfold g_Marking_marks
  rintro _ m q ⟨_, _, _, rfl, _⟩; rfl
theorem i_Marking_marks {i : Nat} {c : Str} {ms : List Int} {m : Sto} {q : D → Sto → Prop} (h : Obj i c ms m ∧ c ∈ CS ∧ q (.ptr m.length) (m ++ [.lst (ms.map D.int)])) : g_Marking_marks [.ptr i] m q := by unfold g_Marking_marks; exact ⟨i, c, ms, rfl, h⟩
def t_Marking_marks : DS :=
    (dRet (dCallB dListP (a1 (dFld ["Scale", "Box"] "told_marks" (dVar 0)))))
theorem r_Marking_marks (dz : List D) (m : Sto) (q : D → Sto → Prop) (hl : dz.length = 1) (h : g_Marking_marks dz m q) : t_Marking_marks { nx := fun _ m' => q .non m', rt := q } (startD N_Marking_marks dz) m := by
  unfold g_Marking_marks at h
  obtain ⟨i, c, ms, rfl, h⟩ := h
  unfold t_Marking_marks
  obtain ⟨hi, hc, h⟩ := h
  ((conv => whnf); (try (set_option simprocs false in dsimp only [])))
  rw [hi]
  ((conv => whnf); (try (set_option simprocs false in dsimp only [])))
  refine ⟨hc, ?_⟩
  ((conv => whnf); (repeat ((first | refine ⟨Nat.le_of_ble_eq_true rfl, ?_⟩ | refine bt ?_ | refine bf ?_); (conv => whnf))); (try (set_option simprocs false in dsimp only [])))
  exact h
@[irreducible] def g_Marking_counts : FN := fun dz m q => ∃ (x : D) (p : Int), dz = [x, .int p] ∧ (q (.lst [boxPt p]) m)
theorem ar_Marking_counts : ∀ ds m q, g_Marking_counts ds m q → ds.length = 2 := by
  unfold g_Marking_counts
  rintro _ m q ⟨_, _, rfl, _⟩; rfl
theorem i_Marking_counts {x : D} {p : Int} {m : Sto} {q : D → Sto → Prop} (h : q (.lst [boxPt p]) m) : g_Marking_counts [x, .int p] m q := by unfold g_Marking_counts; exact ⟨x, p, rfl, h⟩
def t_Marking_counts : DS :=
    (dRet (dLst (dCons (dTup (dCons (dVar 1) (dCons (dTup (dCons (dC (.int 1)) (dCons (dC (.int 1)) dNil))) dNil))) dNil)))
theorem r_Marking_counts (dz : List D) (m : Sto) (q : D → Sto → Prop) (hl : dz.length = 2) (h : g_Marking_counts dz m q) : t_Marking_counts { nx := fun _ m' => q .non m', rt := q } (startD N_Marking_counts dz) m := by
  unfold g_Marking_counts at h
  obtain ⟨x, p, rfl, h⟩ := h
  unfold t_Marking_counts
  ((conv => whnf); (repeat ((first | refine ⟨Nat.le_of_ble_eq_true rfl, ?_⟩ | refine bt ?_ | refine bf ?_); (conv => whnf))); (try (set_option simprocs false in dsimp only [])))
  exact h
@[irreducible] def g_Box_takes : FN := fun dz m q => ∃ (i : Nat) (ms sp : List Int) (x : D), dz = [.ptr i, x] ∧ (Obj i "Box" ms m ∧ seqL x m = some (sp.map D.int) ∧ q (.bl (boxFits ms sp)) m)
theorem ar_Box_takes : ∀ ds m q, g_Box_takes ds m q → ds.length = 2 := by
  unfold g_Box_takes
  rintro _ m q ⟨_, _, _, _, rfl, _⟩; rfl
theorem i_Box_takes {i : Nat} {ms sp : List Int} {x : D} {m : Sto} {q : D → Sto → Prop} (h : Obj i "Box" ms m ∧ seqL x m = some (sp.map D.int) ∧ q (.bl (boxFits ms sp)) m) : g_Box_takes [.ptr i, x] m q := by unfold g_Box_takes; exact ⟨i, ms, sp, x, rfl, h⟩
def b_Box_takes_1 : DS :=
    (dIf (dTOr (dTest (dBin (dInG true) (dVar 2) (dFld ["Scale", "Box"] "told_marks" (dVar 0)))) (dTest (dBin dGt (dCount (dVar 1) (dVar 2)) (dC (.int 1))))) (dRet (dC (.bl false))) dNext)
def t_Box_takes : DS :=
    (dSeq (dFor (dIter (dVar 1)) (gN 2) b_Box_takes_1)
    (dRet (dC (.bl true))))
theorem r_Box_takes (dz : List D) (m : Sto) (q : D → Sto → Prop) (hl : dz.length = 2) (h : g_Box_takes dz m q) : t_Box_takes { nx := fun _ m' => q .non m', rt := q } (startD N_Box_takes dz) m := by
  unfold g_Box_takes at h
  obtain ⟨i, ms, sp, x, rfl, h⟩ := h
  unfold t_Box_takes
  obtain ⟨hi, e, h⟩ := h
  obtain ⟨o, hit⟩ := items_app e
  have h0 := hit []
  rw [List.append_nil] at h0
  ((conv => whnf); (try (set_option simprocs false in dsimp only [])))
  rw [h0.1]
  ((conv => whnf); (try (set_option simprocs false in dsimp only [])))
  refine forD_ind (fun xs r m' => ∃ x2 done rest, r = [some (.ptr i), some x, x2] ∧ m' = m ∧ xs = rest.map D.int ∧ sp = done ++ rest ∧ ∀ p ∈ done, (ms.contains p && decide (sp.count p ≤ 1)) = true) ?_ (fun _ _ m' ⟨_, _, _, _, e, _⟩ => e ▸ h0.2) ?_ _ _ _ ⟨_, [], sp, rfl, rfl, rfl, rfl, fun _ z => nomatch z⟩
  · rintro y ys r m' N ⟨x2, done, rest, rfl, rfl, hxs, hsp, hd⟩ kk
    cases rest with
    | nil => cases hxs
    | cons p rest =>
      cases hxs
      have stop : (ms.contains p && decide (sp.count p ≤ 1)) = false → q (.bl false) m' := fun z => by
        have : boxFits ms sp = false := by
          unfold boxFits
          rw [List.all_eq_false]
          exact ⟨p, by rw [hsp]; exact List.mem_append_right _ List.mem_cons_self, by rw [z]; simp⟩
        rw [this] at h; exact h
      unfold b_Box_takes_1
      ((conv => whnf); (try (set_option simprocs false in dsimp only [])))
      rw [hi]
      ((conv => whnf); (try (set_option simprocs false in dsimp only [])))
      refine ⟨by decide, ?_⟩
      ((conv => whnf); (try (set_option simprocs false in dsimp only [])))
      refine notin_ints (y := .lst (ms.map D.int)) (ns := ms) rfl ?_
      ((conv => whnf); (try (set_option simprocs false in dsimp only [])))
      cases c1 : ms.contains p with
      | false =>
        refine bt ?_
        ((conv => whnf); (try (set_option simprocs false in dsimp only [])))
        refine bt ?_
        ((conv => whnf); (try (set_option simprocs false in dsimp only [])))
        exact stop (by rw [c1]; rfl)
      | true =>
        refine bf ?_
        ((conv => whnf); (try (set_option simprocs false in dsimp only [])))
        rw [e]
        ((conv => whnf); (try (set_option simprocs false in dsimp only [])))
        rw [e]
        ((conv => whnf); (try (set_option simprocs false in dsimp only [])))
        rw [intsOf_map]
        ((conv => whnf); (try (set_option simprocs false in dsimp only [])))
        refine br (fun z => ?_) (fun z => ?_)
        · ((conv => whnf); (try (set_option simprocs false in dsimp only [])))
          exact stop (by rw [decide_eq_false (by omega), Bool.and_false])
        · ((conv => whnf); (try (set_option simprocs false in dsimp only [])))
          refine kk _ _ ⟨_, done ++ [p], rest, rfl, rfl, rfl, by rw [hsp, List.append_assoc]; rfl, fun u hu => ?_⟩
          rcases List.mem_append.mp hu with w | w
          · exact hd u w
          · rw [List.mem_singleton] at w; subst w
            rw [c1, decide_eq_true (by omega)]; rfl
  · rintro r m' ⟨x2, done, rest, rfl, rfl, hxs, hsp, hd⟩
    cases rest with
    | cons p rest => cases hxs
    | nil =>
      rw [List.append_nil] at hsp
      subst hsp
      ((conv => whnf); (try (set_option simprocs false in dsimp only [])))
      have : boxFits ms sp = true := List.all_eq_true.mpr hd
      rw [this] at h; exact h
@[irreducible] def g_fraction : FN := fun dz m q => ∃ (t b : Int), dz = [.int t, .int b] ∧ (b ≠ 0 ∧ Sm 8900 b ∧ q (fr (lowT t b) (lowB t b)) m)
theorem ar_fraction : ∀ ds m q, g_fraction ds m q → ds.length = 2 := by
  unfold g_fraction
  rintro _ m q ⟨_, _, rfl, _⟩; rfl
theorem i_fraction {t b : Int} {m : Sto} {q : D → Sto → Prop} (h : b ≠ 0 ∧ Sm 8900 b ∧ q (fr (lowT t b) (lowB t b)) m) : g_fraction [.int t, .int b] m q := by unfold g_fraction; exact ⟨t, b, rfl, h⟩
def t_fraction : DS :=
    (dSeq (dIf (dTNot (dTest (dCallB g_is_whole (dCons (dVar 0) dNil)))) dNever dNext)
    (dSeq (dIf (dTOr (dTNot (dTest (dCallB g_is_whole (dCons (dVar 1) dNil)))) (dTest (dBin dEq (dVar 1) (dC (.int 0))))) dNever dNext)
    (dRet (dCallB g_lowest (dCons (dVar 0) (dCons (dVar 1) dNil))))))
theorem r_fraction (dz : List D) (m : Sto) (q : D → Sto → Prop) (hl : dz.length = 2) (h : g_fraction dz m q) : t_fraction { nx := fun _ m' => q .non m', rt := q } (startD N_fraction dz) m := by
  unfold g_fraction at h
  obtain ⟨t, b, rfl, h⟩ := h
  unfold t_fraction
  obtain ⟨hb, hz, h⟩ := h
  ((conv => whnf); (try (set_option simprocs false in dsimp only [])))
  refine g_is_whole_int _ _ _ ?_
  ((conv => whnf); (repeat ((first | refine ⟨Nat.le_of_ble_eq_true rfl, ?_⟩ | refine bt ?_ | refine bf ?_); (conv => whnf))); (try (set_option simprocs false in dsimp only [])))
  refine g_is_whole_int _ _ _ ?_
  ((conv => whnf); (repeat ((first | refine ⟨Nat.le_of_ble_eq_true rfl, ?_⟩ | refine bt ?_ | refine bf ?_); (conv => whnf))); (try (set_option simprocs false in dsimp only [])))
  refine br (fun e => absurd e hb) (fun _ => ?_)
  ((conv => whnf); (try (set_option simprocs false in dsimp only [])))
  exact i_lowest hb hz h
theorem at_i {ms : List Int} {i : Nat} (h : i < ms.length) : atI (ms.map D.int) (i : Int) = some (.int (at0 ms i)) := atI_nat (by rw [List.getElem?_map, at0_get h]; rfl)
theorem at_z {ms : List Int} (h : 1 ≤ ms.length) : atI (ms.map D.int) 0 = some (.int (at0 ms 0)) := at_i h
theorem at_l {ms : List Int} (h : 1 ≤ ms.length) : atI (ms.map D.int) (-1) = some (.int (at0 ms (ms.length - 1))) := by
  rcases List.eq_nil_or_concat ms with z | ⟨L, a, z⟩
  · rw [z] at h; exact absurd h (by simp)
  · rw [List.concat_eq_append] at z
    subst z
    rw [List.map_append]
    show atI (L.map D.int ++ [D.int a]) (-1) = _
    rw [at_last]
    have : (L ++ [a]).length - 1 = L.length := by rw [List.length_append, List.length_singleton]; omega
    rw [this]
    unfold at0
    simp
def scFits (ms sp : List Int) : Bool := decide (at0 ms 0 ≤ at0 sp 0) && decide (at0 sp (sp.length - 1) ≤ at0 ms (ms.length - 1))
@[irreducible] def g_Scale_takes : FN := fun dz m q => ∃ (i : Nat) (ms sp : List Int) (x : D), dz = [.ptr i, x] ∧ (Obj i "Scale" ms m ∧ seqL x m = some (sp.map D.int) ∧ 1 ≤ ms.length ∧ 1 ≤ sp.length ∧ q (.bl (scFits ms sp)) m)
theorem ar_Scale_takes : ∀ ds m q, g_Scale_takes ds m q → ds.length = 2 := by
  unfold g_Scale_takes
  rintro _ m q ⟨_, _, _, _, rfl, _⟩; rfl
theorem i_Scale_takes {i : Nat} {ms sp : List Int} {x : D} {m : Sto} {q : D → Sto → Prop} (h : Obj i "Scale" ms m ∧ seqL x m = some (sp.map D.int) ∧ 1 ≤ ms.length ∧ 1 ≤ sp.length ∧ q (.bl (scFits ms sp)) m) : g_Scale_takes [.ptr i, x] m q := by unfold g_Scale_takes; exact ⟨i, ms, sp, x, rfl, h⟩
def t_Scale_takes : DS :=
    (dRet (dAnd (dBin dLe (dBin dIx (dFld ["Scale", "Box"] "told_marks" (dVar 0)) (dC (.int 0))) (dBin dIx (dVar 1) (dC (.int 0)))) (dBin dLe (dBin dIx (dVar 1) (dUn dNeg (dC (.int 1)))) (dBin dIx (dFld ["Scale", "Box"] "told_marks" (dVar 0)) (dUn dNeg (dC (.int 1)))))))
theorem r_Scale_takes (dz : List D) (m : Sto) (q : D → Sto → Prop) (hl : dz.length = 2) (h : g_Scale_takes dz m q) : t_Scale_takes { nx := fun _ m' => q .non m', rt := q } (startD N_Scale_takes dz) m := by
  unfold g_Scale_takes at h
  obtain ⟨i, ms, sp, x, rfl, h⟩ := h
  unfold t_Scale_takes
  obtain ⟨hi, e, m1, s1, h⟩ := h
  ((conv => whnf); (try (set_option simprocs false in dsimp only [])))
  rw [hi]
  ((conv => whnf); (try (set_option simprocs false in dsimp only [])))
  refine ⟨by decide, ?_⟩
  ((conv => whnf); (try (set_option simprocs false in dsimp only [])))
  rw [at_z m1]
  ((conv => whnf); (try (set_option simprocs false in dsimp only [])))
  refine dIx_seq e (at_z s1) ?_
  ((conv => whnf); (try (set_option simprocs false in dsimp only [])))
  refine br (fun a => ?_) (fun a => ?_)
  · ((conv => whnf); (try (set_option simprocs false in dsimp only [])))
    refine dIx_seq e (at_l s1) ?_
    ((conv => whnf); (try (set_option simprocs false in dsimp only [])))
    rw [hi]
    ((conv => whnf); (try (set_option simprocs false in dsimp only [])))
    refine ⟨by decide, ?_⟩
    ((conv => whnf); (try (set_option simprocs false in dsimp only [])))
    rw [at_l m1]
    ((conv => whnf); (try (set_option simprocs false in dsimp only [])))
    have e' : scFits ms sp = decide (at0 sp (sp.length - 1) ≤ at0 ms (ms.length - 1)) := by unfold scFits; rw [decide_eq_true a]; rfl
    rw [e'] at h; exact h
  · ((conv => whnf); (try (set_option simprocs false in dsimp only [])))
    have e' : scFits ms sp = false := by unfold scFits; rw [decide_eq_false a]; rfl
    rw [e'] at h; exact h
/-- what a point counts where, as data -/
abbrev entD (ms : List Int) (e : Nat × Rat) : D := .tup [.int (at0 ms e.1), frQ e.2]
@[irreducible] def g_Scale_counts : FN := fun dz m q => ∃ (i : Nat) (ms : List Int) (p : Int), dz = [.ptr i, .int p] ∧ (Obj i "Scale" ms m ∧ Marks 2 ms ∧ at0 ms 0 ≤ p ∧ p ≤ at0 ms (ms.length - 1) ∧ ∀ E, EntS ms p E → q (.lst (E.map (entD ms))) m)
theorem ar_Scale_counts : ∀ ds m q, g_Scale_counts ds m q → ds.length = 2 := by
  unfold g_Scale_counts
  rintro _ m q ⟨_, _, _, rfl, _⟩; rfl
theorem i_Scale_counts {i : Nat} {ms : List Int} {p : Int} {m : Sto} {q : D → Sto → Prop} (h : Obj i "Scale" ms m ∧ Marks 2 ms ∧ at0 ms 0 ≤ p ∧ p ≤ at0 ms (ms.length - 1) ∧ ∀ E, EntS ms p E → q (.lst (E.map (entD ms))) m) : g_Scale_counts [.ptr i, .int p] m q := by unfold g_Scale_counts; exact ⟨i, ms, p, rfl, h⟩
def t_Scale_counts : DS :=
    (dSeq (dIf (dTest (dBin (dInG false) (dVar 1) (dFld ["Scale", "Box"] "told_marks" (dVar 0)))) (dRet (dLst (dCons (dTup (dCons (dVar 1) (dCons (dTup (dCons (dC (.int 1)) (dCons (dC (.int 1)) dNil))) dNil))) dNil))) dNext)
    (dSeq (dAsg (dC (.int 1)) (gN 2))
    (dSeq (dWhile (dTest (dBin dLt (dBin dIx (dFld ["Scale", "Box"] "told_marks" (dVar 0)) (dVar 2)) (dVar 1))) (dAug 2 (dI0 fun i j => i + j) (dC (.int 1))))
    (dSeq (dAsg (dBin dIx (dFld ["Scale", "Box"] "told_marks" (dVar 0)) (dBin dSub (dVar 2) (dC (.int 1)))) (gN 3))
    (dSeq (dAsg (dBin dIx (dFld ["Scale", "Box"] "told_marks" (dVar 0)) (dVar 2)) (gN 4))
    (dRet (dLst (dCons (dTup (dCons (dVar 3) (dCons (dCallB g_fraction (dCons (dBin dSub (dVar 4) (dVar 1)) (dCons (dBin dSub (dVar 4) (dVar 3)) dNil))) dNil))) (dCons (dTup (dCons (dVar 4) (dCons (dCallB g_fraction (dCons (dBin dSub (dVar 1) (dVar 3)) (dCons (dBin dSub (dVar 4) (dVar 3)) dNil))) dNil))) dNil)))))))))
theorem r_Scale_counts (dz : List D) (m : Sto) (q : D → Sto → Prop) (hl : dz.length = 2) (h : g_Scale_counts dz m q) : t_Scale_counts { nx := fun _ m' => q .non m', rt := q } (startD N_Scale_counts dz) m := by
  unfold g_Scale_counts at h
  obtain ⟨i, ms, p, rfl, h⟩ := h
  unfold t_Scale_counts
  obtain ⟨hi, mk, p0, p1, h⟩ := h
  have up := mk.up
  have l2 : 2 ≤ ms.length := by have := mk.h1; omega
  ((conv => whnf); (try (set_option simprocs false in dsimp only [])))
  rw [hi]
  ((conv => whnf); (try (set_option simprocs false in dsimp only [])))
  refine ⟨by decide, ?_⟩
  ((conv => whnf); (try (set_option simprocs false in dsimp only [])))
  refine in_ints (y := .lst (ms.map D.int)) (ns := ms) rfl ?_
  ((conv => whnf); (try (set_option simprocs false in dsimp only [])))
  cases c1 : ms.contains p with
  | true =>
    refine bt ?_
    ((conv => whnf); (repeat ((first | refine ⟨Nat.le_of_ble_eq_true rfl, ?_⟩ | refine bt ?_ | refine bf ?_); (conv => whnf))); (try (set_option simprocs false in dsimp only [])))
    obtain ⟨j, hj, ej⟩ := mem_at0 (List.contains_iff_mem.mp c1)
    have := h _ (.on hj ej)
    rw [← ej]
    exact this
  | false =>
    have np : ∀ j, j < ms.length → at0 ms j ≠ p := fun j hj e => by
      have : ms.contains p = true := List.contains_iff_mem.mpr (e ▸ at0_mem hj)
      rw [c1] at this; cases this
    refine bf ?_
    ((conv => whnf); (try (set_option simprocs false in dsimp only [])))
    refine while_i ⟨fun n r m' => m' = m ∧ ∃ a : Nat, r = [some (.ptr i), some (.int p), some (.int ((a : Nat) + 1 : Int)), none, none] ∧ a + 1 < ms.length ∧ at0 ms a < p ∧ n = ms.length - a, ⟨_, rfl, 0, rfl, by omega, by have := np 0 (by omega); omega, rfl⟩, ?_⟩
    rintro n r m' ⟨rfl, a, rfl, ha, hp, rfl⟩
    ((conv => whnf); (try (set_option simprocs false in dsimp only [])))
    rw [hi]
    ((conv => whnf); (try (set_option simprocs false in dsimp only [])))
    refine ⟨by decide, ?_⟩
    ((conv => whnf); (try (set_option simprocs false in dsimp only [])))
    rw [show ((a : Nat) : Int) + 1 = ((a + 1 : Nat) : Int) by omega, at_i ha]
    ((conv => whnf); (try (set_option simprocs false in dsimp only [])))
    refine br (fun e => ?_) (fun e => ?_)
    · ((conv => whnf); (try (set_option simprocs false in dsimp only [])))
      have a2 : a + 1 + 1 < ms.length := by
        rcases Nat.lt_or_ge (a + 1 + 1) ms.length with z | z
        · exact z
        · have : ms.length - 1 = a + 1 := by omega
          rw [this] at p1; omega
      exact ⟨_, by omega, rfl, a + 1, rfl, a2, e, rfl⟩
    · ((conv => whnf); (try (set_option simprocs false in dsimp only [])))
      have pa : p < at0 ms (a + 1) := by have := np (a + 1) ha; omega
      rw [hi]
      ((conv => whnf); (try (set_option simprocs false in dsimp only [])))
      refine ⟨by decide, ?_⟩
      ((conv => whnf); (try (set_option simprocs false in dsimp only [])))
      rw [show ((a + 1 : Nat) : Int) - 1 = ((a : Nat) : Int) by omega, at_i (show a < ms.length by omega)]
      ((conv => whnf); (try (set_option simprocs false in dsimp only [])))
      rw [hi]
      ((conv => whnf); (try (set_option simprocs false in dsimp only [])))
      refine ⟨by decide, ?_⟩
      ((conv => whnf); (try (set_option simprocs false in dsimp only [])))
      rw [at_i ha]
      ((conv => whnf); (try (set_option simprocs false in dsimp only [])))
      have r1 := mk.rg _ (at0_mem (show a < ms.length by omega))
      have r2 := mk.rg _ (at0_mem ha)
      have sb : Sm 8900 (at0 ms (a + 1) - at0 ms a) := (sm_le 11 (by omega) (by omega)).mono (by decide)
      refine i_fraction ⟨by omega, sb, ?_⟩
      ((conv => whnf); (repeat ((first | refine ⟨Nat.le_of_ble_eq_true rfl, ?_⟩ | refine bt ?_ | refine bf ?_); (conv => whnf))); (try (set_option simprocs false in dsimp only [])))
      refine i_fraction ⟨by omega, sb, ?_⟩
      ((conv => whnf); (repeat ((first | refine ⟨Nat.le_of_ble_eq_true rfl, ?_⟩ | refine bt ?_ | refine bf ?_); (conv => whnf))); (try (set_option simprocs false in dsimp only [])))
      rw [fr_low (x := dv (at0 ms (a + 1) - p) (at0 ms (a + 1) - at0 ms a)) (by omega) rfl, fr_low (x := dv (p - at0 ms a) (at0 ms (a + 1) - at0 ms a)) (by omega) rfl]
      exact h _ (.off ha hp pa)
end K29
namespace K29
open PySem PySem.Spec PyProof.Rows L2 DL
theorem sp_between {sp : List Int} (h : sp.Pairwise (· ≤ ·)) {p : Int} (hp : p ∈ sp) : at0 sp 0 ≤ p ∧ p ≤ at0 sp (sp.length - 1) := by
  obtain ⟨i, hi, e⟩ := mem_at0 hp
  have pw := List.pairwise_iff_getElem.mp h
  have le : ∀ a b, a ≤ b → (hb : b < sp.length) → at0 sp a ≤ at0 sp b := fun a b hab hb => by
    rcases Nat.lt_or_eq_of_le hab with z | z
    · rw [at0_eq hb, at0_eq (by omega)]; exact pw a b _ _ z
    · rw [z]; exact Int.le_refl _
  rw [← e]
  exact ⟨le 0 i (by omega) hi, le i _ (by omega) (by omega)⟩
theorem keysI_len : ∀ {ds : List (L2.Key × D)} {ks : List Int}, keysI ds = some ks → ks.length = ds.length
  | [], _, e => by cases e; rfl
  | (.inl i, d) :: ds, ks, e => by
    simp only [keysI, Option.map_eq_some_iff] at e
    obtain ⟨l, e, rfl⟩ := e
    rw [List.length_cons, List.length_cons, keysI_len e]
  | (.inr x, d) :: ds, ks, e => by cases e
/-- what a mix's weights are -/
structure MixF (ms sp : List Int) (f : Nat → Rat) : Prop where
  at_ : ∀ i, i < ms.length → f i = addQ (shr ms) sp i
  nn : ∀ i, 0 ≤ f i
  sm : sumQ f ms.length = ((sp.length : Int) : Rat)
  sz : ∀ i, QS 200 (f i)
/-- a thing's class and marks -/
inductive Th : Str → List Int → Prop
  | sc {ms : List Int} : Marks 2 ms → Th "Scale" ms
  | bx {ms : List Int} : Marks 1 ms → Th "Box" ms
theorem Th.mk {c : Str} {ms : List Int} (h : Th c ms) : Marks 1 ms := by
  cases h with
  | sc h => exact ⟨by have := h.h1; omega, h.h8, h.up, h.rg⟩
  | bx h => exact h
theorem Th.l1 {c : Str} {ms : List Int} (h : Th c ms) : 1 ≤ ms.length := by have := h.mk.h1; omega
theorem Th.cs {c : Str} {ms : List Int} (h : Th c ms) : c ∈ CS := by
  cases h with
  | sc h => exact List.mem_cons_self
  | bx h => exact List.mem_cons_of_mem _ List.mem_cons_self
def fitsC (c : Str) (ms sp : List Int) : Bool := if c = "Scale" then scFits ms sp else boxFits ms sp
theorem fitsC_sc {ms sp : List Int} : fitsC "Scale" ms sp = scFits ms sp := if_pos rfl
theorem fitsC_bx {ms sp : List Int} : fitsC "Box" ms sp = boxFits ms sp := if_neg (by decide)
theorem takes_both {i : Nat} {c : Str} {ms sp : List Int} {x : D} {r : DSt} {m : Sto} {N : D → Sto → Prop} (hi : Obj i c ms m) (th : Th c ms) (e : seqL x m = some (sp.map D.int)) {w : WD} (s1 : 1 ≤ sp.length) (h0 : slot r 0 = some (.ptr i)) (h1 : slot r 1 = some x) (h : N (.bl (fitsC c ms sp)) m) :
    dMethX [("Scale", (FN.toX g_Scale_takes)), ("Box", (FN.toX g_Box_takes))] w "takes" (dVar 0) (dCons (dVar 1) dNil) r m N := by
  unfold dMethX dVar
  rw [h0]
  show (match m[i]? with | some (.ins c fs) => _ | _ => False)
  rw [hi]
  cases th with
  | sc mk =>
    refine ⟨rfl, ?_⟩
    show onS (slot r 1) _
    rw [h1]
    have := mk.h1
    refine i_Scale_takes ⟨hi, e, by omega, s1, ?_⟩
    rw [fitsC_sc] at h; exact h
  | bx mk =>
    refine ⟨rfl, ?_⟩
    show onS (slot r 1) _
    rw [h1]
    refine i_Box_takes ⟨hi, e, ?_⟩
    rw [fitsC_bx] at h; exact h
@[irreducible] def g_Marking_fits : FN := fun dz m q => ∃ (i : Nat) (c : Str) (ms sp : List Int) (x : D), dz = [.ptr i, x] ∧ (Obj i c ms m ∧ Th c ms ∧ seqL x m = some (sp.map D.int) ∧ Spot sp ∧ q (.bl (fitsC c ms sp)) m)
theorem ar_Marking_fits : ∀ ds m q, g_Marking_fits ds m q → ds.length = 2 := by
  unfold g_Marking_fits
  rintro _ m q ⟨_, _, _, _, _, rfl, _⟩; rfl
theorem i_Marking_fits {i : Nat} {c : Str} {ms sp : List Int} {x : D} {m : Sto} {q : D → Sto → Prop} (h : Obj i c ms m ∧ Th c ms ∧ seqL x m = some (sp.map D.int) ∧ Spot sp ∧ q (.bl (fitsC c ms sp)) m) : g_Marking_fits [.ptr i, x] m q := by unfold g_Marking_fits; exact ⟨i, c, ms, sp, x, rfl, h⟩
def t_Marking_fits : DS :=
    (dSeq (dIf (dTNot (dTest (dCallB g_is_spot (dCons (dVar 1) dNil)))) dNever dNext)
    (dRet (dMethX [("Scale", (FN.toX g_Scale_takes)), ("Box", (FN.toX g_Box_takes))] noW "takes" (dVar 0) (dCons (dVar 1) dNil))))
theorem r_Marking_fits (dz : List D) (m : Sto) (q : D → Sto → Prop) (hl : dz.length = 2) (h : g_Marking_fits dz m q) : t_Marking_fits { nx := fun _ m' => q .non m', rt := q } (startD N_Marking_fits dz) m := by
  unfold g_Marking_fits at h
  obtain ⟨i, c, ms, sp, x, rfl, h⟩ := h
  unfold t_Marking_fits
  obtain ⟨hi, th, e, sp1, h⟩ := h
  ((conv => whnf); (try (set_option simprocs false in dsimp only [])))
  refine i_is_spot ⟨kds_ints e, ?_⟩
  rw [sp1.is e]
  refine bf ?_
  refine (takes_both (r := [some (.ptr i), some x]) hi th e sp1.h1 rfl rfl ?_ :)
  exact h
/-- a point that is counted somewhere -/
theorem fit_ent {c : Str} {ms sp : List Int} (th : Th c ms) (sp1 : Spot sp) (hf : fitsC c ms sp = true) {p : Int} (hp : p ∈ sp) : (c = "Scale" ∧ at0 ms 0 ≤ p ∧ p ≤ at0 ms (ms.length - 1)) ∨ (c = "Box" ∧ p ∈ ms) := by
  cases th with
  | sc mk =>
    rw [fitsC_sc] at hf
    obtain ⟨b1, b2⟩ := Bool.and_eq_true_iff.mp hf
    have b1 := of_decide_eq_true b1
    have b2 := of_decide_eq_true b2
    have := sp_between sp1.up hp
    exact .inl ⟨rfl, by omega, by omega⟩
  | bx mk =>
    rw [fitsC_bx] at hf
    have := List.all_eq_true.mp hf p hp
    exact .inr ⟨rfl, List.contains_iff_mem.mp (Bool.and_eq_true_iff.mp this).1⟩
theorem counts_both {i : Nat} {c : Str} {ms : List Int} {p : Int} {r : DSt} {m : Sto} {N : D → Sto → Prop} (hi : Obj i c ms m) (th : Th c ms) (hp : (c = "Scale" ∧ at0 ms 0 ≤ p ∧ p ≤ at0 ms (ms.length - 1)) ∨ (c = "Box" ∧ p ∈ ms)) {w : WD} (h0 : slot r 0 = some (.ptr i)) (h3 : slot r 3 = some (.int p)) (h : ∀ E, EntS ms p E → N (.lst (E.map (entD ms))) m) :
    dMethX [("Scale", (FN.toX g_Scale_counts)), ("Box", (FN.toX g_Marking_counts))] w "counts" (dVar 0) (dCons (dVar 3) dNil) r m N := by
  unfold dMethX dVar
  rw [h0]
  show (match m[i]? with | some (.ins c fs) => _ | _ => False)
  rw [hi]
  cases th with
  | sc mk =>
    refine ⟨rfl, ?_⟩
    show onS (slot r 3) _
    rw [h3]
    rcases hp with ⟨_, p0, p1⟩ | ⟨z, _⟩
    · exact i_Scale_counts ⟨hi, mk, p0, p1, h⟩
    · exact absurd z (by decide)
  | bx mk =>
    refine ⟨rfl, ?_⟩
    show onS (slot r 3) _
    rw [h3]
    rcases hp with ⟨z, _⟩ | ⟨_, hp⟩
    · exact absurd z (by decide)
    · obtain ⟨j, hj, ej⟩ := mem_at0 hp
      refine i_Marking_counts ?_
      have := h _ (.on hj ej)
      rw [← ej]
      exact this
@[irreducible] def g_Marking_mix : FNX := fun dz m q xq => ∃ (i : Nat) (c : Str) (ms sp : List Int) (x : D), dz = [.ptr i, x] ∧ (Obj i c ms m ∧ Th c ms ∧ seqL x m = some (sp.map D.int) ∧ Spot sp ∧ (fitsC c ms sp = true → ∀ dn f, MixF ms sp f → q (.ptr (m ++ dn).length) (m ++ dn ++ [.lst (mixD ms f)])) ∧ (fitsC c ms sp = false → xq ⟨"NoSpot", []⟩ m))
theorem ar_Marking_mix : ∀ ds m q xq, g_Marking_mix ds m q xq → ds.length = 2 := by
  unfold g_Marking_mix
  rintro _ m q xq ⟨_, _, _, _, _, rfl, _⟩; rfl
theorem i_Marking_mix {i : Nat} {c : Str} {ms sp : List Int} {x : D} {m : Sto} {q : D → Sto → Prop} {xq : Exn → Sto → Prop} (h : Obj i c ms m ∧ Th c ms ∧ seqL x m = some (sp.map D.int) ∧ Spot sp ∧ (fitsC c ms sp = true → ∀ dn f, MixF ms sp f → q (.ptr (m ++ dn).length) (m ++ dn ++ [.lst (mixD ms f)])) ∧ (fitsC c ms sp = false → xq ⟨"NoSpot", []⟩ m)) : g_Marking_mix [.ptr i, x] m q xq := by unfold g_Marking_mix; exact ⟨i, c, ms, sp, x, rfl, h⟩
def b_Marking_mix_1 (wd : WD) : DS :=
    (dDPut (dVar 2) (dVar 4) (dCallB g_plus (dCons (dDGet2 (dVar 2) (dVar 4) (dTup (dCons (dC (.int 0)) (dCons (dC (.int 1)) dNil)))) (dCons (dVar 5) dNil))))
def b_Marking_mix_2 (wd : WD) : DS :=
    (dFor (dIter (dMethX [("Scale", (FN.toX g_Scale_counts)), ("Box", (FN.toX g_Marking_counts))] wd "counts" (dVar 0) (dCons (dVar 3) dNil))) (gT 2 (gsC (gN 4) (gsC (gN 5) gsN))) (b_Marking_mix_1 wd))
def e_Marking_mix_3 : DE :=
    (dTup (dCons (dVar 4) (dCons (dDIx (dVar 2) (dVar 4)) dNil)))
def t_Marking_mix (wd : WD) : DS :=
    (dSeq (dIf (dTNot (dTest (dCallB g_is_spot (dCons (dVar 1) dNil)))) dNever dNext)
    (dSeq (dIf (dTNot (dTest (dMethX [("Scale", (FN.toX g_Scale_takes)), ("Box", (FN.toX g_Box_takes))] wd "takes" (dVar 0) (dCons (dVar 1) dNil)))) (dRaise0 wd "NoSpot") dNext)
    (dSeq (dAsg dDicP (gN 2))
    (dSeq (dFor (dIter (dVar 1)) (gN 3) (b_Marking_mix_2 wd))
    (dRet (dLcP 4 (dIter (dCallB dSortedD (a1 (dVar 2)))) dYes e_Marking_mix_3))))))
theorem r_Marking_mix (dz : List D) (m : Sto) (q : D → Sto → Prop) (xq : Exn → Sto → Prop) (hl : dz.length = 2) (h : g_Marking_mix dz m q xq) : t_Marking_mix (fun ex _ m' => xq ex m') { nx := fun _ m' => q .non m', rt := q } (startD N_Marking_mix dz) m := by
  unfold g_Marking_mix at h
  obtain ⟨i, c, ms, sp, x, rfl, h⟩ := h
  unfold t_Marking_mix
  obtain ⟨hi, th, e, sp1, hy, hn⟩ := h
  have mk := th.mk
  have up := mk.up
  have l8 := mk.h8
  ((conv => whnf); (try (set_option simprocs false in dsimp only [])))
  refine i_is_spot ⟨kds_ints e, ?_⟩
  rw [sp1.is e]
  refine bf ?_
  refine (takes_both (w := fun ex _ m' => xq ex m') (r := [some (.ptr i), some x, none, none, none, none]) (m := m) (N := _) hi th e sp1.h1 rfl rfl ?_ :)
  cases bf1 : fitsC c ms sp with
  | false =>
    refine bt ?_
    ((conv => whnf); (try (set_option simprocs false in dsimp only [])))
    exact hn bf1
  | true =>
    refine bf ?_
    have hy := hy bf1
    obtain ⟨o, hit⟩ := items_app e
    ((conv => whnf); (try (set_option simprocs false in dsimp only [])))
    rw [(hit _).1]
    ((conv => whnf); (try (set_option simprocs false in dsimp only [])))
    refine forD_ind (fun xs r m' => ∃ x3 x4 x5 done rest ds f, r = [some (.ptr i), some x, some (.ptr m.length), x3, x4, x5] ∧ m' = m ++ [Cell.dic ds] ∧ xs = rest.map D.int ∧ sp = done ++ rest ∧ DicI ms ds f (2 * done.length) ∧ (∀ i, i < ms.length → f i = addQ (shr ms) done i) ∧ sumQ f ms.length = ((done.length : Int) : Rat)) ?_ (fun _ _ m' ⟨_, _, _, _, _, _, _, _, e, _⟩ => e ▸ (hit _).2) ?_ _ _ _ ⟨_, _, _, [], sp, [], fun _ => 0, rfl, rfl, rfl, rfl, dicI_nil, fun _ _ => rfl, sumQ_zero⟩
    · rintro y ys r m' N ⟨x3, x4, x5, done, rest, ds, f, rfl, rfl, hxs, hsp, hD, hf, hs⟩ kk
      cases rest with
      | nil => cases hxs
      | cons p rest =>
        cases hxs
        have pin := fit_ent th sp1 bf1 (p := p) (by rw [hsp]; exact List.mem_append_right _ List.mem_cons_self)
        have d6 : done.length ≤ 5 := by
          have := sp1.h6
          rw [hsp, List.length_append, List.length_cons] at this
          omega
        unfold b_Marking_mix_2
        refine (counts_both (w := fun ex _ m' => xq ex m') (r := [some (.ptr i), some x, some (.ptr m.length), some (.int p), x4, x5]) (m := m ++ [Cell.dic ds]) (N := _) (get_app hi) th pin rfl rfl (fun E hE => ?_) :)
        obtain ⟨e2, eE⟩ := ent_ok hE mk.rg
        ((conv => whnf); (try (set_option simprocs false in dsimp only [])))
        refine forD_ind (fun xs r m' => ∃ x4 x5 E1 ds1 f1 n1, xs = E1.map (entD ms) ∧ r = [some (.ptr i), some x, some (.ptr m.length), some (.int p), x4, x5] ∧ m' = m ++ [Cell.dic ds1] ∧ DicI ms ds1 f1 n1 ∧ updE f1 E1 = updE f E ∧ n1 + E1.length = 2 * done.length + E.length ∧ ∀ e ∈ E1, e.1 < ms.length ∧ 0 < e.2 ∧ QS 11 e.2) ?_ (fun _ _ _ _ => trivial) ?_ _ _ _ ⟨x4, x5, E, ds, f, _, rfl, rfl, rfl, hD, rfl, rfl, eE⟩
        · rintro y ys r m' N2 ⟨x4, x5, E1, ds1, f1, n1, hx, rfl, rfl, hD1, hu, hn1, hE1⟩ k2
          cases E1 with
          | nil => cases hx
          | cons en E1 =>
            cases hx
            obtain ⟨j, w⟩ := en
            obtain ⟨hj, hw, hq⟩ := hE1 _ List.mem_cons_self
            simp only [List.length_cons] at hn1
            have gj : (valD (Sum.inl (at0 ms j)) ds1).getD (D.tup [D.int 0, D.int 1]) = frQ (f1 j) := hD1.get hj
            unfold b_Marking_mix_1
            ((conv => whnf); (try (set_option simprocs false in dsimp only [])))
            refine ⟨rfl, ?_⟩
            ((conv => whnf); (try (set_option simprocs false in dsimp only [])))
            rw [dic_end]
            ((conv => whnf); (repeat ((first | refine ⟨Nat.le_of_ble_eq_true rfl, ?_⟩ | refine bt ?_ | refine bf ?_); (conv => whnf))); (try (set_option simprocs false in dsimp only [])))
            rw [dic_end]
            ((conv => whnf); (try (set_option simprocs false in dsimp only [])))
            rw [gj]
            refine plusQ ((hD1.sz j).mono (by omega)) (hq.mono (by decide)) ?_
            ((conv => whnf); (try (set_option simprocs false in dsimp only [])))
            rw [dic_end]
            ((conv => whnf); (try (set_option simprocs false in dsimp only [])))
            refine ⟨by have := hD1.ln; omega, ?_⟩
            rw [set_end]
            exact k2 _ _ ⟨_, _, E1, _, _, n1 + 1, rfl, rfl, rfl, hD1.put up hj hw hq, hu, by omega, fun e he => hE1 e (List.mem_cons_of_mem _ he)⟩
        · rintro r m' ⟨x4, x5, E1, ds1, f1, n1, hx, rfl, rfl, hD1, hu, hn1, hE1⟩
          cases E1 with
          | cons en E1 => cases hx
          | nil =>
            have hu : f1 = updE f E := hu
            simp only [List.length_nil] at hn1
            have dl : (done ++ [p]).length = done.length + 1 := by rw [List.length_append, List.length_singleton]
            refine kk _ _ ⟨_, _, _, done ++ [p], rest, ds1, f1, rfl, rfl, rfl, by rw [hsp, List.append_assoc]; rfl, ⟨hD1.val, hD1.ks, hD1.nn, fun i => (hD1.sz i).mono (by rw [dl]; omega), by have := hD1.ln; rw [dl]; omega⟩, fun i hi => ?_, ?_⟩
            · rw [hu, updE_at, addQ_snoc, hf i hi, shr_acc hE up hi]
            · rw [hu, updE_sum hE, hs, dl, show ((done.length + 1 : Nat) : Int) = (done.length : Int) + 1 by omega, Rat.intCast_add]; rfl
    · rintro r m' ⟨x3, x4, x5, done, rest, ds, f, rfl, rfl, hxs, hsp, hD, hf, hs⟩
      cases rest with
      | cons p rest => cases hxs
      | nil =>
        rw [List.append_nil] at hsp
        subst hsp
        have s6 := sp1.h6
        obtain ⟨ks, ek, -, -⟩ := hD.ks
        have kl := keysI_len ek
        have ln := hD.ln
        ((conv => whnf); (try (set_option simprocs false in dsimp only [])))
        rw [dic_end]
        ((conv => whnf); (try (set_option simprocs false in dsimp only [])))
        rw [ek]
        ((conv => whnf); (try (set_option simprocs false in dsimp only [])))
        refine ⟨by omega, fun ns' p1 p2 => ?_⟩
        have nl := p1.length_eq
        have en := hD.sorted up ek p1 p2
        ((conv => whnf); (try (set_option simprocs false in dsimp only [])))
        refine ⟨by rw [List.length_map]; omega, ?_⟩
        refine lc_map (fun d => match d with | .int k => .tup [.int k, (valD (.inl k) ds).getD .non] | d => d) ?_ ?_ ?_
        · intro y hy N hN
          obtain ⟨k, hk, rfl⟩ := List.mem_map.mp hy
          rw [en, List.mem_map] at hk
          obtain ⟨j, hj, rfl⟩ := hk
          obtain ⟨j1, j2⟩ := posI_mem.mp hj
          have hv := hD.val j j1
          rw [if_pos j2] at hv
          have hN' : N (.tup [.int (at0 ms j), frQ (f j)]) (m ++ [Cell.dic ds]) := by
            have : (valD (Sum.inl (at0 ms j)) ds).getD D.non = frQ (f j) := by rw [hv]; rfl
            rw [← this]; exact hN
          unfold e_Marking_mix_3
          ((conv => whnf); (try (set_option simprocs false in dsimp only [])))
          rw [dic_end]
          ((conv => whnf); (try (set_option simprocs false in dsimp only [])))
          rw [hv]
          ((conv => whnf); (repeat ((first | refine ⟨Nat.le_of_ble_eq_true rfl, ?_⟩ | refine bt ?_ | refine bf ?_); (conv => whnf))); (try (set_option simprocs false in dsimp only [])))
          exact hN'
        · trivial
        · ((conv => whnf); (try (set_option simprocs false in dsimp only [])))
          have em : (ns'.map D.int).map (fun d => match d with | .int k => .tup [.int k, (valD (.inl k) ds).getD .non] | d => d) = mixD ms f := by
            rw [en, List.map_map, List.map_map]
            refine List.map_congr_left fun j hj => ?_
            obtain ⟨j1, j2⟩ := posI_mem.mp hj
            have hv := hD.val j j1
            rw [if_pos j2] at hv
            show D.tup [.int (at0 ms j), (valD (.inl (at0 ms j)) ds).getD .non] = _
            rw [hv]; rfl
          rw [em]
          exact hy _ f ⟨hf, hD.nn, hs, fun i => (hD.sz i).mono (by omega)⟩
/-- both classes tell the same method -/
theorem meth_both {c : Str} {ms : List Int} {i : Nat} {mn : Str} {g : FNX} {w : WD} {to : DE} {ta : DA} {r : DSt} {m m1 : Sto} {N : D → Sto → Prop} (th : Th c ms) (hn : (mn == ("told_marks" : Str)) = false) (ho : ∀ K : D → Sto → Prop, K (.ptr i) m1 → to r m K) (hi : Obj i c ms m1) (h : ta r m1 fun xs m2 => g (.ptr i :: xs) m2 N fun ex m3 => w ex r m3) :
    dMethX [("Scale", g), ("Box", g)] w mn to ta r m N := by
  unfold dMethX
  refine ho _ ?_
  show (match m1[i]? with | some (.ins c fs) => _ | _ => False)
  rw [hi]
  have e : ([("told_marks", D.lst (ms.map D.int))] : List (Str × D)).lookup mn = none := by
    show (match mn == ("told_marks" : Str) with | true => _ | false => _) = none
    rw [hn]; rfl
  cases th with
  | sc mk => exact ⟨e, h⟩
  | bx mk => exact ⟨e, h⟩
@[irreducible] def g_Scale___init : FN := fun dz m q => ∃ (i : Nat) (x : D) (ms : List Int), dz = [.ptr i, x] ∧ (m[i]? = some (.ins "Scale" []) ∧ seqL x m = some (ms.map D.int) ∧ Marks 2 ms ∧ q .non (m.set i (.ins "Scale" [("told_marks", .lst (ms.map D.int))])))
theorem ar_Scale___init : ∀ ds m q, g_Scale___init ds m q → ds.length = 2 := by
  unfold g_Scale___init
  rintro _ m q ⟨_, _, _, rfl, _⟩; rfl
theorem i_Scale___init {i : Nat} {x : D} {ms : List Int} {m : Sto} {q : D → Sto → Prop} (h : m[i]? = some (.ins "Scale" []) ∧ seqL x m = some (ms.map D.int) ∧ Marks 2 ms ∧ q .non (m.set i (.ins "Scale" [("told_marks", .lst (ms.map D.int))]))) : g_Scale___init [.ptr i, x] m q := by unfold g_Scale___init; exact ⟨i, x, ms, rfl, h⟩
def t_Scale___init : DS :=
    (dDrop (dCallX (FN.toX g_Marking___init) noW (dCons (dVar 0) (dCons (dVar 1) (dCons (dKIx [("scale", (.int 2)), ("box", (.int 1))] (dC (.str "scale"))) dNil)))))
theorem r_Scale___init (dz : List D) (m : Sto) (q : D → Sto → Prop) (hl : dz.length = 2) (h : g_Scale___init dz m q) : t_Scale___init { nx := fun _ m' => q .non m', rt := q } (startD N_Scale___init dz) m := by
  unfold g_Scale___init at h
  obtain ⟨i, x, ms, rfl, h⟩ := h
  unfold t_Scale___init
  obtain ⟨hi, e, mk, h⟩ := h
  ((conv => whnf); (try (set_option simprocs false in dsimp only [])))
  refine i_Marking___init ⟨hi, by decide, e, mk, ?_⟩
  ((conv => whnf); (try (set_option simprocs false in dsimp only [])))
  exact h
@[irreducible] def g_Box___init : FN := fun dz m q => ∃ (i : Nat) (x : D) (ms : List Int), dz = [.ptr i, x] ∧ (m[i]? = some (.ins "Box" []) ∧ seqL x m = some (ms.map D.int) ∧ Marks 1 ms ∧ q .non (m.set i (.ins "Box" [("told_marks", .lst (ms.map D.int))])))
theorem ar_Box___init : ∀ ds m q, g_Box___init ds m q → ds.length = 2 := by
  unfold g_Box___init
  rintro _ m q ⟨_, _, _, rfl, _⟩; rfl
theorem i_Box___init {i : Nat} {x : D} {ms : List Int} {m : Sto} {q : D → Sto → Prop} (h : m[i]? = some (.ins "Box" []) ∧ seqL x m = some (ms.map D.int) ∧ Marks 1 ms ∧ q .non (m.set i (.ins "Box" [("told_marks", .lst (ms.map D.int))]))) : g_Box___init [.ptr i, x] m q := by unfold g_Box___init; exact ⟨i, x, ms, rfl, h⟩
def t_Box___init : DS :=
    (dDrop (dCallX (FN.toX g_Marking___init) noW (dCons (dVar 0) (dCons (dVar 1) (dCons (dKIx [("scale", (.int 2)), ("box", (.int 1))] (dC (.str "box"))) dNil)))))
theorem r_Box___init (dz : List D) (m : Sto) (q : D → Sto → Prop) (hl : dz.length = 2) (h : g_Box___init dz m q) : t_Box___init { nx := fun _ m' => q .non m', rt := q } (startD N_Box___init dz) m := by
  unfold g_Box___init at h
  obtain ⟨i, x, ms, rfl, h⟩ := h
  unfold t_Box___init
  obtain ⟨hi, e, mk, h⟩ := h
  ((conv => whnf); (try (set_option simprocs false in dsimp only [])))
  refine i_Marking___init ⟨hi, by decide, e, mk, ?_⟩
  ((conv => whnf); (try (set_option simprocs false in dsimp only [])))
  exact h
end K29
namespace K29
open PySem PySem.Spec PyProof.Rows L2 DL
theorem marks_up {L : List Int} {a b : Int} (h : (L ++ [a]).Pairwise (· < ·)) (hab : a < b) : (L ++ [a] ++ [b]).Pairwise (· < ·) ∧ (L ++ [b]).Pairwise (· < ·) := by
  obtain ⟨h1, h2, h3⟩ := List.pairwise_append.mp h
  have hb : ∀ x ∈ L, x < b := fun x hx => by have := h3 x hx a List.mem_cons_self; omega
  refine ⟨List.pairwise_append.mpr ⟨h, List.pairwise_singleton _ _, fun x hx y hy => ?_⟩, List.pairwise_append.mpr ⟨h1, List.pairwise_singleton _ _, fun x hx y hy => ?_⟩⟩
  · rw [List.mem_singleton] at hy; rw [hy]
    rcases List.mem_append.mp hx with z | z
    · exact hb x z
    · rw [List.mem_singleton] at z; rw [z]; exact hab
  · rw [List.mem_singleton] at hy; rw [hy]; exact hb x hx
@[irreducible] def g_law_marks : FN := fun dz m q => ∃ (c : Cell) (ms : Sto) (w : Str), dz = [.ptr 0, .str w] ∧ (m = c :: ms ∧ BagOk c ∧ ((w : Str) = "scale" ∨ (w : Str) = "box") ∧ ∀ ns c' dn, Marks (if (w : Str) = "box" then 1 else 2) ns → BagOk c' → q (.lst (ns.map D.int)) (c' :: (ms ++ dn)))
theorem ar_law_marks : ∀ ds m q, g_law_marks ds m q → ds.length = 2 := by
  unfold g_law_marks
  rintro _ m q ⟨_, _, _, rfl, _⟩; rfl
theorem i_law_marks {c : Cell} {ms : Sto} {w : Str} {m : Sto} {q : D → Sto → Prop} (h : m = c :: ms ∧ BagOk c ∧ ((w : Str) = "scale" ∨ (w : Str) = "box") ∧ ∀ ns c' dn, Marks (if (w : Str) = "box" then 1 else 2) ns → BagOk c' → q (.lst (ns.map D.int)) (c' :: (ms ++ dn))) : g_law_marks [.ptr 0, .str w] m q := by unfold g_law_marks; exact ⟨c, ms, w, rfl, h⟩
def b_law_marks_1 : DS :=
    (dDrop (dApp (dVar 5) (dBin dAdd (dBin dAdd (dBin dIx (dVar 5) (dUn dNeg (dC (.int 1)))) (dC (.int 1))) (dCallB g_law_take (dCons (dVar 0) (dCons (dVar 3) dNil))))))
def t_law_marks : DS :=
    (dSeq (dAsg (dBin dIx (dBin dIx (dLst (dCons (dLst (dCons (dC (.int 2)) (dCons (dC (.int 3)) (dCons (dC (.int 4)) (dCons (dC (.int 8)) dNil))))) (dCons (dLst (dCons (dC (.int 1)) (dCons (dC (.int 2)) (dCons (dC (.int 3)) (dCons (dC (.int 8)) dNil))))) dNil))) (dCallB dInt (a1 (dBin dEq (dVar 1) (dC (.str "box")))))) (dCallB g_law_take (dCons (dVar 0) (dCons (dC (.int 4)) dNil)))) (gN 2))
    (dSeq (dAsg (dBin dIx (dLst (dCons (dC (.int 2)) (dCons (dC (.int 12)) (dCons (dC (.int 110)) dNil)))) (dCallB g_law_take (dCons (dVar 0) (dCons (dC (.int 3)) dNil)))) (gN 3))
    (dSeq (dAsg (dCallB g_law_take (dCons (dVar 0) (dCons (dC (.int 6)) dNil))) (gN 4))
    (dSeq (dAsg (dLstP (dCons (dCallB g_law_take (dCons (dVar 0) (dCons (dC (.int 20)) dNil))) dNil)) (gN 5))
    (dSeq (dFor (dRange1 (dBin dSub (dVar 2) (dC (.int 1)))) (gN 6) b_law_marks_1)
    (dSeq (dIf (dTest (dBin dEq (dVar 4) (dC (.int 0)))) (dAsg (dC (.int 1000)) (gIx (dVar 5) (dUn dNeg (dC (.int 1))))) dNext)
    (dRet (dFrz (dVar 5)))))))))
theorem r_law_marks (dz : List D) (m : Sto) (q : D → Sto → Prop) (hl : dz.length = 2) (h : g_law_marks dz m q) : t_law_marks { nx := fun _ m' => q .non m', rt := q } (startD N_law_marks dz) m := by
  unfold g_law_marks at h
  obtain ⟨c, ms, w, rfl, h⟩ := h
  unfold t_law_marks
  obtain ⟨rfl, hc, hw, h⟩ := h
  ((conv => whnf); (repeat ((first | refine ⟨Nat.le_of_ble_eq_true rfl, ?_⟩ | refine bt ?_ | refine bf ?_); (conv => whnf))); (try (set_option simprocs false in dsimp only [])))
  obtain ⟨few, hfew⟩ : ∃ few : Int, (if (w : Str) = "box" then 1 else 2) = few := ⟨_, rfl⟩
  rw [hfew] at h
  have few1 : 1 ≤ few := by rw [← hfew]; split <;> decide
  have hat : ∃ L : List D, atI [D.lst [D.int 2, D.int 3, D.int 4, D.int 8], D.lst [D.int 1, D.int 2, D.int 3, D.int 8]] (if decide (w = "box") = true then 1 else 0) = some (.lst L) ∧ (∀ d ∈ L, ∃ i : Int, d = .int i ∧ few ≤ i ∧ i ≤ 8) ∧ L.length = 4 := by
    rcases hw with rfl | rfl
    · rw [if_neg (by decide)] at hfew
      subst hfew
      exact ⟨_, rfl, al1 ⟨2, rfl, by decide, by decide⟩ (al1 ⟨3, rfl, by decide, by decide⟩ (al1 ⟨4, rfl, by decide, by decide⟩ (al1 ⟨8, rfl, by decide, by decide⟩ al0))), rfl⟩
    · rw [if_pos rfl] at hfew
      subst hfew
      exact ⟨_, rfl, al1 ⟨1, rfl, by decide, by decide⟩ (al1 ⟨2, rfl, by decide, by decide⟩ (al1 ⟨3, rfl, by decide, by decide⟩ (al1 ⟨8, rfl, by decide, by decide⟩ al0))), rfl⟩
  obtain ⟨L, eL, hL, hl4⟩ := hat
  rw [eL]
  ((conv => whnf); (try (set_option simprocs false in dsimp only [])))
  refine take_at hc (by decide) (sm (k := 64) (by decide) (by decide)) fun v1 c1 lo_v1 up_v1 hc_v1 => ?_
  ((conv => whnf); (try (set_option simprocs false in dsimp only [])))
  refine onS_at hL lo_v1 (by omega) fun d hd => ?_
  obtain ⟨s, rfl, s1, s2⟩ := hd
  ((conv => whnf); (repeat ((first | refine ⟨Nat.le_of_ble_eq_true rfl, ?_⟩ | refine bt ?_ | refine bf ?_); (conv => whnf))); (try (set_option simprocs false in dsimp only [])))
  refine take_at hc_v1 (by decide) (sm (k := 64) (by decide) (by decide)) fun v2 c2 lo_v2 up_v2 hc_v2 => ?_
  ((conv => whnf); (try (set_option simprocs false in dsimp only [])))
  refine onS_at (P := fun d => ∃ i : Int, d = .int i ∧ 1 ≤ i ∧ i ≤ 110) (al1 ⟨2, rfl, by decide, by decide⟩ (al1 ⟨12, rfl, by decide, by decide⟩ (al1 ⟨110, rfl, by decide, by decide⟩ al0))) lo_v2 up_v2 fun d hd => ?_
  obtain ⟨st, rfl, t1, t2⟩ := hd
  ((conv => whnf); (try (set_option simprocs false in dsimp only [])))
  refine take_at hc_v2 (by decide) (sm (k := 64) (by decide) (by decide)) fun v3 c3 lo_v3 up_v3 hc_v3 => ?_
  ((conv => whnf); (repeat ((first | refine ⟨Nat.le_of_ble_eq_true rfl, ?_⟩ | refine bt ?_ | refine bf ?_); (conv => whnf))); (try (set_option simprocs false in dsimp only [])))
  refine take_at hc_v3 (by decide) (sm (k := 64) (by decide) (by decide)) fun v4 c4 lo_v4 up_v4 hc_v4 => ?_
  ((conv => whnf); (repeat ((first | refine ⟨Nat.le_of_ble_eq_true rfl, ?_⟩ | refine bt ?_ | refine bf ?_); (conv => whnf))); (try (set_option simprocs false in dsimp only [])))
  refine ⟨⟨by omega, by omega⟩, ?_⟩
  refine forD_ind (fun xs r m' => ∃ x6 ns a c', r = [some (.ptr 0), some (.str w), some (.int s), some (.int st), some (.int v3), some (.ptr (ms.length + 1)), x6] ∧ m' = c' :: (ms ++ [Cell.lst (ns.map D.int ++ [D.int a])]) ∧ BagOk c' ∧ (ns ++ [a]).Pairwise (· < ·) ∧ (∀ i ∈ ns ++ [a], 0 ≤ i ∧ i ≤ a) ∧ (ns.length : Int) + 1 + xs.length = s ∧ a ≤ 19 + 110 * (ns.length : Int)) ?_ (fun _ _ _ _ => trivial) ?_ _ _ _ ⟨none, [], v4, c4, rfl, rfl, hc_v4, List.pairwise_singleton _ _, fun i hi => by have := List.mem_singleton.mp hi; omega, by rw [List.length_map, List.length_range]; simp; omega, by simp; omega⟩
  · rintro x xs r m' N ⟨x6, ns, a, c', rfl, rfl, hc', up, rg, hl, ha⟩ kk
    simp only [List.length_cons] at hl
    unfold b_law_marks_1
    ((conv => whnf); (try (set_option simprocs false in dsimp only [])))
    (first | rw [lst_mid] | rw [seqL_ptr, lst_mid])
    ((conv => whnf); (try (set_option simprocs false in dsimp only [])))
    (first | rw [lst_mid] | rw [seqL_ptr, lst_mid])
    ((conv => whnf); (try (set_option simprocs false in dsimp only [])))
    rw [at_last]
    ((conv => whnf); (try (set_option simprocs false in dsimp only [])))
    refine take_at hc' (by omega) (sm_le 10 (by omega) (by omega) |>.mono (by decide)) fun v5 c5 lo_v5 up_v5 hc_v5 => ?_
    ((conv => whnf); (try (set_option simprocs false in dsimp only [])))
    (first | rw [lst_mid] | rw [seqL_ptr, lst_mid])
    ((conv => whnf); (try (set_option simprocs false in dsimp only [])))
    refine ⟨by rw [List.length_append, List.length_map, List.length_singleton]; omega, ?_⟩
    ((conv => whnf); (try (set_option simprocs false in dsimp only [])))
    rw [mid_set]
    refine kk _ _ ⟨_, ns ++ [a], a + 1 + v5, c5, rfl, by rw [List.map_append]; rfl, hc_v5, (marks_up up (by omega)).1, fun i hi => ?_, by rw [List.length_append, List.length_singleton]; omega, by rw [List.length_append, List.length_singleton]; omega⟩
    rcases List.mem_append.mp hi with z | z
    · have := rg i z; omega
    · rw [List.mem_singleton] at z
      have := rg a (List.mem_append_right _ List.mem_cons_self); omega
  · rintro r m' ⟨x6, ns, a, c', rfl, rfl, hc', up, rg, hl, ha⟩
    simp only [List.length_nil] at hl
    ((conv => whnf); (try (set_option simprocs false in dsimp only [])))
    refine br (fun e => ?_) (fun e => ?_)
    · ((conv => whnf); (try (set_option simprocs false in dsimp only [])))
      (first | rw [lst_mid] | rw [seqL_ptr, lst_mid])
      ((conv => whnf); (try (set_option simprocs false in dsimp only [])))
      rw [ix_last]
      ((conv => whnf); (try (set_option simprocs false in dsimp only [])))
      rw [mid_set, set_last]
      (first | rw [lst_mid] | rw [seqL_ptr, lst_mid])
      ((conv => whnf); (try (set_option simprocs false in dsimp only [])))
      rw [mid_set]
      have n8 : (ns.length : Int) ≤ 7 := by omega
      have lt : ∀ i ∈ ns, 0 ≤ i ∧ i < 1000 := fun i hi => by have := rg i (List.mem_append_left _ hi); omega
      have pw := (List.pairwise_append.mp up).1
      have e2 : ns.map D.int ++ [D.int 1000] = (ns ++ [1000]).map D.int := by rw [List.map_append]; rfl
      rw [e2]
      refine h (ns ++ [1000]) c' _ ⟨by rw [List.length_append, List.length_singleton]; omega, by rw [List.length_append, List.length_singleton]; omega, List.pairwise_append.mpr ⟨pw, List.pairwise_singleton _ _, fun x hx y hy => by rw [List.mem_singleton] at hy; rw [hy]; exact (lt x hx).2⟩, fun i hi => ?_⟩ hc'
      rcases List.mem_append.mp hi with z | z
      · have := lt i z; omega
      · rw [List.mem_singleton] at z; omega
    · ((conv => whnf); (repeat ((first | refine ⟨Nat.le_of_ble_eq_true rfl, ?_⟩ | refine bt ?_ | refine bf ?_); (conv => whnf))); (try (set_option simprocs false in dsimp only [])))
      (first | rw [lst_mid] | rw [seqL_ptr, lst_mid])
      ((conv => whnf); (try (set_option simprocs false in dsimp only [])))
      rw [mid_set]
      have e2 : ns.map D.int ++ [D.int a] = (ns ++ [a]).map D.int := by rw [List.map_append]; rfl
      rw [e2]
      refine h (ns ++ [a]) c' _ ⟨by rw [List.length_append, List.length_singleton]; omega, by rw [List.length_append, List.length_singleton]; omega, up, fun i hi => ?_⟩ hc'
      have := rg i hi; omega
/-- a sort's word and its class -/
inductive So : Str → Str → Prop
  | sc : So "scale" "Scale"
  | bx : So "box" "Box"
theorem So.th {w c : Str} {ms : List Int} (h : So w c) (k : Marks (if w = "box" then 1 else 2) ms) : Th c ms := by
  cases h with
  | sc => rw [if_neg (by decide)] at k; exact .sc k
  | bx => rw [if_pos rfl] at k; exact .bx k
theorem So.w {w c : Str} (h : So w c) : (w : Str) = "scale" ∨ (w : Str) = "box" := by
  cases h with
  | sc => exact .inl rfl
  | bx => exact .inr rfl
theorem So.box {w c : Str} (h : So w c) (e : (w : Str) = "box") : c = "Box" := by
  cases h with
  | sc => exact absurd e (by decide)
  | bx => rfl
theorem So.scale {w c : Str} (h : So w c) (e : ¬ (w : Str) = "box") : c = "Scale" := by
  cases h with
  | sc => rfl
  | bx => exact absurd rfl e
@[irreducible] def g_marks_of : FN := fun dz m q => ∃ (w c : Str) (x : D) (ms : List Int), dz = [.str w, x] ∧ (So w c ∧ Th c ms ∧ seqL x m = some (ms.map D.int) ∧ q (.ptr m.length) (m ++ [.ins c [("told_marks", .lst (ms.map D.int))]]))
theorem ar_marks_of : ∀ ds m q, g_marks_of ds m q → ds.length = 2 := by
  unfold g_marks_of
  rintro _ m q ⟨_, _, _, _, rfl, _⟩; rfl
theorem i_marks_of {w c : Str} {x : D} {ms : List Int} {m : Sto} {q : D → Sto → Prop} (h : So w c ∧ Th c ms ∧ seqL x m = some (ms.map D.int) ∧ q (.ptr m.length) (m ++ [.ins c [("told_marks", .lst (ms.map D.int))]])) : g_marks_of [.str w, x] m q := by unfold g_marks_of; exact ⟨w, c, x, ms, rfl, h⟩
def t_marks_of : DS :=
    (dSeq (dIf (dTOr (dTNot (dTest (dIsi .str (dVar 0)))) (dTest (dKIn true [("scale", (.int 2)), ("box", (.int 1))] (dVar 0)))) dNever dNext)
    (dSeq (dIf (dTNot (dTest (dCallB g_are_marks (dCons (dVar 1) (dCons (dKIx [("scale", (.int 2)), ("box", (.int 1))] (dVar 0)) dNil))))) dNever dNext)
    (dSeq (dIf (dTest (dBin dEq (dVar 0) (dC (.str "scale")))) (dRet (dMakeX (FN.toX g_Scale___init) "Scale" noW (dCons (dVar 1) dNil))) dNext)
    (dRet (dMakeX (FN.toX g_Box___init) "Box" noW (dCons (dVar 1) dNil))))))
theorem r_marks_of (dz : List D) (m : Sto) (q : D → Sto → Prop) (hl : dz.length = 2) (h : g_marks_of dz m q) : t_marks_of { nx := fun _ m' => q .non m', rt := q } (startD N_marks_of dz) m := by
  unfold g_marks_of at h
  obtain ⟨w, c, x, ms, rfl, h⟩ := h
  unfold t_marks_of
  obtain ⟨so, th, e, h⟩ := h
  cases so with
  | sc =>
    cases th with
    | sc mk =>
      ((conv => whnf); (repeat ((first | refine ⟨Nat.le_of_ble_eq_true rfl, ?_⟩ | refine bt ?_ | refine bf ?_); (conv => whnf))); (try (set_option simprocs false in dsimp only [])))
      refine i_are_marks ⟨kds_ints e, ?_⟩
      rw [mk.is e]
      ((conv => whnf); (repeat ((first | refine ⟨Nat.le_of_ble_eq_true rfl, ?_⟩ | refine bt ?_ | refine bf ?_); (conv => whnf))); (try (set_option simprocs false in dsimp only [])))
      refine i_Scale___init ⟨by simp, seqL_app e, mk, rfl, ?_⟩
      rw [set_end]
      exact h
  | bx =>
    cases th with
    | bx mk =>
      ((conv => whnf); (repeat ((first | refine ⟨Nat.le_of_ble_eq_true rfl, ?_⟩ | refine bt ?_ | refine bf ?_); (conv => whnf))); (try (set_option simprocs false in dsimp only [])))
      refine i_are_marks ⟨kds_ints e, ?_⟩
      rw [mk.is e]
      ((conv => whnf); (repeat ((first | refine ⟨Nat.le_of_ble_eq_true rfl, ?_⟩ | refine bt ?_ | refine bf ?_); (conv => whnf))); (try (set_option simprocs false in dsimp only [])))
      refine i_Box___init ⟨by simp, seqL_app e, mk, rfl, ?_⟩
      rw [set_end]
      exact h
end K29
namespace K29
open PySem PySem.Spec PyProof.Rows L2 DL
theorem count_le1 : ∀ {l : List Int}, l.Pairwise (· < ·) → ∀ p, l.count p ≤ 1
  | [], _, p => by simp
  | a :: l, h, p => by
    obtain ⟨h1, h2⟩ := List.pairwise_cons.mp h
    rw [List.count_cons]
    have := count_le1 h2 p
    by_cases e : a = p
    · have : l.count p = 0 := List.count_eq_zero.mpr fun hm => by have := h1 p hm; omega
      split <;> omega
    · rw [if_neg (by simpa using e)]; omega
theorem th_in {c : Str} {ms : List Int} (th : Th c ms) {p : Int} (h : p ∈ ms) : at0 ms 0 ≤ p ∧ p ≤ at0 ms (ms.length - 1) := sp_between (th.mk.up.imp fun h => Int.le_of_lt h) h
theorem fits_sc {ms sp : List Int} (s1 : 1 ≤ sp.length) (h : ∀ p ∈ sp, at0 ms 0 ≤ p ∧ p ≤ at0 ms (ms.length - 1)) : fitsC "Scale" ms sp = true := by
  rw [fitsC_sc]
  unfold scFits
  rw [decide_eq_true (h _ (at0_mem s1)).1, decide_eq_true (h _ (at0_mem (show sp.length - 1 < sp.length by omega))).2]; rfl
theorem fits_bx {ms sp : List Int} (up : sp.Pairwise (· < ·)) (h : ∀ p ∈ sp, p ∈ ms) : fitsC "Box" ms sp = true := by
  rw [fitsC_bx]
  unfold boxFits
  rw [List.all_eq_true]
  intro p hp
  rw [List.contains_iff_mem.mpr (h p hp), decide_eq_true (count_le1 up p)]; rfl
@[irreducible] def g_law_spot : FN := fun dz m q => ∃ (c0 : Cell) (ms0 : Sto) (w c : Str) (ms : List Int), dz = [.ptr 0, .str w, .lst (ms.map D.int)] ∧ (m = c0 :: ms0 ∧ BagOk c0 ∧ So w c ∧ Th c ms ∧ ∀ sp c' dn, Spot sp → fitsC c ms sp = true → BagOk c' → q (.ptr ((ms0 ++ dn).length + 1)) (c' :: (ms0 ++ dn ++ [.lst (sp.map D.int)])))
theorem ar_law_spot : ∀ ds m q, g_law_spot ds m q → ds.length = 3 := by
  unfold g_law_spot
  rintro _ m q ⟨_, _, _, _, _, rfl, _⟩; rfl
theorem i_law_spot {c0 : Cell} {ms0 : Sto} {w c : Str} {ms : List Int} {m : Sto} {q : D → Sto → Prop} (h : m = c0 :: ms0 ∧ BagOk c0 ∧ So w c ∧ Th c ms ∧ ∀ sp c' dn, Spot sp → fitsC c ms sp = true → BagOk c' → q (.ptr ((ms0 ++ dn).length + 1)) (c' :: (ms0 ++ dn ++ [.lst (sp.map D.int)]))) : g_law_spot [.ptr 0, .str w, .lst (ms.map D.int)] m q := by unfold g_law_spot; exact ⟨c0, ms0, w, c, ms, rfl, h⟩
def b_law_spot_1 : DS :=
    (dIf (dTOr (dTest (dBin dEq (dVar 1) (dC (.str "box")))) (dTest (dBin dEq (dCallB g_law_take (dCons (dVar 0) (dCons (dC (.int 2)) dNil))) (dC (.int 0))))) (dDrop (dApp (dVar 4) (dBin dIx (dVar 2) (dCallB g_law_take (dCons (dVar 0) (dCons (dCallB dLen (a1 (dVar 2))) dNil)))))) (dDrop (dApp (dVar 4) (dBin dAdd (dBin dIx (dVar 2) (dC (.int 0))) (dCallB g_law_take (dCons (dVar 0) (dCons (dBin dAdd (dBin dSub (dBin dIx (dVar 2) (dUn dNeg (dC (.int 1)))) (dBin dIx (dVar 2) (dC (.int 0)))) (dC (.int 1))) dNil)))))))
def t_law_spot : DS :=
    (dSeq (dAsg (dBin dIx (dLst (dCons (dC (.int 1)) (dCons (dC (.int 1)) (dCons (dC (.int 2)) (dCons (dC (.int 6)) dNil))))) (dCallB g_law_take (dCons (dVar 0) (dCons (dC (.int 4)) dNil)))) (gN 3))
    (dSeq (dAsg (dLstP dNil) (gN 4))
    (dSeq (dFor (dRange1 (dVar 3)) (gN 5) b_law_spot_1)
    (dSeq (dIf (dTest (dBin dEq (dVar 1) (dC (.str "box")))) (dRet (dCallB dSortSetI (a1 (dVar 4)))) dNext)
    (dRet (dCallB dSortedP (a1 (dVar 4))))))))
theorem r_law_spot (dz : List D) (m : Sto) (q : D → Sto → Prop) (hl : dz.length = 3) (h : g_law_spot dz m q) : t_law_spot { nx := fun _ m' => q .non m', rt := q } (startD N_law_spot dz) m := by
  unfold g_law_spot at h
  obtain ⟨c0, ms0, w, c, ms, rfl, h⟩ := h
  unfold t_law_spot
  obtain ⟨rfl, hc, so, th, h⟩ := h
  have mk := th.mk
  have l1 := th.l1
  have l8 := mk.h8
  have r0 := mk.rg _ (at0_mem (show 0 < ms.length by omega))
  have rl := mk.rg _ (at0_mem (show ms.length - 1 < ms.length by omega))
  have le0 := (th_in th (at0_mem (show 0 < ms.length by omega))).2
  ((conv => whnf); (repeat ((first | refine ⟨Nat.le_of_ble_eq_true rfl, ?_⟩ | refine bt ?_ | refine bf ?_); (conv => whnf))); (try (set_option simprocs false in dsimp only [])))
  refine take_at hc (by decide) (sm (k := 64) (by decide) (by decide)) fun v1 c1 lo_v1 up_v1 hc_v1 => ?_
  ((conv => whnf); (try (set_option simprocs false in dsimp only [])))
  refine onS_at (P := fun d => ∃ i : Int, d = .int i ∧ 1 ≤ i ∧ i ≤ 6) (al1 ⟨1, rfl, by decide, by decide⟩ (al1 ⟨1, rfl, by decide, by decide⟩ (al1 ⟨2, rfl, by decide, by decide⟩ (al1 ⟨6, rfl, by decide, by decide⟩ al0)))) lo_v1 up_v1 fun d hd => ?_
  obtain ⟨n, rfl, n1, n6⟩ := hd
  ((conv => whnf); (repeat ((first | refine ⟨Nat.le_of_ble_eq_true rfl, ?_⟩ | refine bt ?_ | refine bf ?_); (conv => whnf))); (try (set_option simprocs false in dsimp only [])))
  refine ⟨⟨by omega, by omega⟩, ?_⟩
  refine forD_ind (fun xs r m' => ∃ x5 ch c', r = [some (.ptr 0), some (.str w), some (.lst (ms.map D.int)), some (.int n), some (.ptr (ms0.length + 1)), x5] ∧ m' = c' :: (ms0 ++ [Cell.lst (ch.map D.int)]) ∧ BagOk c' ∧ (∀ p ∈ ch, (at0 ms 0 ≤ p ∧ p ≤ at0 ms (ms.length - 1)) ∧ ((w : Str) = "box" → p ∈ ms)) ∧ (ch.length : Int) + xs.length = n) ?_ (fun _ _ _ _ => trivial) ?_ _ _ _ ⟨none, [], c1, rfl, rfl, hc_v1, (fun _ z => nomatch z), by rw [List.length_map, List.length_range]; simp; omega⟩
  · rintro y ys r m' N ⟨x5, ch, c', rfl, rfl, hc', hin, hl⟩ kk
    rw [List.length_cons] at hl
    have add : ∀ (p : Int) c2, BagOk c2 → ((at0 ms 0 ≤ p ∧ p ≤ at0 ms (ms.length - 1)) ∧ ((w : Str) = "box" → p ∈ ms)) → N (put [some (.ptr 0), some (.str w), some (.lst (ms.map D.int)), some (.int n), some (.ptr (ms0.length + 1)), x5] 5 y) (c2 :: (ms0 ++ [Cell.lst (ch.map D.int ++ [D.int p])])) := fun p c2 hc2 hp =>
      kk _ _ ⟨_, ch ++ [p], c2, rfl, by rw [List.map_append]; rfl, hc2, fun i hi => by
        rcases List.mem_append.mp hi with z | z
        · exact hin i z
        · rw [List.mem_singleton] at z; rw [z]; exact hp, by rw [List.length_append, List.length_singleton]; omega⟩
    have cl : (ch.map D.int).length ≤ 1000000 := by rw [List.length_map]; omega
    have one : ∀ c2 bk, BagOk c2 → (dDrop (dApp (dVar 4) (dBin dIx (dVar 2) (dCallB g_law_take (dCons (dVar 0) (dCons (dCallB dLen (a1 (dVar 2))) dNil)))))) { nx := N, rt := q, ct := N, bk := bk } (put [some (.ptr 0), some (.str w), some (.lst (ms.map D.int)), some (.int n), some (.ptr (ms0.length + 1)), x5] 5 y) (c2 :: (ms0 ++ [Cell.lst (ch.map D.int)])) := fun c2 bk hc2 => by
      ((conv => whnf); (try (set_option simprocs false in dsimp only [])))
      (first | rw [lst_mid] | rw [seqL_ptr, lst_mid])
      ((conv => whnf); (try (set_option simprocs false in dsimp only [])))
      rw [List.length_map]
      refine take_at hc2 (by omega) (sm_le 10 (by omega) (by omega) |>.mono (by decide)) fun v3 c3 lo up hc3 => ?_
      obtain ⟨j, rfl⟩ : ∃ j : Nat, v3 = j := ⟨v3.toNat, by omega⟩
      have hj : j < ms.length := by omega
      ((conv => whnf); (try (set_option simprocs false in dsimp only [])))
      rw [at_i hj]
      ((conv => whnf); (try (set_option simprocs false in dsimp only [])))
      (first | rw [lst_mid] | rw [seqL_ptr, lst_mid])
      ((conv => whnf); (try (set_option simprocs false in dsimp only [])))
      refine ⟨cl, ?_⟩
      ((conv => whnf); (try (set_option simprocs false in dsimp only [])))
      rw [mid_set]
      exact add _ c3 hc3 ⟨th_in th (at0_mem hj), fun _ => at0_mem hj⟩
    unfold b_law_spot_1
    ((conv => whnf); (try (set_option simprocs false in dsimp only [])))
    refine br (fun e => ?_) (fun e => ?_)
    · refine bt ?_
      exact one c' _ hc'
    · ((conv => whnf); (try (set_option simprocs false in dsimp only [])))
      refine take_at hc' (by decide) (sm (k := 64) (by decide) (by decide)) fun v2 c2 lo_v2 up_v2 hc_v2 => ?_
      ((conv => whnf); (try (set_option simprocs false in dsimp only [])))
      refine br (fun e2 => ?_) (fun e2 => ?_)
      · exact one c2 _ hc_v2
      · ((conv => whnf); (try (set_option simprocs false in dsimp only [])))
        (first | rw [lst_mid] | rw [seqL_ptr, lst_mid])
        ((conv => whnf); (try (set_option simprocs false in dsimp only [])))
        rw [at_z (by omega)]
        ((conv => whnf); (try (set_option simprocs false in dsimp only [])))
        rw [at_l (by omega)]
        ((conv => whnf); (try (set_option simprocs false in dsimp only [])))
        rw [at_z (by omega)]
        ((conv => whnf); (try (set_option simprocs false in dsimp only [])))
        refine take_at hc_v2 (by omega) (sm_le 11 (by omega) (by omega) |>.mono (by decide)) fun v3 c3 lo up hc3 => ?_
        ((conv => whnf); (try (set_option simprocs false in dsimp only [])))
        (first | rw [lst_mid] | rw [seqL_ptr, lst_mid])
        ((conv => whnf); (try (set_option simprocs false in dsimp only [])))
        refine ⟨cl, ?_⟩
        ((conv => whnf); (try (set_option simprocs false in dsimp only [])))
        rw [mid_set]
        exact add _ c3 hc3 ⟨by omega, fun z => absurd z e⟩
  · rintro r m' ⟨x5, ch, c', rfl, rfl, hc', hin, hl⟩
    rw [List.length_nil] at hl
    ((conv => whnf); (try (set_option simprocs false in dsimp only [])))
    refine br (fun e => ?_) (fun e => ?_)
    · have ec := so.box e
      subst ec
      ((conv => whnf); (try (set_option simprocs false in dsimp only [])))
      (first | rw [lst_mid] | rw [seqL_ptr, lst_mid])
      ((conv => whnf); (try (set_option simprocs false in dsimp only [])))
      refine ⟨by rw [List.length_map]; omega, ch, intsOf_map, fun ns' p1 p2 p3 => ?_⟩
      have hin' : ∀ p ∈ ns', p ∈ ms := fun p hp => (hin p ((p2 p).mp hp)).2 e
      have n1' : 1 ≤ ns'.length := by
        cases ch with
        | nil => simp only [List.length_nil] at hl; omega
        | cons a r =>
          have := (p2 a).mpr List.mem_cons_self
          cases ns' with
          | nil => cases this
          | cons _ _ => rw [List.length_cons]; omega
      exact h ns' c' _ ⟨n1', by omega, p1.imp fun h => Int.le_of_lt h, fun i hi => mk.rg i (hin' i hi)⟩ (fits_bx p1 hin') hc'
    · have ec := so.scale e
      subst ec
      ((conv => whnf); (try (set_option simprocs false in dsimp only [])))
      (first | rw [lst_mid] | rw [seqL_ptr, lst_mid])
      ((conv => whnf); (try (set_option simprocs false in dsimp only [])))
      rw [intsOf_map]
      ((conv => whnf); (try (set_option simprocs false in dsimp only [])))
      refine fun ns' p1 p2 => ?_
      have hin' : ∀ p ∈ ns', at0 ms 0 ≤ p ∧ p ≤ at0 ms (ms.length - 1) := fun p hp => (hin p (p1.mem_iff.mp hp)).1
      have nl := p1.length_eq
      exact h ns' c' _ ⟨by omega, by omega, p2, fun i hi => by have := hin' i hi; omega⟩ (fits_sc (by omega) hin') hc'
end K29
namespace K29
open PySem PySem.Spec PyProof.Rows L2 DL
@[irreducible] def g_law_alike : FN := fun dz m q => ∃ (x y : D) (v : PyData), dz = [x, y] ∧ (PyR m x v ∧ PyR m y v ∧ Pd 60 16777216 v ∧ q (.bl true) m)
theorem ar_law_alike : ∀ ds m q, g_law_alike ds m q → ds.length = 2 := by
  unfold g_law_alike
  rintro _ m q ⟨_, _, _, rfl, _⟩; rfl
theorem i_law_alike {x y : D} {v : PyData} {m : Sto} {q : D → Sto → Prop} (h : PyR m x v ∧ PyR m y v ∧ Pd 60 16777216 v ∧ q (.bl true) m) : g_law_alike [x, y] m q := by unfold g_law_alike; exact ⟨x, y, v, rfl, h⟩
def t_law_alike : DS :=
    (dRet (dAnd (dBin dEqD (dVar 0) (dVar 1)) (dBin dEqD (dCallB dReprS (a1 (dVar 0))) (dCallB dReprS (a1 (dVar 1))))))
theorem r_law_alike (dz : List D) (m : Sto) (q : D → Sto → Prop) (hl : dz.length = 2) (h : g_law_alike dz m q) : t_law_alike { nx := fun _ m' => q .non m', rt := q } (startD N_law_alike dz) m := by
  unfold g_law_alike at h
  obtain ⟨x, y, v, rfl, h⟩ := h
  unfold t_law_alike
  obtain ⟨hx, hy, p, h⟩ := h
  have p' : Sd 60 sizeLine _ := (p.mono (Nat.le_refl _) (by rw [sizeLine_eq]; exact Nat.le_refl _)).sd
  ((conv => whnf); (try (set_option simprocs false in dsimp only [])))
  refine eqD_same hx hy p ?_
  ((conv => whnf); (try (set_option simprocs false in dsimp only [])))
  refine bt ?_
  ((conv => whnf); (try (set_option simprocs false in dsimp only [])))
  refine reprS_i hx p' ?_
  ((conv => whnf); (try (set_option simprocs false in dsimp only [])))
  refine reprS_i hy p' ?_
  ((conv => whnf); (try (set_option simprocs false in dsimp only [])))
  rw [decide_eq_true rfl]
  exact h
mutual
/-- the copy of a tree -/
def cpy : Nat → D → Option D
  | 0, _ => none
  | n + 1, .tup ds => if ds.length ≤ 1000000 then (cpyA n ds).map .tup else none
  | n + 1, .lst ds => if ds.length ≤ 1000000 then (cpyA n ds).map .lst else none
  | n + 1, .fz ds => if ds.length ≤ 1000000 then (cpyA n ds).map .lst else none
  | _ + 1, .ptr _ => none
  | _ + 1, .ty _ => none
  | _ + 1, .adr _ => none
  | _ + 1, .gl _ => none
  | _ + 1, d => some d
def cpyA : Nat → List D → Option (List D)
  | _, [] => some []
  | n, d :: ds => match cpy n d, cpyA n ds with
    | some e, some es => some (e :: es)
    | _, _ => none
end
def cpyM (n : Nat) (d : D) (m : Sto) : Option D := match n, d with
  | n + 1, .ptr i => match m[i]? with | some (.lst ds) => if ds.length ≤ 1000000 then (cpyA n ds).map .lst else none | _ => none
  | n, d => cpy n d
@[irreducible] def g_law_copy_rec (n : Nat) : FN := fun dz m q => ∃ d e, dz = [d] ∧ cpyM n d m = some e ∧ q e m
theorem i_law_copy_rec {n : Nat} {d e : D} {m : Sto} {q : D → Sto → Prop} (h : cpyM n d m = some e) (k : q e m) : g_law_copy_rec n [d] m q := by unfold g_law_copy_rec; exact ⟨d, e, rfl, h, k⟩
theorem ar_law_copy_rec (n : Nat) : ∀ ds m q, g_law_copy_rec n ds m q → ds.length = 1 := by
  unfold g_law_copy_rec
  rintro _ m q ⟨_, _, rfl, _⟩; rfl
theorem cpy_zero {d : D} : cpy 0 d = none := by cases d <;> simp only [cpy]
theorem never_law_copy : ∀ ds m q, ¬ g_law_copy_rec 0 ds m q := by
  unfold g_law_copy_rec
  rintro _ m q ⟨d, _, rfl, h, _⟩
  cases d <;> (simp only [cpyM, cpy_zero] at h; cases h)
abbrev g_law_copy : FN := g_law_copy_rec 6
def t_law_copy (gr : FN) : DS :=
    (dSeq (dIf (dTest (dIsi .list (dVar 0))) (dRet (dLc 1 (dIter (dVar 0)) dYes (dCallB gr (dCons (dVar 1) dNil)))) dNext)
    (dSeq (dIf (dTest (dIsi .tuple (dVar 0))) (dRet (dCallB dTuple (a1 (dLc 1 (dIter (dVar 0)) dYes (dCallB gr (dCons (dVar 1) dNil)))))) dNext)
    (dRet (dVar 0))))
theorem cpyA_cons {n : Nat} {d : D} {ds es : List D} (h : cpyA n (d :: ds) = some es) : ∃ e es', es = e :: es' ∧ cpy n d = some e ∧ cpyA n ds = some es' := by
  simp only [cpyA] at h
  cases h1 : cpy n d with
  | none => rw [h1] at h; simp at h
  | some e =>
    cases h2 : cpyA n ds with
    | none => rw [h1, h2] at h; simp at h
    | some es' => rw [h1, h2] at h; cases h; exact ⟨e, es', rfl, rfl, rfl⟩
theorem cpy_m {n : Nat} {d e : D} {m : Sto} (h : cpy n d = some e) : cpyM n d m = some e := by
  cases n with
  | zero => rw [cpy_zero] at h; cases h
  | succ n => cases d <;> first | exact h | (simp only [cpy] at h; cases h)
theorem copy_lc {n : Nat} {i : Nat} {r : DSt} {ok : Sto → Prop} {m : Sto} {q : List D → Sto → Prop} (hr : ∀ x, slot (put r i x) i = some x) (hok : ok m) {ds es : List D} (h : cpyA n ds = some es) (k : q es m) :
    lcI i dYes (dCallB (g_law_copy_rec n) (dCons (dVar i) dNil)) ok ds r [] m q := by
  refine lc_ind (fun xs acc m' => m' = m ∧ ∃ ys, cpyA n xs = some ys ∧ acc ++ ys = es) ?_ ?_ ?_ _ _ _ ⟨rfl, es, h, rfl⟩
  · rintro x xs acc m' N ⟨rfl, ys, h1, h2⟩ kk
    obtain ⟨e, ys', rfl, h3, h4⟩ := cpyA_cons h1
    show onS (slot (put r i x) i) _
    rw [hr]
    exact i_law_copy_rec (cpy_m h3) (kk _ _ ⟨rfl, ys', h4, by rw [List.append_assoc]; exact h2⟩)
  · rintro xs acc m' ⟨rfl, _⟩
    exact hok
  · rintro acc m' ⟨rfl, ys, h1, h2⟩
    simp only [cpyA] at h1
    cases h1
    rw [List.append_nil] at h2
    rw [h2]
    exact k
theorem r_law_copy (n : Nat) (dz : List D) (m : Sto) (q : D → Sto → Prop) (hl : dz.length = 1) (h : g_law_copy_rec (n + 1) dz m q) : t_law_copy (g_law_copy_rec n) { nx := fun _ m' => q .non m', rt := q } (startD N_law_copy dz) m := by
  unfold g_law_copy_rec at h
  obtain ⟨d, e, rfl, h, k⟩ := h
  unfold t_law_copy
  have len : ∀ {ds : List D} {f : List D → D} {e : D}, (if ds.length ≤ 1000000 then (cpyA n ds).map f else none) = some e → ds.length ≤ 1000000 ∧ ∃ es, cpyA n ds = some es ∧ f es = e := fun {ds f e} h => by
    split at h
    · rename_i hl
      simp only [Option.map_eq_some_iff] at h
      exact ⟨hl, h⟩
    · cases h
  cases d with
  | lst ds =>
    simp only [cpyM, cpy] at h
    obtain ⟨hl, es, hcp, rfl⟩ := len h
    ((conv => whnf); (repeat ((first | refine ⟨Nat.le_of_ble_eq_true rfl, ?_⟩ | refine bt ?_ | refine bf ?_); (conv => whnf))); (try (set_option simprocs false in dsimp only [])))
    exact ⟨hl, copy_lc (fun x => rfl) trivial hcp k⟩
  | fz ds =>
    simp only [cpyM, cpy] at h
    obtain ⟨hl, es, hcp, rfl⟩ := len h
    ((conv => whnf); (repeat ((first | refine ⟨Nat.le_of_ble_eq_true rfl, ?_⟩ | refine bt ?_ | refine bf ?_); (conv => whnf))); (try (set_option simprocs false in dsimp only [])))
    exact ⟨hl, copy_lc (fun x => rfl) trivial hcp k⟩
  | ptr i =>
    simp only [cpyM] at h
    cases hm : m[i]? with
    | none => simp only [hm] at h; cases h
    | some c =>
      cases c with
      | dead => simp only [hm] at h; cases h
      | exc _ _ => simp only [hm] at h; cases h
      | dic ds => simp only [hm] at h; cases h
      | ins c fs => simp only [hm] at h; cases h
      | lst ds =>
        simp only [hm] at h
        obtain ⟨hl, es, hcp, rfl⟩ := len h
        have hs : seqL (.ptr i) m = some ds := lstOf_ptr hm
        obtain ⟨o, e3, ok⟩ := items_of_seq hs
        ((conv => whnf); (repeat ((first | refine ⟨Nat.le_of_ble_eq_true rfl, ?_⟩ | refine bt ?_ | refine bf ?_); (conv => whnf))); (try (set_option simprocs false in dsimp only [])))
        rw [kd_of_seq hs]
        ((conv => whnf); (repeat ((first | refine ⟨Nat.le_of_ble_eq_true rfl, ?_⟩ | refine bt ?_ | refine bf ?_); (conv => whnf))); (try (set_option simprocs false in dsimp only [])))
        rw [e3]
        ((conv => whnf); (repeat ((first | refine ⟨Nat.le_of_ble_eq_true rfl, ?_⟩ | refine bt ?_ | refine bf ?_); (conv => whnf))); (try (set_option simprocs false in dsimp only [])))
        exact ⟨hl, copy_lc (fun x => rfl) ok hcp k⟩
  | tup ds =>
    simp only [cpyM, cpy] at h
    obtain ⟨hl, es, hcp, rfl⟩ := len h
    ((conv => whnf); (repeat ((first | refine ⟨Nat.le_of_ble_eq_true rfl, ?_⟩ | refine bt ?_ | refine bf ?_); (conv => whnf))); (try (set_option simprocs false in dsimp only [])))
    refine ⟨hl, copy_lc (fun x => rfl) trivial hcp ?_⟩
    ((conv => whnf); (repeat ((first | refine ⟨Nat.le_of_ble_eq_true rfl, ?_⟩ | refine bt ?_ | refine bf ?_); (conv => whnf))); (try (set_option simprocs false in dsimp only [])))
    exact k
  | ty n => simp only [cpyM, cpy] at h; cases h
  | adr n => simp only [cpyM, cpy] at h; cases h
  | gl n => simp only [cpyM, cpy] at h; cases h
  | dic n => simp only [cpyM, cpy] at h; cases h; ((conv => whnf); (repeat ((first | refine ⟨Nat.le_of_ble_eq_true rfl, ?_⟩ | refine bt ?_ | refine bf ?_); (conv => whnf))); (try (set_option simprocs false in dsimp only []))); exact k
  | non => simp only [cpyM, cpy] at h; cases h; ((conv => whnf); (repeat ((first | refine ⟨Nat.le_of_ble_eq_true rfl, ?_⟩ | refine bt ?_ | refine bf ?_); (conv => whnf))); (try (set_option simprocs false in dsimp only []))); exact k
  | bl b => simp only [cpyM, cpy] at h; cases h; ((conv => whnf); (repeat ((first | refine ⟨Nat.le_of_ble_eq_true rfl, ?_⟩ | refine bt ?_ | refine bf ?_); (conv => whnf))); (try (set_option simprocs false in dsimp only []))); exact k
  | int j => simp only [cpyM, cpy] at h; cases h; ((conv => whnf); (repeat ((first | refine ⟨Nat.le_of_ble_eq_true rfl, ?_⟩ | refine bt ?_ | refine bf ?_); (conv => whnf))); (try (set_option simprocs false in dsimp only []))); exact k
  | str z => simp only [cpyM, cpy] at h; cases h; ((conv => whnf); (repeat ((first | refine ⟨Nat.le_of_ble_eq_true rfl, ?_⟩ | refine bt ?_ | refine bf ?_); (conv => whnf))); (try (set_option simprocs false in dsimp only []))); exact k
/-- what copies to itself -/
theorem cpy_int {n : Nat} {i : Int} : cpy (n + 1) (.int i) = some (.int i) := by simp only [cpy]
theorem cpyA_self {n : Nat} : ∀ {ds : List D}, (∀ d ∈ ds, cpy n d = some d) → cpyA n ds = some ds
  | [], _ => by simp only [cpyA]
  | d :: ds, h => by
    simp only [cpyA, h d List.mem_cons_self, cpyA_self fun x hx => h x (List.mem_cons_of_mem _ hx)]
theorem cpy_tup {n : Nat} {ds : List D} (hl : ds.length ≤ 1000000) (h : ∀ d ∈ ds, cpy n d = some d) : cpy (n + 1) (.tup ds) = some (.tup ds) := by
  simp only [cpy, if_pos hl, cpyA_self h, Option.map_some]
theorem cpy_two {n : Nat} {x y : D} (h1 : cpy n x = some x) (h2 : cpy n y = some y) : cpy (n + 1) (.tup [x, y]) = some (.tup [x, y]) :=
  cpy_tup (Nat.le_of_ble_eq_true rfl) fun d hd => by
    simp only [List.mem_cons, List.not_mem_nil, or_false] at hd
    rcases hd with rfl | rfl
    · exact h1
    · exact h2
theorem cpy_fr {n : Nat} {t b : Int} : cpy (n + 2) (fr t b) = some (fr t b) := cpy_two cpy_int cpy_int
theorem cpyM_ptr {n i : Nat} {m : Sto} {ds : List D} (hm : m[i]? = some (.lst ds)) (hl : ds.length ≤ 1000000) (h : ∀ d ∈ ds, cpy n d = some d) : cpyM (n + 1) (.ptr i) m = some (.lst ds) := by
  simp only [cpyM, hm, if_pos hl, cpyA_self h, Option.map_some]
theorem gi {i : Int} (h0 : -(10 ^ 12) ≤ i) (h1 : i ≤ 10 ^ 12) : Gd 0 90 (.int i) := (gd_int (sm_le 41 (by omega) (by omega)) (by decide)).mono (by decide) (by decide)
theorem len_le_mul {a n b : Nat} (h : n ≤ b) : a * n + 3 ≤ a * b + 3 := Nat.add_le_add_right (Nat.mul_le_mul_left _ h) _
theorem gd_ints {ns : List Int} (h : ∀ i ∈ ns, 0 ≤ i ∧ i ≤ 1000) (hl : ns.length ≤ 8) : Gd 1 800 (.lst (ns.map D.int)) :=
  (gd_lst (k := 0) (c := 90) fun d hd => by
    obtain ⟨i, hi, rfl⟩ := List.mem_map.mp hd
    have := h i hi
    exact gi (by omega) (by omega)).mono (by decide) (by rw [List.length_map]; exact Nat.le_trans (len_le_mul hl) (by decide))
theorem gd_told : Gd 0 90 (.str "told") := ⟨.str "told", rfl, by decide +kernel, by decide +kernel, by decide +kernel, by decide +kernel⟩
end K29
namespace K29
open PySem PySem.Spec PyProof.Rows L2 DL
theorem ent_ex {ms : List Int} {p : Int} (h0 : at0 ms 0 ≤ p) (h1 : p ≤ at0 ms (ms.length - 1)) (l1 : 1 ≤ ms.length) : ∃ E, EntS ms p E := by
  have key : ∀ n j, ms.length - j = n → j < ms.length → at0 ms j ≤ p → ∃ E, EntS ms p E := by
    intro n
    induction n with
    | zero => intro j h1 h2; omega
    | succ n ih =>
      intro j hn hj hp
      by_cases e : at0 ms j = p
      · exact ⟨_, .on hj e⟩
      · by_cases h : j + 1 < ms.length
        · by_cases h2 : at0 ms (j + 1) ≤ p
          · exact ih (j + 1) (by omega) h h2
          · exact ⟨_, .off h (by omega) (by omega)⟩
        · have : j = ms.length - 1 := by omega
          rw [← this] at h1; omega
  exact key _ 0 rfl (by omega) h0
theorem ents {c : Str} {ms sp : List Int} (th : Th c ms) (sp1 : Spot sp) (hf : fitsC c ms sp = true) : ∀ p ∈ sp, ∃ E, EntS ms p E := fun p hp => by
  rcases fit_ent th sp1 hf hp with ⟨_, h0, h1⟩ | ⟨_, h⟩
  · exact ent_ex h0 h1 th.l1
  · obtain ⟨j, hj, ej⟩ := mem_at0 h
    exact ⟨_, .on hj ej⟩
theorem at0_lt {ms : List Int} (up : ms.Pairwise (· < ·)) {i j : Nat} (h : i < j) (hj : j < ms.length) : at0 ms i < at0 ms j := by
  rw [at0_eq (by omega), at0_eq hj]
  exact List.pairwise_iff_getElem.mp up i j (by omega) hj h
theorem at0_le {ms : List Int} (up : ms.Pairwise (· < ·)) {i j : Nat} (h : i ≤ j) (hj : j < ms.length) : at0 ms i ≤ at0 ms j := by
  rcases Nat.lt_or_eq_of_le h with z | z
  · exact Int.le_of_lt (at0_lt up z hj)
  · rw [z]; exact Int.le_refl _
def onI (f : Int → Bool) : D → Bool
  | .int i => f i
  | _ => false
theorem filt_map {f : Int → Bool} : ∀ ns : List Int, ((ns.map D.int).filter (onI f)).map id = (ns.filter f).map D.int
  | [] => rfl
  | n :: ns => by
    rw [List.map_cons, List.filter_cons, List.filter_cons]
    show (if f n = true then _ else _ : List D).map id = _
    by_cases h : f n = true
    · rw [if_pos h, if_pos h, List.map_cons, filt_map ns]; rfl
    · rw [if_neg h, if_neg h, filt_map ns]
theorem filt_nil {f : Int → Bool} (ns : List Int) : (((ns.map D.int).filter (onI f)).map id).isEmpty = !ns.any f := by
  rw [filt_map, List.isEmpty_map]
  induction ns with
  | nil => rfl
  | cons n ns ih =>
    rw [List.filter_cons, List.any_cons]
    by_cases h : f n = true
    · rw [if_pos h, h]; rfl
    · rw [if_neg h, ih, show f n = false by simpa using h]; rfl
theorem lc_sel {i : Nat} {tt : DT} {te : DE} {ok : Sto → Prop} {r : DSt} {q : List D → Sto → Prop} {ds : List D} {m : Sto} (f : D → Bool) (g : D → D) (ht : ∀ x ∈ ds, ∀ N : Bool → Sto → Prop, N (f x) m → tt (put r i x) m N) (he : ∀ x ∈ ds, f x = true → ∀ N : D → Sto → Prop, N (g x) m → te (put r i x) m N) (hok : ok m) (k : q ((ds.filter f).map g) m) : lcI i tt te ok ds r [] m q := by
  refine lc_indT (fun xs acc m' => m' = m ∧ (∀ x ∈ xs, x ∈ ds) ∧ acc ++ (xs.filter f).map g = (ds.filter f).map g) ?_ ?_ ?_ _ _ _ ⟨rfl, fun _ h => h, rfl⟩
  · rintro x xs acc m' N N0 ⟨rfl, hx, e⟩ k1 k2
    refine ht x (hx x List.mem_cons_self) _ ?_
    have hx' : ∀ y ∈ xs, y ∈ ds := fun y hy => hx y (List.mem_cons_of_mem _ hy)
    refine ⟨fun z => he x (hx x List.mem_cons_self) z _ (k1 _ _ ⟨rfl, hx', ?_⟩), fun z => k2 _ ⟨rfl, hx', ?_⟩⟩
    · rw [List.filter_cons_of_pos z] at e
      rw [List.append_assoc]; exact e
    · rw [List.filter_cons_of_neg (by rw [z]; exact Bool.false_ne_true)] at e
      exact e
  · rintro xs acc m' ⟨rfl, _⟩
    exact hok
  · rintro acc m' ⟨rfl, _, e⟩
    rw [List.filter_nil, List.map_nil, List.append_nil] at e
    rw [e]
    exact k
end K29
namespace K29
open PySem PySem.Spec PyProof.Rows L2 DL
/-- a thing as the law keeps it -/
abbrev plainD (w : Str) (ms : List Int) : D := .dic [(.inr "sort", .str w), (.inr "marks", .lst (ms.map D.int))]
def b_law_mix_1 : DS :=
    (dDPut (dVar 2) (dVar 7) (dCallB g_law_plus (dCons (dDGet2 (dVar 2) (dVar 7) (dTup (dCons (dC (.int 0)) (dCons (dC (.int 1)) dNil)))) (dCons (dVar 9) dNil))))
def c_law_mix_2 : DS :=
    (dFor (dIter (dVar 5)) (gT 2 (gsC (gN 7) (gsC (gN 9) gsN))) b_law_mix_1)
def b_law_mix_3 : DS :=
    (dSeq (dAsg (dLst (dCons (dTup (dCons (dVar 4) (dCons (dTup (dCons (dC (.int 1)) (dCons (dC (.int 1)) dNil))) dNil))) dNil)) (gN 5))
    (dSeq (dIf (dTest (dBin (dInG true) (dVar 4) (dVar 3))) (dSeq (dAsg (dCallB dMaxL (a1 (dLc 7 (dIter (dVar 3)) (dTest (dBin dLt (dVar 7) (dVar 4))) (dVar 7)))) (gN 6))
    (dSeq (dAsg (dCallB dMinL (a1 (dLc 7 (dIter (dVar 3)) (dTest (dBin dGt (dVar 7) (dVar 4))) (dVar 7)))) (gN 8))
    (dAsg (dLst (dCons (dTup (dCons (dVar 6) (dCons (dCallB g_law_low (dCons (dBin dSub (dVar 8) (dVar 4)) (dCons (dBin dSub (dVar 8) (dVar 6)) dNil))) dNil))) (dCons (dTup (dCons (dVar 8) (dCons (dCallB g_law_low (dCons (dBin dSub (dVar 4) (dVar 6)) (dCons (dBin dSub (dVar 8) (dVar 6)) dNil))) dNil))) dNil))) (gN 5)))) dNext)
    c_law_mix_2))
def e_law_mix_4 : DE :=
    (dTup (dCons (dVar 7) (dCons (dDIx (dVar 2) (dVar 7)) dNil)))
def t_law_mix : DS :=
    (dSeq (dAsg dDicP (gN 2))
    (dSeq (dAsg (dDIx (dVar 0) (dC (.str "marks"))) (gN 3))
    (dSeq (dFor (dIter (dVar 1)) (gN 4) b_law_mix_3)
    (dRet (dLc 7 (dIter (dCallB dSortedD (a1 (dVar 2)))) dYes e_law_mix_4)))))
abbrev MX (w : Str) (ms : List Int) (x : D) (k : Nat) (x4 x5 x6 x7 x8 x9 : Option D) : DSt := [some (plainD w ms), some x, some (.ptr k), some (.lst (ms.map D.int)), x4, x5, x6, x7, x8, x9]
theorem mix_2 {w : Str} {ms : List Int} {x : D} {m : Sto} {E : DEnds} {p : Int} {ds : List (L2.Key × D)} {f : Nat → Rat} {n : Nat} {T : List (Nat × Rat)} (mk : Marks 1 ms) (hE : EntS ms p T) (hD : DicI ms ds f n) (hn : n ≤ 10) {x4 x6 x7 x8 x9 : Option D}
    (k : ∀ ds1 x7 x9, DicI ms ds1 (updE f T) (n + T.length) → E.nx (MX w ms x m.length x4 (some (.lst (T.map (entD ms)))) x6 x7 x8 x9) (m ++ [Cell.dic ds1])) :
    c_law_mix_2 E (MX w ms x m.length x4 (some (.lst (T.map (entD ms)))) x6 x7 x8 x9) (m ++ [Cell.dic ds]) := by
  have up := mk.up
  have l8 := mk.h8
  obtain ⟨e2, eE⟩ := ent_ok hE mk.rg
  unfold c_law_mix_2
  ((conv => whnf); (try (set_option simprocs false in dsimp only [])))
  refine forD_ind (fun xs r m' => ∃ x7 x9 E1 ds1 f1 n1, xs = E1.map (entD ms) ∧ r = MX w ms x m.length x4 (some (.lst (T.map (entD ms)))) x6 x7 x8 x9 ∧ m' = m ++ [Cell.dic ds1] ∧ DicI ms ds1 f1 n1 ∧ updE f1 E1 = updE f T ∧ n1 + E1.length = n + T.length ∧ ∀ e ∈ E1, e.1 < ms.length ∧ 0 < e.2 ∧ QS 11 e.2) ?_ (fun _ _ _ _ => trivial) ?_ _ _ _ ⟨x7, x9, T, ds, f, _, rfl, rfl, rfl, hD, rfl, rfl, eE⟩
  · rintro y ys r m' N2 ⟨x7, x9, E1, ds1, f1, n1, hx, rfl, rfl, hD1, hu, hn1, hE1⟩ k2
    cases E1 with
    | nil => cases hx
    | cons en E1 =>
      cases hx
      obtain ⟨j, wt⟩ := en
      obtain ⟨hj, hw, hq⟩ := hE1 _ List.mem_cons_self
      simp only [List.length_cons] at hn1
      have gj : (valD (Sum.inl (at0 ms j)) ds1).getD (D.tup [D.int 0, D.int 1]) = frQ (f1 j) := hD1.get hj
      unfold b_law_mix_1
      ((conv => whnf); (try (set_option simprocs false in dsimp only [])))
      refine ⟨rfl, ?_⟩
      ((conv => whnf); (try (set_option simprocs false in dsimp only [])))
      rw [dic_end]
      ((conv => whnf); (repeat ((first | refine ⟨Nat.le_of_ble_eq_true rfl, ?_⟩ | refine bt ?_ | refine bf ?_); (conv => whnf))); (try (set_option simprocs false in dsimp only [])))
      rw [dic_end]
      ((conv => whnf); (try (set_option simprocs false in dsimp only [])))
      rw [gj]
      refine lplusQ ((hD1.sz j).mono (by omega)) (hq.mono (by decide)) ?_
      ((conv => whnf); (try (set_option simprocs false in dsimp only [])))
      rw [dic_end]
      ((conv => whnf); (try (set_option simprocs false in dsimp only [])))
      refine ⟨by have := hD1.ln; omega, ?_⟩
      rw [set_end]
      exact k2 _ _ ⟨_, _, E1, _, _, n1 + 1, rfl, rfl, rfl, hD1.put up hj hw hq, hu, by omega, fun e he => hE1 e (List.mem_cons_of_mem _ he)⟩
  · rintro r m' ⟨x7, x9, E1, ds1, f1, n1, hx, rfl, rfl, hD1, hu, hn1, hE1⟩
    cases E1 with
    | cons en E1 => cases hx
    | nil =>
      have hu : f1 = updE f T := hu
      simp only [List.length_nil] at hn1
      subst hu
      exact k _ _ _ (by rw [← hn1]; exact hD1)
theorem mix_3 {w : Str} {ms : List Int} {x : D} {m : Sto} {E : DEnds} {p : Int} {ds : List (L2.Key × D)} {f : Nat → Rat} {n : Nat} {T : List (Nat × Rat)} (mk : Marks 1 ms) (hE : EntS ms p T) (hD : DicI ms ds f n) (hn : n ≤ 10) {x5 x6 x7 x8 x9 : Option D}
    (k : ∀ ds1 x5 x6 x7 x8 x9, DicI ms ds1 (updE f T) (n + T.length) → E.nx (MX w ms x m.length (some (.int p)) x5 x6 x7 x8 x9) (m ++ [Cell.dic ds1])) :
    b_law_mix_3 E (MX w ms x m.length (some (.int p)) x5 x6 x7 x8 x9) (m ++ [Cell.dic ds]) := by
  have up := mk.up
  have l8 := mk.h8
  unfold b_law_mix_3
  ((conv => whnf); (repeat ((first | refine ⟨Nat.le_of_ble_eq_true rfl, ?_⟩ | refine bt ?_ | refine bf ?_); (conv => whnf))); (try (set_option simprocs false in dsimp only [])))
  refine notin_ints (y := .lst (ms.map D.int)) (ns := ms) rfl ?_
  cases hE with
  | @on j hj ej =>
    rw [List.contains_iff_mem.mpr (show p ∈ ms by rw [← ej]; exact at0_mem hj)]
    refine bf ?_
    have := mix_2 (w := w) (x := x) (m := m) (E := E) (x4 := some (.int p)) (x6 := x6) (x7 := x7) (x8 := x8) (x9 := x9) mk (.on hj ej) hD hn fun ds1 x7 x9 h => k _ _ _ _ _ _ h
    rw [show ([(j, (1 : Rat))] : List (Nat × Rat)).map (entD ms) = [.tup [.int p, .tup [.int 1, .int 1]]] by rw [List.map_cons, List.map_nil]; show [D.tup [.int (at0 ms j), _]] = _; rw [ej]; rfl] at this
    exact this
  | @off a ha h1 h2 =>
    have np : ms.contains p = false := by
      cases z : ms.contains p with
      | false => rfl
      | true =>
        obtain ⟨j, hj, ej⟩ := mem_at0 (List.contains_iff_mem.mp z)
        rcases Nat.lt_or_ge a j with y | y
        · have := at0_le up (i := a + 1) y hj; omega
        · have := at0_le up y (by omega : a < ms.length); omega
    have ra := mk.rg _ (at0_mem (show a < ms.length by omega))
    have rb := mk.rg _ (at0_mem ha)
    have sb : Sm 8900 (at0 ms (a + 1) - at0 ms a) := (sm_le 11 (by omega) (by omega)).mono (by decide)
    rw [np]
    refine bt ?_
    ((conv => whnf); (try (set_option simprocs false in dsimp only [])))
    refine ⟨by rw [List.length_map]; omega, ?_⟩
    refine lc_sel (onI fun k => decide (k < p)) id (fun y hy N hN => ?_) (fun y hy _ N hN => ?_) trivial ?_
    · obtain ⟨i, _, rfl⟩ := List.mem_map.mp hy
      exact hN
    · obtain ⟨i, _, rfl⟩ := List.mem_map.mp hy
      exact hN
    rw [filt_map]
    ((conv => whnf); (try (set_option simprocs false in dsimp only [])))
    rw [intsOf_map]
    ((conv => whnf); (try (set_option simprocs false in dsimp only [])))
    have ma : at0 ms a ∈ ms.filter fun k => decide (k < p) := List.mem_filter.mpr ⟨at0_mem (by omega), decide_eq_true h1⟩
    have mb : at0 ms (a + 1) ∈ ms.filter fun k => decide (k > p) := List.mem_filter.mpr ⟨at0_mem ha, decide_eq_true h2⟩
    refine ⟨List.length_pos_of_mem ma, fun lo hlo hmx => ?_⟩
    have el : lo = at0 ms a := by
      have := hmx _ ma
      obtain ⟨i1, i2⟩ := List.mem_filter.mp hlo
      have i2 := of_decide_eq_true i2
      obtain ⟨i, hi, ei⟩ := mem_at0 i1
      rcases Nat.lt_or_ge a i with y | y
      · have := at0_le up (i := a + 1) y hi; omega
      · have := at0_le up y (by omega : a < ms.length); omega
    subst el
    ((conv => whnf); (try (set_option simprocs false in dsimp only [])))
    refine ⟨by rw [List.length_map]; omega, ?_⟩
    refine lc_sel (onI fun k => decide (k > p)) id (fun y hy N hN => ?_) (fun y hy _ N hN => ?_) trivial ?_
    · obtain ⟨i, _, rfl⟩ := List.mem_map.mp hy
      exact hN
    · obtain ⟨i, _, rfl⟩ := List.mem_map.mp hy
      exact hN
    rw [filt_map]
    ((conv => whnf); (try (set_option simprocs false in dsimp only [])))
    rw [intsOf_map]
    ((conv => whnf); (try (set_option simprocs false in dsimp only [])))
    refine ⟨List.length_pos_of_mem mb, fun hi hhi hmn => ?_⟩
    have eh : hi = at0 ms (a + 1) := by
      have := hmn _ mb
      obtain ⟨i1, i2⟩ := List.mem_filter.mp hhi
      have i2 := of_decide_eq_true i2
      obtain ⟨i, hi', ei⟩ := mem_at0 i1
      rcases Nat.lt_or_ge a i with y | y
      · have := at0_le up (i := a + 1) y hi'; omega
      · have := at0_le up y (by omega : a < ms.length); omega
    subst eh
    ((conv => whnf); (try (set_option simprocs false in dsimp only [])))
    refine i_law_low ⟨by omega, sb, ?_⟩
    ((conv => whnf); (repeat ((first | refine ⟨Nat.le_of_ble_eq_true rfl, ?_⟩ | refine bt ?_ | refine bf ?_); (conv => whnf))); (try (set_option simprocs false in dsimp only [])))
    refine i_law_low ⟨by omega, sb, ?_⟩
    ((conv => whnf); (repeat ((first | refine ⟨Nat.le_of_ble_eq_true rfl, ?_⟩ | refine bt ?_ | refine bf ?_); (conv => whnf))); (try (set_option simprocs false in dsimp only [])))
    rw [fr_low (x := dv (at0 ms (a + 1) - p) (at0 ms (a + 1) - at0 ms a)) (by omega) rfl, fr_low (x := dv (p - at0 ms a) (at0 ms (a + 1) - at0 ms a)) (by omega) rfl]
    exact mix_2 mk (.off ha h1 h2) hD hn fun ds1 x7 x9 h => k _ _ _ _ _ _ h
@[irreducible] def g_law_mix : FN := fun dz m q => ∃ (w c : Str) (ms sp : List Int) (x : D), dz = [plainD w ms, x] ∧ (Th c ms ∧ seqL x m = some (sp.map D.int) ∧ Spot sp ∧ fitsC c ms sp = true ∧ ∀ dn f, MixF ms sp f → q (.lst (mixD ms f)) (m ++ dn))
theorem ar_law_mix : ∀ ds m q, g_law_mix ds m q → ds.length = 2 := by
  unfold g_law_mix
  rintro _ m q ⟨_, _, _, _, _, rfl, _⟩; rfl
theorem i_law_mix {w c : Str} {ms sp : List Int} {x : D} {m : Sto} {q : D → Sto → Prop} (h : Th c ms ∧ seqL x m = some (sp.map D.int) ∧ Spot sp ∧ fitsC c ms sp = true ∧ ∀ dn f, MixF ms sp f → q (.lst (mixD ms f)) (m ++ dn)) : g_law_mix [plainD w ms, x] m q := by unfold g_law_mix; exact ⟨w, c, ms, sp, x, rfl, h⟩
theorem r_law_mix (dz : List D) (m : Sto) (q : D → Sto → Prop) (hl : dz.length = 2) (h : g_law_mix dz m q) : t_law_mix { nx := fun _ m' => q .non m', rt := q } (startD N_law_mix dz) m := by
  unfold g_law_mix at h
  obtain ⟨w, c, ms, sp, x, rfl, h⟩ := h
  unfold t_law_mix
  obtain ⟨th, e, sp1, bf1, hy⟩ := h
  have mk := th.mk
  have up := mk.up
  have l8 := mk.h8
  have ht := ents th sp1 bf1
  obtain ⟨o, hit⟩ := items_app e
  ((conv => whnf); (try (set_option simprocs false in dsimp only [])))
  rw [(hit _).1]
  ((conv => whnf); (try (set_option simprocs false in dsimp only [])))
  refine forD_ind (fun xs r m' => ∃ x4 x5 x6 x7 x8 x9 done rest ds f, r = MX w ms x m.length x4 x5 x6 x7 x8 x9 ∧ m' = m ++ [Cell.dic ds] ∧ xs = rest.map D.int ∧ sp = done ++ rest ∧ DicI ms ds f (2 * done.length) ∧ (∀ i, i < ms.length → f i = addQ (shr ms) done i) ∧ sumQ f ms.length = ((done.length : Int) : Rat)) ?_ (fun _ _ m' ⟨_, _, _, _, _, _, _, _, _, _, _, e, _⟩ => e ▸ (hit _).2) ?_ _ _ _ ⟨none, none, none, none, none, none, [], sp, [], fun _ => 0, rfl, rfl, rfl, rfl, dicI_nil, fun _ _ => rfl, sumQ_zero⟩
  · rintro y ys r m' N ⟨x4, x5, x6, x7, x8, x9, done, rest, ds, f, rfl, rfl, hxs, hsp, hD, hf, hs⟩ kk
    cases rest with
    | nil => cases hxs
    | cons p rest =>
      cases hxs
      obtain ⟨T, hE⟩ := ht p (by rw [hsp]; exact List.mem_append_right _ List.mem_cons_self)
      have d6 : done.length ≤ 5 := by
        have := sp1.h6
        rw [hsp, List.length_append, List.length_cons] at this
        omega
      refine mix_3 mk hE hD (by omega) fun ds1 x5 x6 x7 x8 x9 hD1 => ?_
      have t2 := (ent_ok hE mk.rg).1
      have dl : (done ++ [p]).length = done.length + 1 := by rw [List.length_append, List.length_singleton]
      refine kk _ _ ⟨_, _, _, _, _, _, done ++ [p], rest, ds1, updE f T, rfl, rfl, rfl, by rw [hsp, List.append_assoc]; rfl, ⟨hD1.val, hD1.ks, hD1.nn, fun i => (hD1.sz i).mono (by rw [dl]; omega), by have := hD1.ln; rw [dl]; omega⟩, fun i hi => ?_, ?_⟩
      · rw [updE_at, addQ_snoc, hf i hi, shr_acc hE up hi]
      · rw [updE_sum hE, hs, dl, show ((done.length + 1 : Nat) : Int) = (done.length : Int) + 1 by omega, Rat.intCast_add]; rfl
  · rintro r m' ⟨x4, x5, x6, x7, x8, x9, done, rest, ds, f, rfl, rfl, hxs, hsp, hD, hf, hs⟩
    cases rest with
    | cons p rest => cases hxs
    | nil =>
      rw [List.append_nil] at hsp
      subst hsp
      have s6 := sp1.h6
      obtain ⟨ks, ek, -, -⟩ := hD.ks
      have kl := keysI_len ek
      have ln := hD.ln
      ((conv => whnf); (try (set_option simprocs false in dsimp only [])))
      rw [dic_end]
      ((conv => whnf); (try (set_option simprocs false in dsimp only [])))
      rw [ek]
      ((conv => whnf); (try (set_option simprocs false in dsimp only [])))
      refine ⟨by omega, fun ns' p1 p2 => ?_⟩
      have nl := p1.length_eq
      have en := hD.sorted up ek p1 p2
      ((conv => whnf); (try (set_option simprocs false in dsimp only [])))
      refine ⟨by rw [List.length_map]; omega, ?_⟩
      refine lc_map (fun d => match d with | .int k => .tup [.int k, (valD (.inl k) ds).getD .non] | d => d) ?_ ?_ ?_
      · intro y hy N hN
        obtain ⟨k, hk, rfl⟩ := List.mem_map.mp hy
        rw [en, List.mem_map] at hk
        obtain ⟨j, hj, rfl⟩ := hk
        obtain ⟨j1, j2⟩ := posI_mem.mp hj
        have hv := hD.val j j1
        rw [if_pos j2] at hv
        have hN' : N (.tup [.int (at0 ms j), frQ (f j)]) (m ++ [Cell.dic ds]) := by
          have : (valD (Sum.inl (at0 ms j)) ds).getD D.non = frQ (f j) := by rw [hv]; rfl
          rw [← this]; exact hN
        unfold e_law_mix_4
        ((conv => whnf); (try (set_option simprocs false in dsimp only [])))
        rw [dic_end]
        ((conv => whnf); (try (set_option simprocs false in dsimp only [])))
        rw [hv]
        ((conv => whnf); (repeat ((first | refine ⟨Nat.le_of_ble_eq_true rfl, ?_⟩ | refine bt ?_ | refine bf ?_); (conv => whnf))); (try (set_option simprocs false in dsimp only [])))
        exact hN'
      · trivial
      · ((conv => whnf); (try (set_option simprocs false in dsimp only [])))
        have em : (ns'.map D.int).map (fun d => match d with | .int k => .tup [.int k, (valD (.inl k) ds).getD .non] | d => d) = mixD ms f := by
          rw [en, List.map_map, List.map_map]
          refine List.map_congr_left fun j hj => ?_
          obtain ⟨j1, j2⟩ := posI_mem.mp hj
          have hv := hD.val j j1
          rw [if_pos j2] at hv
          show D.tup [.int (at0 ms j), (valD (.inl (at0 ms j)) ds).getD .non] = _
          rw [hv]; rfl
        rw [em]
        exact hy _ f ⟨hf, hD.nn, hs, fun i => (hD.sz i).mono (by omega)⟩
end K29
namespace K29
open PySem PySem.Spec PyProof.Rows L2 DL
theorem sc_all {ms sp : List Int} (s : Spot sp) : scFits ms sp = sp.all fun p => decide (at0 ms 0 ≤ p) && decide (p ≤ at0 ms (ms.length - 1)) := by
  have s1 := s.h1
  rw [Bool.eq_iff_iff, List.all_eq_true]
  unfold scFits
  rw [Bool.and_eq_true, decide_eq_true_eq, decide_eq_true_eq]
  constructor
  · rintro ⟨h1, h2⟩ p hp
    have := sp_between s.up hp
    rw [Bool.and_eq_true, decide_eq_true_eq, decide_eq_true_eq]
    omega
  · intro h
    have a := h _ (at0_mem (show 0 < sp.length by omega))
    have b := h _ (at0_mem (show sp.length - 1 < sp.length by omega))
    rw [Bool.and_eq_true, decide_eq_true_eq, decide_eq_true_eq] at a b
    exact ⟨a.1, b.2⟩
@[irreducible] def g_law_fits : FN := fun dz m q => ∃ (w c : Str) (ms sp : List Int) (x : D), dz = [plainD w ms, x] ∧ (So w c ∧ Th c ms ∧ seqL x m = some (sp.map D.int) ∧ Spot sp ∧ q (.bl (fitsC c ms sp)) m)
theorem ar_law_fits : ∀ ds m q, g_law_fits ds m q → ds.length = 2 := by
  unfold g_law_fits
  rintro _ m q ⟨_, _, _, _, _, rfl, _⟩; rfl
theorem i_law_fits {w c : Str} {ms sp : List Int} {x : D} {m : Sto} {q : D → Sto → Prop} (h : So w c ∧ Th c ms ∧ seqL x m = some (sp.map D.int) ∧ Spot sp ∧ q (.bl (fitsC c ms sp)) m) : g_law_fits [plainD w ms, x] m q := by unfold g_law_fits; exact ⟨w, c, ms, sp, x, rfl, h⟩
def t_law_fits : DS :=
    (dSeq (dAsg (dDIx (dVar 0) (dC (.str "marks"))) (gN 2))
    (dSeq (dIf (dTest (dBin dEq (dDIx (dVar 0) (dC (.str "sort"))) (dC (.str "box")))) (dRet (dBin dEqNil (dLc 3 (dIter (dVar 1)) (dTOr (dTest (dBin (dInG true) (dVar 3) (dVar 2))) (dTest (dBin dGt (dCount (dVar 1) (dVar 3)) (dC (.int 1))))) (dVar 3)) (dLst dNil))) dNext)
    (dRet (dBin dEqNil (dLc 3 (dIter (dVar 1)) (dTOr (dTest (dBin dLt (dVar 3) (dBin dIx (dVar 2) (dC (.int 0))))) (dTest (dBin dGt (dVar 3) (dBin dIx (dVar 2) (dUn dNeg (dC (.int 1))))))) (dVar 3)) (dLst dNil)))))
theorem r_law_fits (dz : List D) (m : Sto) (q : D → Sto → Prop) (hl : dz.length = 2) (h : g_law_fits dz m q) : t_law_fits { nx := fun _ m' => q .non m', rt := q } (startD N_law_fits dz) m := by
  unfold g_law_fits at h
  obtain ⟨w, c, ms, sp, x, rfl, h⟩ := h
  unfold t_law_fits
  obtain ⟨so, th, e, sp1, h⟩ := h
  have l6 := sp1.h6
  have m1 := th.l1
  obtain ⟨o, hit⟩ := items_app e
  obtain ⟨it, ok⟩ := hit []
  rw [List.append_nil] at it ok
  have fin : ∀ (tt : DT) (r : DSt) (f : Int → Bool), (∀ (p : Int) (N : Bool → Sto → Prop), N (f p) m → tt (put r 3 (.int p)) m N) → (∀ (p : Int) (N : D → Sto → Prop), N (.int p) m → dVar 3 (put r 3 (.int p)) m N) → (!sp.any f) = fitsC c ms sp → lcI 3 tt (dVar 3) (okP o) (sp.map D.int) r [] m fun acc m1 => dLst dNil r m1 fun y m2 => dEqNil (.lst acc) y m2 q := fun tt r f ht he e => by
    refine lc_sel (onI f) id (fun x hx N hN => ?_) (fun x hx _ N hN => ?_) ok ?_
    · obtain ⟨p, _, rfl⟩ := List.mem_map.mp hx
      exact ht p N hN
    · obtain ⟨p, _, rfl⟩ := List.mem_map.mp hx
      exact he p N hN
    · ((conv => whnf); (repeat ((first | refine ⟨Nat.le_of_ble_eq_true rfl, ?_⟩ | refine bt ?_ | refine bf ?_); (conv => whnf))); (try (set_option simprocs false in dsimp only [])))
      refine eqNil_i rfl ?_
      rw [filt_nil, e]
      exact h
  cases so with
  | sc =>
    ((conv => whnf); (repeat ((first | refine ⟨Nat.le_of_ble_eq_true rfl, ?_⟩ | refine bt ?_ | refine bf ?_); (conv => whnf))); (try (set_option simprocs false in dsimp only [])))
    rw [it]
    ((conv => whnf); (try (set_option simprocs false in dsimp only [])))
    refine ⟨by rw [List.length_map]; omega, ?_⟩
    refine fin _ _ (fun p => !(decide (at0 ms 0 ≤ p) && decide (p ≤ at0 ms (ms.length - 1)))) (fun p N hN => ?_) (fun p N hN => ?_) ?_
    · ((conv => whnf); (try (set_option simprocs false in dsimp only [])))
      rw [at_z m1]
      ((conv => whnf); (try (set_option simprocs false in dsimp only [])))
      refine br (fun z => ?_) (fun z => ?_)
      · have e2 : (!(decide (at0 ms 0 ≤ p) && decide (p ≤ at0 ms (ms.length - 1)))) = true := by rw [decide_eq_false (by have z : p < at0 ms 0 := z; omega)]; rfl
        rw [e2] at hN
        exact hN
      · ((conv => whnf); (try (set_option simprocs false in dsimp only [])))
        rw [at_l m1]
        ((conv => whnf); (try (set_option simprocs false in dsimp only [])))
        have z : ¬ p < at0 ms 0 := z
        have e2 : (!(decide (at0 ms 0 ≤ p) && decide (p ≤ at0 ms (ms.length - 1)))) = decide (p > at0 ms (ms.length - 1)) := by
          rw [decide_eq_true (show at0 ms 0 ≤ p by omega), Bool.true_and, ← decide_not]
          exact decide_eq_decide.mpr (by omega)
        rw [e2] at hN
        exact hN
    · exact hN
    · rw [fitsC_sc, sc_all sp1, List.not_any_eq_all_not]
      congr 1
      funext p
      rw [Bool.not_not]
  | bx =>
    ((conv => whnf); (repeat ((first | refine ⟨Nat.le_of_ble_eq_true rfl, ?_⟩ | refine bt ?_ | refine bf ?_); (conv => whnf))); (try (set_option simprocs false in dsimp only [])))
    rw [it]
    ((conv => whnf); (try (set_option simprocs false in dsimp only [])))
    refine ⟨by rw [List.length_map]; omega, ?_⟩
    refine fin _ _ (fun p => !(ms.contains p && decide (sp.count p ≤ 1))) (fun p N hN => ?_) (fun p N hN => ?_) ?_
    · ((conv => whnf); (try (set_option simprocs false in dsimp only [])))
      refine notin_ints rfl ?_
      have cnt : ms.contains p = true → decide ((sp.count p : Int) > 1) = !(ms.contains p && decide (sp.count p ≤ 1)) := fun z => by
        rw [z, Bool.true_and, ← decide_not]
        exact decide_eq_decide.mpr (by omega)
      cases e3 : ms.contains p with
      | false =>
        refine bt ?_
        rw [e3] at hN
        exact hN
      | true =>
        refine bf ?_
        ((conv => whnf); (try (set_option simprocs false in dsimp only [])))
        rw [e]
        ((conv => whnf); (try (set_option simprocs false in dsimp only [])))
        rw [e]
        ((conv => whnf); (try (set_option simprocs false in dsimp only [])))
        rw [intsOf_map]
        ((conv => whnf); (try (set_option simprocs false in dsimp only [])))
        rw [← cnt e3] at hN
        exact hN
    · exact hN
    · rw [fitsC_bx]
      unfold boxFits
      rw [List.not_any_eq_all_not]
      congr 1
      funext p
      rw [Bool.not_not]
end K29
namespace K29
open PySem PySem.Spec PyProof.Rows L2 DL
@[irreducible] def g_law_made : FN := fun dz m q => ∃ (w c : Str) (ms : List Int) (x : D) (way : Int), dz = [.str w, x, .int way] ∧ (So w c ∧ Th c ms ∧ seqL x m = some (ms.map D.int) ∧ q (.ptr m.length) (m ++ [.ins c [("told_marks", .lst (ms.map D.int))]]))
theorem ar_law_made : ∀ ds m q, g_law_made ds m q → ds.length = 3 := by
  unfold g_law_made
  rintro _ m q ⟨_, _, _, _, _, rfl, _⟩; rfl
theorem i_law_made {w c : Str} {ms : List Int} {x : D} {way : Int} {m : Sto} {q : D → Sto → Prop} (h : So w c ∧ Th c ms ∧ seqL x m = some (ms.map D.int) ∧ q (.ptr m.length) (m ++ [.ins c [("told_marks", .lst (ms.map D.int))]])) : g_law_made [.str w, x, .int way] m q := by unfold g_law_made; exact ⟨w, c, ms, x, way, rfl, h⟩
def t_law_made : DS :=
    (dSeq (dIf (dTest (dBin dEq (dVar 2) (dC (.int 0)))) (dRet (dCallB g_marks_of (dCons (dVar 0) (dCons (dVar 1) dNil)))) dNext)
    (dSeq (dIf (dTest (dBin dEq (dVar 0) (dC (.str "box")))) (dRet (dMakeX (FN.toX g_Box___init) "Box" noW (dCons (dVar 1) dNil))) dNext)
    (dRet (dMakeX (FN.toX g_Scale___init) "Scale" noW (dCons (dVar 1) dNil)))))
theorem r_law_made (dz : List D) (m : Sto) (q : D → Sto → Prop) (hl : dz.length = 3) (h : g_law_made dz m q) : t_law_made { nx := fun _ m' => q .non m', rt := q } (startD N_law_made dz) m := by
  unfold g_law_made at h
  obtain ⟨w, c, ms, x, way, rfl, h⟩ := h
  unfold t_law_made
  obtain ⟨so, th, e, h⟩ := h
  ((conv => whnf); (try (set_option simprocs false in dsimp only [])))
  refine br (fun _ => ?_) (fun _ => ?_)
  · ((conv => whnf); (try (set_option simprocs false in dsimp only [])))
    exact i_marks_of ⟨so, th, e, h⟩
  cases so with
  | sc =>
    cases th with
    | sc mk =>
      ((conv => whnf); (repeat ((first | refine ⟨Nat.le_of_ble_eq_true rfl, ?_⟩ | refine bt ?_ | refine bf ?_); (conv => whnf))); (try (set_option simprocs false in dsimp only [])))
      refine i_Scale___init ⟨by simp, seqL_app e, mk, rfl, ?_⟩
      rw [set_end]
      exact h
  | bx =>
    cases th with
    | bx mk =>
      ((conv => whnf); (repeat ((first | refine ⟨Nat.le_of_ble_eq_true rfl, ?_⟩ | refine bt ?_ | refine bf ?_); (conv => whnf))); (try (set_option simprocs false in dsimp only [])))
      refine i_Box___init ⟨by simp, seqL_app e, mk, rfl, ?_⟩
      rw [set_end]
      exact h
end K29
namespace K29
open PySem PySem.Spec PyProof.Rows L2 DL
@[irreducible] def g_law_put : FN := fun dz m q => ∃ (c : Cell) (ms : Sto) (a : Nat) (ds : List D) (x : D), dz = [.ptr 0, .ptr (a + 1), x] ∧ (m = c :: ms ∧ BagOk c ∧ ms[a]? = some (.lst ds) ∧ ds.length ≤ 1000 ∧ ∀ c' ds', BagOk c' → ds'.length ≤ ds.length + 1 → q .non (c' :: ms.set a (.lst ds')))
theorem ar_law_put : ∀ ds m q, g_law_put ds m q → ds.length = 3 := by
  unfold g_law_put
  rintro _ m q ⟨_, _, _, _, _, rfl, _⟩; rfl
theorem i_law_put {c : Cell} {ms : Sto} {a : Nat} {ds : List D} {x : D} {m : Sto} {q : D → Sto → Prop} (h : m = c :: ms ∧ BagOk c ∧ ms[a]? = some (.lst ds) ∧ ds.length ≤ 1000 ∧ ∀ c' ds', BagOk c' → ds'.length ≤ ds.length + 1 → q .non (c' :: ms.set a (.lst ds'))) : g_law_put [.ptr 0, .ptr (a + 1), x] m q := by unfold g_law_put; exact ⟨c, ms, a, ds, x, rfl, h⟩
def t_law_put : DS :=
    (dSeq (dAsg (dCallB g_law_take (dCons (dVar 0) (dCons (dC (.int 4)) dNil))) (gN 3))
    (dSeq (dAsg (dCallB g_law_take (dCons (dVar 0) (dCons (dBin dAdd (dCallB dLen (a1 (dVar 1))) (dC (.int 1))) dNil))) (gN 4))
    (dIf (dTest (dBin dEq (dVar 3) (dC (.int 0)))) (dDrop (dApp (dVar 1) (dVar 2))) (dIf (dTAnd (dTest (dBin dEq (dVar 3) (dC (.int 1)))) (dTest (dBin dLt (dVar 4) (dCallB dLen (a1 (dVar 1)))))) (dAsg (dVar 2) (gIx (dVar 1) (dVar 4))) (dIf (dTAnd (dTest (dBin dEq (dVar 3) (dC (.int 2)))) (dTest (dBin dLt (dVar 4) (dCallB dLen (a1 (dVar 1)))))) (dDrop (dPopAt (dVar 1) (dVar 4))) (dDrop (dClear (dVar 1))))))))
theorem pop_d {L : List D} {v : Int} (h0 : 0 ≤ v) (h1 : v < (L.length : Nat)) : ∃ (i : Nat) (hi : i < L.length), v = i ∧ seqIndex? v L.length = some i ∧ L[i]? = some L[i] := by
  obtain ⟨i, rfl⟩ : ∃ i : Nat, v = i := ⟨v.toNat, by omega⟩
  have hi : i < L.length := by omega
  refine ⟨i, hi, rfl, ?_, List.getElem?_eq_getElem hi⟩
  unfold seqIndex?
  have hz : ¬ (i : Int) < 0 := by omega
  simp [hz, hi]
theorem ix_d {n : Nat} {v : Int} (h0 : 0 ≤ v) (h1 : v < (n : Nat)) : ixN n v = some v.toNat := by
  unfold ixN
  rw [if_pos h0, if_pos h1]
theorem r_law_put (dz : List D) (m : Sto) (q : D → Sto → Prop) (hl : dz.length = 3) (h : g_law_put dz m q) : t_law_put { nx := fun _ m' => q .non m', rt := q } (startD N_law_put dz) m := by
  unfold g_law_put at h
  obtain ⟨c, ms, a, ds, x, rfl, h⟩ := h
  unfold t_law_put
  obtain ⟨rfl, hc, ga0, l, h⟩ := h
  have ga : ∀ c' : Cell, (c' :: ms)[a + 1]? = some (.lst ds) := fun c' => by rw [List.getElem?_cons_succ]; exact ga0
  ((conv => whnf); (try (set_option simprocs false in dsimp only [])))
  refine take_at hc (by decide) (sm (k := 64) (by decide) (by decide)) fun v1 c1 lo_v1 up_v1 hc_v1 => ?_
  ((conv => whnf); (try (set_option simprocs false in dsimp only [])))
  rw [seqL_ptr, lstOf_ptr (ga c1)]
  ((conv => whnf); (try (set_option simprocs false in dsimp only [])))
  refine take_at hc_v1 (by omega) (sm_le 11 (by omega) (by omega) |>.mono (by decide)) fun v2 c2 lo2 up2 hc2 => ?_
  ((conv => whnf); (try (set_option simprocs false in dsimp only [])))
  have cl : q .non (c2 :: ms.set a (.lst [])) := h c2 [] hc2 (Nat.zero_le _)
  refine br (fun e => ?_) (fun e => ?_)
  · ((conv => whnf); (try (set_option simprocs false in dsimp only [])))
    rw [lstOf_ptr (ga c2)]
    ((conv => whnf); (try (set_option simprocs false in dsimp only [])))
    rw [lstOf_ptr (ga c2)]
    ((conv => whnf); (try (set_option simprocs false in dsimp only [])))
    refine ⟨by omega, ?_⟩
    ((conv => whnf); (try (set_option simprocs false in dsimp only [])))
    exact h c2 _ hc2 (by rw [List.length_append, List.length_singleton]; omega)
  ((conv => whnf); (try (set_option simprocs false in dsimp only [])))
  refine br (fun e1 => ?_) (fun e1 => ?_)
  · ((conv => whnf); (try (set_option simprocs false in dsimp only [])))
    rw [seqL_ptr, lstOf_ptr (ga c2)]
    ((conv => whnf); (try (set_option simprocs false in dsimp only [])))
    refine br (fun e2 => ?_) (fun e2 => ?_)
    · ((conv => whnf); (try (set_option simprocs false in dsimp only [])))
      rw [lstOf_ptr (ga c2)]
      ((conv => whnf); (try (set_option simprocs false in dsimp only [])))
      rw [ix_d lo2 e2]
      ((conv => whnf); (try (set_option simprocs false in dsimp only [])))
      exact h c2 _ hc2 (by rw [List.length_set]; omega)
    · ((conv => whnf); (try (set_option simprocs false in dsimp only [])))
      refine br (fun e3 => absurd e3 (by omega)) (fun _ => ?_)
      refine bf ?_
      ((conv => whnf); (try (set_option simprocs false in dsimp only [])))
      rw [lstOf_ptr (ga c2)]
      ((conv => whnf); (try (set_option simprocs false in dsimp only [])))
      exact cl
  · refine bf ?_
    ((conv => whnf); (try (set_option simprocs false in dsimp only [])))
    refine br (fun e3 => ?_) (fun e3 => ?_)
    · ((conv => whnf); (try (set_option simprocs false in dsimp only [])))
      rw [seqL_ptr, lstOf_ptr (ga c2)]
      ((conv => whnf); (try (set_option simprocs false in dsimp only [])))
      refine br (fun e2 => ?_) (fun e2 => ?_)
      · ((conv => whnf); (try (set_option simprocs false in dsimp only [])))
        obtain ⟨i, hi, rfl, z1, z2⟩ := pop_d lo2 e2
        rw [lstOf_ptr (ga c2)]
        ((conv => whnf); (try (set_option simprocs false in dsimp only [])))
        rw [lstOf_ptr (ga c2)]
        ((conv => whnf); (try (set_option simprocs false in dsimp only [])))
        refine ⟨⟨by omega, by omega⟩, ?_⟩
        rw [z1]
        ((conv => whnf); (try (set_option simprocs false in dsimp only [])))
        rw [z2]
        ((conv => whnf); (try (set_option simprocs false in dsimp only [])))
        exact h c2 _ hc2 (by rw [List.length_eraseIdx]; split <;> omega)
      · ((conv => whnf); (try (set_option simprocs false in dsimp only [])))
        rw [lstOf_ptr (ga c2)]
        ((conv => whnf); (try (set_option simprocs false in dsimp only [])))
        exact cl
    · refine bf ?_
      ((conv => whnf); (try (set_option simprocs false in dsimp only [])))
      rw [lstOf_ptr (ga c2)]
      ((conv => whnf); (try (set_option simprocs false in dsimp only [])))
      exact cl
end K29
namespace K29
open PySem PySem.Spec PyProof.Rows L2 DL
@[irreducible] def g_law_mix_told : FN := fun dz m q => ∃ (i : Nat) (c : Str) (ms sp : List Int) (x : D), dz = [.ptr i, x] ∧ (Obj i c ms m ∧ Th c ms ∧ seqL x m = some (sp.map D.int) ∧ Spot sp ∧ (fitsC c ms sp = true → ∀ dn f, MixF ms sp f → q (.tup [.str "told", .ptr (m ++ dn).length]) (m ++ dn ++ [.lst (mixD ms f)])) ∧ (fitsC c ms sp = false → q (.tup [.str "refused"]) m))
theorem ar_law_mix_told : ∀ ds m q, g_law_mix_told ds m q → ds.length = 2 := by
  unfold g_law_mix_told
  rintro _ m q ⟨_, _, _, _, _, rfl, _⟩; rfl
theorem i_law_mix_told {i : Nat} {c : Str} {ms sp : List Int} {x : D} {m : Sto} {q : D → Sto → Prop} (h : Obj i c ms m ∧ Th c ms ∧ seqL x m = some (sp.map D.int) ∧ Spot sp ∧ (fitsC c ms sp = true → ∀ dn f, MixF ms sp f → q (.tup [.str "told", .ptr (m ++ dn).length]) (m ++ dn ++ [.lst (mixD ms f)])) ∧ (fitsC c ms sp = false → q (.tup [.str "refused"]) m)) : g_law_mix_told [.ptr i, x] m q := by unfold g_law_mix_told; exact ⟨i, c, ms, sp, x, rfl, h⟩
def t_law_mix_told : DS :=
    (dSeq (dAsg (dTup (dCons (dC (.str "refused")) dNil)) (gN 2))
    (dSeq (dTryOf ["NoSpot"] "NoSpot" (fun w1 => (dAsg (dTup (dCons (dC (.str "told")) (dCons (dMethX [("Scale", g_Marking_mix), ("Box", g_Marking_mix)] w1 "mix" (dVar 0) (dCons (dVar 1) dNil)) dNil))) (gN 2))) (fun ex1 => (dAsg (dTup (dCons (dC (.str "refused")) dNil)) (gN 2))) noW)
    (dRet (dVar 2))))
theorem r_law_mix_told (dz : List D) (m : Sto) (q : D → Sto → Prop) (hl : dz.length = 2) (h : g_law_mix_told dz m q) : t_law_mix_told { nx := fun _ m' => q .non m', rt := q } (startD N_law_mix_told dz) m := by
  unfold g_law_mix_told at h
  obtain ⟨i, c, ms, sp, x, rfl, h⟩ := h
  unfold t_law_mix_told
  obtain ⟨hi, th, e, sp1, hy, hn⟩ := h
  ((conv => whnf); (repeat ((first | refine ⟨Nat.le_of_ble_eq_true rfl, ?_⟩ | refine bt ?_ | refine bf ?_); (conv => whnf))); (try (set_option simprocs false in dsimp only [])))
  rw [hi]
  have t2 := th
  cases t2
  all_goals
    ((conv => whnf); (try (set_option simprocs false in dsimp only [])))
    refine ⟨rfl, ?_⟩
    ((conv => whnf); (try (set_option simprocs false in dsimp only [])))
    refine i_Marking_mix ⟨hi, th, e, sp1, fun b dn f hf => ?_, fun b => ?_⟩
    · ((conv => whnf); (repeat ((first | refine ⟨Nat.le_of_ble_eq_true rfl, ?_⟩ | refine bt ?_ | refine bf ?_); (conv => whnf))); (try (set_option simprocs false in dsimp only [])))
      exact hy b dn f hf
    · refine ⟨by decide, fun _ => ?_, fun z => absurd z (by decide)⟩
      ((conv => whnf); (repeat ((first | refine ⟨Nat.le_of_ble_eq_true rfl, ?_⟩ | refine bt ?_ | refine bf ?_); (conv => whnf))); (try (set_option simprocs false in dsimp only [])))
      exact hn b
end K29
namespace K29
open PySem PySem.Spec PyProof.Rows L2 DL
theorem gd_mixL {ms : List Int} {f : Nat → Rat} (mk : Marks 1 ms) (sz : ∀ i, QS 200 (f i)) : Gd 3 60000 (.lst (mixD ms f)) := by
  have e : ∀ d ∈ mixD ms f, Gd 2 1000 d := fun d hd => by
    obtain ⟨i, hi, rfl⟩ := List.mem_map.mp hd
    have hi := (posI_mem.mp hi).1
    have r := mk.rg _ (at0_mem hi)
    exact (gd_tup (k := 1) (c := 413) (al1 ((gi (i := at0 ms i) (by omega) (by omega)).mono (by decide) (by decide)) (al1 (gd_fr (sz i).st (sz i).sb (by decide)) al0))).mono (by decide) (Nat.le_of_ble_eq_true rfl)
  have hl : (mixD ms f).length ≤ 8 := by
    rw [List.length_map]
    have := List.length_filter_le (fun i => decide (0 < f i)) (List.range ms.length)
    have l8 := mk.h8
    rw [List.length_range] at this
    exact Nat.le_trans this l8
  exact (gd_lst e).mono (by decide) (Nat.le_trans (len_le_mul hl) (by decide))
theorem cpy_mix {ms : List Int} {f : Nat → Rat} : ∀ d ∈ mixD ms f, cpy 5 d = some d := fun d hd => by
  obtain ⟨i, _, rfl⟩ := List.mem_map.mp hd
  exact cpy_two cpy_int cpy_fr
theorem cpy_ints5 {ns : List Int} : ∀ d ∈ ns.map D.int, cpy 5 d = some d := fun d hd => by
  obtain ⟨i, _, rfl⟩ := List.mem_map.mp hd
  exact cpy_int
theorem ptr_alike {m : Sto} {j : Nat} {ds : List D} {q : D → Sto → Prop} (e : m[j]? = some (.lst ds)) (g : Gd 6 60000 (.lst ds)) (h : q (.bl true) m) : g_law_alike [.ptr j, .lst ds] m q := by
  obtain ⟨v, ev, p⟩ := g
  have pl := pyr_py (m := m) ev
  cases pl with
  | lst r => exact i_law_alike ⟨.ptr e r, .lst r, p.mono (by decide) (by decide), h⟩
def c_law_asked_1 : DS :=
    (dSeq (dIf (dTNot (dTest (dCallB g_law_alike (dCons (dVar 6) (dCons (dVar 7) dNil))))) (dRet (dC (.bl false))) dNext)
    (dSeq (dIf (dTest (dBin dEqD (dCallB g_law_take (dCons (dVar 0) (dCons (dC (.int 2)) dNil))) (dC (.int 0)))) (dDrop (dApp (dVar 4) (dTup (dCons (dVar 6) (dCons (dCallB g_law_copy (dCons (dVar 6) dNil)) dNil))))) (dDrop (dCallB g_law_put (dCons (dVar 0) (dCons (dVar 6) (dCons (dC (.int 3)) dNil))))))
    (dRet (dC (.bl true)))))
def t_law_asked : DS :=
    (dSeq (dAsg (dCallB g_law_take (dCons (dVar 0) (dCons (dC (.int 4)) dNil))) (gN 5))
    (dSeq (dIf (dTest (dBin dEqD (dVar 5) (dC (.int 0)))) (dSeq (dAsg (dMethX [("Scale", (FN.toX g_Marking_marks)), ("Box", (FN.toX g_Marking_marks))] noW "marks" (dVar 1) dNil) (gN 6))
    (dAsg (dDIx (dVar 2) (dC (.str "marks"))) (gN 7))) (dIf (dTest (dBin dEqD (dVar 5) (dC (.int 1)))) (dRet (dCallB g_law_alike (dCons (dMethX [("Scale", (FN.toX g_Marking_fits)), ("Box", (FN.toX g_Marking_fits))] noW "fits" (dVar 1) (dCons (dVar 3) dNil)) (dCons (dCallB g_law_fits (dCons (dVar 2) (dCons (dVar 3) dNil))) dNil)))) (dSeq (dAsg (dCallB g_law_mix_told (dCons (dVar 1) (dCons (dVar 3) dNil))) (gN 8))
    (dSeq (dIf (dTNot (dTest (dCallB g_law_fits (dCons (dVar 2) (dCons (dVar 3) dNil))))) (dRet (dBin dEqD (dVar 8) (dTup (dCons (dC (.str "refused")) dNil)))) dNext)
    (dSeq (dIf (dTest (dBin dEqD (dVar 8) (dTup (dCons (dC (.str "refused")) dNil)))) (dRet (dC (.bl false))) dNext)
    (dSeq (dAsg (dBin dIx (dVar 8) (dC (.int 1))) (gN 6))
    (dAsg (dCallB g_law_mix (dCons (dVar 2) (dCons (dVar 3) dNil))) (gN 7))))))))
    c_law_asked_1))
/-- what is let be, what is put otherwise -/
def Held (ms ms' : Sto) (h : Nat) (hs : List D) : Prop := ms'[h]? = some (.lst hs) ∨ ∃ j ds, ms.length ≤ j ∧ ms'[j]? = some (.lst ds) ∧ Gd 6 60000 (.lst ds) ∧ ms'[h]? = some (.lst (hs ++ [.tup [.ptr (j + 1), .lst ds]]))
abbrev AS (t : Nat) (w : Str) (mk : List Int) (s h : Nat) (x5 x6 x7 x8 : Option D) : DSt := [some (.ptr 0), some (.ptr (t + 1)), some (plainD w mk), some (.ptr (s + 1)), some (.ptr (h + 1)), x5, x6, x7, x8]
theorem asked_1 {c : Cell} {ms M : Sto} {t : Nat} {w : Str} {mk : List Int} {s h : Nat} {hs ds : List D} {x5 x8 : Option D} {q : D → Sto → Prop} (hc : BagOk c) (gh : ms[h]? = some (.lst hs)) (lh : hs.length ≤ 100) (pre : ∃ dn, M = ms ++ dn) (gd : Gd 6 60000 (.lst ds)) (cp : ∀ d ∈ ds, cpy 5 d = some d) (ld : ds.length ≤ 100) (dn2 : Sto)
    (k : ∀ c' ms', BagOk c' → (∀ i cl, i ≠ h → ms[i]? = some cl → ms'[i]? = some cl) → Held ms ms' h hs → q (.bl true) (c' :: ms')) :
    c_law_asked_1 { nx := fun _ m' => q .non m', rt := q } (AS t w mk s h x5 (some (.ptr (M.length + 1))) (some (.lst ds)) x8) (c :: (M ++ Cell.lst ds :: dn2)) := by
  obtain ⟨dn, rfl⟩ := pre
  have lm : h < ms.length := (List.getElem?_eq_some_iff.mp gh).1
  have gt : ∀ c' : Cell, (c' :: (ms ++ dn ++ Cell.lst ds :: dn2))[(ms ++ dn).length + 1]? = some (.lst ds) := fun c' => by rw [List.getElem?_cons_succ]; simp
  have gh2 : ∀ c' : Cell, (c' :: (ms ++ dn ++ Cell.lst ds :: dn2))[h + 1]? = some (.lst hs) := fun c' => by rw [List.getElem?_cons_succ]; exact get_app (get_app gh)
  unfold c_law_asked_1
  ((conv => whnf); (try (set_option simprocs false in dsimp only [])))
  refine ptr_alike (gt c) gd ?_
  refine bf ?_
  ((conv => whnf); (try (set_option simprocs false in dsimp only [])))
  refine take_at hc (by decide) (sm (k := 64) (by decide) (by decide)) fun v1 c1 lo_v1 up_v1 hc_v1 => ?_
  ((conv => whnf); (try (set_option simprocs false in dsimp only [])))
  refine br (fun e => ?_) (fun e => ?_)
  · ((conv => whnf); (try (set_option simprocs false in dsimp only [])))
    rw [lstOf_ptr (gh2 c1)]
    ((conv => whnf); (try (set_option simprocs false in dsimp only [])))
    refine i_law_copy_rec (cpyM_ptr (gt c1) (by omega) cp) ?_
    ((conv => whnf); (repeat ((first | refine ⟨Nat.le_of_ble_eq_true rfl, ?_⟩ | refine bt ?_ | refine bf ?_); (conv => whnf))); (try (set_option simprocs false in dsimp only [])))
    rw [lstOf_ptr (gh2 c1)]
    ((conv => whnf); (try (set_option simprocs false in dsimp only [])))
    refine ⟨by omega, ?_⟩
    ((conv => whnf); (try (set_option simprocs false in dsimp only [])))
    rw [List.set_cons_succ]
    refine k _ _ hc_v1 (fun i cl ne z => ?_) (.inr ⟨(ms ++ dn).length, ds, by simp, ?_, gd, ?_⟩)
    · rw [List.getElem?_set_ne (fun z => ne z.symm)]; exact get_app (get_app z)
    · rw [List.getElem?_set_ne (by rw [List.length_append]; omega)]; simp
    · rw [List.getElem?_set_self (by rw [List.length_append, List.length_append]; omega)]
  · ((conv => whnf); (try (set_option simprocs false in dsimp only [])))
    refine i_law_put (ds := ds) ⟨rfl, hc_v1, by simp, by omega, fun c2 ds' hc2 _ => ?_⟩
    ((conv => whnf); (try (set_option simprocs false in dsimp only [])))
    refine k _ _ hc2 (fun i cl ne z => ?_) (.inl ?_)
    · have := (List.getElem?_eq_some_iff.mp z).1
      rw [List.getElem?_set_ne (by rw [List.length_append]; omega)]; exact get_app (get_app z)
    · rw [List.getElem?_set_ne (by rw [List.length_append]; omega)]; exact get_app (get_app gh)
end K29
namespace K29
open PySem PySem.Spec PyProof.Rows L2 DL
theorem eqv_tr (v : PyData) : PyData.eqv (.tuple [.str "told", v]) (.tuple [.str "refused"]) = false := by
  simp [PyData.eqv, PyData.eqvAll]
theorem pd_ref : Pd 60 20 (.tuple [.str "refused"]) := ⟨by decide +kernel, by decide +kernel, by decide +kernel, by decide +kernel⟩
theorem pyr_ref {m : Sto} : PyR m (.tup [.str "refused"]) (.tuple [.str "refused"]) := .tup (.cons (.str _) .nil)
theorem told_py {m : Sto} {j : Nat} {ds : List D} (e : m[j]? = some (.lst ds)) (g : Gd 6 60000 (.lst ds)) : ∃ v, PyR m (.tup [.str "told", .ptr j]) (.tuple [.str "told", v]) ∧ Pd 60 130000 (.tuple [.str "told", v]) := by
  obtain ⟨u, eu, pu⟩ := gd_tup (k := 6) (c := 60000) (ds := [.str "told", .lst ds]) (al1 (gd_told.mono (by decide) (by decide)) (al1 g al0))
  obtain ⟨v, ev, pv⟩ := g
  have pl := pyr_py (m := m) ev
  cases pl with
  | @lst _ ps r =>
    have eu2 : u = .tuple [.str "told", .list ps] := by
      have e1 : py0A [D.str "told", .lst ds] = some [.str "told", .list ps] := by simp only [py0A]; rw [ev]; rfl
      simp only [py0, e1, Option.map_some, Option.some.injEq] at eu
      exact eu.symm
    subst eu2
    exact ⟨_, .tup (.cons (.str _) (.cons (.ptr e r) .nil)), pu.mono (by decide) (Nat.le_of_ble_eq_true rfl)⟩
@[irreducible] def g_law_asked : FN := fun dz m q => ∃ (c : Cell) (ms : Sto) (t : Nat) (w k : Str) (mk sp : List Int) (s hh : Nat) (hs : List D), dz = [.ptr 0, .ptr (t + 1), plainD w mk, .ptr (s + 1), .ptr (hh + 1)] ∧ (m = c :: ms ∧ BagOk c ∧ So w k ∧ Th k mk ∧ ms[t]? = some (.ins k [("told_marks", .lst (mk.map D.int))]) ∧ ms[s]? = some (.lst (sp.map D.int)) ∧ Spot sp ∧ ms[hh]? = some (.lst hs) ∧ hs.length ≤ 100 ∧ ∀ c' ms', BagOk c' → (∀ i cl, i ≠ hh → ms[i]? = some cl → ms'[i]? = some cl) → Held ms ms' hh hs → q (.bl true) (c' :: ms'))
theorem ar_law_asked : ∀ ds m q, g_law_asked ds m q → ds.length = 5 := by
  unfold g_law_asked
  rintro _ m q ⟨_, _, _, _, _, _, _, _, _, _, rfl, _⟩; rfl
theorem i_law_asked {c : Cell} {ms : Sto} {t : Nat} {w k : Str} {mk sp : List Int} {s hh : Nat} {hs : List D} {m : Sto} {q : D → Sto → Prop} (h : m = c :: ms ∧ BagOk c ∧ So w k ∧ Th k mk ∧ ms[t]? = some (.ins k [("told_marks", .lst (mk.map D.int))]) ∧ ms[s]? = some (.lst (sp.map D.int)) ∧ Spot sp ∧ ms[hh]? = some (.lst hs) ∧ hs.length ≤ 100 ∧ ∀ c' ms', BagOk c' → (∀ i cl, i ≠ hh → ms[i]? = some cl → ms'[i]? = some cl) → Held ms ms' hh hs → q (.bl true) (c' :: ms')) : g_law_asked [.ptr 0, .ptr (t + 1), plainD w mk, .ptr (s + 1), .ptr (hh + 1)] m q := by unfold g_law_asked; exact ⟨c, ms, t, w, k, mk, sp, s, hh, hs, rfl, h⟩
theorem r_law_asked (dz : List D) (m : Sto) (q : D → Sto → Prop) (hl : dz.length = 5) (h : g_law_asked dz m q) : t_law_asked { nx := fun _ m' => q .non m', rt := q } (startD N_law_asked dz) m := by
  unfold g_law_asked at h
  obtain ⟨c, ms, t, w, k, mk, sp, s, hh, hs, rfl, h⟩ := h
  unfold t_law_asked
  obtain ⟨rfl, hc, so, th, gt0, gs0, sp1, gh0, lh, kk⟩ := h
  have stay : ∀ c' dn, BagOk c' → q (.bl true) (c' :: (ms ++ dn)) := fun c' dn hc' => kk c' _ hc' (fun i cl _ z => get_app z) (.inl (get_app gh0))
  have stay0 : ∀ c', BagOk c' → q (.bl true) (c' :: ms) := fun c' hc' => by have := stay c' [] hc'; rwa [List.append_nil] at this
  have ob : ∀ c' : Cell, Obj (t + 1) k mk (c' :: ms) := fun c' => by
    show (c' :: ms)[t + 1]? = _
    rw [List.getElem?_cons_succ]; exact gt0
  have es : ∀ c' : Cell, seqL (.ptr (s + 1)) (c' :: ms) = some (sp.map D.int) := fun c' => by
    rw [seqL_ptr]; exact lstOf_ptr (by rw [List.getElem?_cons_succ]; exact gs0)
  ((conv => whnf); (try (set_option simprocs false in dsimp only [])))
  refine take_at hc (by decide) (sm (k := 64) (by decide) (by decide)) fun v1 c1 lo_v1 up_v1 hc_v1 => ?_
  ((conv => whnf); (try (set_option simprocs false in dsimp only [])))
  refine br (fun e => ?_) (fun e => ?_)
  · unfold dSeq dAsg
    refine (meth_both (r := AS t w mk s hh (some (.int v1)) none none none) (m := c1 :: ms) (N := _) (w := noW) (mn := "marks") (to := dVar 1) (ta := dNil) (g := FN.toX g_Marking_marks) th rfl (fun K hK => hK) (ob c1) ?_ :)
    refine i_Marking_marks ⟨ob c1, th.cs, ?_⟩
    ((conv => whnf); (try (set_option simprocs false in dsimp only [])))
    exact asked_1 (M := ms) hc_v1 gh0 lh ⟨[], by simp⟩ ((gd_ints th.mk.rg th.mk.h8).mono (by decide) (by decide)) cpy_ints5 (by rw [List.length_map]; have := th.mk.h8; omega) [] kk
  ((conv => whnf); (try (set_option simprocs false in dsimp only [])))
  refine br (fun e2 => ?_) (fun e2 => ?_)
  · ((conv => whnf); (try (set_option simprocs false in dsimp only [])))
    rw [show (c1 :: ms)[t + 1]? = _ from ob c1]
    have t2 := th
    cases t2
    all_goals
      ((conv => whnf); (try (set_option simprocs false in dsimp only [])))
      refine ⟨rfl, ?_⟩
      ((conv => whnf); (try (set_option simprocs false in dsimp only [])))
      refine i_Marking_fits ⟨ob c1, th, es c1, sp1, ?_⟩
      ((conv => whnf); (try (set_option simprocs false in dsimp only [])))
      refine i_law_fits ⟨so, th, es c1, sp1, ?_⟩
      ((conv => whnf); (try (set_option simprocs false in dsimp only [])))
      obtain ⟨v, ev, pv⟩ := gd_bl (b := fitsC _ mk sp)
      exact i_law_alike ⟨pyr_py ev, pyr_py ev, pv.mono (by decide) (by decide), stay0 c1 hc_v1⟩
  ((conv => whnf); (try (set_option simprocs false in dsimp only [])))
  refine i_law_mix_told ⟨ob c1, th, es c1, sp1, fun b dn f hf => ?_, fun b => ?_⟩
  · have gM := (gd_mixL (f := f) th.mk hf.sz).mono (show 3 ≤ 6 by decide) (Nat.le_refl _)
    ((conv => whnf); (try (set_option simprocs false in dsimp only [])))
    refine i_law_fits ⟨so, th, seqL_app (seqL_app (es c1)), sp1, ?_⟩
    rw [b]
    refine bf ?_
    ((conv => whnf); (try (set_option simprocs false in dsimp only [])))
    refine ⟨Nat.le_of_ble_eq_true rfl, ?_⟩
    obtain ⟨v, p1, p2⟩ := told_py (m := c1 :: ms ++ dn ++ [Cell.lst (mixD mk f)]) (j := (c1 :: ms ++ dn).length) (by simp) gM
    refine eqD_py p1 pyr_ref p2 pd_ref ?_
    rw [eqv_tr]
    refine bf ?_
    ((conv => whnf); (try (set_option simprocs false in dsimp only [])))
    refine i_law_mix ⟨th, seqL_app (seqL_app (es c1)), sp1, b, fun dn2 f2 hf2 => ?_⟩
    ((conv => whnf); (try (set_option simprocs false in dsimp only [])))
    rw [posI_ext (f := f2) (g := f) fun i hi => (hf2.at_ i hi).trans (hf.at_ i hi).symm]
    rw [show c1 :: ms ++ dn ++ [Cell.lst (mixD mk f)] ++ dn2 = c1 :: (ms ++ dn ++ Cell.lst (mixD mk f) :: dn2) by simp]
    exact asked_1 (M := ms ++ dn) hc_v1 gh0 lh ⟨dn, rfl⟩ gM cpy_mix (by rw [List.length_map]; have := List.length_filter_le (fun i => decide (0 < f i)) (List.range mk.length); rw [List.length_range] at this; have := th.mk.h8; show (posI mk f).length ≤ 100; unfold posI; omega) dn2 kk
  · ((conv => whnf); (try (set_option simprocs false in dsimp only [])))
    refine i_law_fits ⟨so, th, es c1, sp1, ?_⟩
    rw [b]
    refine bt ?_
    ((conv => whnf); (try (set_option simprocs false in dsimp only [])))
    refine ⟨Nat.le_of_ble_eq_true rfl, ?_⟩
    refine eqD_same pyr_ref pyr_ref pd_ref ?_
    exact stay0 c1 hc_v1
end K29
namespace K29
open PySem PySem.Spec PyProof.Rows L2 DL
theorem forD_c {g : DG} {tb : DS} {d : DEnds} {ok : Sto → Prop} {x : D} {xs : List D} {r : DSt} {m : Sto} (h : g x r m fun r1 m1 => tb { d with nx := fun r2 m2 => ok m2 ∧ forD g tb d ok xs r2 m2, ct := fun r2 m2 => ok m2 ∧ forD g tb d ok xs r2 m2, bk := d.nx } r1 m1) : forD g tb d ok (x :: xs) r m := by
  simp only [forD_eq] at h ⊢
  exact h
theorem forD_n {g : DG} {tb : DS} {d : DEnds} {ok : Sto → Prop} {r : DSt} {m : Sto} (h : d.nx r m) : forD g tb d ok [] r m := by
  rw [forD_eq]
  exact h
def b_law_spots_1 : DS :=
    (dDrop (dApp (dVar 2) (dCallB g_law_spot (dCons (dVar 0) (dCons (dDIx (dVar 3) (dC (.str "sort"))) (dCons (dDIx (dVar 3) (dC (.str "marks"))) dNil))))))
def t_law_spots : DS :=
    (dSeq (dAsg (dLstP dNil) (gN 2))
    (dSeq (dFor (dIter (dVar 1)) (gN 3) b_law_spots_1)
    (dRet (dBin dAdd (dVar 2) (dLst (dCons (dLstP (dCons (dCallB g_law_take (dCons (dVar 0) (dCons (dC (.int 1001)) dNil))) dNil)) dNil))))))
theorem spots_1 {c : Cell} {ms dn : Sto} {L : List D} {w k : Str} {mk : List Int} {x1 : Option D} {E : DEnds} (hc : BagOk c) (so : So w k) (th : Th k mk) (lL : L.length ≤ 10)
    (kk : ∀ c' dn' s sp, BagOk c' → Spot sp → (ms ++ Cell.lst L :: dn).length ≤ s → s < (ms ++ Cell.lst L :: (dn ++ dn')).length → (Cell.lst L :: (dn ++ dn'))[s - ms.length]? = some (.lst (sp.map D.int)) → E.nx [some (.ptr 0), x1, some (.ptr (ms.length + 1)), some (plainD w mk)] (c' :: (ms ++ Cell.lst (L ++ [.ptr (s + 1)]) :: (dn ++ dn')))) :
    b_law_spots_1 E [some (.ptr 0), x1, some (.ptr (ms.length + 1)), some (plainD w mk)] (c :: (ms ++ Cell.lst L :: dn)) := by
  unfold b_law_spots_1
  ((conv => whnf); (try (set_option simprocs false in dsimp only [])))
  rw [lst_mid]
  ((conv => whnf); (try (set_option simprocs false in dsimp only [])))
  refine i_law_spot (ms0 := ms ++ Cell.lst L :: dn) ⟨rfl, hc, so, th, fun sp c1 dn1 hs _ hc1 => ?_⟩
  obtain ⟨s, es⟩ : ∃ s, s = (ms ++ Cell.lst L :: dn ++ dn1).length := ⟨_, rfl⟩
  rw [← es, show ms ++ Cell.lst L :: dn ++ dn1 ++ [Cell.lst (sp.map D.int)] = ms ++ Cell.lst L :: (dn ++ (dn1 ++ [Cell.lst (sp.map D.int)])) by simp]
  have sl : s - ms.length = (dn ++ dn1).length + 1 := by rw [es]; simp only [List.length_append, List.length_cons]; omega
  ((conv => whnf); (try (set_option simprocs false in dsimp only [])))
  rw [lst_mid]
  ((conv => whnf); (try (set_option simprocs false in dsimp only [])))
  refine ⟨by omega, ?_⟩
  ((conv => whnf); (try (set_option simprocs false in dsimp only [])))
  rw [mid_set]
  refine kk c1 (dn1 ++ [Cell.lst (sp.map D.int)]) s sp hc1 hs (by rw [es]; simp) (by rw [es]; simp) ?_
  rw [sl, List.getElem?_cons_succ, ← List.append_assoc]
  simp
@[irreducible] def g_law_spots : FN := fun dz m q => ∃ (c : Cell) (ms : Sto) (w0 k0 w1 k1 : Str) (m0 m1 : List Int), dz = [.ptr 0, .lst [plainD w0 m0, plainD w1 m1]] ∧ (m = c :: ms ∧ BagOk c ∧ (So w0 k0 ∧ Th k0 m0) ∧ (So w1 k1 ∧ Th k1 m1) ∧ ∀ c' dn s0 s1 s2 sp0 sp1 sp2, BagOk c' → (ms.length ≤ s0 ∧ s0 < s1 ∧ s1 < s2 ∧ s2 < (ms ++ dn).length) → (ms ++ dn)[s0]? = some (.lst (sp0.map D.int)) → (ms ++ dn)[s1]? = some (.lst (sp1.map D.int)) → (ms ++ dn)[s2]? = some (.lst (sp2.map D.int)) → Spot sp0 → Spot sp1 → Spot sp2 → q (.lst [.ptr (s0 + 1), .ptr (s1 + 1), .ptr (s2 + 1)]) (c' :: (ms ++ dn)))
theorem ar_law_spots : ∀ ds m q, g_law_spots ds m q → ds.length = 2 := by
  unfold g_law_spots
  rintro _ m q ⟨_, _, _, _, _, _, _, _, rfl, _⟩; rfl
theorem i_law_spots {c : Cell} {ms : Sto} {w0 k0 w1 k1 : Str} {m0 m1 : List Int} {m : Sto} {q : D → Sto → Prop} (h : m = c :: ms ∧ BagOk c ∧ (So w0 k0 ∧ Th k0 m0) ∧ (So w1 k1 ∧ Th k1 m1) ∧ ∀ c' dn s0 s1 s2 sp0 sp1 sp2, BagOk c' → (ms.length ≤ s0 ∧ s0 < s1 ∧ s1 < s2 ∧ s2 < (ms ++ dn).length) → (ms ++ dn)[s0]? = some (.lst (sp0.map D.int)) → (ms ++ dn)[s1]? = some (.lst (sp1.map D.int)) → (ms ++ dn)[s2]? = some (.lst (sp2.map D.int)) → Spot sp0 → Spot sp1 → Spot sp2 → q (.lst [.ptr (s0 + 1), .ptr (s1 + 1), .ptr (s2 + 1)]) (c' :: (ms ++ dn))) : g_law_spots [.ptr 0, .lst [plainD w0 m0, plainD w1 m1]] m q := by unfold g_law_spots; exact ⟨c, ms, w0, k0, w1, k1, m0, m1, rfl, h⟩
theorem get_far {ms : Sto} {A B : Cell} {dn : Sto} {s : Nat} {x : Cell} (h : ms.length < s) (e : (A :: dn)[s - ms.length]? = some x) : (ms ++ B :: dn)[s]? = some x := by
  rw [List.getElem?_append_right (by omega)]
  obtain ⟨k, ek⟩ : ∃ k, s - ms.length = k + 1 := ⟨s - ms.length - 1, by omega⟩
  rw [ek, List.getElem?_cons_succ] at e ⊢
  exact e
theorem r_law_spots (dz : List D) (m : Sto) (q : D → Sto → Prop) (hl : dz.length = 2) (h : g_law_spots dz m q) : t_law_spots { nx := fun _ m' => q .non m', rt := q } (startD N_law_spots dz) m := by
  unfold g_law_spots at h
  obtain ⟨c, ms, w0, k0, w1, k1, m0, m1, rfl, h⟩ := h
  unfold t_law_spots
  obtain ⟨rfl, hc, ⟨so0, th0⟩, ⟨so1, th1⟩, h⟩ := h
  ((conv => whnf); (repeat ((first | refine ⟨Nat.le_of_ble_eq_true rfl, ?_⟩ | refine bt ?_ | refine bf ?_); (conv => whnf))); (try (set_option simprocs false in dsimp only [])))
  refine forD_c ?_
  refine spots_1 (ms := ms) (dn := []) (L := []) (x1 := some (.lst [plainD w0 m0, plainD w1 m1])) hc so0 th0 (by decide) fun c1 d1 s0 sp0 hc1 hs0 l0 u0 e0 => ?_
  refine ⟨trivial, forD_c ?_⟩
  refine spots_1 (ms := ms) (dn := [] ++ d1) (L := [] ++ [.ptr (s0 + 1)]) (x1 := some (.lst [plainD w0 m0, plainD w1 m1])) hc1 so1 th1 (Nat.le_of_ble_eq_true rfl) fun c2 d2 s1 sp1 hc2 hs1 l1 u1 e1 => ?_
  refine ⟨trivial, forD_n ?_⟩
  simp only [List.nil_append, List.length_append, List.length_cons, List.length_nil, List.cons_append] at l0 u0 e0 l1 u1 e1 ⊢
  ((conv => whnf); (try (set_option simprocs false in dsimp only [])))
  refine take_at hc2 (by decide) (sm (k := 64) (by decide) (by decide)) fun v1 c3 lo_v1 up_v1 hc_v1 => ?_
  have z1 : v1 < 1001 := up_v1
  obtain ⟨s2, es2⟩ : ∃ s2, s2 = (ms ++ Cell.lst [D.ptr (s0 + 1), D.ptr (s1 + 1)] :: (d1 ++ d2)).length := ⟨_, rfl⟩
  have l2 := es2
  simp only [List.length_append, List.length_cons] at l2
  ((conv => whnf); (repeat ((first | refine ⟨Nat.le_of_ble_eq_true rfl, ?_⟩ | refine bt ?_ | refine bf ?_); (conv => whnf))); (try (set_option simprocs false in dsimp only [])))
  rw [show (c3 :: (ms ++ Cell.lst [D.ptr (s0 + 1), D.ptr (s1 + 1)] :: (d1 ++ d2))).length = s2 + 1 by rw [es2]; rfl, show c3 :: (ms ++ Cell.lst [D.ptr (s0 + 1), D.ptr (s1 + 1)] :: (d1 ++ d2)) ++ [Cell.lst [D.int v1]] = c3 :: (ms ++ Cell.lst [D.ptr (s0 + 1), D.ptr (s1 + 1)] :: (d1 ++ d2 ++ [Cell.lst [D.int v1]])) by simp, lst_mid]
  ((conv => whnf); (try (set_option simprocs false in dsimp only [])))
  refine ⟨Nat.le_of_ble_eq_true rfl, ?_⟩
  refine h c3 (Cell.lst [D.ptr (s0 + 1), D.ptr (s1 + 1)] :: (d1 ++ d2 ++ [Cell.lst [D.int v1]])) s0 s1 s2 sp0 sp1 [v1] hc_v1 ⟨by omega, by omega, by omega, by simp only [List.length_append, List.length_cons, List.length_nil]; omega⟩ (get_far (by omega) (A := .lst []) ?_) (get_far (by omega) (A := .lst [D.ptr (s0 + 1)]) ?_) ?_ hs0 hs1 ⟨by simp, by simp, List.pairwise_singleton _ _, fun i hi => by rw [List.mem_singleton.mp hi]; omega⟩
  · have := get_app (dn := d2 ++ [Cell.lst [D.int v1]]) e0
    simpa using this
  · have := get_app (dn := [Cell.lst [D.int v1]]) e1
    simpa using this
  · rw [show ms ++ Cell.lst [D.ptr (s0 + 1), D.ptr (s1 + 1)] :: (d1 ++ d2 ++ [Cell.lst [D.int v1]]) = (ms ++ Cell.lst [D.ptr (s0 + 1), D.ptr (s1 + 1)] :: (d1 ++ d2)) ++ [Cell.lst [D.int v1]] by simp, es2, List.getElem?_append_right (Nat.le_refl _)]
    simp
end K29
namespace K29
open PySem PySem.Spec PyProof.Rows L2 DL
def e_law_1 : DE :=
    (dDisp [(.inr "sort", (dBin dIx (dVar 5) (dVar 8))), (.inr "marks", (dCallB dList (a1 (dBin dIx (dVar 6) (dVar 8)))))])
def c_law_2 : DS :=
    (dIf (dTest (dBin dEq (dVar 16) (dC (.int 1)))) (dSeq (dAsg (dBin dIx (dCallB g_law_spots (dCons (dVar 1) (dCons (dVar 7) dNil))) (dCallB g_law_take (dCons (dVar 1) (dCons (dC (.int 3)) dNil)))) (gN 17))
    (dAsg (dVar 17) (gAll (dVar 14)))) dNext)
def c_law_3 : DS :=
    (dSeq (dIf (dTest (dBin dEq (dVar 16) (dC (.int 0)))) (dDrop (dCallB g_law_put (dCons (dVar 1) (dCons (dBin dIx (dVar 9) (dCallB g_law_take (dCons (dVar 1) (dCons (dC (.int 2)) dNil)))) (dCons (dCallB g_law_take (dCons (dVar 1) (dCons (dC (.int 1001)) dNil))) dNil))))) dNext)
    c_law_2)
def c_law_4 : DS :=
    (dSeq (dAsg (dCallB g_law_take (dCons (dVar 1) (dCons (dC (.int 4)) dNil))) (gN 16))
    c_law_3)
def b_law_5 : DS :=
    (dSeq (dAsg (dCallB g_law_take (dCons (dVar 1) (dCons (dC (.int 2)) dNil))) (gN 13))
    (dSeq (dAsg (dBin dIx (dVar 12) (dCallB g_law_take (dCons (dVar 1) (dCons (dC (.int 3)) dNil)))) (gN 14))
    (dSeq (dAsg (dCallB dList (a1 (dVar 14))) (gN 15))
    (dSeq (dIf (dTOr (dTNot (dTest (dCallB g_law_asked (dCons (dVar 1) (dCons (dBin dIx (dVar 10) (dVar 13)) (dCons (dBin dIx (dVar 7) (dVar 13)) (dCons (dVar 14) (dCons (dVar 11) dNil)))))))) (dTNot (dTest (dCallB g_law_alike (dCons (dVar 14) (dCons (dVar 15) dNil)))))) (dRet (dC (.bl false))) dNext)
    c_law_4))))
def b_law_6 : DS :=
    (dIf (dTNot (dTest (dCallB g_law_alike (dCons (dVar 18) (dCons (dVar 19) dNil))))) (dRet (dC (.bl false))) dNext)
def b_law_7 : DS :=
    (dIf (dTNot (dTest (dCallB g_law_asked (dCons (dVar 1) (dCons (dBin dIx (dVar 10) (dVar 13)) (dCons (dBin dIx (dVar 7) (dVar 13)) (dCons (dVar 14) (dCons (dLstP dNil) dNil)))))))) (dRet (dC (.bl false))) dNext)
def b_law_8 : DS :=
    (dFor (dIter (dVar 12)) (gN 14) b_law_7)
def c_law_9 : DS :=
    (dSeq (dFor (dIter (dVar 11)) (gT 2 (gsC (gN 18) (gsC (gN 19) gsN))) b_law_6)
    (dSeq (dFor (dRange1 (dC (.int 2))) (gN 13) b_law_8)
    (dRet (dC (.bl true)))))
def c_law_10 : DS :=
    (dSeq (dFor (dRange1 (dVar 2)) (gN 8) b_law_5)
    c_law_9)
def c_law_11 : DS :=
    (dSeq (dAsg (dLstP dNil) (gN 11))
    (dSeq (dAsg (dCallB g_law_spots (dCons (dVar 1) (dCons (dVar 7) dNil))) (gN 12))
    c_law_10))
def c_law_12 : DS :=
    (dSeq (dDrop (dApp (dVar 10) (dCallB g_law_made (dCons (dBin dIx (dVar 5) (dC (.int 1))) (dCons (dBin dIx (dVar 9) (dC (.int 1))) (dCons (dBin dIx (dVar 4) (dC (.int 1))) dNil))))))
    c_law_11)
def c_law_13 : DS :=
    (dSeq (dAsg (dLstP (dCons (dCallB g_law_made (dCons (dBin dIx (dVar 5) (dC (.int 0))) (dCons (dBin dIx (dVar 9) (dC (.int 0))) (dCons (dBin dIx (dVar 4) (dC (.int 0))) dNil)))) dNil)) (gN 10))
    (dSeq (dIf (dTest (dBin dEq (dVar 3) (dC (.int 1)))) (dSeq (dAsg (dCallB dListP (a1 (dBin dIx (dVar 6) (dC (.int 1))))) (gAll (dBin dIx (dVar 9) (dC (.int 0)))))
    (dAsg (dBin dIx (dVar 9) (dC (.int 0))) (gIx (dVar 9) (dC (.int 1))))) dNext)
    c_law_12))
def t_law : DS :=
    (dSeq (dAsg (dCallB g_law_bag (dCons (dVar 0) dNil)) (gN 1))
    (dSeq (dPar 2 3 (dCons (dBin dAdd (dC (.int 4)) (dCallB g_law_take (dCons (dVar 1) (dCons (dC (.int 5)) dNil)))) (dCons (dCallB g_law_take (dCons (dVar 1) (dCons (dC (.int 2)) dNil))) dNil)))
    (dSeq (dAsg (dLst (dCons (dCallB g_law_take (dCons (dVar 1) (dCons (dC (.int 2)) dNil))) (dCons (dCallB g_law_take (dCons (dVar 1) (dCons (dC (.int 2)) dNil))) dNil))) (gN 4))
    (dSeq (dAsg (dLst (dCons (dBin dIx (dLst (dCons (dC (.str "scale")) (dCons (dC (.str "box")) dNil))) (dCallB g_law_take (dCons (dVar 1) (dCons (dC (.int 2)) dNil)))) (dCons (dBin dIx (dLst (dCons (dC (.str "scale")) (dCons (dC (.str "box")) dNil))) (dCallB g_law_take (dCons (dVar 1) (dCons (dC (.int 2)) dNil)))) dNil))) (gN 5))
    (dSeq (dAsg (dLst (dCons (dCallB g_law_marks (dCons (dVar 1) (dCons (dBin dIx (dVar 5) (dC (.int 0))) dNil))) (dCons (dCallB g_law_marks (dCons (dVar 1) (dCons (dBin dIx (dVar 5) (dC (.int 1))) dNil))) dNil))) (gN 6))
    (dSeq (dAsg (dLc 8 (dRange1 (dC (.int 2))) dYes e_law_1) (gN 7))
    (dSeq (dAsg (dLstP (dCons (dCallB dListP (a1 (dBin dIx (dVar 6) (dC (.int 0))))) (dCons (dCallB dListP (a1 (dBin dIx (dVar 6) (dC (.int 1))))) dNil))) (gN 9))
    c_law_13)))))))
theorem getLt {m : Sto} {i : Nat} {cl : Cell} (e : m[i]? = some cl) : i < m.length := (List.getElem?_eq_some_iff.mp e).1
def HeldOk (ms : Sto) (B : Nat) (d : D) : Prop := ∃ j ds, B ≤ j ∧ d = .tup [.ptr (j + 1), .lst ds] ∧ ms[j]? = some (.lst ds) ∧ Gd 6 60000 (.lst ds)
structure Pl where
  (v0 v1 V t0 T t1 H s0 s1 s2 B : Nat)
structure Tg where
  (w k : Str)
  mrk : List Int
structure Tg.Ok (g : Tg) : Prop where
  so : So g.w g.k
  th : Th g.k g.mrk
abbrev Tg.cell (g : Tg) : Cell := .ins g.k [("told_marks", .lst (g.mrk.map D.int))]
/-- where the law's things lie -/
structure S9 (c : Cell) (ms : Sto) (p : Pl) (a b : Tg) (n : Nat) : Prop where
  bag : BagOk c
  ord : (p.v0 < p.V ∧ p.v1 < p.V ∧ p.V < p.t0) ∧ (p.t0 < p.T ∧ p.T < p.t1 ∧ p.t1 < p.H) ∧ (p.H < p.s0 ∧ p.s0 < p.s1 ∧ p.s1 < p.s2 ∧ p.s2 < p.B) ∧ p.B ≤ ms.length
  gV : ms[p.V]? = some (.lst [.ptr (p.v0 + 1), .ptr (p.v1 + 1)])
  gT : ms[p.T]? = some (.lst [.ptr (p.t0 + 1), .ptr (p.t1 + 1)])
  g0 : ms[p.t0]? = some a.cell
  g1 : ms[p.t1]? = some b.cell
  gv : ∀ v, v = p.v0 ∨ v = p.v1 → ∃ L, ms[v]? = some (.lst L) ∧ L.length ≤ 100 + n
  gs : ∀ s, s = p.s0 ∨ s = p.s1 ∨ s = p.s2 → ∃ sp : List Int, ms[s]? = some (.lst (sp.map D.int)) ∧ Spot sp
  gH : ∃ hs, ms[p.H]? = some (.lst hs) ∧ hs.length ≤ n ∧ ∀ d ∈ hs, HeldOk ms p.B d
section
variable {c c' : Cell} {ms ms' : Sto} {p : Pl} {a b : Tg} {n : Nat}
theorem S9.bg (h : S9 c ms p a b n) (hc : BagOk c') : S9 c' ms p a b n := ⟨hc, h.ord, h.gV, h.gT, h.g0, h.g1, h.gv, h.gs, h.gH⟩
theorem len_of {x : Nat} (g : ∀ i cl, i ≠ x → ms[i]? = some cl → ms'[i]? = some cl) (hx : x + 1 < ms.length) : ms.length ≤ ms'.length := by
  have e : ms[ms.length - 1]? = some ms[ms.length - 1] := List.getElem?_eq_getElem (by omega)
  have := getLt (g _ _ (by omega) e)
  omega
theorem len_of2 {x : Nat} (g : ∀ i cl, i ≠ x → ms[i]? = some cl → ms'[i]? = some cl) (gx : ∃ cl, ms'[x]? = some cl) : ms.length ≤ ms'.length := by
  rcases Nat.eq_zero_or_pos ms.length with z | z
  · omega
  have e : ms[ms.length - 1]? = some ms[ms.length - 1] := List.getElem?_eq_getElem (by omega)
  by_cases q : ms.length - 1 = x
  · obtain ⟨cl, gx⟩ := gx
    have := getLt gx
    omega
  · have := getLt (g _ _ q e)
    omega
theorem held_on {B x : Nat} {d : D} (h : HeldOk ms B d) (hx : x < B) (g : ∀ i cl, i ≠ x → ms[i]? = some cl → ms'[i]? = some cl) : HeldOk ms' B d := by
  obtain ⟨j, ds, lb, e, gj, gd⟩ := h
  exact ⟨j, ds, lb, e, g j _ (by omega) gj, gd⟩
/-- all but one place stays, a new list of ints that is a spot, or any list, stands there -/
theorem S9.one (h : S9 c ms p a b n) {x : Nat} (hx : (x = p.v0 ∨ x = p.v1) ∨ (x = p.s0 ∨ x = p.s1 ∨ x = p.s2)) (g : ∀ i cl, i ≠ x → ms[i]? = some cl → ms'[i]? = some cl) (gx : ∃ L, ms'[x]? = some (.lst L) ∧ ((x = p.v0 ∨ x = p.v1) → L.length ≤ 100 + (n + 1)) ∧ ((x = p.s0 ∨ x = p.s1 ∨ x = p.s2) → ∃ sp : List Int, L = sp.map D.int ∧ Spot sp)) (hc : BagOk c') : S9 c' ms' p a b (n + 1) := by
  obtain ⟨L, gx, f1, f2⟩ := gx
  obtain ⟨o1, o2, o3, o4⟩ := h.ord
  have ll := len_of2 g ⟨_, gx⟩
  refine ⟨hc, ⟨o1, o2, o3, by omega⟩, g _ _ (by omega) h.gV, g _ _ (by omega) h.gT, g _ _ (by omega) h.g0, g _ _ (by omega) h.g1, fun v hv => ?_, fun s hs => ?_, ?_⟩
  · by_cases e : v = x
    · subst e; exact ⟨L, gx, f1 hv⟩
    · obtain ⟨L2, e2, l2⟩ := h.gv v hv
      exact ⟨L2, g _ _ e e2, by omega⟩
  · by_cases e : s = x
    · subst e
      obtain ⟨sp, rfl, hsp⟩ := f2 hs
      exact ⟨sp, gx, hsp⟩
    · obtain ⟨sp, e2, l2⟩ := h.gs s hs
      exact ⟨sp, g _ _ e e2, l2⟩
  · obtain ⟨hs, e, l, ok⟩ := h.gH
    exact ⟨hs, g _ _ (by omega) e, by omega, fun d hd => held_on (ok d hd) (by omega) g⟩
theorem S9.app (h : S9 c ms p a b n) (dn : Sto) (hc : BagOk c') : S9 c' (ms ++ dn) p a b n := by
  obtain ⟨o1, o2, o3, o4⟩ := h.ord
  refine ⟨hc, ⟨o1, o2, o3, by rw [List.length_append]; omega⟩, get_app h.gV, get_app h.gT, get_app h.g0, get_app h.g1, fun v hv => ?_, fun s hs => ?_, ?_⟩
  · obtain ⟨L, e, l⟩ := h.gv v hv; exact ⟨L, get_app e, l⟩
  · obtain ⟨L, e, l⟩ := h.gs s hs; exact ⟨L, get_app e, l⟩
  · obtain ⟨hs, e, l, ok⟩ := h.gH
    refine ⟨hs, get_app e, l, fun d hd => ?_⟩
    obtain ⟨j, ds, lb, e, gj, gd⟩ := ok d hd
    exact ⟨j, ds, lb, e, get_app gj, gd⟩
/-- asked, something may be held -/
theorem S9.held (h : S9 c ms p a b n) {hs : List D} (gh : ms[p.H]? = some (.lst hs)) (g : ∀ i cl, i ≠ p.H → ms[i]? = some cl → ms'[i]? = some cl) (hh : Held ms ms' p.H hs) (hc : BagOk c') : S9 c' ms' p a b (n + 1) := by
  obtain ⟨o1, o2, o3, o4⟩ := h.ord
  have ll := len_of g (by omega)
  obtain ⟨hs', e, l, ok⟩ := h.gH
  rw [gh] at e
  cases e
  refine ⟨hc, ⟨o1, o2, o3, by omega⟩, g _ _ (by omega) h.gV, g _ _ (by omega) h.gT, g _ _ (by omega) h.g0, g _ _ (by omega) h.g1, fun v hv => ?_, fun s hs => ?_, ?_⟩
  · obtain ⟨L, e, l⟩ := h.gv v hv
    exact ⟨L, g _ _ (by rcases hv with rfl | rfl <;> omega) e, by omega⟩
  · obtain ⟨L, e, l⟩ := h.gs s hs
    exact ⟨L, g _ _ (by rcases hs with rfl | rfl | rfl <;> omega) e, l⟩
  · rcases hh with e | ⟨j, ds, lj, gj, gd, e⟩
    · exact ⟨hs, e, by omega, fun d hd => held_on (ok d hd) (by omega) g⟩
    · refine ⟨_, e, by rw [List.length_append, List.length_singleton]; omega, fun d hd => ?_⟩
      rcases List.mem_append.mp hd with hd | hd
      · exact held_on (ok d hd) (by omega) g
      · rw [List.mem_singleton.mp hd]
        exact ⟨j, ds, by omega, rfl, gj, gd⟩
end
end K29
namespace K29
open PySem PySem.Spec PyProof.Rows L2 DL
section
variable {c c' : Cell} {ms ms' : Sto} {p : Pl} {a b : Tg} {n : Nat}
theorem S9.all (h : S9 c ms p a b n) (g : ∀ (i : Nat) (cl : Cell), ms[i]? = some cl → ms'[i]? = some cl) (hc : BagOk c') : S9 c' ms' p a b n := by
  obtain ⟨o1, o2, o3, o4⟩ := h.ord
  refine ⟨hc, ⟨o1, o2, o3, ?_⟩, g _ _ h.gV, g _ _ h.gT, g _ _ h.g0, g _ _ h.g1, fun v hv => ?_, fun s hs => ?_, ?_⟩
  · have e : ms[ms.length - 1]? = some ms[ms.length - 1] := List.getElem?_eq_getElem (by omega)
    have := getLt (g _ _ e)
    omega
  · obtain ⟨L, e, l⟩ := h.gv v hv; exact ⟨L, g _ _ e, l⟩
  · obtain ⟨L, e, l⟩ := h.gs s hs; exact ⟨L, g _ _ e, l⟩
  · obtain ⟨hs, e, l, ok⟩ := h.gH
    refine ⟨hs, g _ _ e, l, fun d hd => ?_⟩
    obtain ⟨j, ds, lb, e, gj, gd⟩ := ok d hd
    exact ⟨j, ds, lb, e, g _ _ gj, gd⟩
theorem S9.up (h : S9 c ms p a b n) {k : Nat} (l : n ≤ k) : S9 c ms p a b k := ⟨h.bag, h.ord, h.gV, h.gT, h.g0, h.g1, fun v hv => by obtain ⟨L, e, l⟩ := h.gv v hv; exact ⟨L, e, by omega⟩, h.gs, by obtain ⟨hs, e, l2, ok⟩ := h.gH; exact ⟨hs, e, by omega, ok⟩⟩
/-- one of the two things -/
theorem S9.thing (h : S9 c ms p a b n) {v : Int} (v0 : 0 ≤ v) (v1 : v < 2) (ha : a.Ok) (hb : b.Ok) : ∃ t g, (t = p.t0 ∨ t = p.t1) ∧ Tg.Ok g ∧ ms[t]? = some g.cell ∧ atI [D.ptr (p.t0 + 1), .ptr (p.t1 + 1)] v = some (.ptr (t + 1)) ∧ atI [plainD a.w a.mrk, plainD b.w b.mrk] v = some (plainD g.w g.mrk) := by
  have : v = 0 ∨ v = 1 := by omega
  rcases this with rfl | rfl
  · exact ⟨p.t0, a, .inl rfl, ha, h.g0, rfl, rfl⟩
  · exact ⟨p.t1, b, .inr rfl, hb, h.g1, rfl, rfl⟩
end
abbrev spD (p : Pl) : D := .lst [.ptr (p.s0 + 1), .ptr (p.s1 + 1), .ptr (p.s2 + 1)]
abbrev LX (ns : List Int) (rd sw : Int) (x4 x5 x6 : Option D) (p : Pl) (a b : Tg) (x8 x13 x14 x15 x16 x17 x18 x19 : Option D) : DSt := [some (.fz (ns.map D.int)), some (.ptr 0), some (.int rd), some (.int sw), x4, x5, x6, some (.lst [plainD a.w a.mrk, plainD b.w b.mrk]), x8, some (.ptr (p.V + 1)), some (.ptr (p.T + 1)), some (.ptr (p.H + 1)), some (spD p), x13, x14, x15, x16, x17, x18, x19]
section
variable (ns : List Int) {rd sw : Int} {x4 x5 x6 x8 x13 x14 x15 x16 x17 x18 x19 : Option D} {p : Pl} {a b : Tg} {E : DEnds} {c : Cell} {ms : Sto} {n : Nat} (ha : a.Ok) (hb : b.Ok)
include ha hb
theorem turn_2 {s : Nat} {w : Int} (hs : s = p.s0 ∨ s = p.s1 ∨ s = p.s2) (h : S9 c ms p a b n) (k : ∀ c' ms' x17, S9 c' ms' p a b (n + 1) → E.nx (LX ns rd sw x4 x5 x6 p a b x8 x13 (some (.ptr (s + 1))) x15 (some (.int w)) x17 x18 x19) (c' :: ms')) :
    c_law_2 E (LX ns rd sw x4 x5 x6 p a b x8 x13 (some (.ptr (s + 1))) x15 (some (.int w)) x17 x18 x19) (c :: ms) := by
  obtain ⟨o1, o2, o3, o4⟩ := h.ord
  unfold c_law_2
  ((conv => whnf); (try (set_option simprocs false in dsimp only [])))
  refine br (fun e => ?_) (fun e => ?_)
  · ((conv => whnf); (try (set_option simprocs false in dsimp only [])))
    refine i_law_spots ⟨rfl, h.bag, ⟨ha.so, ha.th⟩, ⟨hb.so, hb.th⟩, fun c1 dn s0 s1 s2 sp0 sp1 sp2 hc1 ⟨l0, l1, l2, l3⟩ e0 e1 e2 h0 h1 h2 => ?_⟩
    ((conv => whnf); (try (set_option simprocs false in dsimp only [])))
    refine take_at hc1 (by decide) (sm (k := 64) (by decide) (by decide)) fun v1 c2 lo_v1 up_v1 hc_v1 => ?_
    ((conv => whnf); (try (set_option simprocs false in dsimp only [])))
    refine onS_at (P := fun d => ∃ (x : Nat) (sp : List Int), d = .ptr (x + 1) ∧ ms.length ≤ x ∧ (ms ++ dn)[x]? = some (.lst (sp.map D.int)) ∧ Spot sp) (al1 ⟨s0, sp0, rfl, by omega, e0, h0⟩ (al1 ⟨s1, sp1, rfl, by omega, e1, h1⟩ (al1 ⟨s2, sp2, rfl, by omega, e2, h2⟩ al0))) lo_v1 up_v1 fun d hd => ?_
    obtain ⟨x, sp, rfl, lx, ex, hsp⟩ := hd
    have h2 := h.app dn hc_v1
    obtain ⟨old, eo, _⟩ := h2.gs s hs
    ((conv => whnf); (try (set_option simprocs false in dsimp only [])))
    rw [lstOf_ptr (show (c2 :: (ms ++ dn))[s + 1]? = _ by rw [List.getElem?_cons_succ]; exact eo)]
    ((conv => whnf); (try (set_option simprocs false in dsimp only [])))
    rw [lstOf_ptr (show (c2 :: (ms ++ dn))[x + 1]? = _ by rw [List.getElem?_cons_succ]; exact ex)]
    ((conv => whnf); (try (set_option simprocs false in dsimp only [])))
    have lo := getLt eo
    refine ⟨fun k e => by cases e; omega, ?_, ?_⟩
    · rename_i hold
      have := hold.h6
      have := hsp.h6
      rw [List.length_map, List.length_map]
      omega
    · rw [List.set_cons_succ]
      refine k c2 _ _ (h2.one (.inr hs) (fun i cl ne z => by rw [List.getElem?_set_ne (fun y => ne y.symm)]; exact z) ⟨_, by rw [List.getElem?_set_self lo], fun z => ?_, fun _ => ⟨sp, rfl, hsp⟩⟩ hc_v1)
      exfalso
      omega
  · exact k c ms _ (h.up (by omega))
theorem turn_3 {s : Nat} {w : Int} (hs : s = p.s0 ∨ s = p.s1 ∨ s = p.s2) (nn : n ≤ 300) (h : S9 c ms p a b n) (k : ∀ c' ms' x17, S9 c' ms' p a b (n + 2) → E.nx (LX ns rd sw x4 x5 x6 p a b x8 x13 (some (.ptr (s + 1))) x15 (some (.int w)) x17 x18 x19) (c' :: ms')) :
    c_law_3 E (LX ns rd sw x4 x5 x6 p a b x8 x13 (some (.ptr (s + 1))) x15 (some (.int w)) x17 x18 x19) (c :: ms) := by
  obtain ⟨o1, o2, o3, o4⟩ := h.ord
  have gV : ∀ c' : Cell, (c' :: ms)[p.V + 1]? = some (.lst [.ptr (p.v0 + 1), .ptr (p.v1 + 1)]) := fun c' => by rw [List.getElem?_cons_succ]; exact h.gV
  unfold c_law_3
  ((conv => whnf); (try (set_option simprocs false in dsimp only [])))
  refine br (fun e => ?_) (fun e => ?_)
  · ((conv => whnf); (try (set_option simprocs false in dsimp only [])))
    refine take_at h.bag (by decide) (sm (k := 64) (by decide) (by decide)) fun v1 c1 lo_v1 up_v1 hc_v1 => ?_
    ((conv => whnf); (try (set_option simprocs false in dsimp only [])))
    rw [seqL_ptr, lstOf_ptr (gV c1)]
    ((conv => whnf); (try (set_option simprocs false in dsimp only [])))
    refine onS_at (P := fun d => ∃ x : Nat, d = .ptr (x + 1) ∧ (x = p.v0 ∨ x = p.v1)) (al1 ⟨_, rfl, .inl rfl⟩ (al1 ⟨_, rfl, .inr rfl⟩ al0)) lo_v1 up_v1 fun d hd => ?_
    obtain ⟨x, rfl, hx⟩ := hd
    ((conv => whnf); (try (set_option simprocs false in dsimp only [])))
    refine take_at hc_v1 (by decide) (sm (k := 64) (by decide) (by decide)) fun v2 c2 lo_v2 up_v2 hc_v2 => ?_
    obtain ⟨L, eL, lL⟩ := h.gv x hx
    ((conv => whnf); (try (set_option simprocs false in dsimp only [])))
    refine i_law_put (ds := L) ⟨rfl, hc_v2, eL, by omega, fun c3 L' hc3 lL' => ?_⟩
    ((conv => whnf); (try (set_option simprocs false in dsimp only [])))
    have lx := getLt eL
    exact turn_2 ns ha hb hs (h.one (.inl hx) (fun i cl ne z => by rw [List.getElem?_set_ne (fun y => ne y.symm)]; exact z) ⟨_, by rw [List.getElem?_set_self lx], fun _ => by omega, fun z => by exfalso; omega⟩ hc3) k
  · exact turn_2 ns ha hb hs (h.up (by omega : n ≤ n + 1)) k
theorem turn_5 (nn : n ≤ 90) (h : S9 c ms p a b n) (k : ∀ c' ms' x13 x14 x15 x16 x17, S9 c' ms' p a b (n + 3) → E.nx (LX ns rd sw x4 x5 x6 p a b x8 x13 x14 x15 x16 x17 x18 x19) (c' :: ms')) :
    b_law_5 E (LX ns rd sw x4 x5 x6 p a b x8 x13 x14 x15 x16 x17 x18 x19) (c :: ms) := by
  obtain ⟨o1, o2, o3, o4⟩ := h.ord
  have gT : ∀ c' : Cell, (c' :: ms)[p.T + 1]? = some (.lst [.ptr (p.t0 + 1), .ptr (p.t1 + 1)]) := fun c' => by rw [List.getElem?_cons_succ]; exact h.gT
  unfold b_law_5
  ((conv => whnf); (try (set_option simprocs false in dsimp only [])))
  refine take_at h.bag (by decide) (sm (k := 64) (by decide) (by decide)) fun v1 c1 lo_v1 up_v1 hc_v1 => ?_
  ((conv => whnf); (try (set_option simprocs false in dsimp only [])))
  refine take_at hc_v1 (by decide) (sm (k := 64) (by decide) (by decide)) fun v2 c2 lo_v2 up_v2 hc_v2 => ?_
  ((conv => whnf); (try (set_option simprocs false in dsimp only [])))
  refine onS_at (P := fun d => ∃ s : Nat, d = .ptr (s + 1) ∧ (s = p.s0 ∨ s = p.s1 ∨ s = p.s2)) (al1 ⟨_, rfl, .inl rfl⟩ (al1 ⟨_, rfl, .inr (.inl rfl)⟩ (al1 ⟨_, rfl, .inr (.inr rfl)⟩ al0))) lo_v2 up_v2 fun d hd => ?_
  obtain ⟨s, rfl, hs⟩ := hd
  obtain ⟨sp, es, hsp⟩ := h.gs s hs
  ((conv => whnf); (try (set_option simprocs false in dsimp only [])))
  rw [seqL_ptr, lstOf_ptr (show (c2 :: ms)[s + 1]? = _ by rw [List.getElem?_cons_succ]; exact es)]
  ((conv => whnf); (try (set_option simprocs false in dsimp only [])))
  obtain ⟨t, g, ht, og, gt, et, ep⟩ := h.thing lo_v1 up_v1 ha hb
  rw [seqL_ptr, lstOf_ptr (gT c2)]
  ((conv => whnf); (try (set_option simprocs false in dsimp only [])))
  rw [et]
  ((conv => whnf); (try (set_option simprocs false in dsimp only [])))
  rw [ep]
  ((conv => whnf); (try (set_option simprocs false in dsimp only [])))
  obtain ⟨hs0, eh, lh, okh⟩ := h.gH
  refine i_law_asked (t := t) (k := g.k) (sp := sp) (s := s) (hh := p.H) (hs := hs0) ⟨rfl, hc_v2, og.so, og.th, gt, es, hsp, eh, by omega, fun c3 ms3 hc3 g3 hd3 => ?_⟩
  have h3 := h.held eh g3 hd3 hc3
  have es3 := g3 s _ (by omega) es
  refine bf ?_
  ((conv => whnf); (try (set_option simprocs false in dsimp only [])))
  refine ptr_alike (by rw [List.getElem?_cons_succ]; exact es3) ((gd_ints hsp.rg (by have := hsp.h6; omega)).mono (by decide) (by decide)) ?_
  refine bf ?_
  unfold c_law_4
  ((conv => whnf); (try (set_option simprocs false in dsimp only [])))
  refine take_at hc3 (by decide) (sm (k := 64) (by decide) (by decide)) fun v3 c4 lo_v3 up_v3 hc_v3 => ?_
  ((conv => whnf); (try (set_option simprocs false in dsimp only [])))
  exact turn_3 ns ha hb hs (by omega) (h3.bg hc_v3) fun c' ms' x17 h' => k _ _ _ _ _ _ _ h'
end
end K29
namespace K29
open PySem PySem.Spec PyProof.Rows L2 DL
section
variable (ns : List Int) {rd sw : Int} {x4 x5 x6 x8 x13 x14 x15 x16 x17 x18 x19 : Option D} {p : Pl} {a b : Tg} {E : DEnds} {c : Cell} {ms : Sto} {n : Nat} (ha : a.Ok) (hb : b.Ok)
include ha hb
/-- asked once more, with nothing held as yet -/
theorem turn_7 {s : Nat} {v : Int} (hs : s = p.s0 ∨ s = p.s1 ∨ s = p.s2) (lv0 : 0 ≤ v) (lv1 : v < 2) (h : S9 c ms p a b n) (k : ∀ c' ms', S9 c' ms' p a b n → E.nx (LX ns rd sw x4 x5 x6 p a b x8 (some (.int v)) (some (.ptr (s + 1))) x15 x16 x17 x18 x19) (c' :: ms')) :
    b_law_7 E (LX ns rd sw x4 x5 x6 p a b x8 (some (.int v)) (some (.ptr (s + 1))) x15 x16 x17 x18 x19) (c :: ms) := by
  obtain ⟨o1, o2, o3, o4⟩ := h.ord
  have gT : ∀ c' : Cell, (c' :: ms)[p.T + 1]? = some (.lst [.ptr (p.t0 + 1), .ptr (p.t1 + 1)]) := fun c' => by rw [List.getElem?_cons_succ]; exact h.gT
  obtain ⟨sp, es, hsp⟩ := h.gs s hs
  obtain ⟨t, g, ht, og, gt, et, ep⟩ := h.thing lv0 lv1 ha hb
  unfold b_law_7
  ((conv => whnf); (try (set_option simprocs false in dsimp only [])))
  rw [seqL_ptr, lstOf_ptr (gT c)]
  ((conv => whnf); (try (set_option simprocs false in dsimp only [])))
  rw [et]
  ((conv => whnf); (try (set_option simprocs false in dsimp only [])))
  rw [ep]
  ((conv => whnf); (try (set_option simprocs false in dsimp only [])))
  rw [show (c :: ms).length = ms.length + 1 from rfl, List.cons_append]
  refine ⟨Nat.zero_le _, ?_⟩
  ((conv => whnf); (try (set_option simprocs false in dsimp only [])))
  refine i_law_asked (t := t) (k := g.k) (sp := sp) (s := s) (hh := ms.length) (hs := []) (ms := ms ++ [.lst []]) ⟨rfl, h.bag, og.so, og.th, get_app gt, get_app es, hsp, by simp, by simp, fun c3 ms3 hc3 g3 _ => ?_⟩
  refine bf ?_
  exact k c3 ms3 (h.all (fun i cl z => g3 i cl (by have := getLt z; omega) (get_app z)) hc3)
theorem turn_8 {v : Int} (lv0 : 0 ≤ v) (lv1 : v < 2) (h : S9 c ms p a b n) (k : ∀ c' ms' x14, S9 c' ms' p a b n → E.nx (LX ns rd sw x4 x5 x6 p a b x8 (some (.int v)) x14 x15 x16 x17 x18 x19) (c' :: ms')) :
    b_law_8 E (LX ns rd sw x4 x5 x6 p a b x8 (some (.int v)) x14 x15 x16 x17 x18 x19) (c :: ms) := by
  unfold b_law_8
  ((conv => whnf); (try (set_option simprocs false in dsimp only [])))
  refine forD_ind (fun us r m' => ∃ c ms x14, r = LX ns rd sw x4 x5 x6 p a b x8 (some (.int v)) x14 x15 x16 x17 x18 x19 ∧ m' = c :: ms ∧ S9 c ms p a b n ∧ ∀ u ∈ us, ∃ s : Nat, u = .ptr (s + 1) ∧ (s = p.s0 ∨ s = p.s1 ∨ s = p.s2)) ?_ (fun _ _ _ _ => trivial) ?_ _ _ _ ⟨_, _, _, rfl, rfl, h, al1 ⟨_, rfl, .inl rfl⟩ (al1 ⟨_, rfl, .inr (.inl rfl)⟩ (al1 ⟨_, rfl, .inr (.inr rfl)⟩ al0))⟩
  · rintro u us r m' N ⟨c, ms, x14, rfl, rfl, h, hu⟩ kk
    obtain ⟨s, rfl, hs⟩ := hu u List.mem_cons_self
    exact turn_7 ns ha hb hs lv0 lv1 h fun c' ms' h' => kk _ _ ⟨c', ms', _, rfl, rfl, h', fun u z => hu u (List.mem_cons_of_mem _ z)⟩
  · rintro r m' ⟨c, ms, x14, rfl, rfl, h, -⟩
    exact k c ms x14 h
theorem turn_9 (h : S9 c ms p a b n) (k : ∀ m', E.rt (.bl true) m') :
    c_law_9 E (LX ns rd sw x4 x5 x6 p a b x8 x13 x14 x15 x16 x17 x18 x19) (c :: ms) := by
  obtain ⟨hs, eh, lh, okh⟩ := h.gH
  unfold c_law_9
  ((conv => whnf); (try (set_option simprocs false in dsimp only [])))
  rw [items_ptr (show (c :: ms)[p.H + 1]? = some (.lst hs) by rw [List.getElem?_cons_succ]; exact eh)]
  ((conv => whnf); (try (set_option simprocs false in dsimp only [])))
  refine forD_ind (fun us r m' => ∃ x18 x19, r = LX ns rd sw x4 x5 x6 p a b x8 x13 x14 x15 x16 x17 x18 x19 ∧ m' = c :: ms ∧ ∀ u ∈ us, HeldOk ms p.B u) ?_ (fun _ _ m' z => by obtain ⟨_, _, _, rfl, _⟩ := z; show (c :: ms)[p.H + 1]? = some (.lst hs); rw [List.getElem?_cons_succ]; exact eh) ?_ _ _ _ ⟨_, _, rfl, rfl, okh⟩
  · rintro u us r m' N ⟨x18, x19, rfl, rfl, hu⟩ kk
    obtain ⟨j, ds, lb, rfl, gj, gd⟩ := hu u List.mem_cons_self
    ((conv => whnf); (try (set_option simprocs false in dsimp only [])))
    refine ⟨rfl, ?_⟩
    ((conv => whnf); (try (set_option simprocs false in dsimp only [])))
    refine ptr_alike (by rw [List.getElem?_cons_succ]; exact gj) gd ?_
    refine bf ?_
    exact kk _ _ ⟨_, _, rfl, rfl, fun u z => hu u (List.mem_cons_of_mem _ z)⟩
  · rintro r m' ⟨x18, x19, rfl, rfl, -⟩
    ((conv => whnf); (try (set_option simprocs false in dsimp only [])))
    refine ⟨⟨by decide, by decide⟩, ?_⟩
    refine forD_ind (fun us r m' => ∃ c ms x13 x14, r = LX ns rd sw x4 x5 x6 p a b x8 x13 x14 x15 x16 x17 x18 x19 ∧ m' = c :: ms ∧ S9 c ms p a b n ∧ ∀ u ∈ us, ∃ v : Int, u = .int v ∧ 0 ≤ v ∧ v < 2) ?_ (fun _ _ _ _ => trivial) ?_ _ _ _ ⟨_, _, _, _, rfl, rfl, h, fun u z => ?_⟩
    · rintro u us r m' N ⟨c, ms, x13, x14, rfl, rfl, h, hu⟩ kk
      obtain ⟨v, rfl, v0, v1⟩ := hu u List.mem_cons_self
      exact turn_8 ns ha hb v0 v1 h fun c' ms' x14 h' => kk _ _ ⟨c', ms', _, _, rfl, rfl, h', fun u z => hu u (List.mem_cons_of_mem _ z)⟩
    · rintro r m' ⟨c, ms, x13, x14, rfl, rfl, h, -⟩
      ((conv => whnf); (repeat ((first | refine ⟨Nat.le_of_ble_eq_true rfl, ?_⟩ | refine bt ?_ | refine bf ?_); (conv => whnf))); (try (set_option simprocs false in dsimp only [])))
      exact k _
    · obtain ⟨i, hi, rfl⟩ := List.mem_map.mp z
      have := List.mem_range.mp hi
      exact ⟨_, rfl, by omega, by omega⟩
theorem turn_10 (r0 : 0 ≤ rd) (r1 : rd ≤ 10) (h : S9 c ms p a b 0) (k : ∀ m', E.rt (.bl true) m') :
    c_law_10 E (LX ns rd sw x4 x5 x6 p a b x8 x13 x14 x15 x16 x17 x18 x19) (c :: ms) := by
  unfold c_law_10
  ((conv => whnf); (try (set_option simprocs false in dsimp only [])))
  refine ⟨⟨by omega, by omega⟩, ?_⟩
  refine forD_ind (fun us r m' => ∃ c ms n x8 x13 x14 x15 x16 x17, r = LX ns rd sw x4 x5 x6 p a b x8 x13 x14 x15 x16 x17 x18 x19 ∧ m' = c :: ms ∧ S9 c ms p a b n ∧ n + 3 * us.length ≤ 30) ?_ (fun _ _ _ _ => trivial) ?_ _ _ _ ⟨_, _, 0, _, _, _, _, _, _, rfl, rfl, h, by rw [List.length_map, List.length_range]; omega⟩
  · rintro u us r m' N ⟨c, ms, n, x8, x13, x14, x15, x16, x17, rfl, rfl, h, hn⟩ kk
    rw [List.length_cons] at hn
    exact turn_5 ns ha hb (by omega) h fun c' ms' x13 x14 x15 x16 x17 h' => kk _ _ ⟨c', ms', _, _, _, _, _, _, _, rfl, rfl, h', by omega⟩
  · rintro r m' ⟨c, ms, n, x8, x13, x14, x15, x16, x17, rfl, rfl, h, hn⟩
    exact turn_9 ns ha hb h k
end
end K29
namespace K29
open PySem PySem.Spec PyProof.Rows L2 DL
section
variable (ns : List Int) {rd sw : Int} {x6 x8 x13 x14 x15 x16 x17 x18 x19 : Option D} {a b : Tg} {E : DEnds} {c : Cell} {ms : Sto} (ha : a.Ok) (hb : b.Ok)
include ha hb
abbrev LY (ns : List Int) (rd sw y0 y1 : Int) (a b : Tg) (V : Nat) (x8 x10 : Option D) : DSt := [some (.fz (ns.map D.int)), some (.ptr 0), some (.int rd), some (.int sw), some (.lst [.int y0, .int y1]), some (.lst [.str a.w, .str b.w]), some (.lst [.lst (a.mrk.map D.int), .lst (b.mrk.map D.int)]), some (.lst [plainD a.w a.mrk, plainD b.w b.mrk]), x8, some (.ptr (V + 1)), x10, none, none, none, none, none, none, none, none, none]
theorem turn_12 {y0 y1 : Int} {v0 v1 V t0 T : Nat} {L0 : List D} (o : (v0 < V ∧ v1 < V) ∧ V < t0 ∧ t0 < T ∧ T < ms.length) (hc : BagOk c) (gV : ms[V]? = some (.lst [.ptr (v0 + 1), .ptr (v1 + 1)])) (gT : ms[T]? = some (.lst [.ptr (t0 + 1)])) (g0 : ms[t0]? = some a.cell)
    (e0 : ms[v0]? = some (.lst L0)) (l00 : L0.length ≤ 100) (e1 : ms[v1]? = some (.lst (b.mrk.map D.int))) (r0 : 0 ≤ rd) (r1 : rd ≤ 10) (k : ∀ m', E.rt (.bl true) m') :
    c_law_12 E (LY ns rd sw y0 y1 a b V x8 (some (.ptr (T + 1)))) (c :: ms) := by
  obtain ⟨⟨o1, o2⟩, o3, o4, o5⟩ := o
  have gV1 : (c :: ms)[V + 1]? = some (.lst [.ptr (v0 + 1), .ptr (v1 + 1)]) := by rw [List.getElem?_cons_succ]; exact gV
  have gT1 : (c :: ms)[T + 1]? = some (.lst [.ptr (t0 + 1)]) := by rw [List.getElem?_cons_succ]; exact gT
  have l8 := hb.th.mk.h8
  unfold c_law_12
  ((conv => whnf); (try (set_option simprocs false in dsimp only [])))
  rw [lstOf_ptr gT1]
  ((conv => whnf); (try (set_option simprocs false in dsimp only [])))
  rw [seqL_ptr, lstOf_ptr gV1]
  ((conv => whnf); (try (set_option simprocs false in dsimp only [])))
  refine i_law_made ⟨hb.so, hb.th, by rw [seqL_ptr]; exact lstOf_ptr (by rw [List.getElem?_cons_succ]; exact e1), ?_⟩
  ((conv => whnf); (try (set_option simprocs false in dsimp only [])))
  rw [lstOf_ptr (get_app gT1)]
  ((conv => whnf); (try (set_option simprocs false in dsimp only [])))
  refine ⟨Nat.le_of_ble_eq_true rfl, ?_⟩
  obtain ⟨M, eM⟩ : ∃ M : Sto, M = (ms ++ [b.cell]).set T (.lst [.ptr (t0 + 1), .ptr (ms.length + 1)]) := ⟨_, rfl⟩
  have lM : M.length = ms.length + 1 := by rw [eM, List.length_set, List.length_append, List.length_singleton]
  have gM : ∀ i cl, i ≠ T → ms[i]? = some cl → M[i]? = some cl := fun i cl ne z => by rw [eM, List.getElem?_set_ne (fun y => ne y.symm)]; exact get_app z
  have gMT : M[T]? = some (.lst [.ptr (t0 + 1), .ptr (ms.length + 1)]) := by rw [eM]; exact List.getElem?_set_self (by rw [List.length_append, List.length_singleton]; omega)
  have gMb : M[ms.length]? = some b.cell := by rw [eM, List.getElem?_set_ne (by omega)]; simp
  have tm : ((c :: ms) ++ [b.cell]).set (T + 1) (.lst ([.ptr (t0 + 1)] ++ [.ptr (c :: ms).length])) = c :: M := by rw [eM]; rfl
  refine Eq.mpr (congrArg (c_law_11 E _) tm) ?_
  unfold c_law_11
  ((conv => whnf); (try (set_option simprocs false in dsimp only [])))
  refine ⟨Nat.zero_le _, ?_⟩
  ((conv => whnf); (try (set_option simprocs false in dsimp only [])))
  refine i_law_spots (c := c) (ms := M ++ [.lst []]) ⟨rfl, hc, ⟨ha.so, ha.th⟩, ⟨hb.so, hb.th⟩, fun c1 dn s0 s1 s2 sp0 sp1 sp2 hc1 ⟨l0, l1, l2, l3⟩ f0 f1 f2 h0 h1 h2 => ?_⟩
  rw [List.length_append, List.length_singleton] at l0
  have up : ∀ {i cl}, M[i]? = some cl → (M ++ [Cell.lst []] ++ dn)[i]? = some cl := fun z => get_app (get_app z)
  refine turn_10 ns (p := ⟨v0, v1, V, t0, T, ms.length, M.length, s0, s1, s2, (M ++ [Cell.lst []] ++ dn).length⟩) ha hb r0 r1 ⟨hc1, ⟨⟨by omega, by omega, by omega⟩, ⟨by omega, by omega, by show ms.length < M.length; omega⟩, ⟨by show M.length < s0; omega, l1, l2, l3⟩, Nat.le_refl _⟩, up (gM _ _ (by show V ≠ T; omega) gV), up gMT, up (gM _ _ (by show t0 ≠ T; omega) g0), up gMb, fun v hv => ?_, fun s hs => ?_, ⟨[], ?_, Nat.zero_le _, fun _ z => nomatch z⟩⟩ k
  · rcases hv with rfl | rfl
    · exact ⟨_, up (gM _ _ (by omega) e0), l00⟩
    · exact ⟨_, up (gM _ _ (by omega) e1), by rw [List.length_map]; omega⟩
  · rcases hs with rfl | rfl | rfl
    · exact ⟨_, f0, h0⟩
    · exact ⟨_, f1, h1⟩
    · exact ⟨_, f2, h2⟩
  · exact get_app (by simp)
end
def plF (x y : D) : D → D
  | .int 0 => x
  | _ => y
theorem sorts_at {v : Int} (h0 : 0 ≤ v) (h1 : v < 2) : ∃ w k : Str, So w k ∧ atI [D.str "scale", D.str "box"] v = some (.str w) := by
  have : v = 0 ∨ v = 1 := by omega
  rcases this with rfl | rfl
  · exact ⟨_, _, .sc, rfl⟩
  · exact ⟨_, _, .bx, rfl⟩
end K29
namespace K29
open PySem PySem.Spec PyProof.Rows L2 DL
section
variable (ns : List Int) {rd sw : Int} {x8 : Option D} {a b : Tg} {E : DEnds} {c : Cell} {ms : Sto} (ha : a.Ok) (hb : b.Ok)
include ha hb
theorem turn_13 {y0 y1 : Int} (hc : BagOk c) (r0 : 0 ≤ rd) (r1 : rd ≤ 10) (k : ∀ m', E.rt (.bl true) m') :
    c_law_13 E (LY ns rd sw y0 y1 a b (ms.length + 2) x8 none) (c :: (ms ++ [.lst (a.mrk.map D.int), .lst (b.mrk.map D.int), .lst [.ptr (ms.length + 1), .ptr (ms.length + 2)]])) := by
  have la := ha.th.mk.h8
  have lb := hb.th.mk.h8
  obtain ⟨N, eN⟩ : ∃ N : Sto, N = ms ++ [.lst (a.mrk.map D.int), .lst (b.mrk.map D.int), .lst [.ptr (ms.length + 1), .ptr (ms.length + 2)]] := ⟨_, rfl⟩
  have lN : N.length = ms.length + 3 := by rw [eN]; simp
  have n0 : N[ms.length]? = some (.lst (a.mrk.map D.int)) := by rw [eN]; simp
  have n1 : N[ms.length + 1]? = some (.lst (b.mrk.map D.int)) := by rw [eN]; simp
  have n2 : N[ms.length + 2]? = some (.lst [.ptr (ms.length + 1), .ptr (ms.length + 2)]) := by rw [eN]; simp
  rw [← eN]
  have nc : ∀ {i cl}, N[i]? = some cl → (c :: N)[i + 1]? = some cl := fun z => by rw [List.getElem?_cons_succ]; exact z
  unfold c_law_13
  ((conv => whnf); (try (set_option simprocs false in dsimp only [])))
  rw [seqL_ptr, lstOf_ptr (nc n2)]
  ((conv => whnf); (try (set_option simprocs false in dsimp only [])))
  refine i_law_made ⟨ha.so, ha.th, by rw [seqL_ptr]; exact lstOf_ptr (nc n0), ?_⟩
  ((conv => whnf); (try (set_option simprocs false in dsimp only [])))
  refine ⟨Nat.le_of_ble_eq_true rfl, ?_⟩
  obtain ⟨M, eM⟩ : ∃ M : Sto, M = N ++ [a.cell, .lst [.ptr (N.length + 1)]] := ⟨_, rfl⟩
  have lM : M.length = N.length + 2 := by rw [eM]; simp
  have up : ∀ {i cl}, N[i]? = some cl → M[i]? = some cl := fun z => by rw [eM]; exact get_app z
  have mT : M[N.length + 1]? = some (.lst [.ptr (N.length + 1)]) := by rw [eM]; simp
  have mt : M[N.length]? = some a.cell := by rw [eM]; simp
  have e1 : (c :: N) ++ [a.cell] ++ [.lst [.ptr (c :: N).length]] = c :: M := by rw [eM]; simp
  have e2 : ((c :: N) ++ [a.cell]).length = N.length + 2 := by simp
  rw [e1, e2]
  have mc : ∀ {i cl}, M[i]? = some cl → (c :: M)[i + 1]? = some cl := fun z => by rw [List.getElem?_cons_succ]; exact z
  ((conv => whnf); (try (set_option simprocs false in dsimp only [])))
  refine br (fun e => ?_) (fun e => ?_)
  · ((conv => whnf); (try (set_option simprocs false in dsimp only [])))
    rw [seqL_ptr, lstOf_ptr (get_app (mc (up n2)))]
    ((conv => whnf); (try (set_option simprocs false in dsimp only [])))
    rw [lstOf_ptr (get_app (mc (up n0)))]
    ((conv => whnf); (try (set_option simprocs false in dsimp only [])))
    rw [lstOf_ptr (show ((c :: M) ++ [Cell.lst (b.mrk.map D.int)])[(c :: M).length]? = some (.lst (b.mrk.map D.int)) by simp)]
    ((conv => whnf); (try (set_option simprocs false in dsimp only [])))
    refine ⟨fun j z => ?_, by rw [List.length_map, List.length_map]; omega, ?_⟩
    · have z1 : (c :: M).length = j := by injection z
      rw [← z1, List.length_cons]
      omega
    obtain ⟨M2, eM2⟩ : ∃ M2 : Sto, M2 = (M ++ [Cell.lst (b.mrk.map D.int)]).set ms.length (.lst (b.mrk.map D.int)) := ⟨_, rfl⟩
    have f1 : ((c :: M) ++ [Cell.lst (b.mrk.map D.int)]).set (ms.length + 1) (.lst (b.mrk.map D.int)) = c :: M2 := by rw [eM2]; rfl
    have lM2 : M2.length = M.length + 1 := by rw [eM2, List.length_set, List.length_append, List.length_singleton]
    have g2 : ∀ i cl, i ≠ ms.length → M[i]? = some cl → M2[i]? = some cl := fun i cl ne z => by rw [eM2, List.getElem?_set_ne (fun y => ne y.symm)]; exact get_app z
    have g0 : M2[ms.length]? = some (.lst (b.mrk.map D.int)) := by rw [eM2]; exact List.getElem?_set_self (by rw [List.length_append]; omega)
    rw [f1]
    have mc2 : ∀ {i cl}, M2[i]? = some cl → (c :: M2)[i + 1]? = some cl := fun z => by rw [List.getElem?_cons_succ]; exact z
    have n22 := g2 _ _ (by omega) (up n2)
    ((conv => whnf); (try (set_option simprocs false in dsimp only [])))
    rw [seqL_ptr, lstOf_ptr (mc2 n22)]
    ((conv => whnf); (try (set_option simprocs false in dsimp only [])))
    rw [lstOf_ptr (mc2 n22)]
    obtain ⟨M3, eM3⟩ : ∃ M3 : Sto, M3 = M2.set (ms.length + 2) (.lst [.ptr (ms.length + 1), .ptr (ms.length + 1)]) := ⟨_, rfl⟩
    have lM3 : M3.length = M2.length := by rw [eM3, List.length_set]
    have g3 : ∀ i cl, i ≠ ms.length + 2 → M2[i]? = some cl → M3[i]? = some cl := fun i cl ne z => by rw [eM3, List.getElem?_set_ne (fun y => ne y.symm)]; exact z
    have g33 : M3[ms.length + 2]? = some (.lst [.ptr (ms.length + 1), .ptr (ms.length + 1)]) := by rw [eM3]; exact List.getElem?_set_self (by omega)
    have gg : ∀ i cl, i ≠ ms.length → i ≠ ms.length + 2 → M[i]? = some cl → M3[i]? = some cl := fun i cl ne ne2 z => g3 _ _ ne2 (g2 _ _ ne z)
    have f3 : (c :: M2).set (ms.length + 2 + 1) (.lst [.ptr (ms.length + 1), .ptr (ms.length + 1)]) = c :: M3 := by rw [eM3]; rfl
    change c_law_12 E (LY ns rd sw y0 y1 a b (ms.length + 2) x8 (some (.ptr (N.length + 2)))) ((c :: M2).set (ms.length + 2 + 1) (.lst [.ptr (ms.length + 1), .ptr (ms.length + 1)]))
    rw [f3]
    exact turn_12 (v0 := ms.length) (v1 := ms.length) (V := ms.length + 2) (t0 := N.length) (T := N.length + 1) ns ha hb ⟨⟨by omega, by omega⟩, by omega, by omega, by omega⟩ hc g33 (gg _ _ (by omega) (by omega) mT) (gg _ _ (by omega) (by omega) mt) (g3 _ _ (by omega) g0) (by rw [List.length_map]; omega) (g3 _ _ (by omega) g0) r0 r1 k
  · exact turn_12 (v0 := ms.length) (v1 := ms.length + 1) (V := ms.length + 2) (t0 := N.length) (T := N.length + 1) ns ha hb ⟨⟨by omega, by omega⟩, by omega, by omega, by omega⟩ hc (up n2) mT mt (up n0) (by rw [List.length_map]; omega) (up n1) r0 r1 k
end
theorem r_law (ds : List D) (m : Sto) (q : D → Sto → Prop) (hl : ds.length = 1) (h : lawD ds m q) : t_law { nx := fun _ m' => q .non m', rt := q } (startD N_law ds) m := by
  obtain ⟨ns, rfl, hn, rfl, h⟩ := h
  unfold t_law
  ((conv => whnf); (try (set_option simprocs false in dsimp only [])))
  refine i_law_bag hn fun c hc => ?_
  ((conv => whnf); (try (set_option simprocs false in dsimp only [])))
  rw [List.nil_append, List.length_nil]
  refine take_at hc (by decide) (sm (k := 64) (by decide) (by decide)) fun v1 c1 lo_v1 up_v1 hc_v1 => ?_
  ((conv => whnf); (try (set_option simprocs false in dsimp only [])))
  refine take_at hc_v1 (by decide) (sm (k := 64) (by decide) (by decide)) fun v2 c2 lo_v2 up_v2 hc_v2 => ?_
  ((conv => whnf); (try (set_option simprocs false in dsimp only [])))
  refine take_at hc_v2 (by decide) (sm (k := 64) (by decide) (by decide)) fun v3 c3 lo_v3 up_v3 hc_v3 => ?_
  ((conv => whnf); (try (set_option simprocs false in dsimp only [])))
  refine take_at hc_v3 (by decide) (sm (k := 64) (by decide) (by decide)) fun v4 c4 lo_v4 up_v4 hc_v4 => ?_
  ((conv => whnf); (try (set_option simprocs false in dsimp only [])))
  refine ⟨Nat.le_of_ble_eq_true rfl, ?_⟩
  ((conv => whnf); (try (set_option simprocs false in dsimp only [])))
  refine ⟨Nat.le_of_ble_eq_true rfl, ?_⟩
  ((conv => whnf); (try (set_option simprocs false in dsimp only [])))
  refine take_at hc_v4 (by decide) (sm (k := 64) (by decide) (by decide)) fun v5 c5 lo_v5 up_v5 hc_v5 => ?_
  ((conv => whnf); (try (set_option simprocs false in dsimp only [])))
  obtain ⟨w0, k0, so0, ew0⟩ := sorts_at lo_v5 up_v5
  rw [ew0]
  ((conv => whnf); (try (set_option simprocs false in dsimp only [])))
  refine ⟨Nat.le_of_ble_eq_true rfl, ?_⟩
  ((conv => whnf); (try (set_option simprocs false in dsimp only [])))
  refine take_at hc_v5 (by decide) (sm (k := 64) (by decide) (by decide)) fun v6 c6 lo_v6 up_v6 hc_v6 => ?_
  ((conv => whnf); (try (set_option simprocs false in dsimp only [])))
  obtain ⟨w1, k1, so1, ew1⟩ := sorts_at lo_v6 up_v6
  rw [ew1]
  ((conv => whnf); (try (set_option simprocs false in dsimp only [])))
  refine ⟨Nat.le_of_ble_eq_true rfl, ?_⟩
  ((conv => whnf); (try (set_option simprocs false in dsimp only [])))
  refine i_law_marks ⟨rfl, hc_v6, so0.w, fun m0 c7 d7 mk0 hc7 => ?_⟩
  ((conv => whnf); (try (set_option simprocs false in dsimp only [])))
  refine i_law_marks ⟨rfl, hc7, so1.w, fun m1 c8 d8 mk1 hc8 => ?_⟩
  ((conv => whnf); (try (set_option simprocs false in dsimp only [])))
  refine ⟨Nat.le_of_ble_eq_true rfl, ?_⟩
  ((conv => whnf); (try (set_option simprocs false in dsimp only [])))
  refine ⟨⟨by decide, by decide⟩, ?_⟩
  refine ⟨by rw [List.length_map, List.length_range]; exact Nat.le_of_ble_eq_true rfl, ?_⟩
  refine lc_map (plF (plainD w0 m0) (plainD w1 m1)) (fun y hy N hN => ?_) trivial ?_
  · obtain ⟨i, hi, rfl⟩ := List.mem_map.mp hy
    have i2 := List.mem_range.mp hi
    have : i = 0 ∨ i = 1 := by have : (2 : Int).toNat = 2 := rfl; omega
    rcases this with rfl | rfl
    · ((conv => whnf); (try (set_option simprocs false in dsimp only [])))
      exact hN
    · ((conv => whnf); (try (set_option simprocs false in dsimp only [])))
      exact hN
  ((conv => whnf); (try (set_option simprocs false in dsimp only [])))
  refine ⟨Nat.le_of_ble_eq_true rfl, ?_⟩
  obtain ⟨X, eX⟩ : ∃ X : Sto, X = [] ++ d7 ++ d8 := ⟨_, rfl⟩
  rw [← eX]
  have t1 : (c8 :: X ++ [Cell.lst (m0.map D.int)] ++ [Cell.lst (m1.map D.int)]).length = X.length + 3 := by simp
  have t2 : (c8 :: X ++ [Cell.lst (m0.map D.int)]).length = X.length + 2 := by simp
  have t3 : (c8 :: X).length = X.length + 1 := rfl
  rw [t1, t2, t3]
  have := turn_13 (a := ⟨w0, k0, m0⟩) (b := ⟨w1, k1, m1⟩) (E := { nx := fun _ m' => q .non m', rt := q }) (ms := X) (x8 := none) (rd := 4 + v1) (sw := v2) (y0 := v3) (y1 := v4) ns ⟨so0, so0.th mk0⟩ ⟨so1, so1.th mk1⟩ hc8 (by omega) (by omega) h
  rw [show X ++ [Cell.lst (m0.map D.int), .lst (m1.map D.int), .lst [.ptr (X.length + 1), .ptr (X.length + 2)]] = X ++ [Cell.lst (m0.map D.int)] ++ [Cell.lst (m1.map D.int)] ++ [Cell.lst [.ptr (X.length + 1), .ptr (X.length + 2)]] by simp] at this
  exact this
abbrev g_law : FN := lawD
end K29
namespace K29
open PySem PySem.Spec PyProof.Rows L2 DL
theorem r_is_whole (ds : List D) (m : Sto) (q : D → Sto → Prop) (hl : ds.length = 1) (h : g_is_whole ds m q) : t_is_whole { nx := fun _ m' => q .non m', rt := q } (startD N_is_whole ds) m := DL.r_is_whole _ ds m q hl h
theorem r_lowest (ds : List D) (m : Sto) (q : D → Sto → Prop) (hl : ds.length = 2) (h : g_lowest ds m q) : t_lowest { nx := fun _ m' => q .non m', rt := q } (startD N_lowest ds) m := DL.r_lowest ds m q hl h
theorem r_law_bag (ds : List D) (m : Sto) (q : D → Sto → Prop) (hl : ds.length = 1) (h : g_law_bag ds m q) : t_law_bag { nx := fun _ m' => q .non m', rt := q } (startD N_law_bag ds) m := DL.r_law_bag _ _ ds m q hl h
theorem r_law_take (ds : List D) (m : Sto) (q : D → Sto → Prop) (hl : ds.length = 2) (h : g_law_take ds m q) : t_law_take { nx := fun _ m' => q .non m', rt := q } (startD N_law_take ds) m := DL.take_all _ rfl ds m q h
section
variable [Cl] {P : Program} {w : World} {K : PySem.W.Frag} {mg : Str → Option Value} {base : Heap}
theorem xk_NoSpot {C CE fa : Addr} {fd : FuncData} (F : L2.Fun K "__init__" "NoSpot.__init__" s_NoSpot___init fa fd) (ad : Cl.ad "NoSpot" = some C) (hm : mg "NoSpot" = some (.ref C)) (ef : exfB K C = true) (iC : PySem.W.findIn K (.ref C) "__init__" = some (some (.ref fa))) (tI : PySem.W.typeIn K (.ref fa) = some (.type "function")) (b : Binds K fd ["self"] []) (mc : mg "ChainError" = some (.ref CE)) (ga : PySem.W.specialIn K (.ref CE) "__getattribute__" = some (some (.builtin "type.__getattribute__"))) (rd : PySem.W.readsIn K CE (.type "type") = true) (vV : PySem.W.findCls K (.ref CE) (.type "type") "__init__" = some (.val (.builtin "ValueError.__init__"))) : XK0 P w K mg base "NoSpot" :=
  xk0_mk (txt := "it does not fit") F sc_NoSpot___init ad hm ef iC tI b (fun cdv A outer s H E => (pss_one (ps_expr (pe_ceinit rfl mc ga rd vV (pa_cons (pe_var (i := 0) rfl (.inl rfl)) (pa_cons pe_str pa_nil))))))
theorem ok_is_whole {fa : Addr} {fd : FuncData} (F : L2.Fun K "is_whole" "is_whole" s_is_whole fa fd) (z_isinstance : mg "isinstance" = none) (z_int : mg "int" = none) (z_bool : mg "bool" = none) : FnG P w K mg base 1 fa fd ["thing"] (spOf K 1 g_is_whole) :=
  defG F sc_is_whole rfl (t := t_is_whole) (fun cdv A outer s H E hr gd =>
    (jss_one (js_ret (je_and (je_isi .int rfl z_isinstance (je_var 0) rfl z_int (by decide +kernel)) (je_one (je_not (je_isi .bool rfl z_isinstance (je_var 0) rfl z_bool (by decide +kernel)))))))) r_is_whole
theorem ok_is_between {fa : Addr} {fd : FuncData} (F : L2.Fun K "is_between" "is_between" s_is_between fa fd) (c_is_whole : Kn P w K mg base 1 "is_whole" g_is_whole) : FnG P w K mg base 2 fa fd ["thing", "low", "high"] (spOf K 3 g_is_between) :=
  defG F sc_is_between rfl (t := t_is_between) (fun cdv A outer s H E hr gd =>
    (jss_one (js_ret (je_and (je_call c_is_whole hr (by decide) gd rfl (ja_cons (je_var 0) ja_nil)) (je_one (je_chain op_le o_B0 op_le o_B0 (je_var 1) (je_var 0) (je_var 2))))))) r_is_between
theorem ok_is_point {fa : Addr} {fd : FuncData} (F : L2.Fun K "is_point" "is_point" s_is_point fa fd) (m_MOST_POINT : ∃ u, mg "MOST_POINT" = some u ∧ RelV (V.int 1000) u) (c_is_between : Kn P w K mg base 2 "is_between" g_is_between) : FnG P w K mg base 3 fa fd ["thing"] (spOf K 1 g_is_point) :=
  defG F sc_is_point rfl (t := t_is_point) (fun cdv A outer s H E hr gd =>
    (jss_one (js_ret (je_call c_is_between hr (by decide) gd rfl (ja_cons (je_var 0) (ja_cons je_int (ja_cons (je_glob (v := V.int 1000) rfl m_MOST_POINT (fun _ => .int _)) ja_nil))))))) r_is_point
theorem ok_is_spot {fa : Addr} {fd : FuncData} (F : L2.Fun K "is_spot" "is_spot" s_is_spot fa fd) (z_isinstance : mg "isinstance" = none) (z_list : mg "list" = none) (z_len : mg "len" = none) (m_MOST_POINTS : ∃ u, mg "MOST_POINTS" = some u ∧ RelV (V.int 6) u) (c_is_point : Kn P w K mg base 3 "is_point" g_is_point) : FnG P w K mg base 4 fa fd ["thing"] (spOf K 1 g_is_spot) :=
  defG F sc_is_spot rfl (t := t_is_spot) (fun cdv A outer s H E hr gd =>
    (jss_cons (js_if (PW.pt (jw_or (jt_not (jt_val (je_isi .list rfl z_isinstance (je_var 0) rfl z_list (by decide +kernel)))) (jw_or1 (jt_not (jt_chain op_le o_B0 op_le o_B0 je_int (je_len rfl z_len (je_var 0)) (je_glob (v := V.int 6) rfl m_MOST_POINTS (fun _ => .int _))))))) (jss_one (js_ret je_bl)) jss_nil)
    (jss_cons (js_set 1 sc_is_spot.nd je_int)
    (jss_cons (js_for PassesOwn.never rfl (ji_any (je_var 0)) (jg_name 2 sc_is_spot.nd) (jss_cons (js_if (PW.pt (jw_or (jt_not (jt_val (je_call c_is_point hr (by decide) gd rfl (ja_cons (je_var 2) ja_nil)))) (jw_or1 (jt_lt (je_var 2) (je_var 1))))) (jss_one (js_ret je_bl)) jss_nil)
    (jss_one (js_set 1 sc_is_spot.nd (je_var 2)))))
    (jss_one (js_ret je_bl)))))) r_is_spot
theorem ok_lowest {fa : Addr} {fd : FuncData} (F : L2.Fun K "lowest" "lowest" s_lowest fa fd) (z_abs : mg "abs" = none) : FnG P w K mg base 1 fa fd ["top", "bottom"] (spOf K 2 g_lowest) :=
  defG F sc_lowest rfl (t := t_lowest) (fun cdv A outer s H E hr gd =>
    (jss_cons (js_if (jt_lt (je_var 1) je_int) (jss_one (js_par 0 1 rfl sc_lowest.nd (ja_cons (je_neg (je_var 0)) (ja_cons (je_neg (je_var 1)) ja_nil)) (by decide))) jss_nil)
    (jss_cons (js_par 2 3 rfl sc_lowest.nd (ja_cons (je_var 1) (ja_cons (je_abs rfl z_abs (je_var 0)) ja_nil)) (by decide))
    (jss_cons (js_while PassesOwn.never (jt_gt (je_var 3) je_int) (jss_one (js_par 2 3 rfl sc_lowest.nd (ja_cons (je_var 3) (ja_cons (je_mod (je_var 2) (je_var 3)) ja_nil)) (by decide))))
    (jss_one (js_ret (je_tup (ja_cons (je_div (je_var 0) (je_var 2)) (ja_cons (je_div (je_var 1) (je_var 2)) ja_nil))))))))) r_lowest
theorem ok_is_fraction {fa : Addr} {fd : FuncData} (F : L2.Fun K "is_fraction" "is_fraction" s_is_fraction fa fd) (z_isinstance : mg "isinstance" = none) (z_tuple : mg "tuple" = none) (z_len : mg "len" = none) (c_is_whole : Kn P w K mg base 1 "is_whole" g_is_whole) (c_lowest : Kn P w K mg base 1 "lowest" g_lowest) : FnG P w K mg base 2 fa fd ["thing"] (spOf K 1 g_is_fraction) :=
  defG F sc_is_fraction rfl (t := t_is_fraction) (fun cdv A outer s H E hr gd =>
    (jss_cons (js_if (PW.pt (jw_or (jt_not (jt_val (je_isi .tuple rfl z_isinstance (je_var 0) rfl z_tuple (by decide +kernel)))) (jw_or (jt_ne hr (je_len rfl z_len (je_var 0)) je_int) (jw_or (jt_not (jt_val (je_call c_is_whole hr (by decide) gd rfl (ja_cons (je_ix (je_var 0) je_int) ja_nil)))) (jw_or1 (jt_not (jt_val (je_call c_is_whole hr (by decide) gd rfl (ja_cons (je_ix (je_var 0) je_int) ja_nil))))))))) (jss_one (js_ret je_bl)) jss_nil)
    (jss_one (js_ret (je_and (je_gt (je_ix (je_var 0) je_int) je_int) (je_one (je_eq hr (je_call c_lowest hr (by decide) gd rfl (ja_cons (je_ix (je_var 0) je_int) (ja_cons (je_ix (je_var 0) je_int) ja_nil))) (je_var 0)))))))) r_is_fraction
theorem ok_need_two {fa : Addr} {fd : FuncData} (F : L2.Fun K "need_two" "need_two" s_need_two fa fd) (c_is_fraction : Kn P w K mg base 2 "is_fraction" g_is_fraction) : FnG P w K mg base 3 fa fd ["one", "other"] (spOf K 2 g_need_two) :=
  defG F sc_need_two rfl (t := t_need_two) (fun cdv A outer s H E hr gd =>
    (jss_cons (js_if (jt_not (jt_val (je_call c_is_fraction hr (by decide) gd rfl (ja_cons (je_var 0) ja_nil)))) (jss_one js_never) jss_nil)
    (jss_one (js_if (jt_not (jt_val (je_call c_is_fraction hr (by decide) gd rfl (ja_cons (je_var 1) ja_nil)))) (jss_one js_never) jss_nil)))) r_need_two
theorem ok_fraction {fa : Addr} {fd : FuncData} (F : L2.Fun K "fraction" "fraction" s_fraction fa fd) (c_is_whole : Kn P w K mg base 1 "is_whole" g_is_whole) (c_lowest : Kn P w K mg base 1 "lowest" g_lowest) : FnG P w K mg base 2 fa fd ["top", "bottom"] (spOf K 2 g_fraction) :=
  defG F sc_fraction rfl (t := t_fraction) (fun cdv A outer s H E hr gd =>
    (jss_cons (js_if (jt_not (jt_val (je_call c_is_whole hr (by decide) gd rfl (ja_cons (je_var 0) ja_nil)))) (jss_one js_never) jss_nil)
    (jss_cons (js_if (PW.pt (jw_or (jt_not (jt_val (je_call c_is_whole hr (by decide) gd rfl (ja_cons (je_var 1) ja_nil)))) (jw_or1 (jt_eq hr (je_var 1) je_int)))) (jss_one js_never) jss_nil)
    (jss_one (js_ret (je_call c_lowest hr (by decide) gd rfl (ja_cons (je_var 0) (ja_cons (je_var 1) ja_nil)))))))) r_fraction
theorem ok_plus {fa : Addr} {fd : FuncData} (F : L2.Fun K "plus" "plus" s_plus fa fd) (c_need_two : Kn P w K mg base 3 "need_two" g_need_two) (c_lowest : Kn P w K mg base 1 "lowest" g_lowest) : FnG P w K mg base 4 fa fd ["one", "other"] (spOf K 2 g_plus) :=
  defG F sc_plus rfl (t := t_plus) (fun cdv A outer s H E hr gd =>
    (jss_cons (js_expr (je_call c_need_two hr (by decide) gd rfl (ja_cons (je_var 0) (ja_cons (je_var 1) ja_nil))))
    (jss_one (js_ret (je_call c_lowest hr (by decide) gd rfl (ja_cons (je_add (je_mul (je_ix (je_var 0) je_int) (je_ix (je_var 1) je_int)) (je_mul (je_ix (je_var 1) je_int) (je_ix (je_var 0) je_int))) (ja_cons (je_mul (je_ix (je_var 0) je_int) (je_ix (je_var 1) je_int)) ja_nil))))))) r_plus
theorem ok_are_marks {fa : Addr} {fd : FuncData} (F : L2.Fun K "are_marks" "are_marks" s_are_marks fa fd) (z_isinstance : mg "isinstance" = none) (z_list : mg "list" = none) (z_len : mg "len" = none) (z_range : mg "range" = none) (m_MOST_MARKS : ∃ u, mg "MOST_MARKS" = some u ∧ RelV (V.int 8) u) (c_is_point : Kn P w K mg base 3 "is_point" g_is_point) : FnG P w K mg base 4 fa fd ["thing", "fewest"] (spOf K 2 g_are_marks) :=
  defG F sc_are_marks rfl (t := t_are_marks) (fun cdv A outer s H E hr gd =>
    (jss_cons (js_if (PW.pt (jw_or (jt_not (jt_val (je_isi .list rfl z_isinstance (je_var 0) rfl z_list (by decide +kernel)))) (jw_or1 (jt_not (jt_chain op_le o_B0 op_le o_B0 (je_var 1) (je_len rfl z_len (je_var 0)) (je_glob (v := V.int 8) rfl m_MOST_MARKS (fun _ => .int _))))))) (jss_one (js_ret je_bl)) jss_nil)
    (jss_cons (js_for PassesOwn.never rfl (ji_any (je_var 0)) (jg_name 2 sc_are_marks.nd) (jss_one (js_if (jt_not (jt_val (je_call c_is_point hr (by decide) gd rfl (ja_cons (je_var 2) ja_nil)))) (jss_one (js_ret je_bl)) jss_nil)))
    (jss_cons (js_for PassesOwn.never rfl (ji_range1 rfl z_range (je_sub (je_len rfl z_len (je_var 0)) je_int)) (jg_name 3 sc_are_marks.nd) (jss_one (js_if (jt_ge (je_ix (je_var 0) (je_var 3)) (je_ix (je_var 0) (je_add (je_var 3) je_int))) (jss_one (js_ret je_bl)) jss_nil)))
    (jss_one (js_ret je_bl)))))) r_are_marks
theorem ok_Marking___init {fa : Addr} {fd : FuncData} (F : L2.Fun K "__init__" "Marking.__init__" s_Marking___init fa fd) (z_list : mg "list" = none) (c_are_marks : Kn P w K mg base 4 "are_marks" g_are_marks) (ka_told_marks : ∀ c ∈ (["Scale", "Box"] : List Str), KnA K c "told_marks") : FnG P w K mg base 5 fa fd ["self", "marks", "fewest"] (spOf K 3 g_Marking___init) :=
  defG F sc_Marking___init rfl (t := t_Marking___init) (fun cdv A outer s H E hr gd =>
    (jss_cons (js_if (jt_not (jt_val (je_call c_are_marks hr (by decide) gd rfl (ja_cons (je_var 1) (ja_cons (je_var 2) ja_nil))))) (jss_one js_never) jss_nil)
    (jss_one (js_fld ka_told_marks (je_var 0) (je_list1 rfl z_list (je_var 1)))))) r_Marking___init
theorem ok_Marking_marks {fa : Addr} {fd : FuncData} (F : L2.Fun K "marks" "Marking.marks" s_Marking_marks fa fd) (z_list : mg "list" = none) (ka_told_marks : ∀ c ∈ (["Scale", "Box"] : List Str), KnA K c "told_marks") : FnG P w K mg base 1 fa fd ["self"] (spOf K 1 g_Marking_marks) :=
  defG F sc_Marking_marks rfl (t := t_Marking_marks) (fun cdv A outer s H E hr gd =>
    (jss_one (js_ret (je_list1P rfl z_list (je_fld ka_told_marks (je_var 0)))))) r_Marking_marks
theorem ok_Marking_counts {fa : Addr} {fd : FuncData} (F : L2.Fun K "counts" "Marking.counts" s_Marking_counts fa fd) : FnG P w K mg base 1 fa fd ["self", "point"] (spOf K 2 g_Marking_counts) :=
  defG F sc_Marking_counts rfl (t := t_Marking_counts) (fun cdv A outer s H E hr gd =>
    (jss_one (js_ret (je_lst (ja_cons (je_tup (ja_cons (je_var 1) (ja_cons (je_tup (ja_cons je_int (ja_cons je_int ja_nil))) ja_nil))) ja_nil))))) r_Marking_counts
theorem ok_Scale_takes {fa : Addr} {fd : FuncData} (F : L2.Fun K "takes" "Scale.takes" s_Scale_takes fa fd) (ka_told_marks : ∀ c ∈ (["Scale", "Box"] : List Str), KnA K c "told_marks") : FnG P w K mg base 1 fa fd ["self", "spot"] (spOf K 2 g_Scale_takes) :=
  defG F sc_Scale_takes rfl (t := t_Scale_takes) (fun cdv A outer s H E hr gd =>
    (jss_one (js_ret (je_and (je_le (je_ix (je_fld ka_told_marks (je_var 0)) je_int) (je_ix (je_var 1) je_int)) (je_one (je_le (je_ix (je_var 1) (je_neg je_int)) (je_ix (je_fld ka_told_marks (je_var 0)) (je_neg je_int)))))))) r_Scale_takes
theorem ok_Box_takes {fa : Addr} {fd : FuncData} (F : L2.Fun K "takes" "Box.takes" s_Box_takes fa fd) (ka_told_marks : ∀ c ∈ (["Scale", "Box"] : List Str), KnA K c "told_marks") : FnG P w K mg base 1 fa fd ["self", "spot"] (spOf K 2 g_Box_takes) :=
  defG F sc_Box_takes rfl (t := t_Box_takes) (fun cdv A outer s H E hr gd =>
    (jss_cons (js_for PassesOwn.never rfl (ji_any (je_var 1)) (jg_name 2 sc_Box_takes.nd) (jss_one (js_if (PW.pt (jw_or (jt_notinG hr (je_var 2) (je_fld ka_told_marks (je_var 0))) (jw_or1 (jt_gt (je_count hr (je_var 1) (je_var 2)) je_int)))) (jss_one (js_ret je_bl)) jss_nil)))
    (jss_one (js_ret je_bl)))) r_Box_takes
theorem ok_Marking_fits {fa : Addr} {fd : FuncData} (F : L2.Fun K "fits" "Marking.fits" s_Marking_fits fa fd) (c_is_spot : Kn P w K mg base 4 "is_spot" g_is_spot) (km_takes : ∀ c g, ([("Scale", (FN.toX g_Scale_takes)), ("Box", (FN.toX g_Box_takes))] : List (Str × FNX)).lookup c = some g → KnM P w K mg base 1 c "takes" g) : FnG P w K mg base 5 fa fd ["self", "spot"] (spOf K 2 g_Marking_fits) :=
  defG F sc_Marking_fits rfl (t := t_Marking_fits) (fun cdv A outer s H E hr gd =>
    (jss_cons (js_if (jt_not (jt_val (je_call c_is_spot hr (by decide) gd rfl (ja_cons (je_var 1) ja_nil)))) (jss_one js_never) jss_nil)
    (jss_one (js_ret (je_meth km_takes takesD_no hr (by decide) gd (je_var 0) (ja_cons (je_var 1) ja_nil)))))) r_Marking_fits
theorem ok_Scale_counts {fa : Addr} {fd : FuncData} (F : L2.Fun K "counts" "Scale.counts" s_Scale_counts fa fd) (c_fraction : Kn P w K mg base 2 "fraction" g_fraction) (ka_told_marks : ∀ c ∈ (["Scale", "Box"] : List Str), KnA K c "told_marks") : FnG P w K mg base 3 fa fd ["self", "point"] (spOf K 2 g_Scale_counts) :=
  defG F sc_Scale_counts rfl (t := t_Scale_counts) (fun cdv A outer s H E hr gd =>
    (jss_cons (js_if (jt_inG hr (je_var 1) (je_fld ka_told_marks (je_var 0))) (jss_one (js_ret (je_lst (ja_cons (je_tup (ja_cons (je_var 1) (ja_cons (je_tup (ja_cons je_int (ja_cons je_int ja_nil))) ja_nil))) ja_nil)))) jss_nil)
    (jss_cons (js_set 2 sc_Scale_counts.nd je_int)
    (jss_cons (js_while PassesOwn.never (jt_lt (je_ix (je_fld ka_told_marks (je_var 0)) (je_var 2)) (je_var 1)) (jss_one (js_aug 2 sc_Scale_counts.nd je_int pip_add)))
    (jss_cons (js_set 3 sc_Scale_counts.nd (je_ix (je_fld ka_told_marks (je_var 0)) (je_sub (je_var 2) je_int)))
    (jss_cons (js_set 4 sc_Scale_counts.nd (je_ix (je_fld ka_told_marks (je_var 0)) (je_var 2)))
    (jss_one (js_ret (je_lst (ja_cons (je_tup (ja_cons (je_var 3) (ja_cons (je_call c_fraction hr (by decide) gd rfl (ja_cons (je_sub (je_var 4) (je_var 1)) (ja_cons (je_sub (je_var 4) (je_var 3)) ja_nil))) ja_nil))) (ja_cons (je_tup (ja_cons (je_var 4) (ja_cons (je_call c_fraction hr (by decide) gd rfl (ja_cons (je_sub (je_var 1) (je_var 3)) (ja_cons (je_sub (je_var 4) (je_var 3)) ja_nil))) ja_nil))) ja_nil))))))))))) r_Scale_counts
theorem ok_Marking_mix {fa : Addr} {fd : FuncData} (F : L2.Fun K "mix" "Marking.mix" s_Marking_mix fa fd) (z_sorted : mg "sorted" = none) (c_is_spot : Kn P w K mg base 4 "is_spot" g_is_spot) (c_plus : Kn P w K mg base 4 "plus" g_plus) (km_takes : ∀ c g, ([("Scale", (FN.toX g_Scale_takes)), ("Box", (FN.toX g_Box_takes))] : List (Str × FNX)).lookup c = some g → KnM P w K mg base 1 c "takes" g) (x_NoSpot : XK0 P w K mg base "NoSpot") (km_counts : ∀ c g, ([("Scale", (FN.toX g_Scale_counts)), ("Box", (FN.toX g_Marking_counts))] : List (Str × FNX)).lookup c = some g → KnM P w K mg base 3 c "counts" g) : FnG P w K mg base 5 fa fd ["self", "spot"] (spOfX K 2 g_Marking_mix) :=
  defGX F sc_Marking_mix rfl (t := t_Marking_mix) (fun wd cdv A outer s H E hr gd tk =>
    (jss_cons (js_if (jt_not (jt_val (je_call c_is_spot hr (by decide) gd rfl (ja_cons (je_var 1) ja_nil)))) (jss_one js_never) jss_nil)
    (jss_cons (js_if (jt_not (jt_val (je_meth km_takes tk hr (by decide) gd (je_var 0) (ja_cons (je_var 1) ja_nil)))) (jss_one (js_raise0 x_NoSpot rfl tk hr (by decide) rfl)) jss_nil)
    (jss_cons (js_set 2 sc_Marking_mix.nd je_dicP)
    (jss_cons (js_for (passes_of rfl) rfl (ji_any (je_var 1)) (jg_name 3 sc_Marking_mix.nd) (jss_one (js_for (passes_of rfl) rfl (ji_any (je_meth km_counts tk hr (by decide) gd (je_var 0) (ja_cons (je_var 3) ja_nil))) (jg_tup rfl (jgs_cons (jg_name 4 sc_Marking_mix.nd) (jgs_cons (jg_name 5 sc_Marking_mix.nd) jgs_nil))) (jss_one (js_dput hr (je_var 2) (je_var 4) (je_call c_plus hr (by decide) gd rfl (ja_cons (je_dget2 hr (je_var 2) (je_var 4) (je_tup (ja_cons je_int (ja_cons je_int ja_nil)))) (ja_cons (je_var 5) ja_nil))))))))
    (jss_one (js_ret (je_lcP 4 rfl sc_Marking_mix.nd (ji_any (je_sortedD rfl rfl z_sorted (je_var 2))) (blkOk_by (own := [("mark", 4)]) (N := N_Marking_mix) (sc := defScope s_Marking_mix) (by decide +kernel)) (fun _ _ _ _ _ => (pg_name (i := 4) sc_Marking_mix.nd rfl (Or.inl rfl))) (fun _ _ _ _ _ => jts_nil) (fun _ _ _ _ _ => (je_tup (ja_cons (je_var 4) (ja_cons (je_dix hr (je_var 2) (je_var 4)) ja_nil)))))))))))) r_Marking_mix
theorem ok_Scale___init {fa : Addr} {fd : FuncData} (F : L2.Fun K "__init__" "Scale.__init__" s_Scale___init fa fd) (kd_FEWEST : DicT K mg w.params "FEWEST" [("scale", (.int 2)), ("box", (.int 1))]) (ks_Marking_init : KnS P w K mg base 5 "Marking" "__init__" (FN.toX g_Marking___init)) : FnG P w K mg base 6 fa fd ["self", "marks"] (spOf K 2 g_Scale___init) :=
  defG F sc_Scale___init rfl (t := t_Scale___init) (fun cdv A outer s H E hr gd =>
    (jss_one (js_expr (je_clsm ks_Marking_init takesD_no hr (by decide) gd rfl (ja_cons (je_var 0) (ja_cons (je_var 1) (ja_cons (je_kix kd_FEWEST rfl je_str) ja_nil))))))) r_Scale___init
theorem ok_Box___init {fa : Addr} {fd : FuncData} (F : L2.Fun K "__init__" "Box.__init__" s_Box___init fa fd) (kd_FEWEST : DicT K mg w.params "FEWEST" [("scale", (.int 2)), ("box", (.int 1))]) (ks_Marking_init : KnS P w K mg base 5 "Marking" "__init__" (FN.toX g_Marking___init)) : FnG P w K mg base 6 fa fd ["self", "marks"] (spOf K 2 g_Box___init) :=
  defG F sc_Box___init rfl (t := t_Box___init) (fun cdv A outer s H E hr gd =>
    (jss_one (js_expr (je_clsm ks_Marking_init takesD_no hr (by decide) gd rfl (ja_cons (je_var 0) (ja_cons (je_var 1) (ja_cons (je_kix kd_FEWEST rfl je_str) ja_nil))))))) r_Box___init
theorem ok_marks_of {fa : Addr} {fd : FuncData} (F : L2.Fun K "marks_of" "marks_of" s_marks_of fa fd) (z_isinstance : mg "isinstance" = none) (z_str : mg "str" = none) (c_are_marks : Kn P w K mg base 4 "are_marks" g_are_marks) (kd_FEWEST : DicT K mg w.params "FEWEST" [("scale", (.int 2)), ("box", (.int 1))]) (ki_Scale : KnI P w K mg base 6 "Scale" (FN.toX g_Scale___init)) (ki_Box : KnI P w K mg base 6 "Box" (FN.toX g_Box___init)) : FnG P w K mg base 8 fa fd ["sort", "marks"] (spOf K 2 g_marks_of) :=
  defG F sc_marks_of rfl (t := t_marks_of) (fun cdv A outer s H E hr gd =>
    (jss_cons (js_if (PW.pt (jw_or (jt_not (jt_val (je_isi .str rfl z_isinstance (je_var 0) rfl z_str (by decide +kernel)))) (jw_or1 (jt_knotin kd_FEWEST rfl (je_var 0))))) (jss_one js_never) jss_nil)
    (jss_cons (js_if (jt_not (jt_val (je_call c_are_marks hr (by decide) gd rfl (ja_cons (je_var 1) (ja_cons (je_kix kd_FEWEST rfl (je_var 0)) ja_nil))))) (jss_one js_never) jss_nil)
    (jss_cons (js_if (jt_eq hr (je_var 0) je_str) (jss_one (js_ret (je_make ki_Scale takesD_no hr (by decide) gd rfl (ja_cons (je_var 1) ja_nil)))) jss_nil)
    (jss_one (js_ret (je_make ki_Box takesD_no hr (by decide) gd rfl (ja_cons (je_var 1) ja_nil)))))))) r_marks_of
theorem ok_law_bag {fa : Addr} {fd : FuncData} (F : L2.Fun K "_law_bag" "_law_bag" s_law_bag fa fd) (z_abs : mg "abs" = none) : FnG P w K mg base 1 fa fd ["_law_script"] (spOf K 1 g_law_bag) :=
  defG F sc_law_bag rfl (t := t_law_bag) (fun cdv A outer s H E hr gd =>
    (jss_one (js_ret (je_lstP (ja_cons je_int (ja_cons je_int (ja_cons je_int (ja_cons (je_lc 1 rfl sc_law_bag.nd (ji_any (je_slice (je_var 0) jo_none (jo_some je_int))) (blkOk_by (own := [("_law_cell", 1)]) (N := N_law_bag) (sc := defScope s_law_bag) (by decide +kernel)) (fun _ _ _ _ _ => (pg_name (i := 1) sc_law_bag.nd rfl (Or.inl rfl))) (fun _ _ _ _ _ => jts_nil) (fun _ _ _ _ _ => (je_abs rfl z_abs (je_var 1)))) ja_nil)))))))) r_law_bag
theorem ok_law_take {fa : Addr} {fd : FuncData} (F : L2.Fun K "_law_take" "_law_take" s_law_take fa fd) (z_len : mg "len" = none) : FnG P w K mg base 1 fa fd ["_law_bag_here", "_law_many"] (spOf K 2 g_law_take) :=
  defG F sc_law_take rfl (t := t_law_take) (fun cdv A outer s H E hr gd =>
    (jss_cons (js_if (jt_eq hr (je_ix (je_var 0) je_int) je_int) (jss_cons (js_set 2 sc_law_take.nd je_int)
    (jss_cons (js_if (jt_lt (je_ix (je_var 0) je_int) (je_len rfl z_len (je_ix (je_var 0) je_int))) (jss_one (js_set 2 sc_law_take.nd (je_ix (je_ix (je_var 0) je_int) (je_ix (je_var 0) je_int)))) jss_nil)
    (jss_cons (js_augIx (je_var 0) je_int je_int pip_add)
    (jss_cons (js_if (jt_ge (je_var 2) je_int) (jss_one (js_asg (je_var 2) (jg_ix (je_var 0) je_int))) jss_nil)
    (jss_one (js_asg (je_mod (je_add (je_add (je_mul (je_ix (je_var 0) je_int) je_int) (je_mod (je_var 2) je_int)) (je_mul je_int (je_ix (je_var 0) je_int))) je_int) (jg_ix (je_var 0) je_int))))))) jss_nil)
    (jss_cons (js_if (jt_gt (je_ix (je_var 0) je_int) je_int) (jss_cons (js_set 3 sc_law_take.nd (je_mod (je_ix (je_var 0) je_int) (je_var 1)))
    (jss_cons (js_asg (je_div (je_ix (je_var 0) je_int) (je_var 1)) (jg_ix (je_var 0) je_int))
    (jss_one (js_ret (je_var 3))))) jss_nil)
    (jss_cons (js_set 4 sc_law_take.nd (je_mod (je_mul (je_add (je_ix (je_var 0) je_int) je_int) je_int) je_int))
    (jss_cons (js_set 5 sc_law_take.nd (je_mod (je_mul (je_mod (je_mul (je_var 4) (je_var 4)) je_int) je_int) je_int))
    (jss_cons (js_if (jt_gt (je_var 1) je_int) (jss_one (js_ret (je_mod (je_add (je_mul (je_var 5) je_int) (je_var 4)) (je_var 1)))) jss_nil)
    (jss_one (js_ret (je_mod (je_div (je_var 5) je_int) (je_var 1)))))))))) r_law_take
theorem ok_law_alike {fa : Addr} {fd : FuncData} (F : L2.Fun K "_law_alike" "_law_alike" s_law_alike fa fd) (z_repr : mg "repr" = none) : FnG P w K mg base 1 fa fd ["_law_found", "_law_due"] (spOf K 2 g_law_alike) :=
  defG F sc_law_alike rfl (t := t_law_alike) (fun cdv A outer s H E hr gd =>
    (jss_one (js_ret (je_and (je_eqD hr (je_var 0) (je_var 1)) (je_one (je_eqD hr (je_reprS hr gd rfl z_repr (je_var 0)) (je_reprS hr gd rfl z_repr (je_var 1)))))))) r_law_alike
theorem ok_law_copy {gr g : FN} {k : Nat} (hk : 1 ≤ k) {fa : Addr} {fd : FuncData} (F : L2.Fun K "_law_copy" "_law_copy" s_law_copy fa fd) (z_isinstance : mg "isinstance" = none) (z_list : mg "list" = none) (z_tuple : mg "tuple" = none) (c_self : Kn P w K mg base k "_law_copy" gr) (rd : ∀ ds m q, ds.length = 1 → g ds m q → t_law_copy gr { nx := fun _ m' => q .non m', rt := q } (startD N_law_copy ds) m) : FnG P w K mg base (k + 1) fa fd ["_law_thing"] (spOf K 1 g) :=
  defG F sc_law_copy rfl (t := t_law_copy gr) (fun cdv A outer s H E hr gd =>
    (jss_cons (js_if (jt_val (je_isi .list rfl z_isinstance (je_var 0) rfl z_list (by decide +kernel))) (jss_one (js_ret (je_lc 1 rfl sc_law_copy.nd (ji_any (je_var 0)) (blkOk_by (own := [("_law_one", 1)]) (N := N_law_copy) (sc := defScope s_law_copy) (by decide +kernel)) (fun _ _ _ _ _ => (pg_name (i := 1) sc_law_copy.nd rfl (Or.inl rfl))) (fun _ _ _ _ _ => jts_nil) (fun _ _ _ _ _ => (je_call c_self hr (Nat.le_refl _) gd rfl (ja_cons (je_var 1) ja_nil)))))) jss_nil)
    (jss_cons (js_if (jt_val (je_isi .tuple rfl z_isinstance (je_var 0) rfl z_tuple (by decide +kernel))) (jss_one (js_ret (je_tuple1 rfl z_tuple (je_lc 1 rfl sc_law_copy.nd (ji_any (je_var 0)) (blkOk_by (own := [("_law_one", 1)]) (N := N_law_copy) (sc := defScope s_law_copy) (by decide +kernel)) (fun _ _ _ _ _ => (pg_name (i := 1) sc_law_copy.nd rfl (Or.inl rfl))) (fun _ _ _ _ _ => jts_nil) (fun _ _ _ _ _ => (je_call c_self hr (Nat.le_refl _) gd rfl (ja_cons (je_var 1) ja_nil))))))) jss_nil)
    (jss_one (js_ret (je_var 0)))))) rd
theorem ok_law_low {fa : Addr} {fd : FuncData} (F : L2.Fun K "_law_low" "_law_low" s_law_low fa fd) (z_abs : mg "abs" = none) : FnG P w K mg base 1 fa fd ["_law_top", "_law_bottom"] (spOf K 2 g_law_low) :=
  defG F sc_law_low rfl (t := t_law_low) (fun cdv A outer s H E hr gd =>
    (jss_cons (js_par 2 3 rfl sc_law_low.nd (ja_cons (je_abs rfl z_abs (je_var 0)) (ja_cons (je_var 1) ja_nil)) (by decide))
    (jss_cons (js_while PassesOwn.never (jt_gt (je_var 3) je_int) (jss_one (js_par 2 3 rfl sc_law_low.nd (ja_cons (je_var 3) (ja_cons (je_mod (je_var 2) (je_var 3)) ja_nil)) (by decide))))
    (jss_one (js_ret (je_tup (ja_cons (je_div (je_var 0) (je_var 2)) (ja_cons (je_div (je_var 1) (je_var 2)) ja_nil)))))))) r_law_low
theorem ok_law_plus {fa : Addr} {fd : FuncData} (F : L2.Fun K "_law_plus" "_law_plus" s_law_plus fa fd) (c_law_low : Kn P w K mg base 1 "_law_low" g_law_low) : FnG P w K mg base 2 fa fd ["_law_one", "_law_other"] (spOf K 2 g_law_plus) :=
  defG F sc_law_plus rfl (t := t_law_plus) (fun cdv A outer s H E hr gd =>
    (jss_one (js_ret (je_call c_law_low hr (by decide) gd rfl (ja_cons (je_add (je_mul (je_ix (je_var 0) je_int) (je_ix (je_var 1) je_int)) (je_mul (je_ix (je_var 1) je_int) (je_ix (je_var 0) je_int))) (ja_cons (je_mul (je_ix (je_var 0) je_int) (je_ix (je_var 1) je_int)) ja_nil)))))) r_law_plus
theorem ok_law_marks {fa : Addr} {fd : FuncData} (F : L2.Fun K "_law_marks" "_law_marks" s_law_marks fa fd) (z_int : mg "int" = none) (z_range : mg "range" = none) (c_law_take : Kn P w K mg base 1 "_law_take" g_law_take) : FnG P w K mg base 2 fa fd ["_law_bag_here", "_law_sort"] (spOf K 2 g_law_marks) :=
  defG F sc_law_marks rfl (t := t_law_marks) (fun cdv A outer s H E hr gd =>
    (jss_cons (js_set 2 sc_law_marks.nd (je_ix (je_ix (je_lst (ja_cons (je_lst (ja_cons je_int (ja_cons je_int (ja_cons je_int (ja_cons je_int ja_nil))))) (ja_cons (je_lst (ja_cons je_int (ja_cons je_int (ja_cons je_int (ja_cons je_int ja_nil))))) ja_nil))) (je_int1 rfl z_int (je_eq hr (je_var 1) je_str))) (je_call c_law_take hr (by decide) gd rfl (ja_cons (je_var 0) (ja_cons je_int ja_nil)))))
    (jss_cons (js_set 3 sc_law_marks.nd (je_ix (je_lst (ja_cons je_int (ja_cons je_int (ja_cons je_int ja_nil)))) (je_call c_law_take hr (by decide) gd rfl (ja_cons (je_var 0) (ja_cons je_int ja_nil)))))
    (jss_cons (js_set 4 sc_law_marks.nd (je_call c_law_take hr (by decide) gd rfl (ja_cons (je_var 0) (ja_cons je_int ja_nil))))
    (jss_cons (js_set 5 sc_law_marks.nd (je_lstP (ja_cons (je_call c_law_take hr (by decide) gd rfl (ja_cons (je_var 0) (ja_cons je_int ja_nil))) ja_nil)))
    (jss_cons (js_for PassesOwn.never rfl (ji_range1 rfl z_range (je_sub (je_var 2) je_int)) (jg_name 6 sc_law_marks.nd) (jss_one (js_expr (je_append (je_var 5) (je_add (je_add (je_ix (je_var 5) (je_neg je_int)) je_int) (je_call c_law_take hr (by decide) gd rfl (ja_cons (je_var 0) (ja_cons (je_var 3) ja_nil))))))))
    (jss_cons (js_if (jt_eq hr (je_var 4) je_int) (jss_one (js_asg je_int (jg_ix (je_var 5) (je_neg je_int)))) jss_nil)
    (jss_one (js_ret (je_frz (je_var 5))))))))))) r_law_marks
theorem ok_law_spot {fa : Addr} {fd : FuncData} (F : L2.Fun K "_law_spot" "_law_spot" s_law_spot fa fd) (z_range : mg "range" = none) (z_len : mg "len" = none) (z_sorted : mg "sorted" = none) (z_set : mg "set" = none) (c_law_take : Kn P w K mg base 1 "_law_take" g_law_take) : FnG P w K mg base 2 fa fd ["_law_bag_here", "_law_sort", "_law_marks_here"] (spOf K 3 g_law_spot) :=
  defG F sc_law_spot rfl (t := t_law_spot) (fun cdv A outer s H E hr gd =>
    (jss_cons (js_set 3 sc_law_spot.nd (je_ix (je_lst (ja_cons je_int (ja_cons je_int (ja_cons je_int (ja_cons je_int ja_nil))))) (je_call c_law_take hr (by decide) gd rfl (ja_cons (je_var 0) (ja_cons je_int ja_nil)))))
    (jss_cons (js_set 4 sc_law_spot.nd (je_lstP ja_nil))
    (jss_cons (js_for PassesOwn.never rfl (ji_range1 rfl z_range (je_var 3)) (jg_name 5 sc_law_spot.nd) (jss_one (js_if (PW.pt (jw_or (jt_eq hr (je_var 1) je_str) (jw_or1 (jt_eq hr (je_call c_law_take hr (by decide) gd rfl (ja_cons (je_var 0) (ja_cons je_int ja_nil))) je_int)))) (jss_one (js_expr (je_append (je_var 4) (je_ix (je_var 2) (je_call c_law_take hr (by decide) gd rfl (ja_cons (je_var 0) (ja_cons (je_len rfl z_len (je_var 2)) ja_nil))))))) (jss_one (js_expr (je_append (je_var 4) (je_add (je_ix (je_var 2) je_int) (je_call c_law_take hr (by decide) gd rfl (ja_cons (je_var 0) (ja_cons (je_add (je_sub (je_ix (je_var 2) (je_neg je_int)) (je_ix (je_var 2) je_int)) je_int) ja_nil))))))))))
    (jss_cons (js_if (jt_eq hr (je_var 1) je_str) (jss_one (js_ret (je_sortSetI rfl rfl z_sorted rfl z_set (je_var 4)))) jss_nil)
    (jss_one (js_ret (je_sortedP rfl z_sorted (je_var 4))))))))) r_law_spot
theorem ok_law_fits {fa : Addr} {fd : FuncData} (F : L2.Fun K "_law_fits" "_law_fits" s_law_fits fa fd) : FnG P w K mg base 1 fa fd ["_law_thing", "_law_spot_here"] (spOf K 2 g_law_fits) :=
  defG F sc_law_fits rfl (t := t_law_fits) (fun cdv A outer s H E hr gd =>
    (jss_cons (js_set 2 sc_law_fits.nd (je_dix hr (je_var 0) je_str))
    (jss_cons (js_if (jt_eq hr (je_dix hr (je_var 0) je_str) je_str) (jss_one (js_ret (je_eqNil hr (je_lc 3 rfl sc_law_fits.nd (ji_any (je_var 1)) (blkOk_by (own := [("_law_point", 3)]) (N := N_law_fits) (sc := defScope s_law_fits) (by decide +kernel)) (fun _ _ _ _ _ => (pg_name (i := 3) sc_law_fits.nd rfl (Or.inl rfl))) (fun _ _ _ _ _ => jts_one (PW.pt (jw_or (jt_notinG hr (je_var 3) (je_var 2)) (jw_or1 (jt_gt (je_count hr (je_var 1) (je_var 3)) je_int))))) (fun _ _ _ _ _ => (je_var 3))) (je_lst ja_nil)))) jss_nil)
    (jss_one (js_ret (je_eqNil hr (je_lc 3 rfl sc_law_fits.nd (ji_any (je_var 1)) (blkOk_by (own := [("_law_point", 3)]) (N := N_law_fits) (sc := defScope s_law_fits) (by decide +kernel)) (fun _ _ _ _ _ => (pg_name (i := 3) sc_law_fits.nd rfl (Or.inl rfl))) (fun _ _ _ _ _ => jts_one (PW.pt (jw_or (jt_lt (je_var 3) (je_ix (je_var 2) je_int)) (jw_or1 (jt_gt (je_var 3) (je_ix (je_var 2) (je_neg je_int))))))) (fun _ _ _ _ _ => (je_var 3))) (je_lst ja_nil))))))) r_law_fits
theorem ok_law_mix {fa : Addr} {fd : FuncData} (F : L2.Fun K "_law_mix" "_law_mix" s_law_mix fa fd) (z_max : mg "max" = none) (z_min : mg "min" = none) (z_sorted : mg "sorted" = none) (c_law_low : Kn P w K mg base 1 "_law_low" g_law_low) (c_law_plus : Kn P w K mg base 2 "_law_plus" g_law_plus) : FnG P w K mg base 3 fa fd ["_law_thing", "_law_spot_here"] (spOf K 2 g_law_mix) :=
  defG F sc_law_mix rfl (t := t_law_mix) (fun cdv A outer s H E hr gd =>
    (jss_cons (js_set 2 sc_law_mix.nd je_dicP)
    (jss_cons (js_set 3 sc_law_mix.nd (je_dix hr (je_var 0) je_str))
    (jss_cons (js_for PassesOwn.never rfl (ji_any (je_var 1)) (jg_name 4 sc_law_mix.nd) (jss_cons (js_set 5 sc_law_mix.nd (je_lst (ja_cons (je_tup (ja_cons (je_var 4) (ja_cons (je_tup (ja_cons je_int (ja_cons je_int ja_nil))) ja_nil))) ja_nil)))
    (jss_cons (js_if (jt_notinG hr (je_var 4) (je_var 3)) (jss_cons (js_set 6 sc_law_mix.nd (je_maxL rfl rfl z_max (je_lc 7 rfl sc_law_mix.nd (ji_any (je_var 3)) (blkOk_by (own := [("_law_mark", 7)]) (N := N_law_mix) (sc := defScope s_law_mix) (by decide +kernel)) (fun _ _ _ _ _ => (pg_name (i := 7) sc_law_mix.nd rfl (Or.inl rfl))) (fun _ _ _ _ _ => jts_one (jt_lt (je_var 7) (je_var 4))) (fun _ _ _ _ _ => (je_var 7)))))
    (jss_cons (js_set 8 sc_law_mix.nd (je_minL rfl rfl z_min (je_lc 7 rfl sc_law_mix.nd (ji_any (je_var 3)) (blkOk_by (own := [("_law_mark", 7)]) (N := N_law_mix) (sc := defScope s_law_mix) (by decide +kernel)) (fun _ _ _ _ _ => (pg_name (i := 7) sc_law_mix.nd rfl (Or.inl rfl))) (fun _ _ _ _ _ => jts_one (jt_gt (je_var 7) (je_var 4))) (fun _ _ _ _ _ => (je_var 7)))))
    (jss_one (js_set 5 sc_law_mix.nd (je_lst (ja_cons (je_tup (ja_cons (je_var 6) (ja_cons (je_call c_law_low hr (by decide) gd rfl (ja_cons (je_sub (je_var 8) (je_var 4)) (ja_cons (je_sub (je_var 8) (je_var 6)) ja_nil))) ja_nil))) (ja_cons (je_tup (ja_cons (je_var 8) (ja_cons (je_call c_law_low hr (by decide) gd rfl (ja_cons (je_sub (je_var 4) (je_var 6)) (ja_cons (je_sub (je_var 8) (je_var 6)) ja_nil))) ja_nil))) ja_nil))))))) jss_nil)
    (jss_one (js_for PassesOwn.never rfl (ji_any (je_var 5)) (jg_tup rfl (jgs_cons (jg_name 7 sc_law_mix.nd) (jgs_cons (jg_name 9 sc_law_mix.nd) jgs_nil))) (jss_one (js_dput hr (je_var 2) (je_var 7) (je_call c_law_plus hr (by decide) gd rfl (ja_cons (je_dget2 hr (je_var 2) (je_var 7) (je_tup (ja_cons je_int (ja_cons je_int ja_nil)))) (ja_cons (je_var 9) ja_nil))))))))))
    (jss_one (js_ret (je_lc 7 rfl sc_law_mix.nd (ji_any (je_sortedD rfl rfl z_sorted (je_var 2))) (blkOk_by (own := [("_law_mark", 7)]) (N := N_law_mix) (sc := defScope s_law_mix) (by decide +kernel)) (fun _ _ _ _ _ => (pg_name (i := 7) sc_law_mix.nd rfl (Or.inl rfl))) (fun _ _ _ _ _ => jts_nil) (fun _ _ _ _ _ => (je_tup (ja_cons (je_var 7) (ja_cons (je_dix hr (je_var 2) (je_var 7)) ja_nil))))))))))) r_law_mix
theorem ok_law_made {fa : Addr} {fd : FuncData} (F : L2.Fun K "_law_made" "_law_made" s_law_made fa fd) (c_marks_of : Kn P w K mg base 8 "marks_of" g_marks_of) (ki_Box : KnI P w K mg base 6 "Box" (FN.toX g_Box___init)) (ki_Scale : KnI P w K mg base 6 "Scale" (FN.toX g_Scale___init)) : FnG P w K mg base 9 fa fd ["_law_sort", "_law_marks_here", "_law_way"] (spOf K 3 g_law_made) :=
  defG F sc_law_made rfl (t := t_law_made) (fun cdv A outer s H E hr gd =>
    (jss_cons (js_if (jt_eq hr (je_var 2) je_int) (jss_one (js_ret (je_call c_marks_of hr (by decide) gd rfl (ja_cons (je_var 0) (ja_cons (je_var 1) ja_nil))))) jss_nil)
    (jss_cons (js_if (jt_eq hr (je_var 0) je_str) (jss_one (js_ret (je_make ki_Box takesD_no hr (by decide) gd rfl (ja_cons (je_var 1) ja_nil)))) jss_nil)
    (jss_one (js_ret (je_make ki_Scale takesD_no hr (by decide) gd rfl (ja_cons (je_var 1) ja_nil))))))) r_law_made
theorem ok_law_put {fa : Addr} {fd : FuncData} (F : L2.Fun K "_law_put" "_law_put" s_law_put fa fd) (z_len : mg "len" = none) (c_law_take : Kn P w K mg base 1 "_law_take" g_law_take) : FnG P w K mg base 2 fa fd ["_law_bag_here", "_law_some", "_law_thing"] (spOf K 3 g_law_put) :=
  defG F sc_law_put rfl (t := t_law_put) (fun cdv A outer s H E hr gd =>
    (jss_cons (js_set 3 sc_law_put.nd (je_call c_law_take hr (by decide) gd rfl (ja_cons (je_var 0) (ja_cons je_int ja_nil))))
    (jss_cons (js_set 4 sc_law_put.nd (je_call c_law_take hr (by decide) gd rfl (ja_cons (je_var 0) (ja_cons (je_add (je_len rfl z_len (je_var 1)) je_int) ja_nil))))
    (jss_one (js_if (jt_eq hr (je_var 3) je_int) (jss_one (js_expr (je_append (je_var 1) (je_var 2)))) (jss_one (js_if (PW.pt (jw_and (jt_eq hr (je_var 3) je_int) (jw_and1 (jt_lt (je_var 4) (je_len rfl z_len (je_var 1)))))) (jss_one (js_asg (je_var 2) (jg_ix (je_var 1) (je_var 4)))) (jss_one (js_if (PW.pt (jw_and (jt_eq hr (je_var 3) je_int) (jw_and1 (jt_lt (je_var 4) (je_len rfl z_len (je_var 1)))))) (jss_one (js_expr (je_popat (je_var 1) (je_var 4)))) (jss_one (js_expr (je_clear (je_var 1))))))))))))) r_law_put
theorem ok_law_mix_told {fa : Addr} {fd : FuncData} (F : L2.Fun K "_law_mix_told" "_law_mix_told" s_law_mix_told fa fd) (xs_NoSpot : XSub K mg ["NoSpot"] "NoSpot") (km_mix : ∀ c g, ([("Scale", g_Marking_mix), ("Box", g_Marking_mix)] : List (Str × FNX)).lookup c = some g → KnM P w K mg base 5 c "mix" g) : FnG P w K mg base 6 fa fd ["_law_thing", "_law_spot_here"] (spOf K 2 g_law_mix_told) :=
  defG F sc_law_mix_told rfl (t := t_law_mix_told) (fun cdv A outer s H E hr gd =>
    (jss_cons (js_set 2 sc_law_mix_told.nd (je_tup (ja_cons je_str ja_nil)))
    (jss_cons (js_tryOf xs_NoSpot rfl rfl rfl (by decide) takesD_no (fun wd1 pn1 xe1 tk1 po1 => (jss_one (js_set 2 sc_law_mix_told.nd (je_tup (ja_cons je_str (ja_cons (je_meth km_mix tk1 hr (by decide) gd (je_var 0) (ja_cons (je_var 1) ja_nil)) ja_nil)))))) (fun ex1 xa1 oe1 cls1 dd1 pm1 hin1 hz1 hf1 rx1 => (jss_one (js_set 2 sc_law_mix_told.nd (je_tup (ja_cons je_str ja_nil))))))
    (jss_one (js_ret (je_var 2)))))) r_law_mix_told
theorem ok_law_asked {fa : Addr} {fd : FuncData} (F : L2.Fun K "_law_asked" "_law_asked" s_law_asked fa fd) (c_law_take : Kn P w K mg base 1 "_law_take" g_law_take) (c_law_fits : Kn P w K mg base 1 "_law_fits" g_law_fits) (c_law_alike : Kn P w K mg base 1 "_law_alike" g_law_alike) (c_law_mix_told : Kn P w K mg base 6 "_law_mix_told" g_law_mix_told) (c_law_mix : Kn P w K mg base 3 "_law_mix" g_law_mix) (c_law_copy : Kn P w K mg base 7 "_law_copy" g_law_copy) (c_law_put : Kn P w K mg base 2 "_law_put" g_law_put) (km_marks : ∀ c g, ([("Scale", (FN.toX g_Marking_marks)), ("Box", (FN.toX g_Marking_marks))] : List (Str × FNX)).lookup c = some g → KnM P w K mg base 1 c "marks" g) (km_fits : ∀ c g, ([("Scale", (FN.toX g_Marking_fits)), ("Box", (FN.toX g_Marking_fits))] : List (Str × FNX)).lookup c = some g → KnM P w K mg base 5 c "fits" g) : FnG P w K mg base 8 fa fd ["_law_bag_here", "_law_thing", "_law_plain", "_law_spot_here", "_law_held"] (spOf K 5 g_law_asked) :=
  defG F sc_law_asked rfl (t := t_law_asked) (fun cdv A outer s H E hr gd =>
    (jss_cons (js_set 5 sc_law_asked.nd (je_call c_law_take hr (by decide) gd rfl (ja_cons (je_var 0) (ja_cons je_int ja_nil))))
    (jss_cons (js_if (jt_eqD hr (je_var 5) je_int) (jss_cons (js_set 6 sc_law_asked.nd (je_meth0 km_marks takesD_no hr (by decide) gd (je_var 1)))
    (jss_one (js_set 7 sc_law_asked.nd (je_dix hr (je_var 2) je_str)))) (jss_one (js_if (jt_eqD hr (je_var 5) je_int) (jss_one (js_ret (je_call c_law_alike hr (by decide) gd rfl (ja_cons (je_meth km_fits takesD_no hr (by decide) gd (je_var 1) (ja_cons (je_var 3) ja_nil)) (ja_cons (je_call c_law_fits hr (by decide) gd rfl (ja_cons (je_var 2) (ja_cons (je_var 3) ja_nil))) ja_nil))))) (jss_cons (js_set 8 sc_law_asked.nd (je_call c_law_mix_told hr (by decide) gd rfl (ja_cons (je_var 1) (ja_cons (je_var 3) ja_nil))))
    (jss_cons (js_if (jt_not (jt_val (je_call c_law_fits hr (by decide) gd rfl (ja_cons (je_var 2) (ja_cons (je_var 3) ja_nil))))) (jss_one (js_ret (je_eqD hr (je_var 8) (je_tup (ja_cons je_str ja_nil))))) jss_nil)
    (jss_cons (js_if (jt_eqD hr (je_var 8) (je_tup (ja_cons je_str ja_nil))) (jss_one (js_ret je_bl)) jss_nil)
    (jss_cons (js_set 6 sc_law_asked.nd (je_ix (je_var 8) je_int))
    (jss_one (js_set 7 sc_law_asked.nd (je_call c_law_mix hr (by decide) gd rfl (ja_cons (je_var 2) (ja_cons (je_var 3) ja_nil))))))))))))
    (jss_cons (js_if (jt_not (jt_val (je_call c_law_alike hr (by decide) gd rfl (ja_cons (je_var 6) (ja_cons (je_var 7) ja_nil))))) (jss_one (js_ret je_bl)) jss_nil)
    (jss_cons (js_if (jt_eqD hr (je_call c_law_take hr (by decide) gd rfl (ja_cons (je_var 0) (ja_cons je_int ja_nil))) je_int) (jss_one (js_expr (je_append (je_var 4) (je_tup (ja_cons (je_var 6) (ja_cons (je_call c_law_copy hr (by decide) gd rfl (ja_cons (je_var 6) ja_nil)) ja_nil)))))) (jss_one (js_expr (je_call c_law_put hr (by decide) gd rfl (ja_cons (je_var 0) (ja_cons (je_var 6) (ja_cons je_int ja_nil)))))))
    (jss_one (js_ret je_bl))))))) r_law_asked
theorem ok_law_spots {fa : Addr} {fd : FuncData} (F : L2.Fun K "_law_spots" "_law_spots" s_law_spots fa fd) (c_law_spot : Kn P w K mg base 2 "_law_spot" g_law_spot) (c_law_take : Kn P w K mg base 1 "_law_take" g_law_take) : FnG P w K mg base 3 fa fd ["_law_bag_here", "_law_plains"] (spOf K 2 g_law_spots) :=
  defG F sc_law_spots rfl (t := t_law_spots) (fun cdv A outer s H E hr gd =>
    (jss_cons (js_set 2 sc_law_spots.nd (je_lstP ja_nil))
    (jss_cons (js_for PassesOwn.never rfl (ji_any (je_var 1)) (jg_name 3 sc_law_spots.nd) (jss_one (js_expr (je_append (je_var 2) (je_call c_law_spot hr (by decide) gd rfl (ja_cons (je_var 0) (ja_cons (je_dix hr (je_var 3) je_str) (ja_cons (je_dix hr (je_var 3) je_str) ja_nil))))))))
    (jss_one (js_ret (je_add (je_var 2) (je_lst (ja_cons (je_lstP (ja_cons (je_call c_law_take hr (by decide) gd rfl (ja_cons (je_var 0) (ja_cons je_int ja_nil))) ja_nil)) ja_nil)))))))) r_law_spots
theorem ok_law {fa : Addr} {fd : FuncData} (F : L2.Fun K "law" "law" s_law fa fd) (z_range : mg "range" = none) (z_list : mg "list" = none) (c_law_bag : Kn P w K mg base 1 "_law_bag" g_law_bag) (c_law_take : Kn P w K mg base 1 "_law_take" g_law_take) (c_law_marks : Kn P w K mg base 2 "_law_marks" g_law_marks) (c_law_made : Kn P w K mg base 9 "_law_made" g_law_made) (c_law_spots : Kn P w K mg base 3 "_law_spots" g_law_spots) (c_law_asked : Kn P w K mg base 8 "_law_asked" g_law_asked) (c_law_alike : Kn P w K mg base 1 "_law_alike" g_law_alike) (c_law_put : Kn P w K mg base 2 "_law_put" g_law_put) : FnG P w K mg base 10 fa fd ["_law_script"] (spOf K 1 g_law) :=
  defG F sc_law rfl (t := t_law) (fun cdv A outer s H E hr gd =>
    (jss_cons (js_set 1 sc_law.nd (je_call c_law_bag hr (by decide) gd rfl (ja_cons (je_var 0) ja_nil)))
    (jss_cons (js_par 2 3 rfl sc_law.nd (ja_cons (je_add je_int (je_call c_law_take hr (by decide) gd rfl (ja_cons (je_var 1) (ja_cons je_int ja_nil)))) (ja_cons (je_call c_law_take hr (by decide) gd rfl (ja_cons (je_var 1) (ja_cons je_int ja_nil))) ja_nil)) (by decide))
    (jss_cons (js_set 4 sc_law.nd (je_lst (ja_cons (je_call c_law_take hr (by decide) gd rfl (ja_cons (je_var 1) (ja_cons je_int ja_nil))) (ja_cons (je_call c_law_take hr (by decide) gd rfl (ja_cons (je_var 1) (ja_cons je_int ja_nil))) ja_nil))))
    (jss_cons (js_set 5 sc_law.nd (je_lst (ja_cons (je_ix (je_lst (ja_cons je_str (ja_cons je_str ja_nil))) (je_call c_law_take hr (by decide) gd rfl (ja_cons (je_var 1) (ja_cons je_int ja_nil)))) (ja_cons (je_ix (je_lst (ja_cons je_str (ja_cons je_str ja_nil))) (je_call c_law_take hr (by decide) gd rfl (ja_cons (je_var 1) (ja_cons je_int ja_nil)))) ja_nil))))
    (jss_cons (js_set 6 sc_law.nd (je_lst (ja_cons (je_call c_law_marks hr (by decide) gd rfl (ja_cons (je_var 1) (ja_cons (je_ix (je_var 5) je_int) ja_nil))) (ja_cons (je_call c_law_marks hr (by decide) gd rfl (ja_cons (je_var 1) (ja_cons (je_ix (je_var 5) je_int) ja_nil))) ja_nil))))
    (jss_cons (js_setLc 8 7 rfl sc_law.nd (ji_range1 rfl z_range je_int) (blkOk_by (own := [("_law_k", 8)]) (N := N_law) (sc := defScope s_law) (by decide +kernel)) (fun _ _ _ _ _ => (pg_name (i := 8) sc_law.nd rfl (Or.inl rfl))) (fun _ _ _ _ _ => jts_nil) (fun _ _ _ _ _ => (je_disp (JPs.cons pe_str (je_ix (je_var 5) (je_var 8)) (JPs.cons pe_str (je_list1 rfl z_list (je_ix (je_var 6) (je_var 8))) JPs.nil)))) (sw_true rfl rfl rfl (by decide +kernel)))
    (jss_cons (js_set 9 sc_law.nd (je_lstP (ja_cons (je_list1P rfl z_list (je_ix (je_var 6) je_int)) (ja_cons (je_list1P rfl z_list (je_ix (je_var 6) je_int)) ja_nil))))
    (jss_cons (js_set 10 sc_law.nd (je_lstP (ja_cons (je_call c_law_made hr (by decide) gd rfl (ja_cons (je_ix (je_var 5) je_int) (ja_cons (je_ix (je_var 9) je_int) (ja_cons (je_ix (je_var 4) je_int) ja_nil)))) ja_nil)))
    (jss_cons (js_if (jt_eq hr (je_var 3) je_int) (jss_cons (js_asg (je_list1P rfl z_list (je_ix (je_var 6) je_int)) (jg_all (je_ix (je_var 9) je_int)))
    (jss_one (js_asg (je_ix (je_var 9) je_int) (jg_ix (je_var 9) je_int)))) jss_nil)
    (jss_cons (js_expr (je_append (je_var 10) (je_call c_law_made hr (by decide) gd rfl (ja_cons (je_ix (je_var 5) je_int) (ja_cons (je_ix (je_var 9) je_int) (ja_cons (je_ix (je_var 4) je_int) ja_nil))))))
    (jss_cons (js_set 11 sc_law.nd (je_lstP ja_nil))
    (jss_cons (js_set 12 sc_law.nd (je_call c_law_spots hr (by decide) gd rfl (ja_cons (je_var 1) (ja_cons (je_var 7) ja_nil))))
    (jss_cons (js_for PassesOwn.never rfl (ji_range1 rfl z_range (je_var 2)) (jg_name 8 sc_law.nd) (jss_cons (js_set 13 sc_law.nd (je_call c_law_take hr (by decide) gd rfl (ja_cons (je_var 1) (ja_cons je_int ja_nil))))
    (jss_cons (js_set 14 sc_law.nd (je_ix (je_var 12) (je_call c_law_take hr (by decide) gd rfl (ja_cons (je_var 1) (ja_cons je_int ja_nil)))))
    (jss_cons (js_set 15 sc_law.nd (je_list1 rfl z_list (je_var 14)))
    (jss_cons (js_if (PW.pt (jw_or (jt_not (jt_val (je_call c_law_asked hr (by decide) gd rfl (ja_cons (je_var 1) (ja_cons (je_ix (je_var 10) (je_var 13)) (ja_cons (je_ix (je_var 7) (je_var 13)) (ja_cons (je_var 14) (ja_cons (je_var 11) ja_nil)))))))) (jw_or1 (jt_not (jt_val (je_call c_law_alike hr (by decide) gd rfl (ja_cons (je_var 14) (ja_cons (je_var 15) ja_nil)))))))) (jss_one (js_ret je_bl)) jss_nil)
    (jss_cons (js_set 16 sc_law.nd (je_call c_law_take hr (by decide) gd rfl (ja_cons (je_var 1) (ja_cons je_int ja_nil))))
    (jss_cons (js_if (jt_eq hr (je_var 16) je_int) (jss_one (js_expr (je_call c_law_put hr (by decide) gd rfl (ja_cons (je_var 1) (ja_cons (je_ix (je_var 9) (je_call c_law_take hr (by decide) gd rfl (ja_cons (je_var 1) (ja_cons je_int ja_nil)))) (ja_cons (je_call c_law_take hr (by decide) gd rfl (ja_cons (je_var 1) (ja_cons je_int ja_nil))) ja_nil)))))) jss_nil)
    (jss_one (js_if (jt_eq hr (je_var 16) je_int) (jss_cons (js_set 17 sc_law.nd (je_ix (je_call c_law_spots hr (by decide) gd rfl (ja_cons (je_var 1) (ja_cons (je_var 7) ja_nil))) (je_call c_law_take hr (by decide) gd rfl (ja_cons (je_var 1) (ja_cons je_int ja_nil)))))
    (jss_one (js_asg (je_var 17) (jg_all (je_var 14))))) jss_nil)))))))))
    (jss_cons (js_for PassesOwn.never rfl (ji_any (je_var 11)) (jg_tup rfl (jgs_cons (jg_name 18 sc_law.nd) (jgs_cons (jg_name 19 sc_law.nd) jgs_nil))) (jss_one (js_if (jt_not (jt_val (je_call c_law_alike hr (by decide) gd rfl (ja_cons (je_var 18) (ja_cons (je_var 19) ja_nil))))) (jss_one (js_ret je_bl)) jss_nil)))
    (jss_cons (js_for PassesOwn.never rfl (ji_range1 rfl z_range je_int) (jg_name 13 sc_law.nd) (jss_one (js_for PassesOwn.never rfl (ji_any (je_var 12)) (jg_name 14 sc_law.nd) (jss_one (js_if (jt_not (jt_val (je_call c_law_asked hr (by decide) gd rfl (ja_cons (je_var 1) (ja_cons (je_ix (je_var 10) (je_var 13)) (ja_cons (je_ix (je_var 7) (je_var 13)) (ja_cons (je_var 14) (ja_cons (je_lstP ja_nil) ja_nil)))))))) (jss_one (js_ret je_bl)) jss_nil)))))
    (jss_one (js_ret je_bl)))))))))))))))))) r_law
end
theorem all_mk {l : PySem.W.OpenLaw} {w : World} {K : PySem.W.Frag} {h : Heap} {mg : Str → Option Value} {fa f0 f1 f2 f3 f4 f5 f6 f7 f8 f9 f10 f11 f12 f13 f14 f15 f16 f17 f18 f19 f20 f21 f22 f23 f24 f25 f26 f27 f28 f29 f30 f31 f32 f33 f34 f35 f36 f37 C_Scale C_Box C_NoSpot C_ChainError C_Marking : Addr} (X : K.In h) (G : h.Ns mainGlobals mg) (hfa : mg "law" = some (.ref fa))
    {od0 an0 od1 an1 od2 an2 od3 an3 od4 an4 od5 an5 od6 an6 od7 an7 od8 an8 od9 an9 od10 an10 od11 an11 od12 an12 od13 an13 od14 an14 od15 an15 od16 an16 od17 an17 od18 an18 od19 an19 od20 an20 od21 an21 od22 an22 od23 an23 od24 an24 od25 an25 od26 an26 od27 an27 od28 an28 od29 an29 od30 an30 od31 an31 od32 an32 od33 an33 od34 an34 od35 an35 od36 an36 od37 an37 : Option Addr} {sl0 sl1 sl2 sl3 sl4 sl5 sl6 sl7 sl8 sl9 sl10 sl11 sl12 sl13 sl14 sl15 sl16 sl17 sl18 sl19 sl20 sl21 sl22 sl23 sl24 sl25 sl26 sl27 sl28 sl29 sl30 sl31 sl32 sl33 sl34 sl35 sl36 sl37 : Array (Option Value)} {oc0 kV0 dc0 pm0 cd0 ct0 oc1 kV1 dc1 pm1 cd1 ct1 oc2 kV2 dc2 pm2 cd2 ct2 oc3 kV3 dc3 pm3 cd3 ct3 oc4 kV4 dc4 pm4 cd4 ct4 oc5 kV5 dc5 pm5 cd5 ct5 oc6 kV6 dc6 pm6 cd6 ct6 oc7 kV7 dc7 pm7 cd7 ct7 oc8 kV8 dc8 pm8 cd8 ct8 oc9 kV9 dc9 pm9 cd9 ct9 oc10 kV10 dc10 pm10 cd10 ct10 oc11 kV11 dc11 pm11 cd11 ct11 oc12 kV12 dc12 pm12 cd12 ct12 oc13 kV13 dc13 pm13 cd13 ct13 oc14 kV14 dc14 pm14 cd14 ct14 oc15 kV15 dc15 pm15 cd15 ct15 oc16 kV16 dc16 pm16 cd16 ct16 oc17 kV17 dc17 pm17 cd17 ct17 oc18 kV18 dc18 pm18 cd18 ct18 oc19 kV19 dc19 pm19 cd19 ct19 oc20 kV20 dc20 pm20 cd20 ct20 oc21 kV21 dc21 pm21 cd21 ct21 oc22 kV22 dc22 pm22 cd22 ct22 oc23 kV23 dc23 pm23 cd23 ct23 oc24 kV24 dc24 pm24 cd24 ct24 oc25 kV25 dc25 pm25 cd25 ct25 oc26 kV26 dc26 pm26 cd26 ct26 oc27 kV27 dc27 pm27 cd27 ct27 oc28 kV28 dc28 pm28 cd28 ct28 oc29 kV29 dc29 pm29 cd29 ct29 oc30 kV30 dc30 pm30 cd30 ct30 oc31 kV31 dc31 pm31 cd31 ct31 oc32 kV32 dc32 pm32 cd32 ct32 oc33 kV33 dc33 pm33 cd33 ct33 oc34 kV34 dc34 pm34 cd34 ct34 oc35 kV35 dc35 pm35 cd35 ct35 oc36 kV36 dc36 pm36 cd36 ct36 oc37 kV37 dc37 pm37 cd37 ct37 : Value}
    (a_Scale : PySem.W.nsIn K mainGlobals "Scale" = some (some (.ref C_Scale)))
    (a_Box : PySem.W.nsIn K mainGlobals "Box" = some (some (.ref C_Box)))
    (a_NoSpot : PySem.W.nsIn K mainGlobals "NoSpot" = some (some (.ref C_NoSpot)))
    (a_ChainError : PySem.W.nsIn K mainGlobals "ChainError" = some (some (.ref C_ChainError)))
    (a_Marking : PySem.W.nsIn K mainGlobals "Marking" = some (some (.ref C_Marking)))
    (a0 : PySem.W.nsIn K mainGlobals "is_whole" = some (some (.ref f0)))
    (l0 : K.lookup f0 = some ⟨oc0, od0, .func (PySem.W.fnOf "is_whole" "is_whole" (defArgs s_is_whole) (defBody s_is_whole) (defScope s_is_whole) .none kV0 dc0 pm0 an0 cd0 ct0), sl0⟩)
    (c0 : PySem.W.codeIn K cd0 "is_whole" = true)
    (k0 : PySem.W.keepIn K (.ref f0) = true)
    (a1 : PySem.W.nsIn K mainGlobals "is_between" = some (some (.ref f1)))
    (l1 : K.lookup f1 = some ⟨oc1, od1, .func (PySem.W.fnOf "is_between" "is_between" (defArgs s_is_between) (defBody s_is_between) (defScope s_is_between) .none kV1 dc1 pm1 an1 cd1 ct1), sl1⟩)
    (c1 : PySem.W.codeIn K cd1 "is_between" = true)
    (k1 : PySem.W.keepIn K (.ref f1) = true)
    (a2 : PySem.W.nsIn K mainGlobals "is_point" = some (some (.ref f2)))
    (l2 : K.lookup f2 = some ⟨oc2, od2, .func (PySem.W.fnOf "is_point" "is_point" (defArgs s_is_point) (defBody s_is_point) (defScope s_is_point) .none kV2 dc2 pm2 an2 cd2 ct2), sl2⟩)
    (c2 : PySem.W.codeIn K cd2 "is_point" = true)
    (k2 : PySem.W.keepIn K (.ref f2) = true)
    (a3 : PySem.W.nsIn K mainGlobals "is_spot" = some (some (.ref f3)))
    (l3 : K.lookup f3 = some ⟨oc3, od3, .func (PySem.W.fnOf "is_spot" "is_spot" (defArgs s_is_spot) (defBody s_is_spot) (defScope s_is_spot) .none kV3 dc3 pm3 an3 cd3 ct3), sl3⟩)
    (c3 : PySem.W.codeIn K cd3 "is_spot" = true)
    (k3 : PySem.W.keepIn K (.ref f3) = true)
    (a4 : PySem.W.nsIn K mainGlobals "lowest" = some (some (.ref f4)))
    (l4 : K.lookup f4 = some ⟨oc4, od4, .func (PySem.W.fnOf "lowest" "lowest" (defArgs s_lowest) (defBody s_lowest) (defScope s_lowest) .none kV4 dc4 pm4 an4 cd4 ct4), sl4⟩)
    (c4 : PySem.W.codeIn K cd4 "lowest" = true)
    (k4 : PySem.W.keepIn K (.ref f4) = true)
    (a5 : PySem.W.nsIn K mainGlobals "is_fraction" = some (some (.ref f5)))
    (l5 : K.lookup f5 = some ⟨oc5, od5, .func (PySem.W.fnOf "is_fraction" "is_fraction" (defArgs s_is_fraction) (defBody s_is_fraction) (defScope s_is_fraction) .none kV5 dc5 pm5 an5 cd5 ct5), sl5⟩)
    (c5 : PySem.W.codeIn K cd5 "is_fraction" = true)
    (k5 : PySem.W.keepIn K (.ref f5) = true)
    (a6 : PySem.W.nsIn K mainGlobals "need_two" = some (some (.ref f6)))
    (l6 : K.lookup f6 = some ⟨oc6, od6, .func (PySem.W.fnOf "need_two" "need_two" (defArgs s_need_two) (defBody s_need_two) (defScope s_need_two) .none kV6 dc6 pm6 an6 cd6 ct6), sl6⟩)
    (c6 : PySem.W.codeIn K cd6 "need_two" = true)
    (k6 : PySem.W.keepIn K (.ref f6) = true)
    (a7 : PySem.W.nsIn K mainGlobals "fraction" = some (some (.ref f7)))
    (l7 : K.lookup f7 = some ⟨oc7, od7, .func (PySem.W.fnOf "fraction" "fraction" (defArgs s_fraction) (defBody s_fraction) (defScope s_fraction) .none kV7 dc7 pm7 an7 cd7 ct7), sl7⟩)
    (c7 : PySem.W.codeIn K cd7 "fraction" = true)
    (k7 : PySem.W.keepIn K (.ref f7) = true)
    (a8 : PySem.W.nsIn K mainGlobals "plus" = some (some (.ref f8)))
    (l8 : K.lookup f8 = some ⟨oc8, od8, .func (PySem.W.fnOf "plus" "plus" (defArgs s_plus) (defBody s_plus) (defScope s_plus) .none kV8 dc8 pm8 an8 cd8 ct8), sl8⟩)
    (c8 : PySem.W.codeIn K cd8 "plus" = true)
    (k8 : PySem.W.keepIn K (.ref f8) = true)
    (a9 : PySem.W.nsIn K mainGlobals "are_marks" = some (some (.ref f9)))
    (l9 : K.lookup f9 = some ⟨oc9, od9, .func (PySem.W.fnOf "are_marks" "are_marks" (defArgs s_are_marks) (defBody s_are_marks) (defScope s_are_marks) .none kV9 dc9 pm9 an9 cd9 ct9), sl9⟩)
    (c9 : PySem.W.codeIn K cd9 "are_marks" = true)
    (k9 : PySem.W.keepIn K (.ref f9) = true)
    (a10 : PySem.W.findIn K (.ref C_Marking) "__init__" = some (some (.ref f10)))
    (l10 : K.lookup f10 = some ⟨oc10, od10, .func (PySem.W.fnOf "__init__" "Marking.__init__" (defArgs s_Marking___init) (defBody s_Marking___init) (defScope s_Marking___init) .none kV10 dc10 pm10 an10 cd10 ct10), sl10⟩)
    (c10 : PySem.W.codeIn K cd10 "Marking.__init__" = true)
    (k10 : PySem.W.keepIn K (.ref f10) = true)
    (a11 : PySem.W.findIn K (.ref C_Marking) "marks" = some (some (.ref f11)))
    (l11 : K.lookup f11 = some ⟨oc11, od11, .func (PySem.W.fnOf "marks" "Marking.marks" (defArgs s_Marking_marks) (defBody s_Marking_marks) (defScope s_Marking_marks) .none kV11 dc11 pm11 an11 cd11 ct11), sl11⟩)
    (c11 : PySem.W.codeIn K cd11 "Marking.marks" = true)
    (k11 : PySem.W.keepIn K (.ref f11) = true)
    (a12 : PySem.W.findIn K (.ref C_Marking) "counts" = some (some (.ref f12)))
    (l12 : K.lookup f12 = some ⟨oc12, od12, .func (PySem.W.fnOf "counts" "Marking.counts" (defArgs s_Marking_counts) (defBody s_Marking_counts) (defScope s_Marking_counts) .none kV12 dc12 pm12 an12 cd12 ct12), sl12⟩)
    (c12 : PySem.W.codeIn K cd12 "Marking.counts" = true)
    (k12 : PySem.W.keepIn K (.ref f12) = true)
    (a13 : PySem.W.findIn K (.ref C_Scale) "takes" = some (some (.ref f13)))
    (l13 : K.lookup f13 = some ⟨oc13, od13, .func (PySem.W.fnOf "takes" "Scale.takes" (defArgs s_Scale_takes) (defBody s_Scale_takes) (defScope s_Scale_takes) .none kV13 dc13 pm13 an13 cd13 ct13), sl13⟩)
    (c13 : PySem.W.codeIn K cd13 "Scale.takes" = true)
    (k13 : PySem.W.keepIn K (.ref f13) = true)
    (a14 : PySem.W.findIn K (.ref C_Box) "takes" = some (some (.ref f14)))
    (l14 : K.lookup f14 = some ⟨oc14, od14, .func (PySem.W.fnOf "takes" "Box.takes" (defArgs s_Box_takes) (defBody s_Box_takes) (defScope s_Box_takes) .none kV14 dc14 pm14 an14 cd14 ct14), sl14⟩)
    (c14 : PySem.W.codeIn K cd14 "Box.takes" = true)
    (k14 : PySem.W.keepIn K (.ref f14) = true)
    (a15 : PySem.W.findIn K (.ref C_Marking) "fits" = some (some (.ref f15)))
    (l15 : K.lookup f15 = some ⟨oc15, od15, .func (PySem.W.fnOf "fits" "Marking.fits" (defArgs s_Marking_fits) (defBody s_Marking_fits) (defScope s_Marking_fits) .none kV15 dc15 pm15 an15 cd15 ct15), sl15⟩)
    (c15 : PySem.W.codeIn K cd15 "Marking.fits" = true)
    (k15 : PySem.W.keepIn K (.ref f15) = true)
    (a16 : PySem.W.findIn K (.ref C_Scale) "counts" = some (some (.ref f16)))
    (l16 : K.lookup f16 = some ⟨oc16, od16, .func (PySem.W.fnOf "counts" "Scale.counts" (defArgs s_Scale_counts) (defBody s_Scale_counts) (defScope s_Scale_counts) .none kV16 dc16 pm16 an16 cd16 ct16), sl16⟩)
    (c16 : PySem.W.codeIn K cd16 "Scale.counts" = true)
    (k16 : PySem.W.keepIn K (.ref f16) = true)
    (a17 : PySem.W.findIn K (.ref C_Marking) "mix" = some (some (.ref f17)))
    (l17 : K.lookup f17 = some ⟨oc17, od17, .func (PySem.W.fnOf "mix" "Marking.mix" (defArgs s_Marking_mix) (defBody s_Marking_mix) (defScope s_Marking_mix) .none kV17 dc17 pm17 an17 cd17 ct17), sl17⟩)
    (c17 : PySem.W.codeIn K cd17 "Marking.mix" = true)
    (k17 : PySem.W.keepIn K (.ref f17) = true)
    (a18 : PySem.W.findIn K (.ref C_Scale) "__init__" = some (some (.ref f18)))
    (l18 : K.lookup f18 = some ⟨oc18, od18, .func (PySem.W.fnOf "__init__" "Scale.__init__" (defArgs s_Scale___init) (defBody s_Scale___init) (defScope s_Scale___init) .none kV18 dc18 pm18 an18 cd18 ct18), sl18⟩)
    (c18 : PySem.W.codeIn K cd18 "Scale.__init__" = true)
    (k18 : PySem.W.keepIn K (.ref f18) = true)
    (a19 : PySem.W.findIn K (.ref C_Box) "__init__" = some (some (.ref f19)))
    (l19 : K.lookup f19 = some ⟨oc19, od19, .func (PySem.W.fnOf "__init__" "Box.__init__" (defArgs s_Box___init) (defBody s_Box___init) (defScope s_Box___init) .none kV19 dc19 pm19 an19 cd19 ct19), sl19⟩)
    (c19 : PySem.W.codeIn K cd19 "Box.__init__" = true)
    (k19 : PySem.W.keepIn K (.ref f19) = true)
    (a20 : PySem.W.nsIn K mainGlobals "marks_of" = some (some (.ref f20)))
    (l20 : K.lookup f20 = some ⟨oc20, od20, .func (PySem.W.fnOf "marks_of" "marks_of" (defArgs s_marks_of) (defBody s_marks_of) (defScope s_marks_of) .none kV20 dc20 pm20 an20 cd20 ct20), sl20⟩)
    (c20 : PySem.W.codeIn K cd20 "marks_of" = true)
    (k20 : PySem.W.keepIn K (.ref f20) = true)
    (a21 : PySem.W.nsIn K mainGlobals "_law_bag" = some (some (.ref f21)))
    (l21 : K.lookup f21 = some ⟨oc21, od21, .func (PySem.W.fnOf "_law_bag" "_law_bag" (defArgs s_law_bag) (defBody s_law_bag) (defScope s_law_bag) .none kV21 dc21 pm21 an21 cd21 ct21), sl21⟩)
    (c21 : PySem.W.codeIn K cd21 "_law_bag" = true)
    (k21 : PySem.W.keepIn K (.ref f21) = true)
    (a22 : PySem.W.nsIn K mainGlobals "_law_take" = some (some (.ref f22)))
    (l22 : K.lookup f22 = some ⟨oc22, od22, .func (PySem.W.fnOf "_law_take" "_law_take" (defArgs s_law_take) (defBody s_law_take) (defScope s_law_take) .none kV22 dc22 pm22 an22 cd22 ct22), sl22⟩)
    (c22 : PySem.W.codeIn K cd22 "_law_take" = true)
    (k22 : PySem.W.keepIn K (.ref f22) = true)
    (a23 : PySem.W.nsIn K mainGlobals "_law_alike" = some (some (.ref f23)))
    (l23 : K.lookup f23 = some ⟨oc23, od23, .func (PySem.W.fnOf "_law_alike" "_law_alike" (defArgs s_law_alike) (defBody s_law_alike) (defScope s_law_alike) .none kV23 dc23 pm23 an23 cd23 ct23), sl23⟩)
    (c23 : PySem.W.codeIn K cd23 "_law_alike" = true)
    (k23 : PySem.W.keepIn K (.ref f23) = true)
    (a24 : PySem.W.nsIn K mainGlobals "_law_copy" = some (some (.ref f24)))
    (l24 : K.lookup f24 = some ⟨oc24, od24, .func (PySem.W.fnOf "_law_copy" "_law_copy" (defArgs s_law_copy) (defBody s_law_copy) (defScope s_law_copy) .none kV24 dc24 pm24 an24 cd24 ct24), sl24⟩)
    (c24 : PySem.W.codeIn K cd24 "_law_copy" = true)
    (k24 : PySem.W.keepIn K (.ref f24) = true)
    (a25 : PySem.W.nsIn K mainGlobals "_law_low" = some (some (.ref f25)))
    (l25 : K.lookup f25 = some ⟨oc25, od25, .func (PySem.W.fnOf "_law_low" "_law_low" (defArgs s_law_low) (defBody s_law_low) (defScope s_law_low) .none kV25 dc25 pm25 an25 cd25 ct25), sl25⟩)
    (c25 : PySem.W.codeIn K cd25 "_law_low" = true)
    (k25 : PySem.W.keepIn K (.ref f25) = true)
    (a26 : PySem.W.nsIn K mainGlobals "_law_plus" = some (some (.ref f26)))
    (l26 : K.lookup f26 = some ⟨oc26, od26, .func (PySem.W.fnOf "_law_plus" "_law_plus" (defArgs s_law_plus) (defBody s_law_plus) (defScope s_law_plus) .none kV26 dc26 pm26 an26 cd26 ct26), sl26⟩)
    (c26 : PySem.W.codeIn K cd26 "_law_plus" = true)
    (k26 : PySem.W.keepIn K (.ref f26) = true)
    (a27 : PySem.W.nsIn K mainGlobals "_law_marks" = some (some (.ref f27)))
    (l27 : K.lookup f27 = some ⟨oc27, od27, .func (PySem.W.fnOf "_law_marks" "_law_marks" (defArgs s_law_marks) (defBody s_law_marks) (defScope s_law_marks) .none kV27 dc27 pm27 an27 cd27 ct27), sl27⟩)
    (c27 : PySem.W.codeIn K cd27 "_law_marks" = true)
    (k27 : PySem.W.keepIn K (.ref f27) = true)
    (a28 : PySem.W.nsIn K mainGlobals "_law_spot" = some (some (.ref f28)))
    (l28 : K.lookup f28 = some ⟨oc28, od28, .func (PySem.W.fnOf "_law_spot" "_law_spot" (defArgs s_law_spot) (defBody s_law_spot) (defScope s_law_spot) .none kV28 dc28 pm28 an28 cd28 ct28), sl28⟩)
    (c28 : PySem.W.codeIn K cd28 "_law_spot" = true)
    (k28 : PySem.W.keepIn K (.ref f28) = true)
    (a29 : PySem.W.nsIn K mainGlobals "_law_fits" = some (some (.ref f29)))
    (l29 : K.lookup f29 = some ⟨oc29, od29, .func (PySem.W.fnOf "_law_fits" "_law_fits" (defArgs s_law_fits) (defBody s_law_fits) (defScope s_law_fits) .none kV29 dc29 pm29 an29 cd29 ct29), sl29⟩)
    (c29 : PySem.W.codeIn K cd29 "_law_fits" = true)
    (k29 : PySem.W.keepIn K (.ref f29) = true)
    (a30 : PySem.W.nsIn K mainGlobals "_law_mix" = some (some (.ref f30)))
    (l30 : K.lookup f30 = some ⟨oc30, od30, .func (PySem.W.fnOf "_law_mix" "_law_mix" (defArgs s_law_mix) (defBody s_law_mix) (defScope s_law_mix) .none kV30 dc30 pm30 an30 cd30 ct30), sl30⟩)
    (c30 : PySem.W.codeIn K cd30 "_law_mix" = true)
    (k30 : PySem.W.keepIn K (.ref f30) = true)
    (a31 : PySem.W.nsIn K mainGlobals "_law_made" = some (some (.ref f31)))
    (l31 : K.lookup f31 = some ⟨oc31, od31, .func (PySem.W.fnOf "_law_made" "_law_made" (defArgs s_law_made) (defBody s_law_made) (defScope s_law_made) .none kV31 dc31 pm31 an31 cd31 ct31), sl31⟩)
    (c31 : PySem.W.codeIn K cd31 "_law_made" = true)
    (k31 : PySem.W.keepIn K (.ref f31) = true)
    (a32 : PySem.W.nsIn K mainGlobals "_law_put" = some (some (.ref f32)))
    (l32 : K.lookup f32 = some ⟨oc32, od32, .func (PySem.W.fnOf "_law_put" "_law_put" (defArgs s_law_put) (defBody s_law_put) (defScope s_law_put) .none kV32 dc32 pm32 an32 cd32 ct32), sl32⟩)
    (c32 : PySem.W.codeIn K cd32 "_law_put" = true)
    (k32 : PySem.W.keepIn K (.ref f32) = true)
    (a33 : PySem.W.nsIn K mainGlobals "_law_mix_told" = some (some (.ref f33)))
    (l33 : K.lookup f33 = some ⟨oc33, od33, .func (PySem.W.fnOf "_law_mix_told" "_law_mix_told" (defArgs s_law_mix_told) (defBody s_law_mix_told) (defScope s_law_mix_told) .none kV33 dc33 pm33 an33 cd33 ct33), sl33⟩)
    (c33 : PySem.W.codeIn K cd33 "_law_mix_told" = true)
    (k33 : PySem.W.keepIn K (.ref f33) = true)
    (a34 : PySem.W.nsIn K mainGlobals "_law_asked" = some (some (.ref f34)))
    (l34 : K.lookup f34 = some ⟨oc34, od34, .func (PySem.W.fnOf "_law_asked" "_law_asked" (defArgs s_law_asked) (defBody s_law_asked) (defScope s_law_asked) .none kV34 dc34 pm34 an34 cd34 ct34), sl34⟩)
    (c34 : PySem.W.codeIn K cd34 "_law_asked" = true)
    (k34 : PySem.W.keepIn K (.ref f34) = true)
    (a35 : PySem.W.nsIn K mainGlobals "_law_spots" = some (some (.ref f35)))
    (l35 : K.lookup f35 = some ⟨oc35, od35, .func (PySem.W.fnOf "_law_spots" "_law_spots" (defArgs s_law_spots) (defBody s_law_spots) (defScope s_law_spots) .none kV35 dc35 pm35 an35 cd35 ct35), sl35⟩)
    (c35 : PySem.W.codeIn K cd35 "_law_spots" = true)
    (k35 : PySem.W.keepIn K (.ref f35) = true)
    (a36 : PySem.W.nsIn K mainGlobals "law" = some (some (.ref f36)))
    (l36 : K.lookup f36 = some ⟨oc36, od36, .func (PySem.W.fnOf "law" "law" (defArgs s_law) (defBody s_law) (defScope s_law) .none kV36 dc36 pm36 an36 cd36 ct36), sl36⟩)
    (c36 : PySem.W.codeIn K cd36 "law" = true)
    (k36 : PySem.W.keepIn K (.ref f36) = true)
    (a37 : PySem.W.findIn K (.ref C_NoSpot) "__init__" = some (some (.ref f37)))
    (l37 : K.lookup f37 = some ⟨oc37, od37, .func (PySem.W.fnOf "__init__" "NoSpot.__init__" (defArgs s_NoSpot___init) (defBody s_NoSpot___init) (defScope s_NoSpot___init) .none kV37 dc37 pm37 an37 cd37 ct37), sl37⟩)
    (c37 : PySem.W.codeIn K cd37 "NoSpot.__init__" = true)
    (k37 : PySem.W.keepIn K (.ref f37) = true)
    (z_isinstance : PySem.W.nsIn K mainGlobals "isinstance" = some none)
    (z_int : PySem.W.nsIn K mainGlobals "int" = some none)
    (z_bool : PySem.W.nsIn K mainGlobals "bool" = some none)
    (z_list : PySem.W.nsIn K mainGlobals "list" = some none)
    (z_len : PySem.W.nsIn K mainGlobals "len" = some none)
    (z_abs : PySem.W.nsIn K mainGlobals "abs" = some none)
    (z_tuple : PySem.W.nsIn K mainGlobals "tuple" = some none)
    (z_range : PySem.W.nsIn K mainGlobals "range" = some none)
    (z_sorted : PySem.W.nsIn K mainGlobals "sorted" = some none)
    (z_str : PySem.W.nsIn K mainGlobals "str" = some none)
    (z_repr : PySem.W.nsIn K mainGlobals "repr" = some none)
    (z_set : PySem.W.nsIn K mainGlobals "set" = some none)
    (z_max : PySem.W.nsIn K mainGlobals "max" = some none)
    (z_min : PySem.W.nsIn K mainGlobals "min" = some none)
    {tk_MOST_POINT : Tok} (m_MOST_POINT : PySem.W.nsIn K mainGlobals "MOST_POINT" = some (some (.int 1000 tk_MOST_POINT)))
    {tk_MOST_POINTS : Tok} (m_MOST_POINTS : PySem.W.nsIn K mainGlobals "MOST_POINTS" = some (some (.int 6 tk_MOST_POINTS)))
    {tk_MOST_MARKS : Tok} (m_MOST_MARKS : PySem.W.nsIn K mainGlobals "MOST_MARKS" = some (some (.int 8 tk_MOST_MARKS)))
    (cl_Box : clsB K C_Box = true)
    (na_Box_told_marks : PySem.W.findIn K (.ref C_Box) "told_marks" = some none)
    (cl_Scale : clsB K C_Scale = true)
    (na_Scale_told_marks : PySem.W.findIn K (.ref C_Scale) "told_marks" = some none)
    (mt_Box_takes : metB K C_Box f14 "takes" = true)
    (mt_Scale_takes : metB K C_Scale f13 "takes" = true)
    (ef_NoSpot : exfB K C_NoSpot = true)
    (tI37 : PySem.W.typeIn K (.ref f37) = some (.type "function"))
    (ga_ChainError : PySem.W.specialIn K (.ref C_ChainError) "__getattribute__" = some (some (.builtin "type.__getattribute__")))
    (rd_ChainError : PySem.W.readsIn K C_ChainError (.type "type") = true)
    (fv_ChainError : PySem.W.findCls K (.ref C_ChainError) (.type "type") "__init__" = some (.val (.builtin "ValueError.__init__")))
    (mt_Box_counts : metB K C_Box f12 "counts" = true)
    (mt_Scale_counts : metB K C_Scale f16 "counts" = true)
    {u_FEWEST : Addr} {es_FEWEST : Array DictEntry} {en_FEWEST : Nat} (dm_FEWEST : PySem.W.nsIn K mainGlobals "FEWEST" = some (some (.ref u_FEWEST)))
    (dl_FEWEST : K.lookup u_FEWEST = some ⟨.type "dict", none, .dict es_FEWEST en_FEWEST, #[]⟩)
    (ds_FEWEST : (u_FEWEST == sysModules) = false)
    (dt_FEWEST : TblE w.params [("scale", V.int 2), ("box", V.int 1)] es_FEWEST.toList)
    (ga_Marking : PySem.W.specialIn K (.ref C_Marking) "__getattribute__" = some (some (.builtin "type.__getattribute__")))
    (rd_Marking : PySem.W.readsIn K C_Marking (.type "type") = true)
    (fc_Marking_init : PySem.W.findCls K (.ref C_Marking) (.type "type") "__init__" = some (.val (.ref f10)))
    (mk_Scale : makB K C_Scale f18 = true)
    (mk_Box : makB K C_Box f19 = true)
    (xs_NoSpot_NoSpot : PySem.W.exmOne K (.ref C_NoSpot) (.ref C_NoSpot) = some (isX "NoSpot" "NoSpot"))
    (mt_Box_mix : metB K C_Box f17 "mix" = true)
    (mt_Scale_mix : metB K C_Scale f17 "mix" = true)
    (mt_Box_marks : metB K C_Box f11 "marks" = true)
    (mt_Scale_marks : metB K C_Scale f11 "marks" = true)
    (mt_Box_fits : metB K C_Box f15 "fits" = true)
    (mt_Scale_fits : metB K C_Scale f15 "fits" = true) :
    ∃ (_ : Cl) (fd : FuncData), (∀ (s : Shared) (v : Value), BindsTo s fd ⟨[v], []⟩ [("_law_script", v)]) ∧ ∀ base : Heap, K.In base → base.Ns mainGlobals mg → FnG l.prog w K mg base 10 fa fd ["_law_script"] (spOf K 1 lawD) := by
  letI : Cl := clOf mg
  have e := hfa.symm.trans (PySem.W.mg_of X G a36)
  cases e
  have F0 := fun_mk (st := s_is_whole) l0 c0 k0
  have F1 := fun_mk (st := s_is_between) l1 c1 k1
  have F2 := fun_mk (st := s_is_point) l2 c2 k2
  have F3 := fun_mk (st := s_is_spot) l3 c3 k3
  have F4 := fun_mk (st := s_lowest) l4 c4 k4
  have F5 := fun_mk (st := s_is_fraction) l5 c5 k5
  have F6 := fun_mk (st := s_need_two) l6 c6 k6
  have F7 := fun_mk (st := s_fraction) l7 c7 k7
  have F8 := fun_mk (st := s_plus) l8 c8 k8
  have F9 := fun_mk (st := s_are_marks) l9 c9 k9
  have F10 := fun_mk (st := s_Marking___init) l10 c10 k10
  have F11 := fun_mk (st := s_Marking_marks) l11 c11 k11
  have F12 := fun_mk (st := s_Marking_counts) l12 c12 k12
  have F13 := fun_mk (st := s_Scale_takes) l13 c13 k13
  have F14 := fun_mk (st := s_Box_takes) l14 c14 k14
  have F15 := fun_mk (st := s_Marking_fits) l15 c15 k15
  have F16 := fun_mk (st := s_Scale_counts) l16 c16 k16
  have F17 := fun_mk (st := s_Marking_mix) l17 c17 k17
  have F18 := fun_mk (st := s_Scale___init) l18 c18 k18
  have F19 := fun_mk (st := s_Box___init) l19 c19 k19
  have F20 := fun_mk (st := s_marks_of) l20 c20 k20
  have F21 := fun_mk (st := s_law_bag) l21 c21 k21
  have F22 := fun_mk (st := s_law_take) l22 c22 k22
  have F23 := fun_mk (st := s_law_alike) l23 c23 k23
  have F24 := fun_mk (st := s_law_copy) l24 c24 k24
  have F25 := fun_mk (st := s_law_low) l25 c25 k25
  have F26 := fun_mk (st := s_law_plus) l26 c26 k26
  have F27 := fun_mk (st := s_law_marks) l27 c27 k27
  have F28 := fun_mk (st := s_law_spot) l28 c28 k28
  have F29 := fun_mk (st := s_law_fits) l29 c29 k29
  have F30 := fun_mk (st := s_law_mix) l30 c30 k30
  have F31 := fun_mk (st := s_law_made) l31 c31 k31
  have F32 := fun_mk (st := s_law_put) l32 c32 k32
  have F33 := fun_mk (st := s_law_mix_told) l33 c33 k33
  have F34 := fun_mk (st := s_law_asked) l34 c34 k34
  have F35 := fun_mk (st := s_law_spots) l35 c35 k35
  have F36 := fun_mk (st := s_law) l36 c36 k36
  have F37 := fun_mk (st := s_NoSpot___init) l37 c37 k37
  have b0 := F0.binds (ps := ["thing"]) fun _ _ _ _ _ _ us hl => match us, hl with | [_], _ => rfl
  have b1 := F1.binds (ps := ["thing", "low", "high"]) fun _ _ _ _ _ _ us hl => match us, hl with | [_, _, _], _ => rfl
  have b2 := F2.binds (ps := ["thing"]) fun _ _ _ _ _ _ us hl => match us, hl with | [_], _ => rfl
  have b3 := F3.binds (ps := ["thing"]) fun _ _ _ _ _ _ us hl => match us, hl with | [_], _ => rfl
  have b4 := F4.binds (ps := ["top", "bottom"]) fun _ _ _ _ _ _ us hl => match us, hl with | [_, _], _ => rfl
  have b5 := F5.binds (ps := ["thing"]) fun _ _ _ _ _ _ us hl => match us, hl with | [_], _ => rfl
  have b6 := F6.binds (ps := ["one", "other"]) fun _ _ _ _ _ _ us hl => match us, hl with | [_, _], _ => rfl
  have b7 := F7.binds (ps := ["top", "bottom"]) fun _ _ _ _ _ _ us hl => match us, hl with | [_, _], _ => rfl
  have b8 := F8.binds (ps := ["one", "other"]) fun _ _ _ _ _ _ us hl => match us, hl with | [_, _], _ => rfl
  have b9 := F9.binds (ps := ["thing", "fewest"]) fun _ _ _ _ _ _ us hl => match us, hl with | [_, _], _ => rfl
  have b10 := F10.binds (ps := ["self", "marks", "fewest"]) fun _ _ _ _ _ _ us hl => match us, hl with | [_, _, _], _ => rfl
  have b11 := F11.binds (ps := ["self"]) fun _ _ _ _ _ _ us hl => match us, hl with | [_], _ => rfl
  have b12 := F12.binds (ps := ["self", "point"]) fun _ _ _ _ _ _ us hl => match us, hl with | [_, _], _ => rfl
  have b13 := F13.binds (ps := ["self", "spot"]) fun _ _ _ _ _ _ us hl => match us, hl with | [_, _], _ => rfl
  have b14 := F14.binds (ps := ["self", "spot"]) fun _ _ _ _ _ _ us hl => match us, hl with | [_, _], _ => rfl
  have b15 := F15.binds (ps := ["self", "spot"]) fun _ _ _ _ _ _ us hl => match us, hl with | [_, _], _ => rfl
  have b16 := F16.binds (ps := ["self", "point"]) fun _ _ _ _ _ _ us hl => match us, hl with | [_, _], _ => rfl
  have b17 := F17.binds (ps := ["self", "spot"]) fun _ _ _ _ _ _ us hl => match us, hl with | [_, _], _ => rfl
  have b18 := F18.binds (ps := ["self", "marks"]) fun _ _ _ _ _ _ us hl => match us, hl with | [_, _], _ => rfl
  have b19 := F19.binds (ps := ["self", "marks"]) fun _ _ _ _ _ _ us hl => match us, hl with | [_, _], _ => rfl
  have b20 := F20.binds (ps := ["sort", "marks"]) fun _ _ _ _ _ _ us hl => match us, hl with | [_, _], _ => rfl
  have b21 := F21.binds (ps := ["_law_script"]) fun _ _ _ _ _ _ us hl => match us, hl with | [_], _ => rfl
  have b22 := F22.binds (ps := ["_law_bag_here", "_law_many"]) fun _ _ _ _ _ _ us hl => match us, hl with | [_, _], _ => rfl
  have b23 := F23.binds (ps := ["_law_found", "_law_due"]) fun _ _ _ _ _ _ us hl => match us, hl with | [_, _], _ => rfl
  have b24 := F24.binds (ps := ["_law_thing"]) fun _ _ _ _ _ _ us hl => match us, hl with | [_], _ => rfl
  have b25 := F25.binds (ps := ["_law_top", "_law_bottom"]) fun _ _ _ _ _ _ us hl => match us, hl with | [_, _], _ => rfl
  have b26 := F26.binds (ps := ["_law_one", "_law_other"]) fun _ _ _ _ _ _ us hl => match us, hl with | [_, _], _ => rfl
  have b27 := F27.binds (ps := ["_law_bag_here", "_law_sort"]) fun _ _ _ _ _ _ us hl => match us, hl with | [_, _], _ => rfl
  have b28 := F28.binds (ps := ["_law_bag_here", "_law_sort", "_law_marks_here"]) fun _ _ _ _ _ _ us hl => match us, hl with | [_, _, _], _ => rfl
  have b29 := F29.binds (ps := ["_law_thing", "_law_spot_here"]) fun _ _ _ _ _ _ us hl => match us, hl with | [_, _], _ => rfl
  have b30 := F30.binds (ps := ["_law_thing", "_law_spot_here"]) fun _ _ _ _ _ _ us hl => match us, hl with | [_, _], _ => rfl
  have b31 := F31.binds (ps := ["_law_sort", "_law_marks_here", "_law_way"]) fun _ _ _ _ _ _ us hl => match us, hl with | [_, _, _], _ => rfl
  have b32 := F32.binds (ps := ["_law_bag_here", "_law_some", "_law_thing"]) fun _ _ _ _ _ _ us hl => match us, hl with | [_, _, _], _ => rfl
  have b33 := F33.binds (ps := ["_law_thing", "_law_spot_here"]) fun _ _ _ _ _ _ us hl => match us, hl with | [_, _], _ => rfl
  have b34 := F34.binds (ps := ["_law_bag_here", "_law_thing", "_law_plain", "_law_spot_here", "_law_held"]) fun _ _ _ _ _ _ us hl => match us, hl with | [_, _, _, _, _], _ => rfl
  have b35 := F35.binds (ps := ["_law_bag_here", "_law_plains"]) fun _ _ _ _ _ _ us hl => match us, hl with | [_, _], _ => rfl
  have b37 := F37.binds (ps := ["self"]) fun _ _ _ _ _ _ us hl => match us, hl with | [_], _ => rfl
  refine ⟨clOf mg, PySem.W.fnOf "law" "law" (defArgs s_law) (defBody s_law) (defScope s_law) .none kV36 dc36 pm36 an36 cd36 ct36, fun s v => .of_eq rfl, fun base _ _ => ?_⟩
  have y_isinstance : mg "isinstance" = none := PySem.W.mg_none_of X G z_isinstance
  have y_int : mg "int" = none := PySem.W.mg_none_of X G z_int
  have y_bool : mg "bool" = none := PySem.W.mg_none_of X G z_bool
  have y_list : mg "list" = none := PySem.W.mg_none_of X G z_list
  have y_len : mg "len" = none := PySem.W.mg_none_of X G z_len
  have y_abs : mg "abs" = none := PySem.W.mg_none_of X G z_abs
  have y_tuple : mg "tuple" = none := PySem.W.mg_none_of X G z_tuple
  have y_range : mg "range" = none := PySem.W.mg_none_of X G z_range
  have y_sorted : mg "sorted" = none := PySem.W.mg_none_of X G z_sorted
  have y_str : mg "str" = none := PySem.W.mg_none_of X G z_str
  have y_repr : mg "repr" = none := PySem.W.mg_none_of X G z_repr
  have y_set : mg "set" = none := PySem.W.mg_none_of X G z_set
  have y_max : mg "max" = none := PySem.W.mg_none_of X G z_max
  have y_min : mg "min" = none := PySem.W.mg_none_of X G z_min
  have n_MOST_POINT : ∃ u, mg "MOST_POINT" = some u ∧ RelV (V.int 1000) u := ⟨_, PySem.W.mg_of X G m_MOST_POINT, ⟨_, rfl⟩⟩
  have n_MOST_POINTS : ∃ u, mg "MOST_POINTS" = some u ∧ RelV (V.int 6) u := ⟨_, PySem.W.mg_of X G m_MOST_POINTS, ⟨_, rfl⟩⟩
  have n_MOST_MARKS : ∃ u, mg "MOST_MARKS" = some u ∧ RelV (V.int 8) u := ⟨_, PySem.W.mg_of X G m_MOST_MARKS, ⟨_, rfl⟩⟩
  have kn_is_whole : Kn l.prog w K mg base 1 "is_whole" g_is_whole := kn_as F0 (PySem.W.mg_of X G a0) b0 (ok_is_whole F0 y_isinstance y_int y_bool) ar_is_whole
  have kn_is_between : Kn l.prog w K mg base 2 "is_between" g_is_between := kn_as F1 (PySem.W.mg_of X G a1) b1 (ok_is_between F1 kn_is_whole) ar_is_between
  have kn_is_point : Kn l.prog w K mg base 3 "is_point" g_is_point := kn_as F2 (PySem.W.mg_of X G a2) b2 (ok_is_point F2 n_MOST_POINT kn_is_between) ar_is_point
  have kn_is_spot : Kn l.prog w K mg base 4 "is_spot" g_is_spot := kn_as F3 (PySem.W.mg_of X G a3) b3 (ok_is_spot F3 y_isinstance y_list y_len n_MOST_POINTS kn_is_point) ar_is_spot
  have kn_lowest : Kn l.prog w K mg base 1 "lowest" g_lowest := kn_as F4 (PySem.W.mg_of X G a4) b4 (ok_lowest F4 y_abs) ar_lowest
  have kn_is_fraction : Kn l.prog w K mg base 2 "is_fraction" g_is_fraction := kn_as F5 (PySem.W.mg_of X G a5) b5 (ok_is_fraction F5 y_isinstance y_tuple y_len kn_is_whole kn_lowest) ar_is_fraction
  have kn_need_two : Kn l.prog w K mg base 3 "need_two" g_need_two := kn_as F6 (PySem.W.mg_of X G a6) b6 (ok_need_two F6 kn_is_fraction) ar_need_two
  have kn_fraction : Kn l.prog w K mg base 2 "fraction" g_fraction := kn_as F7 (PySem.W.mg_of X G a7) b7 (ok_fraction F7 kn_is_whole kn_lowest) ar_fraction
  have kn_plus : Kn l.prog w K mg base 4 "plus" g_plus := kn_as F8 (PySem.W.mg_of X G a8) b8 (ok_plus F8 kn_need_two kn_lowest) ar_plus
  have kn_are_marks : Kn l.prog w K mg base 4 "are_marks" g_are_marks := kn_as F9 (PySem.W.mg_of X G a9) b9 (ok_are_marks F9 y_isinstance y_list y_len y_range n_MOST_MARKS kn_is_point) ar_are_marks
  have h_ka_told_marks : ∀ c ∈ (["Scale", "Box"] : List Str), KnA K c "told_marks" := (knA_cons (knA_mk (PySem.W.mg_of X G a_Scale) (clOf_ad (PySem.W.mg_of X G a_Scale)) cl_Scale na_Scale_told_marks) (knA_cons (knA_mk (PySem.W.mg_of X G a_Box) (clOf_ad (PySem.W.mg_of X G a_Box)) cl_Box na_Box_told_marks) knA_nil))
  have gm10 := fng_x (ok_Marking___init (P := l.prog) (w := w) (mg := mg) (base := base) F10 y_list kn_are_marks h_ka_told_marks)
  have ra10 := arX ar_Marking___init
  have gm11 := fng_x (ok_Marking_marks (P := l.prog) (w := w) (mg := mg) (base := base) F11 y_list h_ka_told_marks)
  have ra11 := arX ar_Marking_marks
  have gm12 := fng_x (ok_Marking_counts (P := l.prog) (w := w) (mg := mg) (base := base) F12)
  have ra12 := arX ar_Marking_counts
  have gm13 := fng_x (ok_Scale_takes (P := l.prog) (w := w) (mg := mg) (base := base) F13 h_ka_told_marks)
  have ra13 := arX ar_Scale_takes
  have gm14 := fng_x (ok_Box_takes (P := l.prog) (w := w) (mg := mg) (base := base) F14 h_ka_told_marks)
  have ra14 := arX ar_Box_takes
  have h_km_takes : ∀ c g, ([("Scale", (FN.toX g_Scale_takes)), ("Box", (FN.toX g_Box_takes))] : List (Str × FNX)).lookup c = some g → KnM l.prog w K mg base 1 c "takes" g := (knM_cons (knM_mk (clOf_ad (PySem.W.mg_of X G a_Scale)) cl_Scale mt_Scale_takes gm13 (by decide) b13 ra13) (knM_cons (knM_mk (clOf_ad (PySem.W.mg_of X G a_Box)) cl_Box mt_Box_takes gm14 (by decide) b14 ra14) knM_nil))
  have gm15 := fng_x (ok_Marking_fits (P := l.prog) (w := w) (mg := mg) (base := base) F15 kn_is_spot h_km_takes)
  have ra15 := arX ar_Marking_fits
  have gm16 := fng_x (ok_Scale_counts (P := l.prog) (w := w) (mg := mg) (base := base) F16 kn_fraction h_ka_told_marks)
  have ra16 := arX ar_Scale_counts
  have h_x_NoSpot : XK0 l.prog w K mg base "NoSpot" := (xk_NoSpot F37 (clOf_ad (PySem.W.mg_of X G a_NoSpot)) (PySem.W.mg_of X G a_NoSpot) ef_NoSpot a37 tI37 b37 (PySem.W.mg_of X G a_ChainError) ga_ChainError rd_ChainError fv_ChainError)
  have h_km_counts : ∀ c g, ([("Scale", (FN.toX g_Scale_counts)), ("Box", (FN.toX g_Marking_counts))] : List (Str × FNX)).lookup c = some g → KnM l.prog w K mg base 3 c "counts" g := (knM_cons (knM_mk (clOf_ad (PySem.W.mg_of X G a_Scale)) cl_Scale mt_Scale_counts gm16 (by decide) b16 ra16) (knM_cons (knM_mk (clOf_ad (PySem.W.mg_of X G a_Box)) cl_Box mt_Box_counts gm12 (by decide) b12 ra12) knM_nil))
  have gm17 := (ok_Marking_mix (P := l.prog) (w := w) (mg := mg) (base := base) F17 y_sorted kn_is_spot kn_plus h_km_takes h_x_NoSpot h_km_counts)
  have ra17 := ar_Marking_mix
  have h_kd_FEWEST : DicT K mg w.params "FEWEST" [("scale", (.int 2)), ("box", (.int 1))] := ⟨_, _, _, _, (PySem.W.mg_of X G dm_FEWEST), dl_FEWEST, ds_FEWEST, rfl, dt_FEWEST⟩
  have h_ks_Marking_init : KnS l.prog w K mg base 5 "Marking" "__init__" (FN.toX g_Marking___init) := (knS_mk (PySem.W.mg_of X G a_Marking) ga_Marking rd_Marking fc_Marking_init k10 gm10 b10 ra10)
  have gm18 := fng_x (ok_Scale___init (P := l.prog) (w := w) (mg := mg) (base := base) F18 h_kd_FEWEST h_ks_Marking_init)
  have ra18 := arX ar_Scale___init
  have gm19 := fng_x (ok_Box___init (P := l.prog) (w := w) (mg := mg) (base := base) F19 h_kd_FEWEST h_ks_Marking_init)
  have ra19 := arX ar_Box___init
  have h_ki_Scale : KnI l.prog w K mg base 6 "Scale" (FN.toX g_Scale___init) := (knI_mk (PySem.W.mg_of X G a_Scale) (clOf_ad (PySem.W.mg_of X G a_Scale)) mk_Scale gm18 b18 ra18)
  have h_ki_Box : KnI l.prog w K mg base 6 "Box" (FN.toX g_Box___init) := (knI_mk (PySem.W.mg_of X G a_Box) (clOf_ad (PySem.W.mg_of X G a_Box)) mk_Box gm19 b19 ra19)
  have kn_marks_of : Kn l.prog w K mg base 8 "marks_of" g_marks_of := kn_as F20 (PySem.W.mg_of X G a20) b20 (ok_marks_of F20 y_isinstance y_str kn_are_marks h_kd_FEWEST h_ki_Scale h_ki_Box) ar_marks_of
  have kn_law_bag : Kn l.prog w K mg base 1 "_law_bag" g_law_bag := kn_as F21 (PySem.W.mg_of X G a21) b21 (ok_law_bag F21 y_abs) ar_law_bag
  have kn_law_take : Kn l.prog w K mg base 1 "_law_take" g_law_take := kn_as F22 (PySem.W.mg_of X G a22) b22 (ok_law_take F22 y_len) ar_law_take
  have kn_law_alike : Kn l.prog w K mg base 1 "_law_alike" g_law_alike := kn_as F23 (PySem.W.mg_of X G a23) b23 (ok_law_alike F23 y_repr) ar_law_alike
  have kr_law_copy_0 : Kn l.prog w K mg base 1 "_law_copy" (g_law_copy_rec 0) := kn_never F24 (PySem.W.mg_of X G a24) b24 never_law_copy
  have kr_law_copy_1 : Kn l.prog w K mg base 2 "_law_copy" (g_law_copy_rec 1) := kn_of F24 (PySem.W.mg_of X G a24) b24 (ok_law_copy (by decide) F24 y_isinstance y_list y_tuple kr_law_copy_0 (r_law_copy 0)) (ar_law_copy_rec 1)
  have kr_law_copy_2 : Kn l.prog w K mg base 3 "_law_copy" (g_law_copy_rec 2) := kn_of F24 (PySem.W.mg_of X G a24) b24 (ok_law_copy (by decide) F24 y_isinstance y_list y_tuple kr_law_copy_1 (r_law_copy 1)) (ar_law_copy_rec 2)
  have kr_law_copy_3 : Kn l.prog w K mg base 4 "_law_copy" (g_law_copy_rec 3) := kn_of F24 (PySem.W.mg_of X G a24) b24 (ok_law_copy (by decide) F24 y_isinstance y_list y_tuple kr_law_copy_2 (r_law_copy 2)) (ar_law_copy_rec 3)
  have kr_law_copy_4 : Kn l.prog w K mg base 5 "_law_copy" (g_law_copy_rec 4) := kn_of F24 (PySem.W.mg_of X G a24) b24 (ok_law_copy (by decide) F24 y_isinstance y_list y_tuple kr_law_copy_3 (r_law_copy 3)) (ar_law_copy_rec 4)
  have kr_law_copy_5 : Kn l.prog w K mg base 6 "_law_copy" (g_law_copy_rec 5) := kn_of F24 (PySem.W.mg_of X G a24) b24 (ok_law_copy (by decide) F24 y_isinstance y_list y_tuple kr_law_copy_4 (r_law_copy 4)) (ar_law_copy_rec 5)
  have kr_law_copy_6 : Kn l.prog w K mg base 7 "_law_copy" (g_law_copy_rec 6) := kn_of F24 (PySem.W.mg_of X G a24) b24 (ok_law_copy (by decide) F24 y_isinstance y_list y_tuple kr_law_copy_5 (r_law_copy 5)) (ar_law_copy_rec 6)
  have kn_law_copy : Kn l.prog w K mg base 7 "_law_copy" g_law_copy := kr_law_copy_6
  have kn_law_low : Kn l.prog w K mg base 1 "_law_low" g_law_low := kn_as F25 (PySem.W.mg_of X G a25) b25 (ok_law_low F25 y_abs) ar_law_low
  have kn_law_plus : Kn l.prog w K mg base 2 "_law_plus" g_law_plus := kn_as F26 (PySem.W.mg_of X G a26) b26 (ok_law_plus F26 kn_law_low) ar_law_plus
  have kn_law_marks : Kn l.prog w K mg base 2 "_law_marks" g_law_marks := kn_as F27 (PySem.W.mg_of X G a27) b27 (ok_law_marks F27 y_int y_range kn_law_take) ar_law_marks
  have kn_law_spot : Kn l.prog w K mg base 2 "_law_spot" g_law_spot := kn_as F28 (PySem.W.mg_of X G a28) b28 (ok_law_spot F28 y_range y_len y_sorted y_set kn_law_take) ar_law_spot
  have kn_law_fits : Kn l.prog w K mg base 1 "_law_fits" g_law_fits := kn_as F29 (PySem.W.mg_of X G a29) b29 (ok_law_fits F29) ar_law_fits
  have kn_law_mix : Kn l.prog w K mg base 3 "_law_mix" g_law_mix := kn_as F30 (PySem.W.mg_of X G a30) b30 (ok_law_mix F30 y_max y_min y_sorted kn_law_low kn_law_plus) ar_law_mix
  have kn_law_made : Kn l.prog w K mg base 9 "_law_made" g_law_made := kn_as F31 (PySem.W.mg_of X G a31) b31 (ok_law_made F31 kn_marks_of h_ki_Box h_ki_Scale) ar_law_made
  have kn_law_put : Kn l.prog w K mg base 2 "_law_put" g_law_put := kn_as F32 (PySem.W.mg_of X G a32) b32 (ok_law_put F32 y_len kn_law_take) ar_law_put
  have h_xs_NoSpot : XSub K mg ["NoSpot"] "NoSpot" := (XSub.cons (PySem.W.mg_of X G a_NoSpot) (clOf_ad (PySem.W.mg_of X G a_NoSpot)) xs_NoSpot_NoSpot (XSub.nil (PySem.W.mg_of X G a_NoSpot)))
  have h_km_mix : ∀ c g, ([("Scale", g_Marking_mix), ("Box", g_Marking_mix)] : List (Str × FNX)).lookup c = some g → KnM l.prog w K mg base 5 c "mix" g := (knM_cons (knM_mk (clOf_ad (PySem.W.mg_of X G a_Scale)) cl_Scale mt_Scale_mix gm17 (by decide) b17 ra17) (knM_cons (knM_mk (clOf_ad (PySem.W.mg_of X G a_Box)) cl_Box mt_Box_mix gm17 (by decide) b17 ra17) knM_nil))
  have kn_law_mix_told : Kn l.prog w K mg base 6 "_law_mix_told" g_law_mix_told := kn_as F33 (PySem.W.mg_of X G a33) b33 (ok_law_mix_told F33 h_xs_NoSpot h_km_mix) ar_law_mix_told
  have h_km_marks : ∀ c g, ([("Scale", (FN.toX g_Marking_marks)), ("Box", (FN.toX g_Marking_marks))] : List (Str × FNX)).lookup c = some g → KnM l.prog w K mg base 1 c "marks" g := (knM_cons (knM_mk (clOf_ad (PySem.W.mg_of X G a_Scale)) cl_Scale mt_Scale_marks gm11 (by decide) b11 ra11) (knM_cons (knM_mk (clOf_ad (PySem.W.mg_of X G a_Box)) cl_Box mt_Box_marks gm11 (by decide) b11 ra11) knM_nil))
  have h_km_fits : ∀ c g, ([("Scale", (FN.toX g_Marking_fits)), ("Box", (FN.toX g_Marking_fits))] : List (Str × FNX)).lookup c = some g → KnM l.prog w K mg base 5 c "fits" g := (knM_cons (knM_mk (clOf_ad (PySem.W.mg_of X G a_Scale)) cl_Scale mt_Scale_fits gm15 (by decide) b15 ra15) (knM_cons (knM_mk (clOf_ad (PySem.W.mg_of X G a_Box)) cl_Box mt_Box_fits gm15 (by decide) b15 ra15) knM_nil))
  have kn_law_asked : Kn l.prog w K mg base 8 "_law_asked" g_law_asked := kn_as F34 (PySem.W.mg_of X G a34) b34 (ok_law_asked F34 kn_law_take kn_law_fits kn_law_alike kn_law_mix_told kn_law_mix kn_law_copy kn_law_put h_km_marks h_km_fits) ar_law_asked
  have kn_law_spots : Kn l.prog w K mg base 3 "_law_spots" g_law_spots := kn_as F35 (PySem.W.mg_of X G a35) b35 (ok_law_spots F35 kn_law_spot kn_law_take) ar_law_spots
  exact ok_law (P := l.prog) (w := w) (base := base) F36 y_range y_list kn_law_bag kn_law_take kn_law_marks kn_law_made kn_law_spots kn_law_asked kn_law_alike kn_law_put
theorem hk_facts {w : World} {K : PySem.W.Frag} {h : Heap} {mg : Str → Option Value} {fa : Addr} (X : K.In h) (G : h.Ns mainGlobals mg) (hfa : mg ("law" : Str) = some (.ref fa)) (c : HK.Says3 hk_ex hk_fn hk_ts w K) :
    ∃ (_ : Cl) (fd : FuncData), (∀ (s : Shared) (v : Value), BindsTo s fd ⟨[v], []⟩ [("_law_script", v)]) ∧ ∀ base : Heap, K.In base → base.Ns mainGlobals mg → FnG (PySem.Challenge.rw_truechain_k29_marks_again_shared).prog w K mg base 10 fa fd ["_law_script"] (spOf K 1 lawD) := by
  obtain ⟨oc0, od0, sl0, kV0, dc0, pm0, an0, cd0, ct0, l0, c0⟩ := c.def_ 0
  obtain ⟨oc1, od1, sl1, kV1, dc1, pm1, an1, cd1, ct1, l1, c1⟩ := c.def_ 1
  obtain ⟨oc2, od2, sl2, kV2, dc2, pm2, an2, cd2, ct2, l2, c2⟩ := c.def_ 2
  obtain ⟨oc3, od3, sl3, kV3, dc3, pm3, an3, cd3, ct3, l3, c3⟩ := c.def_ 3
  obtain ⟨oc4, od4, sl4, kV4, dc4, pm4, an4, cd4, ct4, l4, c4⟩ := c.def_ 4
  obtain ⟨oc5, od5, sl5, kV5, dc5, pm5, an5, cd5, ct5, l5, c5⟩ := c.def_ 5
  obtain ⟨oc6, od6, sl6, kV6, dc6, pm6, an6, cd6, ct6, l6, c6⟩ := c.def_ 6
  obtain ⟨oc7, od7, sl7, kV7, dc7, pm7, an7, cd7, ct7, l7, c7⟩ := c.def_ 7
  obtain ⟨oc8, od8, sl8, kV8, dc8, pm8, an8, cd8, ct8, l8, c8⟩ := c.def_ 8
  obtain ⟨oc9, od9, sl9, kV9, dc9, pm9, an9, cd9, ct9, l9, c9⟩ := c.def_ 9
  obtain ⟨oc10, od10, sl10, kV10, dc10, pm10, an10, cd10, ct10, l10, c10⟩ := c.def_ 10
  obtain ⟨oc11, od11, sl11, kV11, dc11, pm11, an11, cd11, ct11, l11, c11⟩ := c.def_ 11
  obtain ⟨oc12, od12, sl12, kV12, dc12, pm12, an12, cd12, ct12, l12, c12⟩ := c.def_ 12
  obtain ⟨oc13, od13, sl13, kV13, dc13, pm13, an13, cd13, ct13, l13, c13⟩ := c.def_ 13
  obtain ⟨oc14, od14, sl14, kV14, dc14, pm14, an14, cd14, ct14, l14, c14⟩ := c.def_ 14
  obtain ⟨oc15, od15, sl15, kV15, dc15, pm15, an15, cd15, ct15, l15, c15⟩ := c.def_ 15
  obtain ⟨oc16, od16, sl16, kV16, dc16, pm16, an16, cd16, ct16, l16, c16⟩ := c.def_ 16
  obtain ⟨oc17, od17, sl17, kV17, dc17, pm17, an17, cd17, ct17, l17, c17⟩ := c.def_ 17
  obtain ⟨oc18, od18, sl18, kV18, dc18, pm18, an18, cd18, ct18, l18, c18⟩ := c.def_ 18
  obtain ⟨oc19, od19, sl19, kV19, dc19, pm19, an19, cd19, ct19, l19, c19⟩ := c.def_ 19
  obtain ⟨oc20, od20, sl20, kV20, dc20, pm20, an20, cd20, ct20, l20, c20⟩ := c.def_ 20
  obtain ⟨oc21, od21, sl21, kV21, dc21, pm21, an21, cd21, ct21, l21, c21⟩ := c.def_ 21
  obtain ⟨oc22, od22, sl22, kV22, dc22, pm22, an22, cd22, ct22, l22, c22⟩ := c.def_ 22
  obtain ⟨oc23, od23, sl23, kV23, dc23, pm23, an23, cd23, ct23, l23, c23⟩ := c.def_ 23
  obtain ⟨oc24, od24, sl24, kV24, dc24, pm24, an24, cd24, ct24, l24, c24⟩ := c.def_ 24
  obtain ⟨oc25, od25, sl25, kV25, dc25, pm25, an25, cd25, ct25, l25, c25⟩ := c.def_ 25
  obtain ⟨oc26, od26, sl26, kV26, dc26, pm26, an26, cd26, ct26, l26, c26⟩ := c.def_ 26
  obtain ⟨oc27, od27, sl27, kV27, dc27, pm27, an27, cd27, ct27, l27, c27⟩ := c.def_ 27
  obtain ⟨oc28, od28, sl28, kV28, dc28, pm28, an28, cd28, ct28, l28, c28⟩ := c.def_ 28
  obtain ⟨oc29, od29, sl29, kV29, dc29, pm29, an29, cd29, ct29, l29, c29⟩ := c.def_ 29
  obtain ⟨oc30, od30, sl30, kV30, dc30, pm30, an30, cd30, ct30, l30, c30⟩ := c.def_ 30
  obtain ⟨oc31, od31, sl31, kV31, dc31, pm31, an31, cd31, ct31, l31, c31⟩ := c.def_ 31
  obtain ⟨oc32, od32, sl32, kV32, dc32, pm32, an32, cd32, ct32, l32, c32⟩ := c.def_ 32
  obtain ⟨oc33, od33, sl33, kV33, dc33, pm33, an33, cd33, ct33, l33, c33⟩ := c.def_ 33
  obtain ⟨oc34, od34, sl34, kV34, dc34, pm34, an34, cd34, ct34, l34, c34⟩ := c.def_ 34
  obtain ⟨oc35, od35, sl35, kV35, dc35, pm35, an35, cd35, ct35, l35, c35⟩ := c.def_ 35
  obtain ⟨oc36, od36, sl36, kV36, dc36, pm36, an36, cd36, ct36, l36, c36⟩ := c.def_ 36
  obtain ⟨oc37, od37, sl37, kV37, dc37, pm37, an37, cd37, ct37, l37, c37⟩ := c.def_ 37
  obtain ⟨tk_MOST_POINT, m_MOST_POINT⟩ := HK.int_at (c.fact 0 95)
  obtain ⟨tk_MOST_POINTS, m_MOST_POINTS⟩ := HK.int_at (c.fact 0 96)
  obtain ⟨tk_MOST_MARKS, m_MOST_MARKS⟩ := HK.int_at (c.fact 0 97)
  obtain ⟨u_FEWEST, es_FEWEST, en_FEWEST, dm_FEWEST, dl_FEWEST, ds_FEWEST, dt_FEWEST⟩ := HK.dic_at (kvs := [("scale", V.int 2), ("box", V.int 1)]) (c.fact 0 111) (c.tab 0)
  exact all_mk (l := PySem.Challenge.rw_truechain_k29_marks_again_shared) (w := w) X G hfa
    (He.eqO_ok (c.fact 0 0)) (He.eqO_ok (c.fact 0 1)) (He.eqO_ok (c.fact 0 2)) (He.eqO_ok (c.fact 0 3)) (He.eqO_ok (c.fact 0 4)) (He.eqO_ok (c.fact 0 5)) l0 c0
    (c.fact 0 6) (He.eqO_ok (c.fact 0 7)) l1 c1 (c.fact 0 8) (He.eqO_ok (c.fact 0 9)) l2 c2
    (c.fact 0 10) (He.eqO_ok (c.fact 0 11)) l3 c3 (c.fact 0 12) (He.eqO_ok (c.fact 0 13)) l4 c4
    (c.fact 0 14) (He.eqO_ok (c.fact 0 15)) l5 c5 (c.fact 0 16) (He.eqO_ok (c.fact 0 17)) l6 c6
    (c.fact 0 18) (He.eqO_ok (c.fact 0 19)) l7 c7 (c.fact 0 20) (He.eqO_ok (c.fact 0 21)) l8 c8
    (c.fact 0 22) (He.eqO_ok (c.fact 0 23)) l9 c9 (c.fact 0 24) (He.eqO_ok (c.fact 0 25)) l10 c10
    (c.fact 0 26) (He.eqO_ok (c.fact 0 27)) l11 c11 (c.fact 0 28) (He.eqO_ok (c.fact 0 29)) l12 c12
    (c.fact 0 30) (He.eqO_ok (c.fact 0 31)) l13 c13 (c.fact 0 32) (He.eqO_ok (c.fact 0 33)) l14 c14
    (c.fact 0 34) (He.eqO_ok (c.fact 0 35)) l15 c15 (c.fact 0 36) (He.eqO_ok (c.fact 0 37)) l16 c16
    (c.fact 0 38) (He.eqO_ok (c.fact 0 39)) l17 c17 (c.fact 0 40) (He.eqO_ok (c.fact 0 41)) l18 c18
    (c.fact 0 42) (He.eqO_ok (c.fact 0 43)) l19 c19 (c.fact 0 44) (He.eqO_ok (c.fact 0 45)) l20 c20
    (c.fact 0 46) (He.eqO_ok (c.fact 0 47)) l21 c21 (c.fact 0 48) (He.eqO_ok (c.fact 0 49)) l22 c22
    (c.fact 0 50) (He.eqO_ok (c.fact 0 51)) l23 c23 (c.fact 0 52) (He.eqO_ok (c.fact 0 53)) l24 c24
    (c.fact 0 54) (He.eqO_ok (c.fact 0 55)) l25 c25 (c.fact 0 56) (He.eqO_ok (c.fact 0 57)) l26 c26
    (c.fact 0 58) (He.eqO_ok (c.fact 0 59)) l27 c27 (c.fact 0 60) (He.eqO_ok (c.fact 0 61)) l28 c28
    (c.fact 0 62) (He.eqO_ok (c.fact 0 63)) l29 c29 (c.fact 0 64) (He.eqO_ok (c.fact 0 65)) l30 c30
    (c.fact 0 66) (He.eqO_ok (c.fact 0 67)) l31 c31 (c.fact 0 68) (He.eqO_ok (c.fact 0 69)) l32 c32
    (c.fact 0 70) (He.eqO_ok (c.fact 0 71)) l33 c33 (c.fact 0 72) (He.eqO_ok (c.fact 0 73)) l34 c34
    (c.fact 0 74) (He.eqO_ok (c.fact 0 75)) l35 c35 (c.fact 0 76) (He.eqO_ok (c.fact 0 77)) l36 c36
    (c.fact 0 78) (He.eqO_ok (c.fact 0 79)) l37 c37 (c.fact 0 80) (He.eqO_ok (c.fact 0 81)) (He.eqO_ok (c.fact 0 82)) (He.eqO_ok (c.fact 0 83))
    (He.eqO_ok (c.fact 0 84)) (He.eqO_ok (c.fact 0 85)) (He.eqO_ok (c.fact 0 86)) (He.eqO_ok (c.fact 0 87)) (He.eqO_ok (c.fact 0 88)) (He.eqO_ok (c.fact 0 89)) (He.eqO_ok (c.fact 0 90)) (He.eqO_ok (c.fact 0 91))
    (He.eqO_ok (c.fact 0 92)) (He.eqO_ok (c.fact 0 93)) (He.eqO_ok (c.fact 0 94)) m_MOST_POINT m_MOST_POINTS m_MOST_MARKS (c.fact 0 98) (He.eqO_ok (c.fact 0 99))
    (c.fact 0 100) (He.eqO_ok (c.fact 0 101)) (c.fact 0 102) (c.fact 0 103) (c.fact 0 104) (HK.isO_ok (c.fact 0 105)) (He.eqO_ok (c.fact 0 106)) (c.fact 0 107)
    (HK.isC_ok (c.fact 0 108)) (c.fact 0 109) (c.fact 0 110) dm_FEWEST dl_FEWEST ds_FEWEST dt_FEWEST (He.eqO_ok (c.fact 0 112))
    (c.fact 0 113) (HK.isC_ok (c.fact 0 114)) (c.fact 0 115) (c.fact 0 116) (HK.isB_ok (c.fact 0 117)) (c.fact 0 118) (c.fact 0 119) (c.fact 0 120)
    (c.fact 0 121) (c.fact 0 122) (c.fact 0 123)
end K29
open PySem PySem.W PyProof.Rows
set_option maxHeartbeats 0 in
theorem PySem.Challenge.cw_truechain_k29_marks_again_shared_holds : PySem.Challenge.rw_truechain_k29_marks_again_shared.Holds := by
  w_on; o_law
  refine HandSHeadRun.head_any (r := (PySem.W.OpenLaw.row PySem.Challenge.rw_truechain_k29_marks_again_shared)) (q := PySem.W.view (PySem.W.OpenLaw.row PySem.Challenge.rw_truechain_k29_marks_again_shared).prog [41]) (H := HK.hook3 6 K29.hk_ex K29.hk_fn K29.hk_ts) (ob := HK.ob3 6 K29.hk_ex K29.hk_fn K29.hk_ts) (M := 60000) (loose := K29.hk_names) (d := HandSHeadRun.topDef (PySem.W.OpenLaw.row PySem.Challenge.rw_truechain_k29_marks_again_shared).prog 41) (kwd := []) (HK.ob3_eq _ _ _ _)
    (by kernel_rfl) (fun s => by kernel_rfl) K29.hk_run (by kernel_rfl) (by kernel_rfl) (by kernel_rfl) (by rfl) (by first | assumption | decide +kernel) (by decide +kernel) ⟨rfl, rfl, rfl, rfl, rfl, by decide +kernel⟩ ?hw ?hc
  case hw => w_witness2
  case hc => exact HK.walkH (l := PySem.Challenge.rw_truechain_k29_marks_again_shared) (k := 10) (x := "_law_script") rfl (by kernel_rfl) ⟨rfl, by decide, by decide⟩ (by kernel_rfl) fun w K mg fa h X G hfa c => K29.hk_facts X G hfa c
