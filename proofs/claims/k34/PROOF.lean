import PyProof.Rows.All
import Wide.All
import OpenK.AllK
import Wide.FinOn
import HandS.ForMost
import HandS.Wide
import HandS.WideBits
import HandS.IsInst
import HandS.Deep
import HandS.Conv
import HandS.Exc
import HandS.TupAny
import HandS.Style
import HandS.More
import HandS.ExcInit
import HandS.ExcField
import HandS.ExcOwn
import HandS.TryOnly
import HandS.TryMany
import KE.KExcIs
import HandS.SortInts
import HandS.TupLe
import HandS.Strs
import HandS.Text
import HandS.Flow
import HandS.Dict
import KE.Datum
import HandS.WordsExc
import HandS.SetFor
import HandS.TupSets
import HandS.FStr
import PySem.Challenge.RW_truechain_k34_names_and_copies
set_option Elab.async false
set_option linter.all false
set_option maxRecDepth 100000
set_option maxHeartbeats 4000000
/-! Data layer, part 1: data D, stores, the relation to the abstract heap, lifted judgements. -/
namespace DL
open PySem PySem.Spec PyProof.Rows L2
/-- data: frozen trees, and pointers into the store of what may still change -/
inductive D where
  | non | bl (b : Bool) | int (i : Int) | str (x : Str)
  | tup (ds : List D) | lst (ds : List D) | fz (ds : List D) | ptr (i : Nat) | ty (n : String)
  | dic (kvs : List (L2.Key × D)) | adr (a : Addr) | gl (x : Str)
/-- the module's names that stand for objects: defs, classes -/
class Cl where
  ad : Str → Option Addr
instance (priority := low) clNone : Cl := ⟨fun _ => none⟩
variable [Cl]
/-- the data world: where the store's cells lie, the frozen heap -/
structure Wd where
  be : List Addr
  st : Hp
structure Wd.Le (W W' : Wd) : Prop where
  be : ∀ (i : Nat) (a : Addr), W.be[i]? = some a → W'.be[i]? = some a
  st : Same W.st W'.st
theorem Wd.Le.refl (W : Wd) : W.Le W := ⟨fun _ _ h => h, Same.refl _⟩
theorem Wd.Le.trans {W W' W'' : Wd} (h : W.Le W') (h' : W'.Le W'') : W.Le W'' := ⟨fun i a e => h'.be i a (h.be i a e), h.st.trans h'.st⟩
mutual
inductive R (K : PySem.W.Frag) (W : Wd) : V → D → Prop
  | non : R K W .non .non
  | bl (b : Bool) : R K W (.bl b) (.bl b)
  | int (i : Int) : R K W (.int i) (.int i)
  | str (x : Str) : R K W (.str x) (.str x)
  | tup {a : Addr} {xs : List V} {ds : List D} : SqT K W.st a xs → RA K W xs ds → R K W (.ref a) (.tup ds)
  | lst {a : Addr} {xs : List V} {ds : List D} : W.st a = some (.lst xs) → RA K W xs ds → R K W (.ref a) (.lst ds)
  | fz {a : Addr} {xs : List V} {ds : List D} : SqL K W.st a xs → RA K W xs ds → R K W (.ref a) (.fz ds)
  | ty (n : String) : R K W (.ty n) (.ty n)
  | ptr {a : Addr} {i : Nat} : W.be[i]? = some a → R K W (.ref a) (.ptr i)
  | dic {a : Addr} {xs : List (L2.Key × V)} {ds : List (L2.Key × D)} : W.st a = some (.dK xs) → RD K W xs ds → R K W (.ref a) (.dic ds)
  | adr (a : Addr) : R K W (.ref a) (.adr a)
  | gl {a : Addr} {x : Str} : Cl.ad x = some a → R K W (.ref a) (.gl x)
inductive RA (K : PySem.W.Frag) (W : Wd) : List V → List D → Prop
  | nil : RA K W [] []
  | cons {v : V} {vs : List V} {d : D} {ds : List D} : R K W v d → RA K W vs ds → RA K W (v :: vs) (d :: ds)
inductive RD (K : PySem.W.Frag) (W : Wd) : List (L2.Key × V) → List (L2.Key × D) → Prop
  | nil : RD K W [] []
  | cons {k : L2.Key} {v : V} {vs : List (L2.Key × V)} {d : D} {ds : List (L2.Key × D)} : R K W v d → RD K W vs ds → RD K W ((k, v) :: vs) ((k, d) :: ds)
end
section
variable {K : PySem.W.Frag} {W W' : Wd}
theorem same_seqL {H H' : Hp} (s : Same H H') {a : Addr} {xs : List V} (h : SqL K H a xs) : SqL K H' a xs := s.seq h
theorem same_seqT {H H' : Hp} (s : Same H H') {a : Addr} {xs : List V} (h : SqT K H a xs) : SqT K H' a xs := by
  rcases h with (h | ⟨o, h⟩) | h
  · exact .inl (.inl (s _ _ h))
  · exact .inl (.inr ⟨o, s _ _ h⟩)
  · exact .inr h
mutual
theorem R.mono (l : W.Le W') : ∀ {v : V} {d : D}, R K W v d → R K W' v d
  | _, _, .non => .non
  | _, _, .bl b => .bl b
  | _, _, .int i => .int i
  | _, _, .str x => .str x
  | _, _, .tup h r => .tup (same_seqT l.st h) (RA.mono l r)
  | _, _, .lst h r => .lst (l.st _ _ h) (RA.mono l r)
  | _, _, .fz h r => .fz (same_seqL l.st h) (RA.mono l r)
  | _, _, .ty n => .ty n
  | _, _, .ptr h => .ptr (l.be _ _ h)
  | _, _, .dic h r => .dic (l.st _ _ h) (RD.mono l r)
  | _, _, .adr a => .adr a
  | _, _, .gl h => .gl h
theorem RA.mono (l : W.Le W') : ∀ {vs : List V} {ds : List D}, RA K W vs ds → RA K W' vs ds
  | _, _, .nil => .nil
  | _, _, .cons h r => .cons (R.mono l h) (RA.mono l r)
theorem RD.mono (l : W.Le W') : ∀ {vs : List (L2.Key × V)} {ds : List (L2.Key × D)}, RD K W vs ds → RD K W' vs ds
  | _, _, .nil => .nil
  | _, _, .cons h r => .cons (R.mono l h) (RD.mono l r)
end
theorem RD.len : ∀ {vs : List (L2.Key × V)} {ds : List (L2.Key × D)}, RD K W vs ds → vs.length = ds.length
  | _, _, .nil => rfl
  | _, _, .cons _ r => by rw [List.length_cons, List.length_cons, RD.len r]
theorem RA.len : ∀ {vs : List V} {ds : List D}, RA K W vs ds → vs.length = ds.length
  | _, _, .nil => rfl
  | _, _, .cons _ r => by rw [List.length_cons, List.length_cons, RA.len r]
theorem RA.get : ∀ {vs : List V} {ds : List D} {i : Nat} {d : D}, RA K W vs ds → ds[i]? = some d → ∃ v, vs[i]? = some v ∧ R K W v d
  | _, _, _, _, .nil, e => by simp at e
  | _, _, 0, _, .cons h _, e => by
    simp only [List.getElem?_cons_zero, Option.some.injEq] at e
    subst e
    exact ⟨_, rfl, h⟩
  | _, _, i + 1, _, .cons _ r, e => by
    rw [List.getElem?_cons_succ] at e ⊢
    exact RA.get r e
theorem RA.getV : ∀ {vs : List V} {ds : List D} {i : Nat} {v : V}, RA K W vs ds → vs[i]? = some v → ∃ d, ds[i]? = some d ∧ R K W v d
  | _, _, _, _, .nil, e => by simp at e
  | _, _, 0, _, .cons h _, e => by
    simp only [List.getElem?_cons_zero, Option.some.injEq] at e
    subst e
    exact ⟨_, rfl, h⟩
  | _, _, i + 1, _, .cons _ r, e => by
    rw [List.getElem?_cons_succ] at e ⊢
    exact RA.getV r e
theorem RA.app : ∀ {vs us : List V} {ds es : List D}, RA K W vs ds → RA K W us es → RA K W (vs ++ us) (ds ++ es)
  | _, _, _, _, .nil, s => s
  | _, _, _, _, .cons h r, s => .cons h (RA.app r s)
theorem RA.tk : ∀ {vs : List V} {ds : List D} (n : Nat), RA K W vs ds → RA K W (vs.take n) (ds.take n)
  | _, _, 0, _ => .nil
  | _, _, _ + 1, .nil => .nil
  | _, _, n + 1, .cons h r => .cons h (RA.tk n r)
theorem RA.dp : ∀ {vs : List V} {ds : List D} (n : Nat), RA K W vs ds → RA K W (vs.drop n) (ds.drop n)
  | _, _, 0, r => r
  | _, _, _ + 1, .nil => .nil
  | _, _, n + 1, .cons _ r => RA.dp n r
theorem RA.set {v : V} {d : D} (h : R K W v d) : ∀ {vs : List V} {ds : List D} (i : Nat), RA K W vs ds → RA K W (vs.set i v) (ds.set i d)
  | _, _, _, .nil => .nil
  | _, _, 0, .cons _ r => .cons h r
  | _, _, i + 1, .cons q r => .cons q (RA.set h i r)
end
/-- attributes -/
inductive RF (K : PySem.W.Frag) (W : Wd) : List (Str × V) → List (Str × D) → Prop
  | nil : RF K W [] []
  | cons {x : Str} {v : V} {vs : List (Str × V)} {d : D} {ds : List (Str × D)} : R K W v d → RF K W vs ds → RF K W ((x, v) :: vs) ((x, d) :: ds)
section
variable {K : PySem.W.Frag} {W W' : Wd}
theorem RF.mono (l : W.Le W') : ∀ {vs : List (Str × V)} {ds : List (Str × D)}, RF K W vs ds → RF K W' vs ds
  | _, _, .nil => .nil
  | _, _, .cons h r => .cons (R.mono l h) (RF.mono l r)
theorem RF.look : ∀ {vs : List (Str × V)} {ds : List (Str × D)} {x : Str} {d : D}, RF K W vs ds → ds.lookup x = some d → ∃ v, vs.lookup x = some v ∧ R K W v d
  | _, _, _, _, .nil, e => by cases e
  | _, _, x, _, .cons (x := y) h r, e => by
    rw [List.lookup_cons] at e ⊢
    cases q : x == y with
    | true => rw [q] at e; cases e; exact ⟨_, rfl, h⟩
    | false => rw [q] at e; exact RF.look r e
theorem RF.look0 : ∀ {vs : List (Str × V)} {ds : List (Str × D)} {x : Str}, RF K W vs ds → ds.lookup x = none → vs.lookup x = none
  | _, _, _, .nil, _ => rfl
  | _, _, x, .cons (x := y) h r, e => by
    rw [List.lookup_cons] at e ⊢
    cases q : x == y with
    | true => rw [q] at e; cases e
    | false => rw [q] at e; exact RF.look0 r e
theorem RF.len : ∀ {vs : List (Str × V)} {ds : List (Str × D)}, RF K W vs ds → vs.length = ds.length
  | _, _, .nil => rfl
  | _, _, .cons _ r => by rw [List.length_cons, List.length_cons, RF.len r]
end
/-- what stands in the store -/
inductive Cell where
  | lst (ds : List D)
  | dead
  | dic (kvs : List (L2.Key × D))
  | ins (c : Str) (fs : List (Str × D))
abbrev Sto := List Cell
def CellR (K : PySem.W.Frag) (W : Wd) (H : Hp) (a : Addr) : Cell → Prop
  | .lst ds => ∃ xs, H a = some (.lst xs) ∧ RA K W xs ds
  | .dead => True
  | .dic ds => ∃ xs, H a = some (.dK xs) ∧ RD K W xs ds
  | .ins c fs => ∃ C dx xs, Cl.ad c = some C ∧ H a = some (.ins C dx xs) ∧ W.st dx = some (.own a) ∧ RF K W xs fs
/-- the relation of a state: F is a frame that stays -/
structure Rel0 (K : PySem.W.Frag) (W : Wd) (F H : Hp) (m : Sto) : Prop where
  sub : Same W.st H
  frm : Same F H
  dis : ∀ p o, F p = some o → W.st p = none
  len : W.be.length = m.length
  cell : ∀ (i : Nat) (c : Cell), m[i]? = some c → c ≠ .dead → ∃ a, W.be[i]? = some a ∧ W.st a = none ∧ F a = none ∧ CellR K W H a c
  inj : ∀ (i j : Nat) (a : Addr) (c c' : Cell), W.be[i]? = some a → W.be[j]? = some a → m[i]? = some c → m[j]? = some c' → c ≠ .dead → c' ≠ .dead → i = j
section
variable {K : PySem.W.Frag} {W W' : Wd} {F H H' : Hp} {m m' : Sto} {p a : Addr} {o : HO}
theorem CellR.mono {c : Cell} (l : W.Le W') (h : CellR K W H a c) : CellR K W' H a c := by
  cases c with
  | dead => trivial
  | lst ds => exact ⟨_, h.choose_spec.1, h.choose_spec.2.mono l⟩
  | dic ds => exact ⟨_, h.choose_spec.1, h.choose_spec.2.mono l⟩
  | ins c fs => obtain ⟨C, dx, xs, h1, h2, h3, h4⟩ := h; exact ⟨C, dx, xs, h1, h2, l.st _ _ h3, h4.mono l⟩
theorem CellR.there {c : Cell} (hc : c ≠ .dead) (h : CellR K W H a c) : H a ≠ none := by
  cases c with
  | dead => exact absurd rfl hc
  | lst ds => obtain ⟨xs, e, _⟩ := h; rw [e]; simp
  | dic ds => obtain ⟨xs, e, _⟩ := h; rw [e]; simp
  | ins c fs => obtain ⟨_, _, _, _, e, _⟩ := h; rw [e]; simp
theorem CellR.heap {c : Cell} (hc : c ≠ .dead) (e : H' a = H a) (h : CellR K W H a c) : CellR K W H' a c := by
  cases c with
  | dead => exact absurd rfl hc
  | lst ds => obtain ⟨xs, q, r⟩ := h; exact ⟨xs, e.trans q, r⟩
  | dic ds => obtain ⟨xs, q, r⟩ := h; exact ⟨xs, e.trans q, r⟩
  | ins c fs => obtain ⟨C, dx, xs, h1, h2, h3, h4⟩ := h; exact ⟨C, dx, xs, h1, e.trans h2, h3, h4⟩
theorem Rel0.fF (r : Rel0 K W F H m) (hp : H p = none) : F p = none := by
  cases q : F p with
  | none => rfl
  | some x => rw [r.frm _ _ q] at hp; cases hp
theorem Rel0.fS (r : Rel0 K W F H m) (hp : H p = none) : W.st p = none := by
  cases q : W.st p with
  | none => rfl
  | some x => rw [r.sub _ _ q] at hp; cases hp
theorem same_new (hp : H p = none) : Same H (upd H p o) := fun b x e => by
  rw [upd_ne (ne_of_none e hp)]; exact e
theorem same_of_new {G : Hp} (s : Same G H) (hp : H p = none) : Same G (upd H p o) := s.trans (same_new hp)
theorem same_both {G : Hp} (s : Same G H) : Same (upd G p o) (upd H p o) := fun b x e => by
  by_cases h : b = p
  · subst h; rw [upd_same] at e ⊢; exact e
  · rw [upd_ne h] at e ⊢; exact s _ _ e
/-- a new object that nobody knows -/
theorem Rel0.grow (r : Rel0 K W F H m) (hp : H p = none) : Rel0 K W F (upd H p o) m where
  sub := same_of_new r.sub hp
  frm := same_of_new r.frm hp
  dis := r.dis
  len := r.len
  cell := fun i c e hc => by
    obtain ⟨a, h1, h2, h3, h4⟩ := r.cell i c e hc
    have hn : a ≠ p := fun z => h4.there hc (by rw [z]; exact hp)
    exact ⟨a, h1, h2, h3, h4.heap hc (upd_ne hn)⟩
  inj := r.inj
/-- a new frozen object -/
theorem Rel0.cold (r : Rel0 K W F H m) (hp : H p = none) : Rel0 K ⟨W.be, upd W.st p o⟩ F (upd H p o) m where
  sub := same_both r.sub
  frm := same_of_new r.frm hp
  dis := fun q x e => by
    have hq : q ≠ p := fun z => by rw [z, r.fF hp] at e; cases e
    show upd W.st p o q = none
    rw [upd_ne hq]; exact r.dis q x e
  len := r.len
  cell := fun i c e hc => by
    obtain ⟨a, h1, h2, h3, h4⟩ := r.cell i c e hc
    have hn : a ≠ p := fun z => h4.there hc (by rw [z]; exact hp)
    have le : W.Le ⟨W.be, upd W.st p o⟩ := ⟨fun _ _ e => e, same_new (r.fS hp)⟩
    exact ⟨a, h1, (upd_ne hn).trans h2, h3, (h4.heap hc (upd_ne hn)).mono le⟩
  inj := r.inj
theorem cold_le (r : Rel0 K W F H m) (hp : H p = none) : W.Le ⟨W.be, upd W.st p o⟩ := ⟨fun _ _ e => e, same_new (r.fS hp)⟩
theorem getElem?_snoc_lt {α : Type} {l : List α} {x y : α} {i : Nat} (h : l[i]? = some y) : (l ++ [x])[i]? = some y := by
  have : i < l.length := (List.getElem?_eq_some_iff.mp h).1
  rw [List.getElem?_append_left this]; exact h
theorem getElem?_snoc_cases {α : Type} {l : List α} {x y : α} {i : Nat} (h : (l ++ [x])[i]? = some y) : l[i]? = some y ∨ (i = l.length ∧ y = x) := by
  by_cases hi : i < l.length
  · rw [List.getElem?_append_left hi] at h; exact .inl h
  · rw [List.getElem?_append_right (by omega)] at h
    cases e : i - l.length with
    | zero =>
      rw [e] at h
      simp only [List.getElem?_cons_zero, Option.some.injEq] at h
      exact .inr ⟨by omega, h.symm⟩
    | succ n => rw [e] at h; simp at h
/-- a new cell -/
theorem Rel0.hot {c : Cell} (r : Rel0 K W F H m) (hp : H p = none) (hr : CellR K W (upd H p o) p c) : Rel0 K ⟨W.be ++ [p], W.st⟩ F (upd H p o) (m ++ [c]) where
  sub := same_of_new r.sub hp
  frm := same_of_new r.frm hp
  dis := r.dis
  len := by show (W.be ++ [p]).length = _; rw [List.length_append, List.length_append, r.len]; rfl
  cell := fun i d e hc => by
    have le : W.Le ⟨W.be ++ [p], W.st⟩ := ⟨fun _ _ e => getElem?_snoc_lt e, Same.refl _⟩
    rcases getElem?_snoc_cases e with e | ⟨e1, e2⟩
    · obtain ⟨a, h1, h2, h3, h4⟩ := r.cell i d e hc
      have hn : a ≠ p := fun z => h4.there hc (by rw [z]; exact hp)
      exact ⟨a, getElem?_snoc_lt h1, h2, h3, (h4.heap hc (upd_ne hn)).mono le⟩
    · subst e1 e2
      refine ⟨p, ?_, r.fS hp, r.fF hp, hr.mono le⟩
      show (W.be ++ [p])[m.length]? = some p
      rw [List.getElem?_append_right (by rw [r.len]; exact Nat.le_refl _), r.len, Nat.sub_self]; rfl
  inj := fun i j a c1 c2 b1 b2 e1 e2 n1 n2 => by
    have nope : ∀ {k : Nat} {d : Cell}, m[k]? = some d → d ≠ .dead → (W.be ++ [p])[k]? ≠ some p := fun {k d} e n z => by
      obtain ⟨a, h1, _, _, h4⟩ := r.cell k d e n
      rw [getElem?_snoc_lt h1] at z
      exact h4.there n (by rw [Option.some.inj z]; exact hp)
    have atP : ∀ {k : Nat}, k = m.length → (W.be ++ [p])[k]? = some p := fun {k} e => by
      rw [e, List.getElem?_append_right (by rw [r.len]; exact Nat.le_refl _), r.len, Nat.sub_self]; rfl
    rcases getElem?_snoc_cases e1 with e1 | ⟨e1, _⟩
    · rcases getElem?_snoc_cases e2 with e2 | ⟨e2, _⟩
      · obtain ⟨a1, x1, _⟩ := r.cell i c1 e1 n1
        obtain ⟨a2, x2, _⟩ := r.cell j c2 e2 n2
        have y1 : a1 = a := Option.some.inj ((getElem?_snoc_lt x1).symm.trans b1)
        have y2 : a2 = a := Option.some.inj ((getElem?_snoc_lt x2).symm.trans b2)
        subst y1 y2
        exact r.inj i j _ c1 c2 x1 x2 e1 e2 n1 n2
      · have z : a = p := Option.some.inj (b2.symm.trans (atP e2))
        subst z
        exact absurd b1 (nope e1 n1)
    · rcases getElem?_snoc_cases e2 with e2 | ⟨e2, _⟩
      · have z : a = p := Option.some.inj (b1.symm.trans (atP e1))
        subst z
        exact absurd b2 (nope e2 n2)
      · omega
theorem hot_le : W.Le ⟨W.be ++ [p], W.st⟩ := ⟨fun _ _ e => getElem?_snoc_lt e, Same.refl _⟩
theorem hot_at (r : Rel0 K W F H m) : (W.be ++ [p])[m.length]? = some p := by
  rw [List.getElem?_append_right (by rw [r.len]; exact Nat.le_refl _), r.len, Nat.sub_self]; rfl
/-- a cell is written -/
theorem Rel0.write {i : Nat} {c c' : Cell} (r : Rel0 K W F H m) (hb : W.be[i]? = some a) (hm : m[i]? = some c) (hc : c ≠ .dead) (hc' : c' ≠ .dead) (hr : CellR K W (upd H a o) a c') : Rel0 K W F (upd H a o) (m.set i c') := by
  obtain ⟨b, h1, h2, h3, h4⟩ := r.cell i c hm hc
  have e : b = a := Option.some.inj (h1.symm.trans hb)
  subst e
  have keep : ∀ {G : Hp}, G b = none → Same G H → Same G (upd H b o) := fun {G} n s q x z => by
    rw [upd_ne (ne_of_none z n)]; exact s _ _ z
  have live : ∀ {j : Nat} {d : Cell}, j ≠ i → (m.set i c')[j]? = some d → m[j]? = some d := fun {j d} hj z => by
    rw [List.getElem?_set_ne (Ne.symm hj)] at z; exact z
  have alive : ∀ {j : Nat} {d : Cell}, (m.set i c')[j]? = some d → d ≠ .dead → ∃ d', m[j]? = some d' ∧ d' ≠ .dead := fun {j d} z n => by
    by_cases hj : j = i
    · subst hj; exact ⟨c, hm, hc⟩
    · exact ⟨d, live hj z, n⟩
  refine ⟨keep h2 r.sub, keep h3 r.frm, r.dis, by rw [List.length_set]; exact r.len, fun j d e hd => ?_, fun j k x c1 c2 b1 b2 e1 e2 n1 n2 => ?_⟩
  · by_cases hj : j = i
    · subst hj
      have hlt : j < m.length := (List.getElem?_eq_some_iff.mp hm).1
      rw [List.getElem?_set_self hlt] at e
      cases e
      exact ⟨b, h1, h2, h3, hr⟩
    · have e' := live hj e
      obtain ⟨x, y1, y2, y3, y4⟩ := r.cell j d e' hd
      have hn : x ≠ b := fun z => hj (r.inj j i b d c (by rw [← z]; exact y1) h1 e' hm hd hc)
      exact ⟨x, y1, y2, y3, y4.heap hd (upd_ne hn)⟩
  · obtain ⟨d1, f1, g1⟩ := alive e1 n1
    obtain ⟨d2, f2, g2⟩ := alive e2 n2
    exact r.inj j k x d1 d2 b1 b2 f1 f2 g1 g2
theorem dead_set {i j : Nat} {d : Cell} (e : (m.set i .dead)[j]? = some d) (hd : d ≠ .dead) : j ≠ i ∧ m[j]? = some d := by
  by_cases hj : j = i
  · subst hj
    by_cases hlt : j < m.length
    · rw [List.getElem?_set_self hlt] at e; cases e; exact absurd rfl hd
    · rw [List.getElem?_eq_none (by rw [List.length_set]; omega)] at e; cases e
  · rw [List.getElem?_set_ne (Ne.symm hj)] at e; exact ⟨hj, e⟩
/-- a cell is frozen -/
theorem Rel0.freeze {i : Nat} {c : Cell} (r : Rel0 K W F H m) (hb : W.be[i]? = some a) (hm : m[i]? = some c) (hc : c ≠ .dead) (ho : H a = some o) : Rel0 K ⟨W.be, upd W.st a o⟩ F H (m.set i .dead) ∧ W.Le ⟨W.be, upd W.st a o⟩ := by
  obtain ⟨b, h1, h2, h3, h4⟩ := r.cell i c hm hc
  have e : b = a := Option.some.inj (h1.symm.trans hb)
  subst e
  have le : W.Le ⟨W.be, upd W.st b o⟩ := ⟨fun _ _ e => e, same_new h2⟩
  refine ⟨⟨fun q x z => ?_, r.frm, fun q x z => ?_, by rw [List.length_set]; exact r.len, fun j d e hd => ?_, fun j k x c1 c2 b1 b2 e1 e2 n1 n2 => ?_⟩, le⟩
  · by_cases hq : q = b
    · subst hq
      have z' : upd W.st q o q = some x := z
      rw [upd_same] at z'; rw [ho]; exact z'
    · have z' : upd W.st b o q = some x := z
      rw [upd_ne hq] at z'; exact r.sub _ _ z'
  · have hq : q ≠ b := fun y => by rw [y, h3] at z; cases z
    show upd W.st b o q = none
    rw [upd_ne hq]; exact r.dis q x z
  · obtain ⟨hj, e'⟩ := dead_set e hd
    obtain ⟨x, y1, y2, y3, y4⟩ := r.cell j d e' hd
    have hn : x ≠ b := fun z => hj (r.inj j i b d c (by rw [← z]; exact y1) h1 e' hm hd hc)
    exact ⟨x, y1, (upd_ne hn).trans y2, y3, y4.mono le⟩
  · obtain ⟨_, f1⟩ := dead_set e1 n1
    obtain ⟨_, f2⟩ := dead_set e2 n2
    exact r.inj j k x c1 c2 b1 b2 f1 f2 n1 n2
/-- a new object into the frame -/
theorem Rel0.framed (r : Rel0 K W F H m) (hp : H p = none) : Rel0 K W (upd F p o) (upd H p o) m where
  sub := same_of_new r.sub hp
  frm := same_both r.frm
  dis := fun q x e => by
    by_cases hq : q = p
    · subst hq; exact r.fS hp
    · rw [upd_ne hq] at e; exact r.dis q x e
  len := r.len
  cell := fun i c e hc => by
    obtain ⟨a, h1, h2, h3, h4⟩ := r.cell i c e hc
    have hn : a ≠ p := fun z => h4.there hc (by rw [z]; exact hp)
    exact ⟨a, h1, h2, (upd_ne hn).trans h3, h4.heap hc (upd_ne hn)⟩
  inj := r.inj
/-- a framed object changes -/
theorem Rel0.reframe {o' : HO} (r : Rel0 K W (upd F p o) H m) (hF : F p = none) : Rel0 K W (upd F p o') (upd H p o') m := by
  have hs : W.st p = none := r.dis p o upd_same
  refine ⟨fun q x e => ?_, fun q x e => ?_, fun q x e => ?_, r.len, fun i c e hc => ?_, r.inj⟩
  · rw [upd_ne (ne_of_none e hs)]; exact r.sub _ _ e
  · by_cases hq : q = p
    · subst hq; rw [upd_same] at e ⊢; exact e
    · rw [upd_ne hq] at e ⊢; exact r.frm _ _ (by rw [upd_ne hq]; exact e)
  · by_cases hq : q = p
    · subst hq; exact hs
    · rw [upd_ne hq] at e; exact r.dis q x (by rw [upd_ne hq]; exact e)
  · obtain ⟨a, h1, h2, h3, h4⟩ := r.cell i c e hc
    have hn : a ≠ p := fun z => by rw [z, upd_same] at h3; cases h3
    rw [upd_ne hn] at h3
    exact ⟨a, h1, h2, (upd_ne hn).trans h3, h4.heap hc (upd_ne hn)⟩
/-- a framed object is frozen -/
theorem Rel0.thaw (r : Rel0 K W (upd F p o) H m) (hF : F p = none) : Rel0 K ⟨W.be, upd W.st p o⟩ F H m ∧ W.Le ⟨W.be, upd W.st p o⟩ := by
  have hs : W.st p = none := r.dis p o upd_same
  have le : W.Le ⟨W.be, upd W.st p o⟩ := ⟨fun _ _ e => e, same_new hs⟩
  refine ⟨⟨fun q x z => ?_, fun q x e => ?_, fun q x e => ?_, r.len, fun i c e hc => ?_, r.inj⟩, le⟩
  · by_cases hq : q = p
    · subst hq
      have z' : upd W.st q o q = some x := z
      rw [upd_same] at z'
      exact r.frm _ _ (by rw [upd_same]; exact z')
    · have z' : upd W.st p o q = some x := z
      rw [upd_ne hq] at z'; exact r.sub _ _ z'
  · exact r.frm _ _ (by rw [upd_ne (ne_of_none e hF)]; exact e)
  · have hq : q ≠ p := fun y => by rw [y, hF] at e; cases e
    show upd W.st p o q = none
    rw [upd_ne hq]; exact r.dis q x (by rw [upd_ne hq]; exact e)
  · obtain ⟨a, h1, h2, h3, h4⟩ := r.cell i c e hc
    have hn : a ≠ p := fun z => by rw [z, upd_same] at h3; cases h3
    rw [upd_ne hn] at h3
    exact ⟨a, h1, (upd_ne hn).trans h2, h3, h4.mono le⟩
/-- a framed object becomes a cell -/
theorem Rel0.cellOf {c : Cell} (r : Rel0 K W (upd F p o) H m) (hF : F p = none) (hr : CellR K W H p c) (hc : c ≠ .dead) : Rel0 K ⟨W.be ++ [p], W.st⟩ F H (m ++ [c]) := by
  have hs : W.st p = none := r.dis p o upd_same
  have le : W.Le ⟨W.be ++ [p], W.st⟩ := ⟨fun _ _ e => getElem?_snoc_lt e, Same.refl _⟩
  have other : ∀ {i : Nat} {d : Cell}, m[i]? = some d → d ≠ .dead → ∃ a, W.be[i]? = some a ∧ a ≠ p ∧ W.st a = none ∧ F a = none ∧ CellR K W H a d := fun {i d} e n => by
    obtain ⟨a, h1, h2, h3, h4⟩ := r.cell i d e n
    have hn : a ≠ p := fun z => by rw [z, upd_same] at h3; cases h3
    rw [upd_ne hn] at h3
    exact ⟨a, h1, hn, h2, h3, h4⟩
  have atP : ∀ {k : Nat}, k = m.length → (W.be ++ [p])[k]? = some p := fun {k} e => by
    rw [e, List.getElem?_append_right (by rw [r.len]; exact Nat.le_refl _), r.len, Nat.sub_self]; rfl
  refine ⟨r.sub, fun q x e => ?_, fun q x e => ?_, ?_, fun i d e n => ?_, fun i j a c1 c2 b1 b2 e1 e2 n1 n2 => ?_⟩
  · exact r.frm _ _ (by rw [upd_ne (ne_of_none e hF)]; exact e)
  · have hq : q ≠ p := fun y => by rw [y, hF] at e; cases e
    exact r.dis q x (by rw [upd_ne hq]; exact e)
  · show (W.be ++ [p]).length = _
    rw [List.length_append, List.length_append, r.len]; rfl
  · rcases getElem?_snoc_cases e with e | ⟨e1, e2⟩
    · obtain ⟨a, h1, _, h2, h3, h4⟩ := other e n
      exact ⟨a, getElem?_snoc_lt h1, h2, h3, h4.mono le⟩
    · subst e2
      exact ⟨p, atP e1, hs, hF, hr.mono le⟩
  · rcases getElem?_snoc_cases e1 with e1 | ⟨e1, _⟩
    · obtain ⟨a1, x1, y1, _⟩ := other e1 n1
      have z1 : a1 = a := Option.some.inj ((getElem?_snoc_lt x1).symm.trans b1)
      subst z1
      rcases getElem?_snoc_cases e2 with e2 | ⟨e2, _⟩
      · obtain ⟨a2, x2, y2, _⟩ := other e2 n2
        have z2 : a2 = a1 := Option.some.inj ((getElem?_snoc_lt x2).symm.trans b2)
        subst z2
        exact r.inj i j _ c1 c2 x1 x2 e1 e2 n1 n2
      · exact absurd (Option.some.inj (b2.symm.trans (atP e2))) y1
    · rcases getElem?_snoc_cases e2 with e2 | ⟨e2, _⟩
      · obtain ⟨a2, x2, y2, _⟩ := other e2 n2
        have z2 : a2 = a := Option.some.inj ((getElem?_snoc_lt x2).symm.trans b2)
        subst z2
        exact absurd (Option.some.inj (b1.symm.trans (atP e1))) y2
      · omega
end
/-- a relation that holds on from a world and a frame that are told -/
class Lk where
  W0 : Wd
  F0 : Hp
instance (priority := low) lkNone : Lk := ⟨⟨[], fun _ => none⟩, fun _ => none⟩
variable [Lk]
structure Rel (K : PySem.W.Frag) (W : Wd) (F H : Hp) (m : Sto) : Prop extends Rel0 K W F H m where
  lw : Lk.W0.Le W
  lf : Same Lk.F0 F
section
variable {K : PySem.W.Frag} {W W' : Wd} {F F' H H' : Hp} {m m' : Sto} {p a : Addr} {o : HO}
theorem Rel.of (r : Rel K W F H m) (l : W.Le W') (h : Rel0 K W' F H' m') : Rel K W' F H' m' := ⟨h, r.lw.trans l, r.lf⟩
theorem less_none (s : Same F' F) (h : F a = none) : F' a = none := by
  cases q : F' a with
  | none => rfl
  | some x => rw [s _ _ q] at h; cases h
/-- the same in a lesser frame -/
theorem Rel0.less (r : Rel0 K W F H m) (s : Same F' F) : Rel0 K W F' H m :=
  ⟨r.sub, s.trans r.frm, fun p o e => r.dis p o (s _ _ e), r.len, fun i c e hc => by
    obtain ⟨a, h1, h2, h3, h4⟩ := r.cell i c e hc
    refine ⟨a, h1, h2, ?_, h4⟩
    exact less_none s h3, r.inj⟩
theorem Rel.grow (r : Rel K W F H m) (hp : H p = none) : Rel K W F (upd H p o) m := ⟨r.toRel0.grow hp, r.lw, r.lf⟩
theorem Rel.cold (r : Rel K W F H m) (hp : H p = none) : Rel K ⟨W.be, upd W.st p o⟩ F (upd H p o) m := ⟨r.toRel0.cold hp, r.lw.trans (DL.cold_le r.toRel0 hp), r.lf⟩
theorem cold_le' (r : Rel K W F H m) (hp : H p = none) : W.Le ⟨W.be, upd W.st p o⟩ := DL.cold_le r.toRel0 hp
theorem Rel.hot {c : Cell} (r : Rel K W F H m) (hp : H p = none) (hr : CellR K W (upd H p o) p c) : Rel K ⟨W.be ++ [p], W.st⟩ F (upd H p o) (m ++ [c]) := ⟨r.toRel0.hot hp hr, r.lw.trans hot_le, r.lf⟩
theorem Rel.write {i : Nat} {c c' : Cell} (r : Rel K W F H m) (hb : W.be[i]? = some a) (hm : m[i]? = some c) (hc : c ≠ .dead) (hc' : c' ≠ .dead) (hr : CellR K W (upd H a o) a c') : Rel K W F (upd H a o) (m.set i c') := ⟨r.toRel0.write hb hm hc hc' hr, r.lw, r.lf⟩
theorem Rel.framed (r : Rel K W F H m) (hp : H p = none) : Rel K W (upd F p o) (upd H p o) m := ⟨r.toRel0.framed hp, r.lw, same_of_new r.lf (r.toRel0.fF hp)⟩
theorem Rel.reframe {o' : HO} (r : Rel K W (upd F p o) H m) (hF : F p = none) (s : Same Lk.F0 F) : Rel K W (upd F p o') (upd H p o') m := ⟨r.toRel0.reframe hF, r.lw, same_of_new s hF⟩
theorem Rel.thaw (r : Rel K W (upd F p o) H m) (hF : F p = none) (s : Same Lk.F0 F) : Rel K ⟨W.be, upd W.st p o⟩ F H m ∧ W.Le ⟨W.be, upd W.st p o⟩ :=
  ⟨⟨(r.toRel0.thaw hF).1, r.lw.trans (r.toRel0.thaw hF).2, s⟩, (r.toRel0.thaw hF).2⟩
theorem Rel.cellOf {c : Cell} (r : Rel K W (upd F p o) H m) (hF : F p = none) (s : Same Lk.F0 F) (hr : CellR K W H p c) (hc : c ≠ .dead) : Rel K ⟨W.be ++ [p], W.st⟩ F H (m ++ [c]) := ⟨r.toRel0.cellOf hF hr hc, r.lw.trans hot_le, s⟩
end
/-! ### slots -/
abbrev DSt := List (Option D)
def slot : DSt → Nat → Option D
  | x :: _, 0 => x
  | _ :: r, n + 1 => slot r n
  | [], _ => none
def put : DSt → Nat → D → DSt
  | _ :: r, 0, d => some d :: r
  | x :: r, n + 1, d => x :: put r n d
  | [], _, _ => []
inductive RSt (K : PySem.W.Frag) (W : Wd) : L2.St → DSt → Prop
  | nil : RSt K W [] []
  | no {x : Option V} {s : L2.St} {r : DSt} : RSt K W s r → RSt K W (x :: s) (none :: r)
  | yes {v : V} {d : D} {s : L2.St} {r : DSt} : R K W v d → RSt K W s r → RSt K W (some v :: s) (some d :: r)
section
variable {K : PySem.W.Frag} {W W' : Wd}
theorem RSt.mono (l : W.Le W') : ∀ {s : L2.St} {r : DSt}, RSt K W s r → RSt K W' s r
  | _, _, .nil => .nil
  | _, _, .no t => .no (RSt.mono l t)
  | _, _, .yes h t => .yes (h.mono l) (RSt.mono l t)
theorem RSt.get : ∀ {s : L2.St} {r : DSt} {i : Nat} {d : D}, RSt K W s r → slot r i = some d → ∃ v, s[i]? = some (some v) ∧ R K W v d
  | _, _, 0, _, .nil, e => by cases e
  | _, _, _ + 1, _, .nil, e => by cases e
  | _, _, 0, _, .no _, e => by cases e
  | _, _, 0, _, .yes h _, e => by cases e; exact ⟨_, rfl, h⟩
  | _, _, i + 1, _, .no t, e => by rw [List.getElem?_cons_succ]; exact RSt.get t e
  | _, _, i + 1, _, .yes _ t, e => by rw [List.getElem?_cons_succ]; exact RSt.get t e
theorem RSt.put {v : V} {d : D} (h : R K W v d) : ∀ {s : L2.St} {r : DSt} (i : Nat), RSt K W s r → RSt K W (s.set i (some v)) (put r i d)
  | _, _, 0, .nil => .nil
  | _, _, _ + 1, .nil => .nil
  | _, _, 0, .no t => .yes h t
  | _, _, 0, .yes _ t => .yes h t
  | _, _, i + 1, .no t => .no (RSt.put h i t)
  | _, _, i + 1, .yes q t => .yes q (RSt.put h i t)
theorem RSt.len : ∀ {s : L2.St} {r : DSt}, RSt K W s r → s.length = r.length
  | _, _, .nil => rfl
  | _, _, .no t => by rw [List.length_cons, List.length_cons, RSt.len t]
  | _, _, .yes _ t => by rw [List.length_cons, List.length_cons, RSt.len t]
/-- forgetting slots -/
def forget : DSt → Nat → DSt
  | _ :: r, 0 => none :: r
  | x :: r, n + 1 => x :: forget r n
  | [], _ => []
theorem RSt.forget {x : Option V} : ∀ {s : L2.St} {r : DSt} (i : Nat), RSt K W s r → RSt K W (s.set i x) (forget r i)
  | _, _, 0, .nil => .nil
  | _, _, _ + 1, .nil => .nil
  | _, _, 0, .no t => .no t
  | _, _, 0, .yes _ t => .no t
  | _, _, i + 1, .no t => .no (RSt.forget i t)
  | _, _, i + 1, .yes q t => .yes q (RSt.forget i t)
end
/-! ### data transformers, lifted -/
abbrev DE := DSt → Sto → (D → Sto → Prop) → Prop
abbrev DA := DSt → Sto → (List D → Sto → Prop) → Prop
abbrev DT := DSt → Sto → (Bool → Sto → Prop) → Prop
structure DEnds where
  nx : DSt → Sto → Prop
  rt : D → Sto → Prop
  bk : DSt → Sto → Prop := fun _ _ => False
  ct : DSt → Sto → Prop := fun _ _ => False
abbrev DS := DEnds → DSt → Sto → Prop
abbrev DG := D → DSt → Sto → (DSt → Sto → Prop) → Prop
abbrev DGs := List D → DSt → Sto → (DSt → Sto → Prop) → Prop
def liftE (K : PySem.W.Frag) (t : DE) : TE := fun s H Q => ∃ (W : Wd) (F : Hp) (m : Sto) (r : DSt) (q : D → Sto → Prop), Rel K W F H m ∧ RSt K W s r ∧ t r m q ∧
  ∀ W' H' m' v d, W.Le W' → Rel K W' F H' m' → R K W' v d → q d m' → Q v H'
def liftA (K : PySem.W.Frag) (t : DA) : TA := fun s H Q => ∃ (W : Wd) (F : Hp) (m : Sto) (r : DSt) (q : List D → Sto → Prop), Rel K W F H m ∧ RSt K W s r ∧ t r m q ∧
  ∀ W' H' m' vs ds, W.Le W' → Rel K W' F H' m' → RA K W' vs ds → q ds m' → Q vs H'
def liftT (K : PySem.W.Frag) (t : DT) : TT := fun s H Q => ∃ (W : Wd) (F : Hp) (m : Sto) (r : DSt) (q : Bool → Sto → Prop), Rel K W F H m ∧ RSt K W s r ∧ t r m q ∧
  ∀ W' H' m' b, W.Le W' → Rel K W' F H' m' → q b m' → Q b H'
structure LiftD (K : PySem.W.Frag) (W : Wd) (F : Hp) (d : DEnds) (E : Ends) : Prop where
  nx : ∀ W' H' m' s' r', W.Le W' → Rel K W' F H' m' → RSt K W' s' r' → d.nx r' m' → E.nx s' H'
  rt : ∀ W' H' m' v x, W.Le W' → Rel K W' F H' m' → R K W' v x → d.rt x m' → E.rt v H'
  bk : ∀ W' H' m' s' r', W.Le W' → Rel K W' F H' m' → RSt K W' s' r' → d.bk r' m' → E.bk s' H'
  ct : ∀ W' H' m' s' r', W.Le W' → Rel K W' F H' m' → RSt K W' s' r' → d.ct r' m' → E.ct s' H'
theorem LiftD.mono {K : PySem.W.Frag} {W W' : Wd} {F : Hp} {d : DEnds} {E : Ends} (h : LiftD K W F d E) (l : W.Le W') : LiftD K W' F d E :=
  ⟨fun _ _ _ _ _ k => h.nx _ _ _ _ _ (l.trans k), fun _ _ _ _ _ k => h.rt _ _ _ _ _ (l.trans k), fun _ _ _ _ _ k => h.bk _ _ _ _ _ (l.trans k), fun _ _ _ _ _ k => h.ct _ _ _ _ _ (l.trans k)⟩
def liftS (K : PySem.W.Frag) (t : DS) : TS := fun E s H => ∃ (W : Wd) (F : Hp) (m : Sto) (r : DSt) (d : DEnds), Rel K W F H m ∧ RSt K W s r ∧ t d r m ∧ LiftD K W F d E
def liftG (K : PySem.W.Frag) (t : DG) : TG := fun v s H Q => ∃ (W : Wd) (F : Hp) (m : Sto) (r : DSt) (d : D) (q : DSt → Sto → Prop), Rel K W F H m ∧ RSt K W s r ∧ R K W v d ∧ t d r m q ∧
  ∀ W' H' m' s' r', W.Le W' → Rel K W' F H' m' → RSt K W' s' r' → q r' m' → Q s' H'
def liftGs (K : PySem.W.Frag) (t : DGs) : TGs := fun vs s H Q => ∃ (W : Wd) (F : Hp) (m : Sto) (r : DSt) (ds : List D) (q : DSt → Sto → Prop), Rel K W F H m ∧ RSt K W s r ∧ RA K W vs ds ∧ t ds r m q ∧
  ∀ W' H' m' s' r', W.Le W' → Rel K W' F H' m' → RSt K W' s' r' → q r' m' → Q s' H'
abbrev JE (X : Cx) (e : Expr) (t : DE) : Prop := PE X e (liftE X.K t)
abbrev JA (X : Cx) (es : List Expr) (t : DA) : Prop := PA X es (liftA X.K t)
abbrev JT (X : Cx) (e : Expr) (t : DT) : Prop := PT X e (liftT X.K t)
abbrev JS (X : Cx) (st : Stmt) (t : DS) : Prop := PS X st (liftS X.K t)
abbrev JSs (X : Cx) (st : List Stmt) (t : DS) : Prop := PSs X st (liftS X.K t)
abbrev JG (X : Cx) (e : Expr) (t : DG) : Prop := PG X e (liftG X.K t)
abbrev JGs (X : Cx) (e : List Expr) (t : DGs) : Prop := PGs X e (liftGs X.K t)
theorem pe_wk {X : Cx} {e : Expr} {t t' : TE} (h : PE X e t) (k : ∀ s H Q, t' s H Q → t s H Q) : PE X e t' := ⟨fun p s a H Q I z => h.run p s a H Q I (k _ _ _ z)⟩
theorem pa_wk {X : Cx} {e : List Expr} {t t' : TA} (h : PA X e t) (k : ∀ s H Q, t' s H Q → t s H Q) : PA X e t' := ⟨fun o p s a H Q I z => h.run o p s a H Q I (k _ _ _ z)⟩
theorem pt_wk {X : Cx} {e : Expr} {t t' : TT} (h : PT X e t) (k : ∀ s H Q, t' s H Q → t s H Q) : PT X e t' := ⟨fun p s a H Q I z => h.run p s a H Q I (k _ _ _ z)⟩
theorem pw_wk {X : Cx} {e : Expr} {t t' : TT} (h : PW X e t) (k : ∀ s H Q, t' s H Q → t s H Q) : PW X e t' := ⟨fun w p s a H Q I z => h.run w p s a H Q I (k _ _ _ z)⟩
theorem ps_wk {X : Cx} {e : Stmt} {t t' : TS} (h : PS X e t) (k : ∀ D s H, t' D s H → t D s H) : PS X e t' := ⟨fun p s a H D I z => h.run p s a H D I (k _ _ _ z)⟩
theorem pss_wk {X : Cx} {e : List Stmt} {t t' : TS} (h : PSs X e t) (k : ∀ D s H, t' D s H → t D s H) : PSs X e t' := ⟨fun p s a H D I z => h.run p s a H D I (k _ _ _ z)⟩
theorem pg_wk {X : Cx} {e : Expr} {t t' : TG} (h : PG X e t) (k : ∀ v s H Q, t' v s H Q → t v s H Q) : PG X e t' := ⟨fun p s a H v u Q I r z => h.run p s a H v u Q I r (k _ _ _ _ z)⟩
theorem pgs_wk {X : Cx} {e : List Expr} {t t' : TGs} (h : PGs X e t) (k : ∀ v s H Q, t' v s H Q → t v s H Q) : PGs X e t' := ⟨fun p s a H v u Q I r z => h.run p s a H v u Q I r (k _ _ _ _ z)⟩
end DL
/-! Data layer, part 2: expressions. -/
namespace DL
open PySem PySem.Spec PyProof.Rows L2
variable [Cl] [Lk]
/-- what follows an operation's value, in H -/
def Fol (K : PySem.W.Frag) (W : Wd) (F : Hp) (q : D → Sto → Prop) (Q : VK) : Prop := ∀ W' H' m' v d, W.Le W' → Rel K W' F H' m' → R K W' v d → q d m' → Q v H'
theorem Fol.mono {K : PySem.W.Frag} {W W' : Wd} {F : Hp} {q : D → Sto → Prop} {Q : VK} (h : Fol K W F q Q) (l : W.Le W') : Fol K W' F q Q := fun _ _ _ _ _ k => h _ _ _ _ _ (l.trans k)
def onS {α : Type} (o : Option α) (k : α → Prop) : Prop := match o with | some a => k a | none => False
theorem onS_some {α : Type} {o : Option α} {k : α → Prop} (h : onS o k) : ∃ a, o = some a ∧ k a := by
  cases o with
  | none => exact h.elim
  | some a => exact ⟨a, rfl, h⟩
abbrev F2 := D → D → Sto → (D → Sto → Prop) → Prop
abbrev F1 := D → Sto → (D → Sto → Prop) → Prop
abbrev FN := List D → Sto → (D → Sto → Prop) → Prop
def Op2 (K : PySem.W.Frag) (f : F2) (rr : R2) : Prop := ∀ W F H m x y d e q Q, Rel K W F H m → R K W x d → R K W y e → f d e m q → Fol K W F q Q → rr x y H Q
def Op1 (K : PySem.W.Frag) (f : F1) (rr : V → Hp → VK → Prop) : Prop := ∀ W F H m x d q Q, Rel K W F H m → R K W x d → f d m q → Fol K W F q Q → rr x H Q
def OpN (K : PySem.W.Frag) (f : FN) (rr : List V → Hp → VK → Prop) : Prop := ∀ W F H m xs ds q Q, Rel K W F H m → RA K W xs ds → f ds m q → Fol K W F q Q → rr xs H Q
/-! ### composition -/
def dBin (f : F2) (ta tb : DE) : DE := fun r m q => ta r m fun x m1 => tb r m1 fun y m2 => f x y m2 q
def dUn (f : F1) (ta : DE) : DE := fun r m q => ta r m fun x m1 => f x m1 q
def dCallB (f : FN) (ta : DA) : DE := fun r m q => ta r m fun xs m1 => f xs m1 q
section
variable {K : PySem.W.Frag}
theorem bin_wk {f : F2} {rr : R2} {ta tb : DE} (o : Op2 K f rr) (s : L2.St) (H : Hp) (Q : VK) (h : liftE K (dBin f ta tb) s H Q) : tOp rr (liftE K ta) (liftE K tb) s H Q := by
  obtain ⟨W, F, m, r, q, rel, rs, h, k⟩ := h
  refine ⟨W, F, m, r, fun x m1 => tb r m1 fun y m2 => f x y m2 q, rel, rs, h, fun W1 H1 m1 v d l1 rel1 rv hq => ?_⟩
  refine ⟨W1, F, m1, r, fun y m2 => f d y m2 q, rel1, rs.mono l1, hq, fun W2 H2 m2 u e l2 rel2 ru hq2 => ?_⟩
  exact o W2 F H2 m2 v u d e q Q rel2 (rv.mono l2) ru hq2 fun _ _ _ _ _ l => k _ _ _ _ _ (l1.trans (l2.trans l))
theorem un_wk {f : F1} {rr : V → Hp → VK → Prop} {ta : DE} (o : Op1 K f rr) (s : L2.St) (H : Hp) (Q : VK) (h : liftE K (dUn f ta) s H Q) : liftE K ta s H fun x H1 => rr x H1 Q := by
  obtain ⟨W, F, m, r, q, rel, rs, h, k⟩ := h
  refine ⟨W, F, m, r, fun x m1 => f x m1 q, rel, rs, h, fun W1 H1 m1 v d l1 rel1 rv hq => ?_⟩
  exact o W1 F H1 m1 v d q Q rel1 rv hq fun _ _ _ _ _ l => k _ _ _ _ _ (l1.trans l)
theorem call_wk {f : FN} {rr : List V → Hp → VK → Prop} {ta : DA} (o : OpN K f rr) (s : L2.St) (H : Hp) (Q : VK) (h : liftE K (dCallB f ta) s H Q) : liftA K ta s H fun xs H1 => rr xs H1 Q := by
  obtain ⟨W, F, m, r, q, rel, rs, h, k⟩ := h
  refine ⟨W, F, m, r, fun x m1 => f x m1 q, rel, rs, h, fun W1 H1 m1 v d l1 rel1 rv hq => ?_⟩
  exact o W1 F H1 m1 v d q Q rel1 rv hq fun _ _ _ _ _ l => k _ _ _ _ _ (l1.trans l)
end
/-! ### names, constants -/
def dVar (i : Nat) : DE := fun r m q => onS (slot r i) fun d => q d m
def dC (d : D) : DE := fun _ m q => q d m
section
variable {X : Cx} {pos : Pos}
theorem je_var (i : Nat) {x : Str} (hN : X.N[i]? = some x := by rfl) (hv : Vis X.env.scope x := by first | exact .inl rfl | exact .inr (.inl rfl) | exact .inr (.inr rfl)) (hd : (x == ("__debug__" : Str)) = false := by decide)
    (hcd : (x == ("__classdict__" : Str)) = false := by decide) : JE X (.Name x pos) (dVar i) :=
  pe_wk (pe_var hN hv hd hcd) fun s H Q ⟨W, F, m, r, q, rel, rs, h, k⟩ => by
    obtain ⟨d, e, h⟩ := onS_some h
    obtain ⟨v, e2, rv⟩ := rs.get e
    exact ⟨v, e2, k W H m v d (.refl _) rel rv h⟩
theorem je_c {e : Expr} {v : V} {d : D} (h : PE X e (tC v)) (r : ∀ W, R X.K W v d) : JE X e (dC d) :=
  pe_wk h fun s H Q ⟨W, F, m, _, q, rel, _, h, k⟩ => k W H m v d (.refl _) rel (r W) h
theorem je_int {i j} : JE X (.Constant (.int i) j pos) (dC (.int i)) := je_c pe_int fun _ => .int _
theorem je_bl {b j} : JE X (.Constant (.bool b) j pos) (dC (.bl b)) := je_c pe_bl fun _ => .bl _
theorem je_non {j} : JE X (.Constant .none j pos) (dC .non) := je_c pe_non fun _ => .non
theorem je_str {x j} : JE X (.Constant (.str x) j pos) (dC (.str x)) := je_c pe_str fun _ => .str _
/-- a module's constant -/
theorem je_glob {x : Str} {v : V} {d : D} (hg : Gl X x) (hm : ∃ u, X.mg x = some u ∧ RelV v u) (r : ∀ W, R X.K W v d) (hd : (x == ("__debug__" : Str)) = false := by decide) : JE X (.Name x pos) (dC d) := by
  obtain ⟨u, h1, h2⟩ := hm
  exact je_c (pe_glob hg h1 h2 hd) r
end
/-! ### arguments, displays -/
def dNil : DA := fun _ m q => q [] m
def dCons (ta : DE) (tr : DA) : DA := fun r m q => ta r m fun x m1 => tr r m1 fun xs m2 => q (x :: xs) m2
/-- how many -/
def LenA (t : DA) (n : Nat) : Prop := ∀ r m q, t r m q → t r m fun ds m' => ds.length = n ∧ q ds m'
def MonE (t : DE) : Prop := ∀ r m (q q' : D → Sto → Prop), (∀ d m, q d m → q' d m) → t r m q → t r m q'
def dTup (t : DA) : DE := fun r m q => t r m fun xs m1 => xs.length ≤ 1000 ∧ q (.tup xs) m1
def dLst (t : DA) : DE := fun r m q => t r m fun xs m1 => xs.length ≤ 1000 ∧ q (.lst xs) m1
def dLstP (t : DA) : DE := fun r m q => t r m fun xs m1 => xs.length ≤ 1000 ∧ q (.ptr m1.length) (m1 ++ [.lst xs])
theorem small_len {n : Nat} (h : n ≤ 1000) : n ≤ sizeLine := Nat.le_trans h (by rw [sizeLine_eq]; decide)
section
variable {X : Cx} {pos : Pos} {e : Expr} {es : List Expr} {te : DE} {t : DA}
theorem ja_nil : JA X [] dNil := pa_wk pa_nil fun s H Q ⟨W, F, m, _, q, rel, _, h, k⟩ => k W H m [] [] (.refl _) rel .nil h
theorem ja_cons (ha : JE X e te) (hr : JA X es t) (hs : starEach (e :: es) X.env = (false, eval e X.env) :: starEach es X.env := by rfl) : JA X (e :: es) (dCons te t) :=
  pa_wk (pa_cons ha hr hs) fun s H Q ⟨W, F, m, r, q, rel, rs, h, k⟩ => by
    refine ⟨W, F, m, r, fun x m1 => t r m1 fun xs m2 => q (x :: xs) m2, rel, rs, h, fun W1 H1 m1 v d l1 rel1 rv hq => ?_⟩
    refine ⟨W1, F, m1, r, fun xs m2 => q (d :: xs) m2, rel1, rs.mono l1, hq, fun W2 H2 m2 vs ds l2 rel2 ra hq2 => ?_⟩
    exact k W2 H2 m2 (v :: vs) (d :: ds) (l1.trans l2) rel2 (.cons (rv.mono l2) ra) hq2
theorem cold_lst {K : PySem.W.Frag} {W : Wd} {F H : Hp} {m : Sto} {q : D → Sto → Prop} {Q : VK} {vs : List V} {ds : List D} {p : Addr} (rel : Rel K W F H m) (ra : RA K W vs ds) (hq : q (.lst ds) m) (k : Fol K W F q Q) (hp : H p = none) : Q (.ref p) (upd H p (.lst vs)) :=
  k _ _ m (.ref p) (.lst ds) (cold_le rel.toRel0 hp) (rel.cold hp) (.lst upd_same (ra.mono (cold_le rel.toRel0 hp))) hq
theorem cold_tup {K : PySem.W.Frag} {W : Wd} {F H : Hp} {m : Sto} {q : D → Sto → Prop} {Q : VK} {vs : List V} {ds : List D} {p : Addr} (rel : Rel K W F H m) (ra : RA K W vs ds) (hq : q (.tup ds) m) (k : Fol K W F q Q) (hp : H p = none) : Q (.ref p) (upd H p (.tup vs)) :=
  k _ _ m (.ref p) (.tup ds) (cold_le rel.toRel0 hp) (rel.cold hp) (.tup (SqT.of upd_same) (ra.mono (cold_le rel.toRel0 hp))) hq
theorem hot_lst {K : PySem.W.Frag} {W : Wd} {F H : Hp} {m : Sto} {q : D → Sto → Prop} {Q : VK} {vs : List V} {ds : List D} {p : Addr} (rel : Rel K W F H m) (ra : RA K W vs ds) (hq : q (.ptr m.length) (m ++ [.lst ds])) (k : Fol K W F q Q) (hp : H p = none) : Q (.ref p) (upd H p (.lst vs)) :=
  k _ _ (m ++ [.lst ds]) (.ref p) (.ptr m.length) hot_le (rel.hot (c := .lst ds) hp ⟨vs, upd_same, ra⟩) (.ptr (hot_at rel.toRel0)) hq
theorem je_tup {x1} (h : JA X es t) : JE X (.Tuple es x1 pos) (dTup t) :=
  pe_wk (pe_tup h) fun s H Q ⟨W, F, m, r, q, rel, rs, h, k⟩ => by
    refine ⟨W, F, m, r, _, rel, rs, h, fun W1 H1 m1 vs ds l1 rel1 ra hq => ⟨by rw [ra.len]; exact small_len hq.1, fun p hp => ?_⟩⟩
    exact cold_tup rel1 ra hq.2 (fun _ _ _ _ _ l => k _ _ _ _ _ (l1.trans l)) hp
theorem je_lst (h : JA X es t) : JE X (.List es pos) (dLst t) :=
  pe_wk (pe_lst h) fun s H Q ⟨W, F, m, r, q, rel, rs, h, k⟩ => by
    refine ⟨W, F, m, r, _, rel, rs, h, fun W1 H1 m1 vs ds l1 rel1 ra hq => ⟨by rw [ra.len]; exact small_len hq.1, fun p hp => ?_⟩⟩
    exact cold_lst rel1 ra hq.2 (fun _ _ _ _ _ l => k _ _ _ _ _ (l1.trans l)) hp
theorem je_lstP (h : JA X es t) : JE X (.List es pos) (dLstP t) :=
  pe_wk (pe_lst h) fun s H Q ⟨W, F, m, r, q, rel, rs, h, k⟩ => by
    refine ⟨W, F, m, r, _, rel, rs, h, fun W1 H1 m1 vs ds l1 rel1 ra hq => ⟨by rw [ra.len]; exact small_len hq.1, fun p hp => ?_⟩⟩
    exact hot_lst rel1 ra hq.2 (fun _ _ _ _ _ l => k _ _ _ _ _ (l1.trans l)) hp
end
/-! ### lists in the store or frozen -/
def lstOf : D → Sto → Option (List D)
  | .lst ds, _ => some ds
  | .ptr i, m => match m[i]? with | some (.lst ds) => some ds | _ => none
  | _, _ => none
theorem lstOf_at {K : PySem.W.Frag} {W : Wd} {F H : Hp} {m : Sto} {x : V} {d : D} {ds : List D} (rel : Rel K W F H m) (rv : R K W x d) (e : lstOf d m = some ds) : ∃ a xs, x = .ref a ∧ H a = some (.lst xs) ∧ RA K W xs ds := by
  cases rv with
  | @lst a xs es h r => cases e; exact ⟨a, xs, rfl, rel.sub _ _ h, r⟩
  | @ptr a i hb =>
    unfold lstOf at e
    cases q : m[i]? with
    | none => simp only [q] at e; cases e
    | some c =>
      cases c with
      | dead => simp only [q] at e; cases e
      | dic es => simp only [q] at e; cases e
      | ins c fs => simp only [q] at e; cases e
      | lst es =>
        simp only [q] at e
        cases e
        obtain ⟨b, h1, h2, h3, xs, h4, h5⟩ := rel.cell i _ q (fun z => by cases z)
        obtain rfl : b = a := Option.some.inj (h1.symm.trans hb)
        exact ⟨b, xs, rfl, h4, h5⟩
  | _ => cases e
/-- what is read as a list -/
def seqL : D → Sto → Option (List D)
  | .fz ds, _ => some ds
  | d, m => lstOf d m
theorem seqL_at {K : PySem.W.Frag} {W : Wd} {F H : Hp} {m : Sto} {x : V} {d : D} {ds : List D} (rel : Rel K W F H m) (rv : R K W x d) (e : seqL d m = some ds) : ∃ a xs, x = .ref a ∧ SqL K H a xs ∧ RA K W xs ds := by
  by_cases hf : ∃ es, d = .fz es
  · obtain ⟨es, rfl⟩ := hf
    cases e
    cases rv with
    | fz h r => exact ⟨_, _, rfl, same_seqL rel.sub h, r⟩
  · have e' : lstOf d m = some ds := by
      cases d <;> first | exact e | exact absurd ⟨_, rfl⟩ hf
    obtain ⟨a, xs, h1, h2, h3⟩ := lstOf_at rel rv e'
    exact ⟨a, xs, h1, SqL.of h2, h3⟩
theorem tup_at {K : PySem.W.Frag} {W : Wd} {F H : Hp} {m : Sto} {x : V} {ds : List D} (rel : Rel K W F H m) (rv : R K W x (.tup ds)) : ∃ a xs, x = .ref a ∧ SqT K H a xs ∧ RA K W xs ds := by
  cases rv with
  | tup h r => exact ⟨_, _, rfl, same_seqT rel.sub h, r⟩
theorem atI_ra {K : PySem.W.Frag} {W : Wd} {xs : List V} {ds : List D} {i : Int} {d : D} (r : RA K W xs ds) (e : atI ds i = some d) : ∃ v, atI xs i = some v ∧ R K W v d := by
  unfold atI at e ⊢
  rw [r.len]
  cases q : ixN ds.length i with
  | none => rw [q] at e; cases e
  | some j =>
    rw [q] at e
    exact r.get e
/-! ### operators -/
def dAdd : F2
  | .int i, .int j, m, q => q (.int (i + j)) m
  | .str a, .str b, m, q => a.length + b.length ≤ sizeLine ∧ q (.str (a ++ b)) m
  | .tup a, .tup b, m, q => a.length + b.length ≤ sizeLine ∧ q (.tup (a ++ b)) m
  | x, y, m, q => onS (lstOf x m) fun a => onS (lstOf y m) fun b => a.length + b.length ≤ sizeLine ∧ q (.lst (a ++ b)) m
def rrAdd (K : PySem.W.Frag) : R2 := fun x y H Q => (rI0 fun i j => .int (i + j)) x y H Q ∨ (fun x y H Q => ∃ i j, x = .str i ∧ y = .str j ∧ i.length + j.length ≤ sizeLine ∧ Q (.str (i ++ j)) H) x y H Q ∨ rCatA K x y H Q ∨ rCat x y H Q
theorem op_addAll {X : Cx} : OpR X (binaryOp .Add) (rrAdd X.K) := op_add.or (op_add_str.or (op_catA.or op_cat))
theorem o_add {K : PySem.W.Frag} : Op2 K dAdd (rrAdd K) := by
  intro W F H m x y d e q Q rel rx ry h k
  have lists : (onS (lstOf d m) fun a => onS (lstOf e m) fun b => a.length + b.length ≤ sizeLine ∧ q (.lst (a ++ b)) m) → rrAdd K x y H Q := fun h => by
    obtain ⟨a, e1, h⟩ := onS_some h
    obtain ⟨b, e2, hz, h⟩ := onS_some h
    obtain ⟨p1, xs, rfl, g1, r1⟩ := lstOf_at rel rx e1
    obtain ⟨p2, ys, rfl, g2, r2⟩ := lstOf_at rel ry e2
    refine .inr (.inr (.inr ⟨p1, p2, xs, ys, rfl, rfl, g1, g2, by rw [r1.len, r2.len]; exact hz, fun p hp => ?_⟩))
    exact cold_lst rel (r1.app r2) h k hp
  unfold dAdd at h
  split at h
  · cases rx; cases ry
    exact .inl ⟨_, _, rfl, rfl, k _ _ _ _ _ (.refl _) rel (.int _) h⟩
  · cases rx; cases ry
    exact .inr (.inl ⟨_, _, rfl, rfl, h.1, k _ _ _ _ _ (.refl _) rel (.str _) h.2⟩)
  · rename_i a b
    obtain ⟨p1, xs, rfl, g1, r1⟩ := tup_at rel rx
    obtain ⟨p2, ys, rfl, g2, r2⟩ := tup_at rel ry
    refine .inr (.inr (.inl ⟨p1, p2, xs, ys, rfl, rfl, g1, g2, by rw [r1.len, r2.len]; exact h.1, fun hx => ?_, fun _ hy => ?_, fun _ _ p hp => ?_⟩))
    · have hz : a = [] := by have := r1.len; rw [hx] at this; exact List.eq_nil_of_length_eq_zero this.symm
      rw [hz, List.nil_append] at h
      exact k _ _ _ _ _ (.refl _) rel ry h.2
    · have hz : b = [] := by have := r2.len; rw [hy] at this; exact List.eq_nil_of_length_eq_zero this.symm
      rw [hz, List.append_nil] at h
      exact k _ _ _ _ _ (.refl _) rel rx h.2
    · exact cold_tup rel (r1.app r2) h.2 k hp
  · exact lists h
def dI2 (C : Int → Int → Prop) (g : Int → Int → Int) : F2
  | .int i, .int j, m, q => C i j ∧ q (.int (g i j)) m
  | _, _, _, _ => False
theorem o_I2 {K : PySem.W.Frag} {C : Int → Int → Prop} {g : Int → Int → Int} : Op2 K (dI2 C g) (rI C fun i j => .int (g i j)) := by
  intro W F H m x y d e q Q rel rx ry h k
  unfold dI2 at h
  split at h
  · cases rx; cases ry
    exact ⟨_, _, rfl, rfl, h.1, k _ _ _ _ _ (.refl _) rel (.int _) h.2⟩
  · exact h.elim
def dI0 (g : Int → Int → Int) : F2
  | .int i, .int j, m, q => q (.int (g i j)) m
  | _, _, _, _ => False
theorem o_I0 {K : PySem.W.Frag} {g : Int → Int → Int} : Op2 K (dI0 g) (rI0 fun i j => .int (g i j)) := by
  intro W F H m x y d e q Q rel rx ry h k
  unfold dI0 at h
  split at h
  · cases rx; cases ry
    exact ⟨_, _, rfl, rfl, k _ _ _ _ _ (.refl _) rel (.int _) h⟩
  · exact h.elim
def dB0 (g : Int → Int → Bool) : F2
  | .int i, .int j, m, q => q (.bl (g i j)) m
  | _, _, _, _ => False
theorem o_B0 {K : PySem.W.Frag} {g : Int → Int → Bool} : Op2 K (dB0 g) (rI0 fun i j => .bl (g i j)) := by
  intro W F H m x y d e q Q rel rx ry h k
  unfold dB0 at h
  split at h
  · cases rx; cases ry
    exact ⟨_, _, rfl, rfl, k _ _ _ _ _ (.refl _) rel (.bl _) h⟩
  · exact h.elim
abbrev dSub : F2 := dI0 fun i j => i - j
def CMulA (i j : Int) : Prop := CMul i j ∨ CMulW i j
theorem op_mulA {X : Cx} : OpR X (binaryOp .Mult) (rI CMulA fun i j => .int (i * j)) := by
  intro pins s a H x y v u Q I rx ry h
  obtain ⟨i, j, rfl, rfl, c, q⟩ := h
  cases c with
  | inl c => exact op_mul pins s a H _ _ v u Q I rx ry ⟨i, j, rfl, rfl, c, q⟩
  | inr c => exact op_mulW pins s a H _ _ v u Q I rx ry ⟨i, j, rfl, rfl, c, q⟩
abbrev dMul : F2 := dI2 CMulA fun i j => i * j
abbrev dMod : F2 := dI2 (fun _ j => 0 < j) fun i j => i % j
abbrev dDiv : F2 := dI2 CDivW fun i j => i / j
abbrev dPow : F2 := dI2 CPow fun i j => i ^ j.toNat
abbrev dLt : F2 := dB0 fun i j => decide (i < j)
abbrev dLe : F2 := dB0 fun i j => decide (i ≤ j)
abbrev dGt : F2 := dB0 fun i j => decide (j < i)
abbrev dGe : F2 := dB0 fun i j => decide (j ≤ i)
def dNeg : F1
  | .int i, m, q => q (.int (-i)) m
  | _, _, _ => False
theorem o_neg {K : PySem.W.Frag} : Op1 K dNeg (rU fun i => .int (-i)) := by
  intro W F H m x d q Q rel rx h k
  unfold dNeg at h
  split at h
  · cases rx
    exact ⟨_, rfl, k _ _ _ _ _ (.refl _) rel (.int _) h⟩
  · exact h.elim
section
variable {X : Cx} {pos : Pos} {a b c : Expr} {ta tb tc : DE}
theorem je_op {op : Operator} {f : F2} {rr : R2} (ho : OpR X (binaryOp op) rr) (o : Op2 X.K f rr) (ha : JE X a ta) (hb : JE X b tb) : JE X (.BinOp a op b pos) (dBin f ta tb) := pe_wk (pe_op ho ha hb) (bin_wk o)
theorem je_add (ha : JE X a ta) (hb : JE X b tb) : JE X (.BinOp a .Add b pos) (dBin dAdd ta tb) := je_op op_addAll o_add ha hb
theorem je_sub (ha : JE X a ta) (hb : JE X b tb) : JE X (.BinOp a .Sub b pos) (dBin dSub ta tb) := je_op op_sub o_I0 ha hb
theorem je_mul (ha : JE X a ta) (hb : JE X b tb) : JE X (.BinOp a .Mult b pos) (dBin dMul ta tb) := je_op op_mulA o_I2 ha hb
theorem je_mod (ha : JE X a ta) (hb : JE X b tb) : JE X (.BinOp a .Mod b pos) (dBin dMod ta tb) := je_op op_mod o_I2 ha hb
theorem je_div (ha : JE X a ta) (hb : JE X b tb) : JE X (.BinOp a .FloorDiv b pos) (dBin dDiv ta tb) := je_op op_fdivW o_I2 ha hb
theorem je_pow (ha : JE X a ta) (hb : JE X b tb) : JE X (.BinOp a .Pow b pos) (dBin dPow ta tb) := je_op op_pow o_I2 ha hb
theorem je_neg (ha : JE X a ta) : JE X (.UnaryOp .USub a pos) (dUn dNeg ta) := pe_wk (pe_un un_neg ha) (un_wk o_neg)
theorem je_cmp {op : CmpOp} {f : F2} {rr : R2} (ho : OpR X (compareOp op) rr) (o : Op2 X.K f rr) (ha : JE X a ta) (hb : JE X b tb) (hm : behindInMarks op b = false) : JE X (.Compare a [op] [b] pos) (dBin f ta tb) := pe_wk (pe_cmpR ho ha hb hm) (bin_wk o)
end
/-! ### == -/
mutual
def py0 : D → Option PyData
  | .non => some .none
  | .bl b => some (.bool b)
  | .int i => some (.int i)
  | .str x => some (.str x)
  | .tup ds => (py0A ds).map .tuple
  | .lst ds => (py0A ds).map .list
  | .fz ds => (py0A ds).map .list
  | .ptr _ => none
  | .ty _ => none
  | .dic _ => none
  | .adr _ => none
  | .gl _ => none
def py0A : List D → Option (List PyData)
  | [] => some []
  | d :: ds => match py0 d, py0A ds with
    | some p, some ps => some (p :: ps)
    | _, _ => none
end
def py (m : Sto) : D → Option PyData
  | .ptr i => match m[i]? with | some (.lst ds) => (py0A ds).map .list | _ => none
  | d => py0 d
mutual
theorem dp_of {K : PySem.W.Frag} {W : Wd} : ∀ {x : V} {d : D} {p : PyData}, R K W x d → py0 d = some p → Dp K W.st x p
  | _, _, _, .non, e => by cases e; exact .non
  | _, _, _, .bl b, e => by cases e; exact .bl b
  | _, _, _, .int i, e => by cases e; exact .int i
  | _, _, _, .str x, e => by cases e; exact .str x
  | _, _, p, @R.tup _ _ _ a xs ds h r, e => by
    simp only [py0, Option.map_eq_some_iff] at e
    obtain ⟨ps, e1, rfl⟩ := e
    exact .tup h (dpA_of r e1)
  | _, _, p, @R.lst _ _ _ a xs ds h r, e => by
    simp only [py0, Option.map_eq_some_iff] at e
    obtain ⟨ps, e1, rfl⟩ := e
    exact .lst (SqL.of h) (dpA_of r e1)
  | _, _, p, @R.fz _ _ _ a xs ds h r, e => by
    simp only [py0, Option.map_eq_some_iff] at e
    obtain ⟨ps, e1, rfl⟩ := e
    exact .lst h (dpA_of r e1)
  | _, _, _, .ty _, e => by cases e
  | _, _, _, .ptr _, e => by cases e
  | _, _, _, .dic _ _, e => by cases e
  | _, _, _, .adr _, e => by cases e
  | _, _, _, .gl _, e => by cases e
theorem dpA_of {K : PySem.W.Frag} {W : Wd} : ∀ {xs : List V} {ds : List D} {ps : List PyData}, RA K W xs ds → py0A ds = some ps → DpAll K W.st xs ps
  | _, _, _, .nil, e => by cases e; exact .nil
  | _, _, ps, @RA.cons _ _ _ v vs d ds h r, e => by
    unfold py0A at e
    cases e1 : py0 d with
    | none => rw [e1] at e; simp at e
    | some p =>
      cases e2 : py0A ds with
      | none => rw [e1, e2] at e; simp at e
      | some qs =>
        rw [e1, e2] at e
        cases e
        exact .cons (dp_of h e1) (dpA_of r e2)
end
mutual
theorem dp_mono {K : PySem.W.Frag} {H H' : Hp} (s : Same H H') : ∀ {x : V} {p : PyData}, Dp K H x p → Dp K H' x p
  | _, _, .non => .non
  | _, _, .bl b => .bl b
  | _, _, .int i => .int i
  | _, _, .str x => .str x
  | _, _, .lst h r => .lst (same_seqL s h) (dpA_mono s r)
  | _, _, .tup h r => .tup (same_seqT s h) (dpA_mono s r)
theorem dpA_mono {K : PySem.W.Frag} {H H' : Hp} (s : Same H H') : ∀ {xs : List V} {ps : List PyData}, DpAll K H xs ps → DpAll K H' xs ps
  | _, _, .nil => .nil
  | _, _, .cons h r => .cons (dp_mono s h) (dpA_mono s r)
end
theorem py_dp {K : PySem.W.Frag} {W : Wd} {F H : Hp} {m : Sto} {x : V} {d : D} {p : PyData} (rel : Rel K W F H m) (rx : R K W x d) (e : py m d = some p) : Dp K H x p := by
  by_cases hp : ∃ i, d = .ptr i
  · obtain ⟨i, rfl⟩ := hp
    have hl : ∃ ds, lstOf (.ptr i) m = some ds ∧ (py0A ds).map PyData.list = some p := by
      unfold py at e
      unfold lstOf
      cases q : m[i]? with
      | none => simp only [q] at e; cases e
      | some c =>
        cases c with
        | dead => simp only [q] at e; cases e
        | dic ds => simp only [q] at e; cases e
        | ins c fs => simp only [q] at e; cases e
        | lst ds => simp only [q] at e ⊢; exact ⟨ds, rfl, e⟩
    obtain ⟨ds, h1, h2⟩ := hl
    obtain ⟨a, xs, rfl, h3, h4⟩ := lstOf_at rel rx h1
    simp only [Option.map_eq_some_iff] at h2
    obtain ⟨ps, e1, rfl⟩ := h2
    exact .lst (SqL.of h3) (dpA_mono rel.sub (dpA_of h4 e1))
  · have e' : py0 d = some p := by
      cases d <;> first | exact e | exact absurd ⟨_, rfl⟩ hp
    exact dp_mono rel.sub (dp_of rx e')
@[irreducible] def dEqG (neg : Bool) (x y : D) (m : Sto) (q : D → Sto → Prop) : Prop := onS (py m x) fun a => onS (py m y) fun b => SeqAt.shaped a = true ∧ SeqAt.shaped b = true ∧ q (.bl (if neg then !PyData.eqv a b else PyData.eqv a b)) m
def dEq : F2
  | .int i, .int j, m, q => q (.bl (decide (i = j))) m
  | .bl i, .bl j, m, q => q (.bl (decide (i = j))) m
  | .str i, .str j, m, q => q (.bl (decide (i = j))) m
  | x, y, m, q => dEqG false x y m q
def dNe : F2
  | .int i, .int j, m, q => q (.bl (!decide (i = j))) m
  | .bl i, .bl j, m, q => q (.bl (!decide (i = j))) m
  | .str i, .str j, m, q => q (.bl (!decide (i = j))) m
  | x, y, m, q => dEqG true x y m q
def rrEq (K : PySem.W.Frag) : R2 := fun x y H Q => rEq x y H Q ∨ rEqD K x y H Q
def rrNe (K : PySem.W.Frag) : R2 := fun x y H Q => rNe x y H Q ∨ rNeD K x y H Q
theorem v_int {i j : Int} : decide (V.int i = V.int j) = decide (i = j) := by simp
theorem v_bl {i j : Bool} : decide (V.bl i = V.bl j) = decide (i = j) := by simp
theorem v_str {i j : Str} : decide (V.str i = V.str j) = decide (i = j) := by simp
theorem o_eq {K : PySem.W.Frag} : Op2 K dEq (rrEq K) := by
  intro W F H m x y d e q Q rel rx ry h k
  unfold dEq at h
  split at h
  · cases rx; cases ry
    refine .inl ⟨rfl, ?_⟩
    rw [v_int]
    exact k _ _ _ _ _ (.refl _) rel (.bl _) h
  · cases rx; cases ry
    refine .inl ⟨rfl, ?_⟩
    rw [v_bl]
    exact k _ _ _ _ _ (.refl _) rel (.bl _) h
  · cases rx; cases ry
    refine .inl ⟨rfl, ?_⟩
    rw [v_str]
    exact k _ _ _ _ _ (.refl _) rel (.bl _) h
  · unfold dEqG at h
    obtain ⟨a, e1, h⟩ := onS_some h
    obtain ⟨b, e2, h1, h2, h⟩ := onS_some h
    exact .inr ⟨a, b, py_dp rel rx e1, py_dp rel ry e2, h1, h2, k _ _ _ _ _ (.refl _) rel (.bl _) h⟩
theorem o_ne {K : PySem.W.Frag} : Op2 K dNe (rrNe K) := by
  intro W F H m x y d e q Q rel rx ry h k
  unfold dNe at h
  split at h
  · cases rx; cases ry
    refine .inl ⟨rfl, ?_⟩
    rw [v_int]
    exact k _ _ _ _ _ (.refl _) rel (.bl _) h
  · cases rx; cases ry
    refine .inl ⟨rfl, ?_⟩
    rw [v_bl]
    exact k _ _ _ _ _ (.refl _) rel (.bl _) h
  · cases rx; cases ry
    refine .inl ⟨rfl, ?_⟩
    rw [v_str]
    exact k _ _ _ _ _ (.refl _) rel (.bl _) h
  · unfold dEqG at h
    obtain ⟨a, e1, h⟩ := onS_some h
    obtain ⟨b, e2, h1, h2, h⟩ := onS_some h
    exact .inr ⟨a, b, py_dp rel rx e1, py_dp rel ry e2, h1, h2, k _ _ _ _ _ (.refl _) rel (.bl _) h⟩
theorem op_eqAll {X : Cx} (hu : X.A.units + 64 < cLine) : OpR X (compareOp .Eq) (rrEq X.K) := op_eq.or (op_eqD hu)
theorem op_neAll {X : Cx} (hu : X.A.units + 64 < cLine) : OpR X (compareOp .NotEq) (rrNe X.K) := op_ne.or (op_neD hu)
theorem units64 {k : Nat} {A : Around} (hr : Room k A) : A.units + 64 < cLine := by have := hr.un; omega
/-! ### subscripts, slices -/
def dIx : F2
  | .tup ds, .int i, m, q => onS (atI ds i) fun d => q d m
  | .str z, .int i, m, q => z.length ≤ sizeLine ∧ onS (atI z.cps.toList i) fun c => q (.str ⟨#[c]⟩) m
  | x, .int i, m, q => onS (seqL x m) fun ds => onS (atI ds i) fun d => q d m
  | _, _, _, _ => False
theorem o_ix {K : PySem.W.Frag} : Op2 K dIx (rIx K) := by
  intro W F H m x y d e q Q rel rx ry h k
  unfold dIx at h
  split at h
  · cases ry
    obtain ⟨d, e1, h⟩ := onS_some h
    obtain ⟨p, xs, rfl, g, r⟩ := tup_at rel rx
    obtain ⟨v, e2, rv⟩ := atI_ra r e1
    exact .inr (.inl ⟨p, xs, _, v, rfl, rfl, g, e2, k _ _ _ _ _ (.refl _) rel rv h⟩)
  · cases rx; cases ry
    obtain ⟨hz, h⟩ := h
    obtain ⟨c, e1, h⟩ := onS_some h
    exact .inr (.inr ⟨_, _, c, rfl, rfl, hz, e1, k _ _ _ _ _ (.refl _) rel (.str _) h⟩)
  · cases ry
    obtain ⟨ds, e0, h⟩ := onS_some h
    obtain ⟨d, e1, h⟩ := onS_some h
    obtain ⟨p, xs, rfl, g, r⟩ := seqL_at rel rx e0
    obtain ⟨v, e2, rv⟩ := atI_ra r e1
    exact .inl ⟨p, xs, _, v, rfl, rfl, g, e2, k _ _ _ _ _ (.refl _) rel rv h⟩
  · exact h.elim
def cutD {α : Type} (xs : List α) (lo hi : Option Int) : List α := (xs.drop (HT.sIx xs.length 0 lo)).take (HT.sIx xs.length xs.length hi - HT.sIx xs.length 0 lo)
theorem ra_cut {K : PySem.W.Frag} {W : Wd} {xs : List V} {ds : List D} (r : RA K W xs ds) (lo hi : Option Int) : RA K W (cutV xs lo hi) (cutD ds lo hi) := by
  unfold cutV cutD
  rw [r.len]
  exact (r.dp _).tk _
abbrev DO := DSt → Sto → (Option Int → Sto → Prop) → Prop
def liftO (K : PySem.W.Frag) (t : DO) : TO := fun s H Q => ∃ (W : Wd) (F : Hp) (m : Sto) (r : DSt) (q : Option Int → Sto → Prop), Rel K W F H m ∧ RSt K W s r ∧ t r m q ∧
  ∀ W' H' m' o, W.Le W' → Rel K W' F H' m' → q o m' → Q o H'
abbrev JO (X : Cx) (e : Option Expr) (t : DO) : Prop := PO X e (liftO X.K t)
def dNoPart : DO := fun _ m q => q none m
def dPart (t : DE) : DO := fun r m q => t r m fun x m1 => match x with | .int i => q (some i) m1 | _ => False
theorem po_wk {X : Cx} {e : Option Expr} {t t' : TO} (h : PO X e t) (k : ∀ s H Q, t' s H Q → t s H Q) : PO X e t' := ⟨fun p s a H Q I z => h.run p s a H Q I (k _ _ _ z)⟩
theorem jo_none {X : Cx} : JO X none dNoPart := po_wk po_none fun s H Q ⟨W, F, m, r, q, rel, rs, h, k⟩ => k W H m none (.refl _) rel h
theorem jo_some {X : Cx} {e : Expr} {te : DE} (h : JE X e te) : JO X (some e) (dPart te) := po_wk (po_some h) fun s H Q ⟨W, F, m, r, q, rel, rs, h, k⟩ => by
  refine ⟨W, F, m, r, _, rel, rs, h, fun W1 H1 m1 v d l1 rel1 rv hq => ?_⟩
  cases d with
  | int i => cases rv; exact ⟨i, rfl, k W1 H1 m1 (some i) l1 rel1 hq⟩
  | _ => exact hq.elim
def dSlice (f : D → Option Int → Option Int → Sto → (D → Sto → Prop) → Prop) (te : DE) (tl th : DO) : DE := fun r m q => te r m fun x m1 => tl r m1 fun l m2 => th r m2 fun u m3 => f x l u m3 q
def dCut (x : D) (lo hi : Option Int) (m : Sto) (q : D → Sto → Prop) : Prop := match x with
  | .str z => z.length ≤ sizeLine ∧ q (.str (cutS z lo hi)) m
  | .tup ds => q (.tup (cutD ds lo hi)) m
  | x => onS (seqL x m) fun ds => q (.lst (cutD ds lo hi)) m
def dCutP (x : D) (lo hi : Option Int) (m : Sto) (q : D → Sto → Prop) : Prop := onS (seqL x m) fun ds => q (.ptr m.length) (m ++ [.lst (cutD ds lo hi)])
def rrCut (K : PySem.W.Frag) (x : V) (lo hi : Option Int) (H : Hp) (Q : VK) : Prop := rSlL K x lo hi H Q ∨ rSlA K x lo hi H Q ∨ rSlS x lo hi H Q
theorem sl_all {X : Cx} : SlR X (rrCut X.K) := sl_list.or (sl_tupA.or sl_str)
theorem cut_whole {α : Type} (xs : List α) (lo hi : Option Int) (h1 : HT.sIx xs.length 0 lo = 0) (h2 : HT.sIx xs.length xs.length hi = xs.length) : cutD xs lo hi = xs := by
  unfold cutD
  rw [h1, h2]
  simp
theorem slice_wk {K : PySem.W.Frag} {f : D → Option Int → Option Int → Sto → (D → Sto → Prop) → Prop} {rr : V → Option Int → Option Int → Hp → VK → Prop} {te : DE} {tl th : DO}
    (o : ∀ W F H m x d lo hi q Q, Rel K W F H m → R K W x d → f d lo hi m q → Fol K W F q Q → rr x lo hi H Q) (s : L2.St) (H : Hp) (Q : VK) (h : liftE K (dSlice f te tl th) s H Q) : tSl rr (liftE K te) (liftO K tl) (liftO K th) s H Q := by
  obtain ⟨W, F, m, r, q, rel, rs, h, k⟩ := h
  refine ⟨W, F, m, r, _, rel, rs, h, fun W1 H1 m1 v d l1 rel1 rv hq => ?_⟩
  refine ⟨W1, F, m1, r, _, rel1, rs.mono l1, hq, fun W2 H2 m2 lo l2 rel2 hq2 => ?_⟩
  refine ⟨W2, F, m2, r, _, rel2, rs.mono (l1.trans l2), hq2, fun W3 H3 m3 hi l3 rel3 hq3 => ?_⟩
  exact o W3 F H3 m3 v d lo hi q Q rel3 (rv.mono (l2.trans l3)) hq3 fun _ _ _ _ _ l => k _ _ _ _ _ (l1.trans (l2.trans (l3.trans l)))
theorem o_cut {K : PySem.W.Frag} : ∀ W F H m x d lo hi q Q, Rel K W F H m → R K W x d → dCut d lo hi m q → Fol K W F q Q → rrCut K x lo hi H Q := by
  intro W F H m x d lo hi q Q rel rx h k
  have lists : (onS (seqL d m) fun ds => q (.lst (cutD ds lo hi)) m) → rrCut K x lo hi H Q := fun h => by
    obtain ⟨ds, e, h⟩ := onS_some h
    obtain ⟨a, xs, rfl, g, r⟩ := seqL_at rel rx e
    exact .inl ⟨a, xs, rfl, g, fun p hp => cold_lst rel (ra_cut r lo hi) h k hp⟩
  unfold dCut at h
  split at h
  · cases rx
    exact .inr (.inr ⟨_, rfl, h.1, k _ _ _ _ _ (.refl _) rel (.str _) h.2⟩)
  · rename_i ds
    obtain ⟨a, xs, rfl, g, r⟩ := tup_at rel rx
    refine .inr (.inl ⟨a, xs, rfl, g, fun hw => ?_, fun _ p hp => cold_tup rel (ra_cut r lo hi) h k hp⟩)
    rw [r.len] at hw
    rw [cut_whole ds lo hi hw.1 hw.2] at h
    exact k _ _ _ _ _ (.refl _) rel rx h
  · exact lists h
theorem o_cutP {K : PySem.W.Frag} : ∀ W F H m x d lo hi q Q, Rel K W F H m → R K W x d → dCutP d lo hi m q → Fol K W F q Q → rrCut K x lo hi H Q := by
  intro W F H m x d lo hi q Q rel rx h k
  obtain ⟨ds, e, h⟩ := onS_some h
  obtain ⟨a, xs, rfl, g, r⟩ := seqL_at rel rx e
  exact .inl ⟨a, xs, rfl, g, fun p hp => hot_lst rel (ra_cut r lo hi) h k hp⟩
section
variable {X : Cx} {pos p2 : Pos} {a b e : Expr} {lo hi : Option Expr} {ta tb te : DE} {tl th : DO}
theorem je_ix (ha : JE X a ta) (hb : JE X b tb) (hs : PlainIx b := by exact fun _ _ => rfl) : JE X (.Subscript a b pos) (dBin dIx ta tb) := pe_wk (pe_ix ix_seq ha hb hs) (bin_wk o_ix)
theorem je_slice (he : JE X e te) (hl : JO X lo tl) (hu : JO X hi th) : JE X (.Subscript e (.Slice lo hi none p2) pos) (dSlice dCut te tl th) := pe_wk (pe_slice sl_all he hl hu) (slice_wk o_cut)
theorem je_sliceP (he : JE X e te) (hl : JO X lo tl) (hu : JO X hi th) : JE X (.Subscript e (.Slice lo hi none p2) pos) (dSlice dCutP te tl th) := pe_wk (pe_slice sl_all he hl hu) (slice_wk o_cutP)
theorem je_eq {k : Nat} (hr : Room k X.A) (ha : JE X a ta) (hb : JE X b tb) : JE X (.Compare a [.Eq] [b] pos) (dBin dEq ta tb) := je_cmp (op_eqAll (units64 hr)) o_eq ha hb (nobehind _ (by decide) (by decide))
theorem je_ne {k : Nat} (hr : Room k X.A) (ha : JE X a ta) (hb : JE X b tb) : JE X (.Compare a [.NotEq] [b] pos) (dBin dNe ta tb) := je_cmp (op_neAll (units64 hr)) o_ne ha hb (nobehind _ (by decide) (by decide))
theorem je_lt (ha : JE X a ta) (hb : JE X b tb) : JE X (.Compare a [.Lt] [b] pos) (dBin dLt ta tb) := je_cmp op_lt o_B0 ha hb (nobehind _ (by decide) (by decide))
theorem je_le (ha : JE X a ta) (hb : JE X b tb) : JE X (.Compare a [.LtE] [b] pos) (dBin dLe ta tb) := je_cmp op_le o_B0 ha hb (nobehind _ (by decide) (by decide))
theorem je_gt (ha : JE X a ta) (hb : JE X b tb) : JE X (.Compare a [.Gt] [b] pos) (dBin dGt ta tb) := je_cmp op_gt o_B0 ha hb (nobehind _ (by decide) (by decide))
theorem je_ge (ha : JE X a ta) (hb : JE X b tb) : JE X (.Compare a [.GtE] [b] pos) (dBin dGe ta tb) := je_cmp op_ge o_B0 ha hb (nobehind _ (by decide) (by decide))
end
/-! ### and, or, not, if-else, chains -/
def dAnd (ta tb : DE) : DE := fun r m q => ta r m fun x m1 => match x with | .bl c => (c = true → tb r m1 q) ∧ (c = false → q (.bl false) m1) | _ => False
def dOr (ta tb : DE) : DE := fun r m q => ta r m fun x m1 => match x with | .bl c => (c = true → q (.bl true) m1) ∧ (c = false → tb r m1 q) | _ => False
def dNot (ta : DE) : DE := fun r m q => ta r m fun x m1 => match x with | .bl c => q (.bl (!c)) m1 | _ => False
def dIfE (tc : DT) (ta tb : DE) : DE := fun r m q => tc r m fun c m1 => (c = true → ta r m1 q) ∧ (c = false → tb r m1 q)
def dChain (f g : F2) (ta tb tc : DE) : DE := fun r m q => ta r m fun x m1 => tb r m1 fun y m2 => f x y m2 fun z m3 => match z with | .bl k => (k = true → tc r m3 fun w m4 => g y w m4 q) ∧ (k = false → q (.bl false) m3) | _ => False
section
variable {X : Cx} {pos : Pos} {a b c : Expr} {rest : List Expr} {ta tb tc : DE} {tt : DT}
theorem je_one {op} {t : DE} (h : JE X a t) : JE X (.BoolOp op [a] pos) t := pe_one h
theorem je_and (ha : JE X a ta) (hb : JE X (.BoolOp .And (b :: rest) pos) tb) : JE X (.BoolOp .And (a :: b :: rest) pos) (dAnd ta tb) := pe_wk (pe_and ha hb) fun s H Q ⟨W, F, m, r, q, rel, rs, h, k⟩ => by
  refine ⟨W, F, m, r, _, rel, rs, h, fun W1 H1 m1 v d l1 rel1 rv hq => ?_⟩
  cases d with
  | bl c =>
    cases rv
    refine ⟨c, rfl, ?_⟩
    cases c with
    | true => rw [if_pos rfl]; exact ⟨W1, F, m1, r, q, rel1, rs.mono l1, hq.1 rfl, fun _ _ _ _ _ l => k _ _ _ _ _ (l1.trans l)⟩
    | false => rw [if_neg Bool.false_ne_true]; exact k _ _ _ _ _ l1 rel1 (.bl _) (hq.2 rfl)
  | _ => exact hq.elim
theorem je_or (ha : JE X a ta) (hb : JE X (.BoolOp .Or (b :: rest) pos) tb) : JE X (.BoolOp .Or (a :: b :: rest) pos) (dOr ta tb) := pe_wk (pe_or ha hb) fun s H Q ⟨W, F, m, r, q, rel, rs, h, k⟩ => by
  refine ⟨W, F, m, r, _, rel, rs, h, fun W1 H1 m1 v d l1 rel1 rv hq => ?_⟩
  cases d with
  | bl c =>
    cases rv
    refine ⟨c, rfl, ?_⟩
    cases c with
    | true => rw [if_pos rfl]; exact k _ _ _ _ _ l1 rel1 (.bl _) (hq.1 rfl)
    | false => rw [if_neg Bool.false_ne_true]; exact ⟨W1, F, m1, r, q, rel1, rs.mono l1, hq.2 rfl, fun _ _ _ _ _ l => k _ _ _ _ _ (l1.trans l)⟩
  | _ => exact hq.elim
theorem je_not (ha : JE X a ta) : JE X (.UnaryOp .Not a pos) (dNot ta) := pe_wk (pe_not ha) fun s H Q ⟨W, F, m, r, q, rel, rs, h, k⟩ => by
  refine ⟨W, F, m, r, _, rel, rs, h, fun W1 H1 m1 v d l1 rel1 rv hq => ?_⟩
  cases d with
  | bl c => cases rv; exact ⟨c, rfl, k _ _ _ _ _ l1 rel1 (.bl _) hq⟩
  | _ => exact hq.elim
theorem je_if (hc : JT X c tt) (ha : JE X a ta) (hb : JE X b tb) : JE X (.IfExp c a b pos) (dIfE tt ta tb) := pe_wk (pe_ifExp hc ha hb) fun s H Q ⟨W, F, m, r, q, rel, rs, h, k⟩ => by
  refine ⟨W, F, m, r, _, rel, rs, h, fun W1 H1 m1 c l1 rel1 hq => ?_⟩
  cases c with
  | true => rw [if_pos rfl]; exact ⟨W1, F, m1, r, q, rel1, rs.mono l1, hq.1 rfl, fun _ _ _ _ _ l => k _ _ _ _ _ (l1.trans l)⟩
  | false => rw [if_neg Bool.false_ne_true]; exact ⟨W1, F, m1, r, q, rel1, rs.mono l1, hq.2 rfl, fun _ _ _ _ _ l => k _ _ _ _ _ (l1.trans l)⟩
theorem chain_wk {K : PySem.W.Frag} {f g : F2} {rr rr' : R2} (o : Op2 K f rr) (o' : Op2 K g rr') (s : L2.St) (H : Hp) (Q : VK) (h : liftE K (dChain f g ta tb tc) s H Q) : tChain rr rr' (liftE K ta) (liftE K tb) (liftE K tc) s H Q := by
  obtain ⟨W, F, m, r, q, rel, rs, h, k⟩ := h
  refine ⟨W, F, m, r, _, rel, rs, h, fun W1 H1 m1 v d l1 rel1 rv hq => ?_⟩
  refine ⟨W1, F, m1, r, _, rel1, rs.mono l1, hq, fun W2 H2 m2 u e l2 rel2 ru hq2 => ?_⟩
  refine o W2 F H2 m2 v u d e _ _ rel2 (rv.mono l2) ru hq2 fun W3 H3 m3 z x l3 rel3 rz hz => ?_
  cases x with
  | bl c =>
    cases rz
    refine ⟨c, rfl, ?_⟩
    cases c with
    | true =>
      rw [if_pos rfl]
      refine ⟨W3, F, m3, r, _, rel3, rs.mono (l1.trans (l2.trans l3)), hz.1 rfl, fun W4 H4 m4 w y l4 rel4 rw4 hq4 => ?_⟩
      exact o' W4 F H4 m4 u w e y q Q rel4 (ru.mono (l3.trans l4)) rw4 hq4 fun _ _ _ _ _ l => k _ _ _ _ _ (l1.trans (l2.trans (l3.trans (l4.trans l))))
    | false => rw [if_neg Bool.false_ne_true]; exact k _ _ _ _ _ (l1.trans (l2.trans l3)) rel3 (.bl _) (hz.2 rfl)
  | _ => exact hz.elim
end
/-! ### tests -/
def dTest (t : DE) : DT := fun r m q => t r m fun x m1 => match x with | .bl c => q c m1 | _ => False
def dTAnd (t u : DT) : DT := fun r m q => t r m fun c m1 => (c = true → u r m1 q) ∧ (c = false → q false m1)
def dTOr (t u : DT) : DT := fun r m q => t r m fun c m1 => (c = true → q true m1) ∧ (c = false → u r m1 q)
def dTNot (t : DT) : DT := fun r m q => t r m fun c m1 => q (!c) m1
section
variable {X : Cx} {pos : Pos} {a b c e : Expr} {rest : List Expr} {ta tb tc te : DE} {t u : DT}
theorem test_wk {K : PySem.W.Frag} {te : DE} (s : L2.St) (H : Hp) (Q : Bool → Hp → Prop) (h : liftT K (dTest te) s H Q) : liftE K te s H fun x H' => ∃ k, x = .bl k ∧ Q k H' := by
  obtain ⟨W, F, m, r, q, rel, rs, h, k⟩ := h
  refine ⟨W, F, m, r, _, rel, rs, h, fun W1 H1 m1 v d l1 rel1 rv hq => ?_⟩
  cases d with
  | bl c => cases rv; exact ⟨c, rfl, k _ _ _ _ l1 rel1 hq⟩
  | _ => exact hq.elim
/-- a call, a name, a subscript as a test: its value a truth -/
theorem jt_val (h : JE X e te) (he : ∀ whole, isTrue e X.env whole = (do let v ← whole; standAt e.pos; holding [v] (truthy v)) := by intro _; rfl) : JT X e (dTest te) := pt_wk (pt_val h he) fun s H Q h => test_wk s H Q h
theorem jt_cmp {op : CmpOp} {f : F2} {rr : R2} (ho : OpR X (compareOp op) rr) (o : Op2 X.K f rr) (ha : JE X a ta) (hb : JE X b tb) (hm : behindInMarks op b = false) : JT X (.Compare a [op] [b] pos) (dTest (dBin f ta tb)) :=
  pt_wk (pt_cmpR ho ha hb hm) fun s H Q h => by
    obtain ⟨W, F, m, r, q, rel, rs, h, k⟩ := h
    exact bin_wk o s H (fun x H' => ∃ k, x = .bl k ∧ Q k H') ⟨W, F, m, r, fun x m1 => match x with | .bl c => q c m1 | _ => False, rel, rs, h, fun W1 H1 m1 v d l1 rel1 rv hq => by
      cases d with
      | bl c => cases rv; exact ⟨c, rfl, k _ _ _ _ l1 rel1 hq⟩
      | _ => exact hq.elim⟩
theorem jt_eq {k : Nat} (hr : Room k X.A) (ha : JE X a ta) (hb : JE X b tb) : JT X (.Compare a [.Eq] [b] pos) (dTest (dBin dEq ta tb)) := jt_cmp (op_eqAll (units64 hr)) o_eq ha hb (nobehind _ (by decide) (by decide))
theorem jt_ne {k : Nat} (hr : Room k X.A) (ha : JE X a ta) (hb : JE X b tb) : JT X (.Compare a [.NotEq] [b] pos) (dTest (dBin dNe ta tb)) := jt_cmp (op_neAll (units64 hr)) o_ne ha hb (nobehind _ (by decide) (by decide))
theorem jt_lt (ha : JE X a ta) (hb : JE X b tb) : JT X (.Compare a [.Lt] [b] pos) (dTest (dBin dLt ta tb)) := jt_cmp op_lt o_B0 ha hb (nobehind _ (by decide) (by decide))
theorem jt_le (ha : JE X a ta) (hb : JE X b tb) : JT X (.Compare a [.LtE] [b] pos) (dTest (dBin dLe ta tb)) := jt_cmp op_le o_B0 ha hb (nobehind _ (by decide) (by decide))
theorem jt_gt (ha : JE X a ta) (hb : JE X b tb) : JT X (.Compare a [.Gt] [b] pos) (dTest (dBin dGt ta tb)) := jt_cmp op_gt o_B0 ha hb (nobehind _ (by decide) (by decide))
theorem jt_ge (ha : JE X a ta) (hb : JE X b tb) : JT X (.Compare a [.GtE] [b] pos) (dTest (dBin dGe ta tb)) := jt_cmp op_ge o_B0 ha hb (nobehind _ (by decide) (by decide))
theorem je_chain {op op' : CmpOp} {f g : F2} {rr rr' : R2} (ho : OpR X (compareOp op) rr) (o : Op2 X.K f rr) (ho' : OpR X (compareOp op') rr') (o' : Op2 X.K g rr') (ha : JE X a ta) (hb : JE X b tb) (hc : JE X c tc) (hm : lastMarks [op, op'] [b, c] = false := by with_unfolding_all rfl) :
    JE X (.Compare a [op, op'] [b, c] pos) (dChain f g ta tb tc) := pe_wk (pe_chain ho ho' ha hb hc hm) (chain_wk o o')
theorem jt_not (ha : JT X a t) : JT X (.UnaryOp .Not a pos) (dTNot t) := pt_wk (pt_not ha) fun s H Q ⟨W, F, m, r, q, rel, rs, h, k⟩ => ⟨W, F, m, r, _, rel, rs, h, fun _ _ _ c l rel1 hq => k _ _ _ _ l rel1 hq⟩
abbrev JW (X : Cx) (e : Expr) (t : DT) : Prop := PW X e (liftT X.K t)
theorem jw_and1 (ha : JT X a t) : JW X (.BoolOp .And [a] pos) t := pw_and1 ha
theorem jw_or1 (ha : JT X a t) : JW X (.BoolOp .Or [a] pos) t := pw_or1 ha
theorem jw_and (ha : JT X a t) (hb : JW X (.BoolOp .And (b :: rest) pos) u) : JW X (.BoolOp .And (a :: b :: rest) pos) (dTAnd t u) := pw_wk (pw_and ha hb) fun s H Q ⟨W, F, m, r, q, rel, rs, h, k⟩ => by
  refine ⟨W, F, m, r, _, rel, rs, h, fun W1 H1 m1 c l1 rel1 hq => ?_⟩
  cases c with
  | true => rw [if_pos rfl]; exact ⟨W1, F, m1, r, q, rel1, rs.mono l1, hq.1 rfl, fun _ _ _ _ l => k _ _ _ _ (l1.trans l)⟩
  | false => rw [if_neg Bool.false_ne_true]; exact k _ _ _ _ l1 rel1 (hq.2 rfl)
theorem jw_or (ha : JT X a t) (hb : JW X (.BoolOp .Or (b :: rest) pos) u) : JW X (.BoolOp .Or (a :: b :: rest) pos) (dTOr t u) := pw_wk (pw_or ha hb) fun s H Q ⟨W, F, m, r, q, rel, rs, h, k⟩ => by
  refine ⟨W, F, m, r, _, rel, rs, h, fun W1 H1 m1 c l1 rel1 hq => ?_⟩
  cases c with
  | true => rw [if_pos rfl]; exact k _ _ _ _ l1 rel1 (hq.1 rfl)
  | false => rw [if_neg Bool.false_ne_true]; exact ⟨W1, F, m1, r, q, rel1, rs.mono l1, hq.2 rfl, fun _ _ _ _ l => k _ _ _ _ (l1.trans l)⟩
end
end DL
/-! Data layer, part 3: statements, loops, comprehensions, built-in calls. -/
namespace DL
open PySem PySem.Spec PyProof.Rows L2
variable [Cl] [Lk]
/-! ### what is walked -/
abbrev Own := Option (Nat × List D)
def okP : Own → Sto → Prop
  | none, _ => True
  | some p, m => m[p.1]? = some (.lst p.2)
/-- the items, and the cell that must stay -/
def items : D → Sto → Option (List D × Own)
  | .lst ds, _ => some (ds, none)
  | .fz ds, _ => some (ds, none)
  | .tup ds, _ => some (ds, none)
  | .str z, _ => some (z.cps.toList.map fun c => D.str ⟨#[c]⟩, none)
  | .ptr i, m => match m[i]? with | some (.lst ds) => some (ds, some (i, ds)) | _ => none
  | _, _ => none
/-- the model's iterators for these, with what their turns give -/
structure ItOk (K : PySem.W.Frag) (W : Wd) (ds : List D) (o : Own) (J : It) : Prop where
  go : ∀ W' F H' m' i, W.Le W' → Rel K W' F H' m' → okP o m' → i < ds.length → J.go i H'
  yld : ∀ W' F H' m' i x H'', W.Le W' → Rel K W' F H' m' → okP o m' → i < ds.length → J.yld i H' x H'' → ∃ W'' d, W'.Le W'' ∧ Rel K W'' F H'' m' ∧ ds[i]? = some d ∧ R K W'' x d
  stop : ∀ W' F H' m' i, W.Le W' → Rel K W' F H' m' → okP o m' → ds.length ≤ i → J.stop i H'
theorem itok_list {K : PySem.W.Frag} {W : Wd} {ds : List D} {o : Own} {a : Addr} (h : ∀ W' F H' m', W.Le W' → Rel K W' F H' m' → okP o m' → ∃ xs, SqL K H' a xs ∧ RA K W' xs ds) : ItOk K W ds o (Itl K a) where
  go := fun W' F H' m' i l rel ok hi => by
    obtain ⟨xs, h1, h2⟩ := h W' F H' m' l rel ok
    have hx : i < xs.length := by rw [h2.len]; exact hi
    exact ⟨xs, xs[i], h1, List.getElem?_eq_getElem hx⟩
  yld := fun W' F H' m' i x H'' l rel ok hi y => by
    obtain ⟨xs, h1, h2⟩ := h W' F H' m' l rel ok
    obtain ⟨rfl, y⟩ := y
    obtain ⟨d, e1, e2⟩ := h2.getV (y xs h1)
    exact ⟨W', d, .refl _, rel, e1, e2⟩
  stop := fun W' F H' m' i l rel ok hi => by
    obtain ⟨xs, h1, h2⟩ := h W' F H' m' l rel ok
    exact ⟨xs, h1, by rw [h2.len]; exact hi⟩
theorem itok_tup {K : PySem.W.Frag} {W : Wd} {ds : List D} {o : Own} {a : Addr} (h : ∀ W' F H' m', W.Le W' → Rel K W' F H' m' → okP o m' → ∃ xs, SqT K H' a xs ∧ RA K W' xs ds) : ItOk K W ds o (Itt K a) where
  go := fun W' F H' m' i l rel ok hi => by
    obtain ⟨xs, h1, h2⟩ := h W' F H' m' l rel ok
    have hx : i < xs.length := by rw [h2.len]; exact hi
    exact ⟨xs, xs[i], h1, List.getElem?_eq_getElem hx⟩
  yld := fun W' F H' m' i x H'' l rel ok hi y => by
    obtain ⟨xs, h1, h2⟩ := h W' F H' m' l rel ok
    obtain ⟨rfl, y⟩ := y
    obtain ⟨d, e1, e2⟩ := h2.getV (y xs h1)
    exact ⟨W', d, .refl _, rel, e1, e2⟩
  stop := fun W' F H' m' i l rel ok hi => by
    obtain ⟨xs, h1, h2⟩ := h W' F H' m' l rel ok
    exact ⟨xs, h1, by rw [h2.len]; exact hi⟩
theorem itok_str {K : PySem.W.Frag} {W : Wd} {z : Str} : ItOk K W (z.cps.toList.map fun c => D.str ⟨#[c]⟩) none (Its z) where
  go := fun W' F H' m' i l rel ok hi => by
    rw [List.length_map, Array.length_toList] at hi
    exact hi
  yld := fun W' F H' m' i x H'' l rel ok hi y => by
    obtain ⟨rfl, c, h1, rfl⟩ := y
    refine ⟨W', .str ⟨#[c]⟩, .refl _, rel, ?_, .str _⟩
    rw [List.getElem?_map, Array.getElem?_toList, h1]
    rfl
  stop := fun W' F H' m' i l rel ok hi => by
    rw [List.length_map, Array.length_toList] at hi
    exact hi
theorem itok_range {K : PySem.W.Frag} {W : Wd} {lo : Int} {n : Nat} : ItOk K W ((List.range n).map fun (k : Nat) => D.int (lo + (k : Int))) none (Itr lo n) where
  go := fun W' F H' m' i l rel ok hi => by
    rw [List.length_map, List.length_range] at hi
    exact hi
  yld := fun W' F H' m' i x H'' l rel ok hi y => by
    obtain ⟨rfl, rfl⟩ := y
    rw [List.length_map, List.length_range] at hi
    refine ⟨W', .int (lo + i), .refl _, rel, ?_, .int _⟩
    rw [List.getElem?_map, List.getElem?_range hi]
    rfl
  stop := fun W' F H' m' i l rel ok hi => by
    rw [List.length_map, List.length_range] at hi
    exact hi
/-- an iterable: its items -/
abbrev DI := DSt → Sto → (List D → Own → Sto → Prop) → Prop
def liftI (K : PySem.W.Frag) (t : DI) : TI := fun s H Rr => ∃ (W : Wd) (F : Hp) (m : Sto) (r : DSt) (q : List D → Own → Sto → Prop), Rel K W F H m ∧ RSt K W s r ∧ t r m q ∧
  ∀ W' H' m' ds o J, W.Le W' → Rel K W' F H' m' → ItOk K W' ds o J → okP o m' → q ds o m' → Rr J H'
abbrev JI (X : Cx) (tg e : Expr) (t : DI) : Prop := PI X tg e (liftI X.K t)
theorem pi_wk {X : Cx} {tg e : Expr} {t t' : TI} (h : PI X tg e t) (k : ∀ s H Q, t' s H Q → t s H Q) : PI X tg e t' := ⟨fun p s a H Q I z => h.run p s a H Q I (k _ _ _ z)⟩
theorem pi_or {X : Cx} {tg e : Expr} {t t' : TI} (h : PI X tg e t) (h' : PI X tg e t') : PI X tg e (fun s H Rr => t s H Rr ∨ t' s H Rr) := ⟨fun p s a H Q I z => z.elim (h.run p s a H Q I) (h'.run p s a H Q I)⟩
/-- the iterator is chosen by the value -/
inductive PIk (X : Cx) (tg : Expr) (v : V) (H : Hp) (Rr : It → Hp → Prop) : Prop
  | l (a : Addr) : v = .ref a → (∃ xs, SqL X.K H a xs) → Rr (Itl X.K a) H → PIk X tg v H Rr
  | t (a : Addr) : v = .ref a → (∃ xs, SqT X.K H a xs) → Rr (Itt X.K a) H → PIk X tg v H Rr
  | s (z : Str) : v = .str z → Rr (Its z) H → PIk X tg v H Rr
theorem pi_any {X : Cx} {tg e : Expr} {te : TE} (he : PE X e te) : PI X tg e (fun s H Rr => te s H fun v H1 => PIk X tg v H1 Rr) := by
  refine ⟨fun pins s a H Rr I h => ?_⟩
  refine thn (he.run pins s a H _ I h) fun v s1 ⟨x, H1, I1, r1, k⟩ => ?_
  cases k with
  | l b e1 h1 h2 =>
    subst e1
    cases r1
    obtain ⟨xs, hx⟩ := h1
    obtain ⟨its, _, pl, _⟩ := I1.list hx
    exact wpAny_pyIter_list pl.isList (pi_one (tk := s1.toks) I1 _ (turn_list b _) ⟨_, Heap.get?_push_size _ rfl, rfl, rfl⟩ h2)
  | t b e1 h1 h2 =>
    subst e1
    cases r1
    obtain ⟨xs, hx⟩ := h1
    obtain ⟨its, _, pl, _⟩ := I1.tuple hx
    have pl' : s1.heap.IsTuple b its.toArray := pl
    exact wpAny_pyIter_tuple pl' (pi_one (tk := s1.toks) I1 _ (turn_tuple b _) ⟨_, Heap.get?_push_size _ rfl, rfl, rfl⟩ h2)
  | s z e1 h1 =>
    subst e1
    obtain ⟨tk, rfl⟩ := r1
    by_cases wide : z.cps.all (· < 128) = true
    · exact wpAny_pyIter_ascii wide (pi_one (tk := s1.toks) I1 _ (turn_str _ z tk "str_ascii_iterator" (.inl rfl)) ⟨_, Heap.get?_push_size _ rfl, rfl, rfl⟩ h1)
    · exact wpAny_pyIter_wide (by simpa using wide) (pi_one (tk := s1.toks) I1 _ (turn_str _ z tk "str_iterator" (.inr rfl)) ⟨_, Heap.get?_push_size _ rfl, rfl, rfl⟩ h1)
theorem items_at {X : Cx} {tg : Expr} {W : Wd} {F H : Hp} {m : Sto} {x : V} {d : D} {ds : List D} {o : Own} {Rr : It → Hp → Prop} (rel : Rel X.K W F H m) (rv : R X.K W x d) (e : items d m = some (ds, o))
    (k : ∀ J, ItOk X.K W ds o J → okP o m → Rr J H) : PIk X tg x H Rr := by
  cases rv with
  | @lst a xs _ h r => cases e; exact .l a rfl ⟨xs, SqL.of (rel.sub _ _ h)⟩ (k _ (itok_list fun W' F H' m' l rel' _ => ⟨xs, SqL.of (rel'.sub _ _ (l.st _ _ h)), r.mono l⟩) trivial)
  | @fz a xs _ h r => cases e; exact .l a rfl ⟨xs, same_seqL rel.sub h⟩ (k _ (itok_list fun W' F H' m' l rel' _ => ⟨xs, same_seqL rel'.sub (same_seqL l.st h), r.mono l⟩) trivial)
  | @tup a xs _ h r => cases e; exact .t a rfl ⟨xs, same_seqT rel.sub h⟩ (k _ (itok_tup fun W' F H' m' l rel' _ => ⟨xs, same_seqT rel'.sub (same_seqT l.st h), r.mono l⟩) trivial)
  | str z => cases e; exact .s _ rfl (k _ itok_str trivial)
  | @ptr a i hb =>
    unfold items at e
    cases q : m[i]? with
    | none => simp only [q] at e; cases e
    | some c =>
      cases c with
      | dead => simp only [q] at e; cases e
      | dic es => simp only [q] at e; cases e
      | ins c fs => simp only [q] at e; cases e
      | lst es =>
        simp only [q] at e
        cases e
        have ok : ∀ W' F H' m', W.Le W' → Rel X.K W' F H' m' → okP (some (i, ds)) m' → ∃ xs, SqL X.K H' a xs ∧ RA X.K W' xs ds := fun W' F H' m' l rel' ok => by
          have ok' : m'[i]? = some (.lst ds) := ok
          have e' : lstOf (.ptr i) m' = some ds := by simp only [lstOf, ok']
          obtain ⟨b, xs, h1, h2, h3⟩ := lstOf_at rel' (R.ptr (l.be _ _ hb)) e'
          cases h1
          exact ⟨xs, SqL.of h2, h3⟩
        obtain ⟨xs, h1, _⟩ := ok W F H m (.refl _) rel q
        exact .l a rfl ⟨xs, h1⟩ (k _ (itok_list ok) q)
  | _ => cases e
def dIter (te : DE) : DI := fun r m q => te r m fun x m1 => onS (items x m1) fun p => q p.1 p.2 m1
theorem ji_any {X : Cx} {tg e : Expr} {te : DE} (he : JE X e te) : JI X tg e (dIter te) := pi_wk (pi_any he) fun s H Rr ⟨W, F, m, r, q, rel, rs, h, k⟩ => by
  refine ⟨W, F, m, r, _, rel, rs, h, fun W1 H1 m1 v d l1 rel1 rv hq => ?_⟩
  obtain ⟨⟨ds, o⟩, e1, hq⟩ := onS_some hq
  exact items_at (tg := tg) rel1 rv e1 fun J hJ ok => k W1 H1 m1 ds o J l1 rel1 hJ ok hq
def dRange1 (ta : DE) : DI := fun r m q => ta r m fun x m1 => match x with | .int j => (-(2 ^ 62) ≤ j ∧ j < 2 ^ 62) ∧ q ((List.range j.toNat).map fun (k : Nat) => D.int (0 + (k : Int))) none m1 | _ => False
theorem ji_range1 {X : Cx} {tg a : Expr} {p pos : Pos} {ta : DE} (hg : Gl X "range") (hm : X.mg "range" = none) (ha : JE X a ta) (hs : starEach [a] X.env = [(false, eval a X.env)] := by rfl) : JI X tg (.Call (.Name "range" p) [a] [] pos) (dRange1 ta) :=
  pi_wk (pi_range1 hg hm (pa_cons ha pa_nil hs) hs) fun s H Rr ⟨W, F, m, r, q, rel, rs, h, k⟩ => by
    refine ⟨W, F, m, r, _, rel, rs, h, fun W1 H1 m1 v d l1 rel1 rv hq => ?_⟩
    cases d with
    | int j => cases rv; exact ⟨j, rfl, hq.1.1, hq.1.2, k W1 H1 m1 _ _ _ l1 rel1 itok_range trivial hq.2⟩
    | _ => exact hq.elim
def dRange2 (ta tb : DE) : DI := fun r m q => ta r m fun x m1 => tb r m1 fun y m2 => match x, y with | .int i, .int j => (-(2 ^ 62) ≤ i ∧ i < 2 ^ 62 ∧ -(2 ^ 62) ≤ j ∧ j < 2 ^ 62) ∧ q ((List.range (j - i).toNat).map fun (k : Nat) => D.int (i + (k : Int))) none m2 | _, _ => False
theorem ji_range2 {X : Cx} {tg a b : Expr} {p pos : Pos} {ta tb : DE} (hg : Gl X "range") (hm : X.mg "range" = none) (ha : JE X a ta) (hb : JE X b tb) (hs : starEach [a, b] X.env = [(false, eval a X.env), (false, eval b X.env)] := by rfl) (hs2 : starEach [b] X.env = [(false, eval b X.env)] := by rfl) :
    JI X tg (.Call (.Name "range" p) [a, b] [] pos) (dRange2 ta tb) :=
  pi_wk (pi_range2 hg hm (pa_cons ha (pa_cons hb pa_nil hs2) (by rw [hs, hs2])) hs hs2) fun s H Rr ⟨W, F, m, r, q, rel, rs, h, k⟩ => by
    refine ⟨W, F, m, r, _, rel, rs, h, fun W1 H1 m1 v d l1 rel1 rv hq => ?_⟩
    refine ⟨W1, F, m1, r, _, rel1, rs.mono l1, hq, fun W2 H2 m2 u e l2 rel2 ru hq2 => ?_⟩
    cases d with
    | int i =>
      cases e with
      | int j => cases rv; cases ru; exact ⟨i, j, rfl, hq2.1, k W2 H2 m2 _ _ _ (l1.trans l2) rel2 itok_range trivial hq2.2⟩
      | _ => exact hq2.elim
    | _ => exact hq2.elim
/-! ### targets -/
def gN (i : Nat) : DG := fun d r m q => q (put r i d) m
def gsN : DGs := fun ds r m q => match ds with | [] => q r m | _ => False
def gsC (g : DG) (gs : DGs) : DGs := fun ds r m q => match ds with | d :: rest => g d r m fun r1 m1 => gs rest r1 m1 q | [] => False
def gT (n : Nat) (gs : DGs) : DG := fun d r m q => match d with | .tup ds => ds.length = n ∧ gs ds r m q | _ => False
section
variable {X : Cx} {pos : Pos} {e : Expr} {es : List Expr} {g : DG} {gs : DGs}
theorem jg_name (i : Nat) {x : Str} (hN : X.N.Nodup) (hi : X.N[i]? = some x := by rfl) (hx : Loc X.env.scope x := by first | exact .inl rfl | exact .inr rfl) (hf : X.fn x = true ∨ X.env.scope.names.lookup x = some .local := by first | exact .inl rfl | exact .inr rfl | assumption) : JG X (.Name x pos) (gN i) :=
  pg_wk (pg_name hN hi hx hf) fun v s H Q ⟨W, F, m, r, d, q, rel, rs, rv, h, k⟩ => k W H m _ _ (.refl _) rel (rs.put rv i) h
theorem jgs_nil : JGs X [] gsN := pgs_wk pgs_nil fun vs s H Q ⟨W, F, m, r, ds, q, rel, rs, ra, h, k⟩ => by
  cases ra with
  | nil => exact ⟨rfl, k W H m _ _ (.refl _) rel rs h⟩
  | cons _ _ => exact h.elim
theorem jgs_cons (h1 : JG X e g) (h2 : JGs X es gs) (hs : (assignEach (e :: es) X.env).map (·.2) = assign e X.env :: (assignEach es X.env).map (·.2) := by rfl) : JGs X (e :: es) (gsC g gs) :=
  pgs_wk (pgs_cons h1 h2 hs) fun vs s H Q ⟨W, F, m, r, ds, q, rel, rs, ra, h, k⟩ => by
    cases ra with
    | nil => exact h.elim
    | @cons v vs d ds rv ra =>
      refine ⟨v, vs, rfl, W, F, m, r, d, fun r1 m1 => gs ds r1 m1 q, rel, rs, rv, h, fun W1 H1 m1 s1 r1 l1 rel1 rs1 hq => ?_⟩
      exact ⟨W1, F, m1, r1, ds, q, rel1, rs1, ra.mono l1, hq, fun _ _ _ _ _ l => k _ _ _ _ _ (l1.trans l)⟩
theorem jg_tup {kk n : Nat} (hc : X.calm = true) (h : JGs X es gs) (hn : (assignEach es X.env).length = n := by rfl) (hst : (assignEach es X.env).findIdx? (·.1) = none := by rfl) : JG X (.Tuple es kk pos) (gT n gs) :=
  pg_wk (pg_tup hc h hn hst) fun v s H Q ⟨W, F, m, r, d, q, rel, rs, rv, h, k⟩ => by
    cases d with
    | tup ds =>
      obtain ⟨a, xs, rfl, h1, h2⟩ := tup_at rel rv
      exact ⟨a, xs, rfl, h1, h2.len.trans h.1, W, F, m, r, ds, q, rel, rs, h2, h.2, k⟩
    | _ => exact h.elim
/-- o[i] = .. in a list of the store -/
def gIx (to ti : DE) : DG := fun d r m q => to r m fun x m1 => ti r m1 fun y m2 => match x, y with
  | .ptr j, .int k => onS (lstOf (.ptr j) m2) fun ds => onS (ixN ds.length k) fun l => q r (m2.set j (.lst (ds.set l d)))
  | _, _ => False
theorem cell_write {K : PySem.W.Frag} {W : Wd} {F H : Hp} {m : Sto} {x : V} {j : Nat} {ds ds' : List D} (rel : Rel K W F H m) (rv : R K W x (.ptr j)) (e : lstOf (.ptr j) m = some ds) :
    ∃ a xs, x = .ref a ∧ H a = some (.lst xs) ∧ RA K W xs ds ∧ ∀ xs', RA K W xs' ds' → Rel K W F (upd H a (.lst xs')) (m.set j (.lst ds')) := by
  obtain ⟨a, xs, rfl, h1, h2⟩ := lstOf_at rel rv e
  refine ⟨a, xs, rfl, h1, h2, fun xs' ra => ?_⟩
  cases rv with
  | ptr hb =>
    have hm : m[j]? = some (.lst ds) := by
      unfold lstOf at e
      cases q : m[j]? with
      | none => simp only [q] at e; cases e
      | some c =>
        cases c with
        | dead => simp only [q] at e; cases e
        | dic es => simp only [q] at e; cases e
        | ins c fs => simp only [q] at e; cases e
        | lst es => simp only [q] at e; cases e; rfl
    exact rel.write (c' := .lst ds') hb hm (fun z => by cases z) (fun z => by cases z) ⟨xs', upd_same, ra⟩
theorem jg_ix {o i : Expr} {to ti : DE} (ho : JE X o to) (hi : JE X i ti) (ha : ∀ v, assign (.Subscript o i pos) X.env v = (do
      let ov ← holding [v] (eval o X.env)
      let iv ← holding [v, ov] (eval i X.env)
      standAt pos
      holding [v, ov, iv] (setItem ov iv v)
      release [v, ov, iv] []) := by intro _; rfl) : JG X (.Subscript o i pos) (gIx to ti) :=
  pg_wk (pg_sub ho hi set_list ha) fun v s H Q ⟨W, F, m, r, d, q, rel, rs, rv, h, k⟩ => by
    refine ⟨W, F, m, r, _, rel, rs, h, fun W1 H1 m1 x dx l1 rel1 rx hq => ?_⟩
    refine ⟨W1, F, m1, r, _, rel1, rs.mono l1, hq, fun W2 H2 m2 y dy l2 rel2 ry hq2 => ?_⟩
    cases dx with
    | ptr j =>
      cases dy with
      | int kk =>
        obtain ⟨ds, e1, hq2⟩ := onS_some hq2
        obtain ⟨l, e2, hq2⟩ := onS_some hq2
        obtain ⟨a, xs, rfl, h1, h2, h3⟩ := cell_write (ds' := ds.set l d) rel2 (rx.mono l2) e1
        cases ry
        refine ⟨a, xs, kk, l, rfl, rfl, h1, by rw [h2.len]; exact e2, ?_⟩
        exact k W2 _ _ s r (l1.trans l2) (h3 _ (h2.set (rv.mono (l1.trans l2)) l)) (rs.mono (l1.trans l2)) hq2
      | _ => exact hq2.elim
    | _ => exact hq2.elim
end
/-! ### statements -/
def dNext : DS := fun d r m => d.nx r m
def dSeq (t u : DS) : DS := fun d r m => t { d with nx := u d } r m
def dDrop (te : DE) : DS := fun d r m => te r m fun _ m1 => d.nx r m1
def dRet (te : DE) : DS := fun d r m => te r m d.rt
def dRetN : DS := fun d _ m => d.rt .non m
def dBreak : DS := fun d r m => d.bk r m
def dCont : DS := fun d r m => d.ct r m
def dNever : DS := fun _ _ _ => False
def dIf (c : DT) (t u : DS) : DS := fun d r m => c r m fun b m1 => (b = true → t d r m1) ∧ (b = false → u d r m1)
def dAsg (te : DE) (g : DG) : DS := fun d r m => te r m fun x m1 => g x r m1 d.nx
def dAug (i : Nat) (f : F2) (te : DE) : DS := fun d r m => onS (slot r i) fun x => te r m fun y m1 => f x y m1 fun z m2 => d.nx (put r i z) m2
def dAugIx (f : F2) (to ti te : DE) : DS := fun d r m => to r m fun o m1 => ti r m1 fun i m2 => match o, i with
  | .ptr j, .int k => 0 ≤ k ∧ onS (lstOf (.ptr j) m2) fun ds => onS (ds[k.toNat]?) fun x => te r m2 fun y m3 => f x y m3 fun z m4 =>
      onS (lstOf (.ptr j) m4) fun ds' => onS (ixN ds'.length k) fun l => d.nx r (m4.set j (.lst (ds'.set l z)))
  | _, _ => False
def dWhile0 (c : DT) (tb : DS) : DS := fun d r m => ∃ I : Nat → DSt → Sto → Prop, (∃ n, I n r m) ∧ ∀ n r m, I n r m →
  c r m fun b m1 => (b = true → tb { d with nx := fun r' m' => ∃ n', n' < n ∧ I n' r' m', ct := fun r' m' => ∃ n', n' < n ∧ I n' r' m', bk := d.nx } r m1) ∧ (b = false → d.nx r m1)
def forD0 (g : DG) (tb : DS) (d : DEnds) (ok : Sto → Prop) : List D → DSt → Sto → Prop
  | [], r, m => d.nx r m
  | x :: xs, r, m => g x r m fun r1 m1 => tb { d with nx := fun r2 m2 => ok m2 ∧ forD0 g tb d ok xs r2 m2, ct := fun r2 m2 => ok m2 ∧ forD0 g tb d ok xs r2 m2, bk := d.nx } r1 m1
def dFor0 (ti : DI) (g : DG) (tb : DS) : DS := fun d r m => ti r m fun ds o m1 => forD0 g tb d (okP o) ds r m1
section
variable {X : Cx} {st : Stmt} {rest : List Stmt} {t u : DS} {e : Expr} {te : DE} {pos : Pos} {g : DG}
theorem LiftD.seq {K : PySem.W.Frag} {W : Wd} {F : Hp} {d : DEnds} {E : Ends} {u : DS} (L : LiftD K W F d E) : LiftD K W F { d with nx := u d } { E with nx := liftS K u E } where
  nx := fun W' H' m' s' r' l rel rs h => ⟨W', F, m', r', d, rel, rs, h, L.mono l⟩
  rt := L.rt
  bk := L.bk
  ct := L.ct
theorem jss_nil : JSs X [] dNext := pss_wk pss_nil fun E s H ⟨W, F, m, r, d, rel, rs, h, L⟩ => L.nx W H m s r (.refl _) rel rs h
theorem jss_cons (h1 : JS X st t) (h2 : JSs X rest u) : JSs X (st :: rest) (dSeq t u) := pss_wk (pss_cons h1 h2) fun E s H ⟨W, F, m, r, d, rel, rs, h, L⟩ => ⟨W, F, m, r, _, rel, rs, h, L.seq⟩
theorem jss_one (h1 : JS X st t) : JSs X [st] t := pss_one h1
theorem js_pass : JS X (.Pass pos) dNext := ps_wk ps_pass fun E s H ⟨W, F, m, r, d, rel, rs, h, L⟩ => L.nx W H m s r (.refl _) rel rs h
theorem js_break : JS X (.Break pos) dBreak := ps_wk ps_break fun E s H ⟨W, F, m, r, d, rel, rs, h, L⟩ => L.bk W H m s r (.refl _) rel rs h
theorem js_continue : JS X (.Continue pos) dCont := ps_wk ps_continue fun E s H ⟨W, F, m, r, d, rel, rs, h, L⟩ => L.ct W H m s r (.refl _) rel rs h
theorem js_never : JS X st dNever := ps_wk ps_never fun E s H ⟨W, F, m, r, d, rel, rs, h, L⟩ => h
theorem jss_never {sts : List Stmt} : JSs X sts dNever := pss_wk pss_never fun E s H ⟨W, F, m, r, d, rel, rs, h, L⟩ => h
theorem js_expr (he : JE X e te) (hs : swapsWith e none pos.line X.env = pure false := by rfl) : JS X (.Expr e pos) (dDrop te) := ps_wk (ps_expr he hs) fun E s H ⟨W, F, m, r, d, rel, rs, h, L⟩ =>
  ⟨W, F, m, r, _, rel, rs, h, fun W1 H1 m1 v x l1 rel1 rv hq => L.nx W1 H1 m1 s r l1 rel1 (rs.mono l1) hq⟩
theorem js_ret (he : JE X e te) : JS X (.Return (some e) pos) (dRet te) := ps_wk (ps_ret he) fun E s H ⟨W, F, m, r, d, rel, rs, h, L⟩ =>
  ⟨W, F, m, r, _, rel, rs, h, fun W1 H1 m1 v x l1 rel1 rv hq => L.rt W1 H1 m1 v x l1 rel1 rv hq⟩
theorem js_retN : JS X (.Return none pos) dRetN := ps_wk ps_retN fun E s H ⟨W, F, m, r, d, rel, rs, h, L⟩ => L.rt W H m _ _ (.refl _) rel .non h
theorem js_if {c : Expr} {a b : List Stmt} {tc : DT} (hc : JT X c tc) (ha : JSs X a t) (hb : JSs X b u) : JS X (.If c a b pos) (dIf tc t u) := ps_wk (ps_if hc ha hb) fun E s H ⟨W, F, m, r, d, rel, rs, h, L⟩ => by
  refine ⟨W, F, m, r, _, rel, rs, h, fun W1 H1 m1 b l1 rel1 hq => ?_⟩
  cases b with
  | true => rw [if_pos rfl]; exact ⟨W1, F, m1, r, d, rel1, rs.mono l1, hq.1 rfl, L.mono l1⟩
  | false => rw [if_neg Bool.false_ne_true]; exact ⟨W1, F, m1, r, d, rel1, rs.mono l1, hq.2 rfl, L.mono l1⟩
theorem asg_wk {K : PySem.W.Frag} {te : DE} {g : DG} (E : Ends) (s : L2.St) (H : Hp) (h : liftS K (dAsg te g) E s H) : tAsg (liftE K te) (liftG K g) E s H := by
  obtain ⟨W, F, m, r, d, rel, rs, h, L⟩ := h
  exact ⟨W, F, m, r, _, rel, rs, h, fun W1 H1 m1 v x l1 rel1 rv hq => ⟨W1, F, m1, r, x, d.nx, rel1, rs.mono l1, rv, hq, fun _ _ _ _ _ l => L.nx _ _ _ _ _ (l1.trans l)⟩⟩
theorem js_set (i : Nat) {x : Str} {pos' : Pos} (hN : X.N.Nodup) (he : JE X e te) (hi : X.N[i]? = some x := by rfl) (hx : Loc X.env.scope x := by first | exact .inl rfl | exact .inr rfl) (hs : swapsWith e (some (.Name x pos')) pos.line X.env = pure false := by rfl)
    (hf : X.fn x = true ∨ X.env.scope.names.lookup x = some .local := by first | exact .inl rfl | exact .inr rfl | assumption) : JS X (.Assign [.Name x pos'] e pos) (dAsg te (gN i)) :=
  ps_wk (ps_set hN hi hx he hs hf) fun E s H ⟨W, F, m, r, d, rel, rs, h, L⟩ =>
    ⟨W, F, m, r, _, rel, rs, h, fun W1 H1 m1 v x l1 rel1 rv hq => L.nx W1 H1 m1 _ _ l1 rel1 ((rs.mono l1).put rv i) hq⟩
theorem js_asg {tg : Expr} (he : JE X e te) (hg : JG X tg g) (hs : swapsWithSole [tg] e pos.line X.env = pure false := by rfl) (hw : swappedStores [tg] e X.env = pure none := by rfl)
    (h1 : (assignEach [tg] X.env).map (·.2) = [assign tg X.env] := by rfl) : JS X (.Assign [tg] e pos) (dAsg te g) := ps_wk (ps_asg he hg hs hw h1) fun E s H h => asg_wk E s H h
/-- a, b = x, y -/
def dPar (i j : Nat) (ta : DA) : DS := fun d r m => ta r m fun xs m1 => match xs with | [x, y] => d.nx (put (put r i x) j y) m1 | _ => False
theorem js_par (i j : Nat) {x y : Str} {a b : Expr} {ta : DA} {px py pt : Pos} {kt k2 pt2} (hc : X.calm = true) (hN : X.N.Nodup) (ha : JA X [a, b] ta) (hij : i ≠ j) (hi : X.N[i]? = some x := by rfl) (hj : X.N[j]? = some y := by rfl)
    (hx : X.env.scope.names.lookup x = some .local := by rfl) (hy : X.env.scope.names.lookup y = some .local := by rfl)
    (hw : swappedStores [.Tuple [.Name x px, .Name y py] kt pt] (.Tuple [a, b] k2 pt2) X.env = pure (some [x, y]) := by rfl)
    (hs : swapsWithSole [.Tuple [.Name x px, .Name y py] kt pt] (.Tuple [a, b] k2 pt2) pos.line X.env = pure false := by rfl) :
    JS X (.Assign [.Tuple [.Name x px, .Name y py] kt pt] (.Tuple [a, b] k2 pt2) pos) (dPar i j ta) :=
  ps_wk (ps_par hc hN hi hj hij hx hy ha hw hs) fun E s H ⟨W, F, m, r, d, rel, rs, h, L⟩ => by
    refine ⟨W, F, m, r, _, rel, rs, h, fun W1 H1 m1 vs ds l1 rel1 ra hq => ?_⟩
    cases ra with
    | nil => exact hq.elim
    | cons r1 ra =>
      cases ra with
      | nil => exact hq.elim
      | cons r2 ra =>
        cases ra with
        | nil => exact ⟨_, _, rfl, L.nx W1 H1 m1 _ _ l1 rel1 (((rs.mono l1).put r1 i).put r2 j) hq⟩
        | cons _ _ => exact hq.elim
def Pip (X : Cx) (op : Operator) (f : F2) : Prop := ∃ ti, PIp X op ti ∧ ∀ W F H m x y d e q Q, Rel X.K W F H m → R X.K W x d → R X.K W y e → f d e m q → Fol X.K W F q Q → ti x y H Q
theorem pip_add : Pip X .Add (dI0 fun i j => i + j) := ⟨_, ip_add, o_I0⟩
theorem pip_sub : Pip X .Sub (dI0 fun i j => i - j) := ⟨_, ip_sub, o_I0⟩
theorem js_aug (i : Nat) {x : Str} {op : Operator} {f : F2} {pos' : Pos} (hN : X.N.Nodup) (he : JE X e te) (ho : Pip X op f) (hi : X.N[i]? = some x := by rfl) (hx : Loc X.env.scope x := by first | exact .inl rfl | exact .inr rfl)
    (hf : X.fn x = true ∨ X.env.scope.names.lookup x = some .local := by first | exact .inl rfl | exact .inr rfl | assumption) : JS X (.AugAssign (.Name x pos') op e pos) (dAug i f te) := by
  obtain ⟨ti, h1, h2⟩ := ho
  refine ps_wk (ps_aug hN hi hx he h1 hf) fun E s H ⟨W, F, m, r, d, rel, rs, h, L⟩ => ?_
  obtain ⟨x0, e0, h⟩ := onS_some h
  obtain ⟨v0, e1, r0⟩ := rs.get e0
  refine ⟨v0, e1, W, F, m, r, _, rel, rs, h, fun W1 H1 m1 v y l1 rel1 rv hq => ?_⟩
  exact h2 W1 F H1 m1 v0 v x0 y _ _ rel1 (r0.mono l1) rv hq fun W2 H2 m2 z dz l2 rel2 rz hz => L.nx W2 H2 m2 _ _ (l1.trans l2) rel2 ((rs.mono (l1.trans l2)).put rz i) hz
def rGetL (K : PySem.W.Frag) : V → V → Hp → VK → Prop := fun o i H Q => ∃ p xs k v, o = .ref p ∧ i = .int k ∧ H p = some (.lst xs) ∧ 0 ≤ k ∧ xs[k.toNat]? = some v ∧ Q v H
theorem get_list : PGet X (rGetL X.K) := by
  intro pins s a H o i ov iv Q I ro ri h
  obtain ⟨p, xs, k, v, rfl, rfl, hp, hk, hx, q⟩ := h
  cases ro
  obtain ⟨t, rfl⟩ := ri
  obtain ⟨its, r, pl, hz⟩ := I.list (SqL.of hp)
  obtain ⟨uu, hu, ru⟩ := r.get hx
  have hlt : k.toNat < xs.length := (List.getElem?_eq_some_iff.mp hx).1
  have h63 := line63
  exact wpAny_getItem_list pl.isList hk (by omega) (by simpa using hu) ⟨v, H, I, ru, q⟩
theorem js_augIx {o i : Expr} {to ti : DE} {op : Operator} {f : F2} {tpos : Pos} (ho : JE X o to) (hi : JE X i ti) (he : JE X e te) (hp : Pip X op f)
    (ha : ∀ ov iv new, augStore i ov iv new = (do holding [new, ov, iv] (setItem ov iv new); release [new, ov, iv] []; pure .next) := by intros; rfl) : JS X (.AugAssign (.Subscript o i tpos) op e pos) (dAugIx f to ti te) := by
  obtain ⟨tp, h1, h2⟩ := hp
  refine ps_wk (ps_augS ho hi get_list he h1 set_list ha) fun E s H ⟨W, F, m, r, d, rel, rs, h, L⟩ => ?_
  refine ⟨W, F, m, r, _, rel, rs, h, fun W1 H1 m1 x dx l1 rel1 rx hq => ?_⟩
  refine ⟨W1, F, m1, r, _, rel1, rs.mono l1, hq, fun W2 H2 m2 y dy l2 rel2 ry hq2 => ?_⟩
  cases dx with
  | ptr j =>
    cases dy with
    | int k =>
      obtain ⟨hk, hq2⟩ := hq2
      obtain ⟨ds, e1, hq2⟩ := onS_some hq2
      obtain ⟨x0, e2, hq2⟩ := onS_some hq2
      obtain ⟨a, xs, rfl, g1, g2⟩ := lstOf_at rel2 (rx.mono l2) e1
      cases ry
      obtain ⟨v0, e3, r0⟩ := g2.get e2
      refine ⟨a, xs, k, v0, rfl, rfl, g1, hk, e3, ?_⟩
      refine ⟨W2, F, m2, r, _, rel2, rs.mono (l1.trans l2), hq2, fun W3 H3 m3 z dz l3 rel3 rz hq3 => ?_⟩
      refine h2 W3 F H3 m3 v0 z x0 dz _ _ rel3 (r0.mono l3) rz hq3 fun W4 H4 m4 w dw l4 rel4 rw4 hq4 => ?_
      obtain ⟨ds', e4, hq4⟩ := onS_some hq4
      obtain ⟨l, e5, hq4⟩ := onS_some hq4
      obtain ⟨b, ys, e6, g3, g4, g5⟩ := cell_write (ds' := ds'.set l dw) rel4 (rx.mono (l2.trans (l3.trans l4))) e4
      cases e6
      exact ⟨a, ys, k, l, rfl, rfl, g3, by rw [g4.len]; exact e5, L.nx W4 _ _ s r (l1.trans (l2.trans (l3.trans l4))) (g5 _ (g4.set rw4 l)) (rs.mono (l1.trans (l2.trans (l3.trans l4)))) hq4⟩
    | _ => exact hq2.elim
  | _ => exact hq2.elim
theorem js_while0 {c : Expr} {body : List Stmt} {tc : DT} {tb : DS} (hp : PassesOwn (model X.prog X.w) X.A X.env X.xe) (hc : JT X c tc) (hb : JSs X body tb) : JS X (.While c body [] pos) (dWhile0 tc tb) :=
  ps_wk (ps_while hp hc hb) fun E s H ⟨W, F, m, r, d, rel, rs, h, L⟩ => by
    obtain ⟨I, ⟨n, i0⟩, turn⟩ := h
    refine ⟨fun n s' H' => ∃ W' m' r', W.Le W' ∧ Rel X.K W' F H' m' ∧ RSt X.K W' s' r' ∧ I n r' m', ⟨n, W, m, r, .refl _, rel, rs, i0⟩, fun n s1 H1 ⟨W1, m1, r1, l1, rel1, rs1, i1⟩ => ?_⟩
    refine ⟨W1, F, m1, r1, _, rel1, rs1, turn n r1 m1 i1, fun W2 H2 m2 b l2 rel2 hq => ?_⟩
    cases b with
    | false => rw [if_neg Bool.false_ne_true]; exact L.nx W2 H2 m2 s1 r1 (l1.trans l2) rel2 (rs1.mono l2) (hq.2 rfl)
    | true =>
      rw [if_pos rfl]
      refine ⟨fun s' H' => ∃ n', n' < n ∧ ∃ W' m' r', W.Le W' ∧ Rel X.K W' F H' m' ∧ RSt X.K W' s' r' ∧ I n' r' m', fun _ _ z => z, W2, F, m2, r1, _, rel2, rs1.mono l2, hq.1 rfl, ⟨?_, ?_, ?_, ?_⟩⟩
      · rintro W3 H3 m3 s3 r3 l3 rel3 rs3 ⟨n', hn, i3⟩
        exact ⟨n', hn, W3, m3, r3, l1.trans (l2.trans l3), rel3, rs3, i3⟩
      · exact fun W3 H3 m3 v x l3 => L.rt W3 H3 m3 v x (l1.trans (l2.trans l3))
      · exact fun W3 H3 m3 s3 r3 l3 => L.nx W3 H3 m3 s3 r3 (l1.trans (l2.trans l3))
      · rintro W3 H3 m3 s3 r3 l3 rel3 rs3 ⟨n', hn, i3⟩
        exact ⟨n', hn, W3, m3, r3, l1.trans (l2.trans l3), rel3, rs3, i3⟩
theorem drop_step {α : Type} {ds : List α} {i : Nat} (h : i < ds.length) : ds.drop i = ds[i] :: ds.drop (i + 1) := List.drop_eq_getElem_cons h
theorem js_for0 {tg iter : Expr} {body : List Stmt} {ti : DI} {tb : DS} (hp : PassesOwn (model X.prog X.w) X.A X.env X.xe) (hc : X.calm = true) (hi : JI X tg iter ti) (hg : JG X tg g) (hb : JSs X body tb)
    (hs : ∀ x, foldedSetIterable iter X.env x = pure x := by intro _; rfl) : JS X (.For tg iter body [] pos) (dFor0 ti g tb) :=
  ps_wk (ps_for hp hc hi hg hb hs) fun E s H ⟨W, F, m, r, d, rel, rs, h, L⟩ => by
    refine ⟨W, F, m, r, _, rel, rs, h, fun W1 H1 m1 ds o J l1 rel1 hJ ok1 hq => ?_⟩
    refine ⟨fun i n s' H' => ∃ W' m' r', W1.Le W' ∧ Rel X.K W' F H' m' ∧ RSt X.K W' s' r' ∧ okP o m' ∧ i + n = ds.length ∧ forD0 g tb d (okP o) (ds.drop i) r' m',
      ⟨ds.length, W1, m1, r, .refl _, rel1, rs.mono l1, ok1, Nat.zero_add _, by rw [List.drop_zero]; exact hq⟩, fun i n s2 H2 ⟨W2, m2, r2, l2, rel2, rs2, ok2, en, hq2⟩ => ?_⟩
    by_cases hlt : i < ds.length
    · refine .inr ⟨hJ.go W2 F H2 m2 i l2 rel2 ok2 hlt, fun s' H' => ∃ W' m' r', W1.Le W' ∧ Rel X.K W' F H' m' ∧ RSt X.K W' s' r' ∧ okP o m' ∧ forD0 g tb d (okP o) (ds.drop (i + 1)) r' m', ?_, fun x H3 y => ?_⟩
      · rintro s' H' ⟨W', m', r', a1, a2, a3, a4, a5⟩
        exact ⟨n - 1, by omega, W', m', r', a1, a2, a3, a4, by omega, a5⟩
      · obtain ⟨W3, dx, l3, rel3, e1, rx⟩ := hJ.yld W2 F H2 m2 i x H3 l2 rel2 ok2 hlt y
        have l23 := l2.trans l3
        rw [drop_step hlt] at hq2
        have ex : ds[i] = dx := Option.some.inj ((List.getElem?_eq_getElem hlt).symm.trans e1)
        rw [ex] at hq2
        refine ⟨W3, F, m2, r2, dx, _, rel3, rs2.mono l3, rx, hq2, fun W4 H4 m4 s4 r4 l4 rel4 rs4 hq4 => ?_⟩
        refine ⟨W4, F, m4, r4, _, rel4, rs4, hq4, ⟨?_, ?_, ?_, ?_⟩⟩
        · rintro W5 H5 m5 s5 r5 l5 rel5 rs5 ⟨ok5, q5⟩
          exact ⟨W5, m5, r5, l23.trans (l4.trans l5), rel5, rs5, ok5, q5⟩
        · exact fun W5 H5 m5 v z l5 => L.rt W5 H5 m5 v z (l1.trans (l23.trans (l4.trans l5)))
        · exact fun W5 H5 m5 s5 r5 l5 => L.nx W5 H5 m5 s5 r5 (l1.trans (l23.trans (l4.trans l5)))
        · rintro W5 H5 m5 s5 r5 l5 rel5 rs5 ⟨ok5, q5⟩
          exact ⟨W5, m5, r5, l23.trans (l4.trans l5), rel5, rs5, ok5, q5⟩
    · have ed : ds.drop i = [] := List.drop_eq_nil_of_le (by omega)
      rw [ed] at hq2
      exact .inl ⟨hJ.stop W2 F H2 m2 i l2 rel2 ok2 (by omega), L.nx W2 H2 m2 s2 r2 (l1.trans l2) rel2 rs2 hq2⟩
end
/-! ### comprehensions: [e for x in it if t], x a name in slot i -/
def lcD (i : Nat) (tt : DT) (te : DE) (ok : Sto → Prop) : List D → DSt → List D → Sto → (List D → Sto → Prop) → Prop
  | [], _, acc, m, q => q acc m
  | x :: xs, r, acc, m, q => tt (put r i x) m fun b m1 => (b = true → te (put r i x) m1 fun y m2 => ok m2 ∧ lcD i tt te ok xs r (acc ++ [y]) m2 q) ∧ (b = false → ok m1 ∧ lcD i tt te ok xs r acc m1 q)
def dLcQ0 (i : Nat) (ti : DI) (tt : DT) (te : DE) (r : DSt) (m : Sto) (q : List D → Sto → Prop) : Prop := ti r m fun ds o m1 => ds.length ≤ 1000000 ∧ lcD i tt te (okP o) ds (forget r i) [] m1 q
def dLc0 (i : Nat) (ti : DI) (tt : DT) (te : DE) : DE := fun r m q => dLcQ0 i ti tt te r m fun acc m1 => q (.lst acc) m1
def dLcP0 (i : Nat) (ti : DI) (tt : DT) (te : DE) : DE := fun r m q => dLcQ0 i ti tt te r m fun acc m1 => q (.ptr m1.length) (m1 ++ [.lst acc])
def dYes : DT := fun _ m q => q true m
abbrev JTs (X : Cx) (es : List Expr) (t : DT) : Prop := PTs X es (liftT X.K t)
theorem jts_nil {X : Cx} : JTs X [] dYes := ⟨fun pins s a H Q I h => pts_nil.run pins s a H Q I (by
  obtain ⟨W, F, m, r, q, rel, rs, h, k⟩ := h
  exact k W H m true (.refl _) rel h)⟩
theorem jts_one {X : Cx} {c : Expr} {t : DT} (h : JT X c t) : JTs X [c] t := pts_one h
theorem lc_wk {K : PySem.W.Frag} {i : Nat} {ti : DI} {tt : DT} {te : DE} {fin : List D → Sto → (D → Sto → Prop) → Prop}
    (hfin : ∀ (W : Wd) (F H : Hp) (m : Sto) (p : Addr) (xs : List V) (ds : List D) (q : D → Sto → Prop) (Q : VK), F p = none → Same Lk.F0 F → Rel K W (upd F p (.lst xs)) H m → RA K W xs ds → fin ds m q → Fol K W F q Q → Q (.ref p) H)
    (s : L2.St) (H : Hp) (Q : VK) (h : liftE K (fun r m q => dLcQ0 i ti tt te r m fun acc m1 => fin acc m1 q) s H Q) : tLc (liftI K ti) (gName i) (liftT K tt) (liftE K te) [i] s H Q := by
  obtain ⟨W, F, m, r, q, rel, rs, h, k⟩ := h
  refine ⟨W, F, m, r, _, rel, rs, h, fun W1 H1 m1 ds o J l1 rel1 hJ ok1 hq p hp => ?_⟩
  obtain ⟨hz, hq⟩ := hq
  have hF : F p = none := rel1.fF hp
  have rs1 : RSt K W1 (wipe s [i]) (forget r i) := (rs.mono l1).forget i
  refine ⟨fun j n H' => ∃ W' m' xs acc, W1.Le W' ∧ Rel K W' (upd F p (.lst xs)) H' m' ∧ RA K W' xs acc ∧ okP o m' ∧ acc.length ≤ j ∧ j + n = ds.length ∧ lcD i tt te (okP o) (ds.drop j) (forget r i) acc m' (fun acc m1 => fin acc m1 q),
    ⟨ds.length, W1, m1, [], [], .refl _, rel1.framed hp, .nil, ok1, Nat.le_refl _, Nat.zero_add _, by rw [List.drop_zero]; exact hq⟩, fun j n H2 ⟨W2, m2, xs, acc, l2, rel2, ra2, ok2, hacc, en, hq2⟩ => ?_⟩
  by_cases hlt : j < ds.length
  · refine .inr ⟨hJ.go W2 _ H2 m2 j l2 rel2 ok2 hlt, fun H' => ∃ W' m' xs acc, W1.Le W' ∧ Rel K W' (upd F p (.lst xs)) H' m' ∧ RA K W' xs acc ∧ okP o m' ∧ acc.length ≤ j + 1 ∧ lcD i tt te (okP o) (ds.drop (j + 1)) (forget r i) acc m' (fun acc m1 => fin acc m1 q), ?_, fun x H3 y => ?_⟩
    · rintro H' ⟨W', m', xs', acc', a1, a2, a3, a4, a5, a6⟩
      exact ⟨n - 1, by omega, W', m', xs', acc', a1, a2, a3, a4, a5, by omega, a6⟩
    · obtain ⟨W2', dx, l2', rel2', e1, rx⟩ := hJ.yld W2 _ H2 m2 j x H3 l2 rel2 ok2 hlt y
      have ra2' := ra2.mono l2'
      have l22 := l2.trans l2'
      rw [drop_step hlt] at hq2
      have ex : ds[j] = dx := Option.some.inj ((List.getElem?_eq_getElem hlt).symm.trans e1)
      rw [ex] at hq2
      have rs2 : RSt K W2' ((wipe s [i]).set i (some x)) (put (forget r i) i dx) := (rs1.mono l22).put rx i
      refine ⟨by show ((s.set i none).set i (some x)).set i none = s.set i none; rw [List.set_set, List.set_set], ?_⟩
      refine ⟨W2', upd F p (.lst xs), m2, _, _, rel2', rs2, hq2, fun W3 H3 m3 b l3 rel3 hq3 => ?_⟩
      cases b with
      | false =>
        rw [if_neg Bool.false_ne_true]
        exact ⟨W3, m3, xs, acc, l22.trans l3, rel3, ra2'.mono l3, (hq3.2 rfl).1, by omega, (hq3.2 rfl).2⟩
      | true =>
        rw [if_pos rfl]
        refine ⟨W3, upd F p (.lst xs), m3, _, _, rel3, rs2.mono l3, hq3.1 rfl, fun W4 H4 m4 z dz l4 rel4 rz hq4 => ?_⟩
        have hH4 : H4 p = some (.lst xs) := rel4.frm _ _ upd_same
        refine ⟨xs, hH4, ?_, W4, m4, xs ++ [z], acc ++ [dz], l22.trans (l3.trans l4), rel4.reframe hF rel1.lf, (ra2'.mono (l3.trans l4)).app (.cons rz .nil), hq4.1, ?_, hq4.2⟩
        · rw [ra2.len]
          have : (1000000 : Nat) < sizeLine := by rw [sizeLine_eq]; decide
          omega
        · rw [List.length_append]
          show acc.length + 1 ≤ j + 1
          omega
  · have ed : ds.drop j = [] := List.drop_eq_nil_of_le (by omega)
    rw [ed] at hq2
    exact .inl ⟨hJ.stop W2 _ H2 m2 j l2 rel2 ok2 (by omega), hfin W2 F H2 m2 p xs acc q Q hF rel1.lf rel2 ra2 hq2 fun _ _ _ _ _ l => k _ _ _ _ _ (l1.trans (l2.trans l))⟩
abbrev finC (acc : List D) (m : Sto) (q : D → Sto → Prop) : Prop := q (.lst acc) m
abbrev finP (acc : List D) (m : Sto) (q : D → Sto → Prop) : Prop := q (.ptr m.length) (m ++ [Cell.lst acc])
theorem fin_cold {K : PySem.W.Frag} (W : Wd) (F H : Hp) (m : Sto) (p : Addr) (xs : List V) (ds : List D) (q : D → Sto → Prop) (Q : VK) (hF : F p = none) (hs : Same Lk.F0 F) (rel : Rel K W (upd F p (.lst xs)) H m) (ra : RA K W xs ds) (h : q (.lst ds) m) (k : Fol K W F q Q) : Q (.ref p) H := by
  obtain ⟨h1, h2⟩ := rel.thaw hF hs
  exact k _ _ m _ _ h2 h1 (.lst upd_same (ra.mono h2)) h
theorem fin_hot {K : PySem.W.Frag} (W : Wd) (F H : Hp) (m : Sto) (p : Addr) (xs : List V) (ds : List D) (q : D → Sto → Prop) (Q : VK) (hF : F p = none) (hs : Same Lk.F0 F) (rel : Rel K W (upd F p (.lst xs)) H m) (ra : RA K W xs ds) (h : q (.ptr m.length) (m ++ [.lst ds])) (k : Fol K W F q Q) : Q (.ref p) H :=
  k _ _ (m ++ [.lst ds]) _ _ hot_le (rel.cellOf (c := .lst ds) hF hs ⟨xs, rel.frm _ _ upd_same, ra⟩ (fun z => by cases z)) (.ptr (hot_at rel.toRel0)) h
section
variable {X : Cx} {elt iter : Expr} {ifs : List Expr} {scope : Scope} {pos py npos spos : Pos} {x y : Str} {ti : DI} {tt : DT} {te : DE}
abbrev Blk (X : Cx) (scope : Scope) (p : Cx → Prop) : Prop := ∀ (s : Shared) (H : Hp) (C : Addr) (cl : List (Str × Addr)) (fp : List Addr), p (X.blk s H scope (compEnvC scope cl C X.env) fp)
theorem je_lc0 (i : Nat) (hc : X.calm = true) (hN : X.N.Nodup) (hi : JI X (.Name x npos) iter ti) (ok : BlkOk X.N X.env.scope scope [(x, i)]) (hg : Blk X scope fun Y => PG Y (.Name x npos) (gName i))
    (ht : ∀ (s : Shared) (H : Hp) (C : Addr) (cl : List (Str × Addr)) (fp : List Addr), JTs (X.blk s H scope (compEnvC scope cl C X.env) fp) ifs tt) (he : ∀ (s : Shared) (H : Hp) (C : Addr) (cl : List (Str × Addr)) (fp : List Addr), JE (X.blk s H scope (compEnvC scope cl C X.env) fp) elt te)
    (hs : ∀ z, foldedSetIterable iter X.env z = pure z := by intro _; rfl) : JE X (.ListComp elt [⟨.Name x npos, iter, ifs, 0⟩] scope pos) (dLc0 i ti tt te) :=
  pe_wk (pe_lc (own := [(x, i)]) hc hN hi ok hg ht he hs) fun s H Q h => lc_wk (i := i) (ti := ti) (tt := tt) (te := te) (fin := finC) fin_cold s H Q h
theorem je_lcP0 (i : Nat) (hc : X.calm = true) (hN : X.N.Nodup) (hi : JI X (.Name x npos) iter ti) (ok : BlkOk X.N X.env.scope scope [(x, i)]) (hg : Blk X scope fun Y => PG Y (.Name x npos) (gName i))
    (ht : ∀ (s : Shared) (H : Hp) (C : Addr) (cl : List (Str × Addr)) (fp : List Addr), JTs (X.blk s H scope (compEnvC scope cl C X.env) fp) ifs tt) (he : ∀ (s : Shared) (H : Hp) (C : Addr) (cl : List (Str × Addr)) (fp : List Addr), JE (X.blk s H scope (compEnvC scope cl C X.env) fp) elt te)
    (hs : ∀ z, foldedSetIterable iter X.env z = pure z := by intro _; rfl) : JE X (.ListComp elt [⟨.Name x npos, iter, ifs, 0⟩] scope pos) (dLcP0 i ti tt te) :=
  pe_wk (pe_lc (own := [(x, i)]) hc hN hi ok hg ht he hs) fun s H Q h => lc_wk (i := i) (ti := ti) (tt := tt) (te := te) (fin := finP) fin_hot s H Q h
/-- y = [..] -/
theorem js_setLc0 (i j : Nat) (hc : X.calm = true) (hN : X.N.Nodup) (hi : JI X (.Name x npos) iter ti) (ok : BlkOk X.N X.env.scope scope [(x, i)]) (hg : Blk X scope fun Y => PG Y (.Name x npos) (gName i))
    (ht : ∀ (s : Shared) (H : Hp) (C : Addr) (cl : List (Str × Addr)) (fp : List Addr), JTs (X.blk s H scope (compEnvC scope cl C X.env) fp) ifs tt) (he : ∀ (s : Shared) (H : Hp) (C : Addr) (cl : List (Str × Addr)) (fp : List Addr), JE (X.blk s H scope (compEnvC scope cl C X.env) fp) elt te)
    (hsw : swapsWith (.ListComp elt [⟨.Name x npos, iter, ifs, 0⟩] scope pos) (some (.Name y py)) spos.line X.env = pure true) (hy : X.N[j]? = some y := by rfl) (hyl : X.env.scope.names.lookup y = some .local := by rfl)
    (hs : ∀ z, foldedSetIterable iter X.env z = pure z := by intro _; rfl) : JS X (.Assign [.Name y py] (.ListComp elt [⟨.Name x npos, iter, ifs, 0⟩] scope pos) spos) (dAsg (dLc0 i ti tt te) (gN j)) :=
  ps_wk (ps_setLc (own := [(x, i)]) hc hN hy hyl hsw hi ok hg ht he hs) fun E s H ⟨W, F, m, r, d, rel, rs, h, L⟩ =>
    lc_wk (i := i) (ti := ti) (tt := tt) (te := te) (fin := finC) fin_cold s H (fun v H1 => gName j v s H1 E.nx) ⟨W, F, m, r, fun x m1 => gN j x r m1 d.nx, rel, rs, h, fun W1 H1 m1 v x l1 rel1 rv hq => L.nx W1 H1 m1 _ _ l1 rel1 ((rs.mono l1).put rv j) hq⟩
theorem js_setLcP0 (i j : Nat) (hc : X.calm = true) (hN : X.N.Nodup) (hi : JI X (.Name x npos) iter ti) (ok : BlkOk X.N X.env.scope scope [(x, i)]) (hg : Blk X scope fun Y => PG Y (.Name x npos) (gName i))
    (ht : ∀ (s : Shared) (H : Hp) (C : Addr) (cl : List (Str × Addr)) (fp : List Addr), JTs (X.blk s H scope (compEnvC scope cl C X.env) fp) ifs tt) (he : ∀ (s : Shared) (H : Hp) (C : Addr) (cl : List (Str × Addr)) (fp : List Addr), JE (X.blk s H scope (compEnvC scope cl C X.env) fp) elt te)
    (hsw : swapsWith (.ListComp elt [⟨.Name x npos, iter, ifs, 0⟩] scope pos) (some (.Name y py)) spos.line X.env = pure true) (hy : X.N[j]? = some y := by rfl) (hyl : X.env.scope.names.lookup y = some .local := by rfl)
    (hs : ∀ z, foldedSetIterable iter X.env z = pure z := by intro _; rfl) : JS X (.Assign [.Name y py] (.ListComp elt [⟨.Name x npos, iter, ifs, 0⟩] scope pos) spos) (dAsg (dLcP0 i ti tt te) (gN j)) :=
  ps_wk (ps_setLc (own := [(x, i)]) hc hN hy hyl hsw hi ok hg ht he hs) fun E s H ⟨W, F, m, r, d, rel, rs, h, L⟩ =>
    lc_wk (i := i) (ti := ti) (tt := tt) (te := te) (fin := finP) fin_hot s H (fun v H1 => gName j v s H1 E.nx) ⟨W, F, m, r, fun x m1 => gN j x r m1 d.nx, rel, rs, h, fun W1 H1 m1 v x l1 rel1 rv hq => L.nx W1 H1 m1 _ _ l1 rel1 ((rs.mono l1).put rv j) hq⟩
end
/-! ### the same, closed to unfolding -/
@[irreducible] def forD (g : DG) (tb : DS) (d : DEnds) (ok : Sto → Prop) (ds : List D) (r : DSt) (m : Sto) : Prop := forD0 g tb d ok ds r m
theorem forD_eq {g : DG} {tb : DS} {d : DEnds} {ok : Sto → Prop} {ds : List D} {r : DSt} {m : Sto} : forD g tb d ok ds r m = forD0 g tb d ok ds r m := by unfold forD; rfl
def dFor (ti : DI) (g : DG) (tb : DS) : DS := fun d r m => ti r m fun ds o m1 => forD g tb d (okP o) ds r m1
theorem dFor_eq {ti : DI} {g : DG} {tb : DS} : dFor ti g tb = dFor0 ti g tb := by
  funext d r m
  show ti r m (fun ds o m1 => forD g tb d (okP o) ds r m1) = ti r m (fun ds o m1 => forD0 g tb d (okP o) ds r m1)
  simp only [forD_eq]
@[irreducible] def dWhile (c : DT) (tb : DS) (d : DEnds) (r : DSt) (m : Sto) : Prop := dWhile0 c tb d r m
theorem dWhile_eq {c : DT} {tb : DS} : dWhile c tb = dWhile0 c tb := by
  funext d r m
  unfold dWhile
  rfl
theorem while_i {c : DT} {tb : DS} {d : DEnds} {r : DSt} {m : Sto} (h : dWhile0 c tb d r m) : dWhile c tb d r m := by rw [dWhile_eq]; exact h
@[irreducible] def lcI (i : Nat) (tt : DT) (te : DE) (ok : Sto → Prop) (ds : List D) (r : DSt) (acc : List D) (m : Sto) (q : List D → Sto → Prop) : Prop := lcD i tt te ok ds r acc m q
theorem lcI_eq {i : Nat} {tt : DT} {te : DE} {ok : Sto → Prop} {ds : List D} {r : DSt} {acc : List D} {m : Sto} {q : List D → Sto → Prop} : lcI i tt te ok ds r acc m q = lcD i tt te ok ds r acc m q := by unfold lcI; rfl
def dLcQ (i : Nat) (ti : DI) (tt : DT) (te : DE) (r : DSt) (m : Sto) (q : List D → Sto → Prop) : Prop := ti r m fun ds o m1 => ds.length ≤ 1000000 ∧ lcI i tt te (okP o) ds (forget r i) [] m1 q
theorem dLcQ_eq {i : Nat} {ti : DI} {tt : DT} {te : DE} {r : DSt} {m : Sto} {q : List D → Sto → Prop} : dLcQ i ti tt te r m q = dLcQ0 i ti tt te r m q := by
  unfold dLcQ dLcQ0
  simp only [lcI_eq]
def dLc (i : Nat) (ti : DI) (tt : DT) (te : DE) : DE := fun r m q => dLcQ i ti tt te r m fun acc m1 => q (.lst acc) m1
def dLcP (i : Nat) (ti : DI) (tt : DT) (te : DE) : DE := fun r m q => dLcQ i ti tt te r m fun acc m1 => q (.ptr m1.length) (m1 ++ [.lst acc])
theorem dLc_eq {i : Nat} {ti : DI} {tt : DT} {te : DE} : dLc i ti tt te = dLc0 i ti tt te := by
  funext r m q
  exact dLcQ_eq
theorem dLcP_eq {i : Nat} {ti : DI} {tt : DT} {te : DE} : dLcP i ti tt te = dLcP0 i ti tt te := by
  funext r m q
  exact dLcQ_eq
section
variable {X : Cx} {st : Stmt} {rest : List Stmt} {t u : DS} {e : Expr} {te : DE} {pos : Pos} {g : DG}
theorem js_while {c : Expr} {body : List Stmt} {tc : DT} {tb : DS} (hp : PassesOwn (model X.prog X.w) X.A X.env X.xe) (hc : JT X c tc) (hb : JSs X body tb) : JS X (.While c body [] pos) (dWhile tc tb) := by
  rw [dWhile_eq]
  exact js_while0 hp hc hb
theorem js_for {tg iter : Expr} {body : List Stmt} {ti : DI} {tb : DS} (hp : PassesOwn (model X.prog X.w) X.A X.env X.xe) (hc : X.calm = true) (hi : JI X tg iter ti) (hg : JG X tg g) (hb : JSs X body tb)
    (hs : ∀ x, foldedSetIterable iter X.env x = pure x := by intro _; rfl) : JS X (.For tg iter body [] pos) (dFor ti g tb) := by
  rw [dFor_eq]
  exact js_for0 hp hc hi hg hb hs
end
section
variable {X : Cx} {elt iter : Expr} {ifs : List Expr} {scope : Scope} {pos py npos spos : Pos} {x y : Str} {ti : DI} {tt : DT} {te : DE}
theorem je_lc (i : Nat) (hc : X.calm = true) (hN : X.N.Nodup) (hi : JI X (.Name x npos) iter ti) (ok : BlkOk X.N X.env.scope scope [(x, i)]) (hg : Blk X scope fun Y => PG Y (.Name x npos) (gName i))
    (ht : ∀ (s : Shared) (H : Hp) (C : Addr) (cl : List (Str × Addr)) (fp : List Addr), JTs (X.blk s H scope (compEnvC scope cl C X.env) fp) ifs tt) (he : ∀ (s : Shared) (H : Hp) (C : Addr) (cl : List (Str × Addr)) (fp : List Addr), JE (X.blk s H scope (compEnvC scope cl C X.env) fp) elt te)
    (hs : ∀ z, foldedSetIterable iter X.env z = pure z := by intro _; rfl) : JE X (.ListComp elt [⟨.Name x npos, iter, ifs, 0⟩] scope pos) (dLc i ti tt te) := by
  rw [dLc_eq]
  exact je_lc0 i hc hN hi ok hg ht he hs
theorem je_lcP (i : Nat) (hc : X.calm = true) (hN : X.N.Nodup) (hi : JI X (.Name x npos) iter ti) (ok : BlkOk X.N X.env.scope scope [(x, i)]) (hg : Blk X scope fun Y => PG Y (.Name x npos) (gName i))
    (ht : ∀ (s : Shared) (H : Hp) (C : Addr) (cl : List (Str × Addr)) (fp : List Addr), JTs (X.blk s H scope (compEnvC scope cl C X.env) fp) ifs tt) (he : ∀ (s : Shared) (H : Hp) (C : Addr) (cl : List (Str × Addr)) (fp : List Addr), JE (X.blk s H scope (compEnvC scope cl C X.env) fp) elt te)
    (hs : ∀ z, foldedSetIterable iter X.env z = pure z := by intro _; rfl) : JE X (.ListComp elt [⟨.Name x npos, iter, ifs, 0⟩] scope pos) (dLcP i ti tt te) := by
  rw [dLcP_eq]
  exact je_lcP0 i hc hN hi ok hg ht he hs
theorem js_setLc (i j : Nat) (hc : X.calm = true) (hN : X.N.Nodup) (hi : JI X (.Name x npos) iter ti) (ok : BlkOk X.N X.env.scope scope [(x, i)]) (hg : Blk X scope fun Y => PG Y (.Name x npos) (gName i))
    (ht : ∀ (s : Shared) (H : Hp) (C : Addr) (cl : List (Str × Addr)) (fp : List Addr), JTs (X.blk s H scope (compEnvC scope cl C X.env) fp) ifs tt) (he : ∀ (s : Shared) (H : Hp) (C : Addr) (cl : List (Str × Addr)) (fp : List Addr), JE (X.blk s H scope (compEnvC scope cl C X.env) fp) elt te)
    (hsw : swapsWith (.ListComp elt [⟨.Name x npos, iter, ifs, 0⟩] scope pos) (some (.Name y py)) spos.line X.env = pure true) (hy : X.N[j]? = some y := by rfl) (hyl : X.env.scope.names.lookup y = some .local := by rfl)
    (hs : ∀ z, foldedSetIterable iter X.env z = pure z := by intro _; rfl) : JS X (.Assign [.Name y py] (.ListComp elt [⟨.Name x npos, iter, ifs, 0⟩] scope pos) spos) (dAsg (dLc i ti tt te) (gN j)) := by
  rw [dLc_eq]
  exact js_setLc0 i j hc hN hi ok hg ht he hsw hy hyl hs
theorem js_setLcP (i j : Nat) (hc : X.calm = true) (hN : X.N.Nodup) (hi : JI X (.Name x npos) iter ti) (ok : BlkOk X.N X.env.scope scope [(x, i)]) (hg : Blk X scope fun Y => PG Y (.Name x npos) (gName i))
    (ht : ∀ (s : Shared) (H : Hp) (C : Addr) (cl : List (Str × Addr)) (fp : List Addr), JTs (X.blk s H scope (compEnvC scope cl C X.env) fp) ifs tt) (he : ∀ (s : Shared) (H : Hp) (C : Addr) (cl : List (Str × Addr)) (fp : List Addr), JE (X.blk s H scope (compEnvC scope cl C X.env) fp) elt te)
    (hsw : swapsWith (.ListComp elt [⟨.Name x npos, iter, ifs, 0⟩] scope pos) (some (.Name y py)) spos.line X.env = pure true) (hy : X.N[j]? = some y := by rfl) (hyl : X.env.scope.names.lookup y = some .local := by rfl)
    (hs : ∀ z, foldedSetIterable iter X.env z = pure z := by intro _; rfl) : JS X (.Assign [.Name y py] (.ListComp elt [⟨.Name x npos, iter, ifs, 0⟩] scope pos) spos) (dAsg (dLcP i ti tt te) (gN j)) := by
  rw [dLcP_eq]
  exact js_setLcP0 i j hc hN hi ok hg ht he hsw hy hyl hs
end
end DL
/-! Data layer, part 4: built-in calls, defs and their calls, the end of a law. -/
namespace DL
open PySem PySem.Spec PyProof.Rows L2
variable [Cl]
section
variable [Lk]
/-! ### built-in functions by values -/
section
variable {X : Cx} {x : Str} {p pos : Pos} {e : Expr} {es : List Expr} {t : DA} {id T : String} {rr : List V → Hp → VK → Prop} {f : FN}
theorem je_callB (hc : CallR X (.builtin id) rr) (o : OpN X.K f rr) (hg : Gl X x) (hm : X.mg x = none) (hv : bootBuiltins x = some (.builtin id)) (ha : JA X (e :: es) t) (hn : x ≠ "__name__" := by decide) (hdb : (x == ("__debug__" : Str)) = false := by decide)
    (he : starEach (e :: es) X.env = (false, eval e X.env) :: starEach es X.env := by rfl) (hpl : (backTo pos (starEach es X.env)).any (·.1) = false := by rfl) : JE X (.Call (.Name x p) (e :: es) [] pos) (dCallB f t) :=
  pe_wk (pe_callB hc hg hm hv ha hn hdb he hpl) (call_wk o)
theorem je_callTy (hc : CallR X (.type T) rr) (o : OpN X.K f rr) (hg : Gl X x) (hm : X.mg x = none) (hv : bootBuiltins x = some (.type T)) (ha : JA X (e :: es) t) (hn : x ≠ "__name__" := by decide) (hdb : (x == ("__debug__" : Str)) = false := by decide)
    (he : starEach (e :: es) X.env = (false, eval e X.env) :: starEach es X.env := by rfl) (hpl : (backTo pos (starEach es X.env)).any (·.1) = false := by rfl) : JE X (.Call (.Name x p) (e :: es) [] pos) (dCallB f t) :=
  pe_wk (pe_callTy hc hg hm hv ha hn hdb he hpl) (call_wk o)
end
def dAbs : FN
  | [.int i], m, q => q (.int (if i < 0 then -i else i)) m
  | _, _, _ => False
def dLen : FN
  | [.str z], m, q => z.length ≤ sizeLine ∧ q (.int z.length) m
  | [.tup ds], m, q => q (.int ds.length) m
  | [x], m, q => onS (seqL x m) fun ds => q (.int ds.length) m
  | _, _, _ => False
def dInt : FN
  | [.int i], m, q => q (.int i) m
  | [.bl b], m, q => q (.int (if b then 1 else 0)) m
  | _, _, _ => False
def dMin : FN
  | [.int i, .int j], m, q => q (.int (if j < i then j else i)) m
  | _, _, _ => False
def dMax : FN
  | [.int i, .int j], m, q => q (.int (if j > i then j else i)) m
  | _, _, _ => False
def dStr : FN
  | [.int i], m, q => i.natAbs.log2 < 1920 ∧ q (.str (toString i)) m
  | _, _, _ => False
def dRepr : FN
  | [x], m, q => onS (py m x) fun v => v.showable = true ∧ v.hasDict = false ∧ v.depth ≤ 60 ∧ v.shown.length ≤ sizeLine ∧ q (.str v.shown) m
  | _, _, _ => False
/-- list(x): a new frozen list, or a new cell -/
def dList : FN
  | [.tup ds], m, q => q (.lst ds) m
  | [x], m, q => onS (seqL x m) fun ds => q (.lst ds) m
  | _, _, _ => False
def dListP : FN
  | [.tup ds], m, q => q (.ptr m.length) (m ++ [.lst ds])
  | [x], m, q => onS (seqL x m) fun ds => q (.ptr m.length) (m ++ [.lst ds])
  | _, _, _ => False
def dTuple : FN
  | [.tup ds], m, q => q (.tup ds) m
  | [x], m, q => onS (seqL x m) fun ds => q (.tup ds) m
  | _, _, _ => False
theorem ra1 {K : PySem.W.Frag} {W : Wd} {xs : List V} {d : D} (r : RA K W xs [d]) : ∃ v, xs = [v] ∧ R K W v d := by
  cases r with
  | cons h r => cases r; exact ⟨_, rfl, h⟩
theorem ra2 {K : PySem.W.Frag} {W : Wd} {xs : List V} {d e : D} (r : RA K W xs [d, e]) : ∃ v u, xs = [v, u] ∧ R K W v d ∧ R K W u e := by
  cases r with
  | cons h r => obtain ⟨u, rfl, h2⟩ := ra1 r; exact ⟨_, _, rfl, h, h2⟩
section
variable {K : PySem.W.Frag}
theorem o_abs : OpN K dAbs (fun xs H Q => ∃ i, xs = [.int i] ∧ Q (.int (if i < 0 then -i else i)) H) := by
  intro W F H m xs ds q Q rel ra h k
  unfold dAbs at h
  split at h
  · obtain ⟨v, rfl, rv⟩ := ra1 ra
    cases rv
    exact ⟨_, rfl, k _ _ _ _ _ (.refl _) rel (.int _) h⟩
  · exact h.elim
theorem o_len : OpN K dLen (fun xs H Q => ∃ x n, xs = [x] ∧ LenV K x H n ∧ Q (.int n) H) := by
  intro W F H m xs ds q Q rel ra h k
  unfold dLen at h
  split at h
  · obtain ⟨v, rfl, rv⟩ := ra1 ra
    cases rv
    exact ⟨_, _, rfl, ⟨h.1, rfl⟩, k _ _ _ _ _ (.refl _) rel (.int _) h.2⟩
  · obtain ⟨v, rfl, rv⟩ := ra1 ra
    obtain ⟨a, xs, rfl, h1, h2⟩ := tup_at rel rv
    exact ⟨_, _, rfl, .inr ⟨xs, h1, h2.len.symm⟩, k _ _ _ _ _ (.refl _) rel (.int _) h⟩
  · obtain ⟨v, rfl, rv⟩ := ra1 ra
    obtain ⟨es, e1, h⟩ := onS_some h
    obtain ⟨a, xs, rfl, h1, h2⟩ := seqL_at rel rv e1
    exact ⟨_, _, rfl, .inl ⟨xs, h1, h2.len.symm⟩, k _ _ _ _ _ (.refl _) rel (.int _) h⟩
  · exact h.elim
theorem o_int : OpN K dInt (fun xs H Q => (∃ i, xs = [.int i] ∧ Q (.int i) H) ∨ ∃ k, xs = [.bl k] ∧ Q (.int (if k then 1 else 0)) H) := by
  intro W F H m xs ds q Q rel ra h k
  unfold dInt at h
  split at h
  · obtain ⟨v, rfl, rv⟩ := ra1 ra
    cases rv
    exact .inl ⟨_, rfl, k _ _ _ _ _ (.refl _) rel (.int _) h⟩
  · obtain ⟨v, rfl, rv⟩ := ra1 ra
    cases rv
    exact .inr ⟨_, rfl, k _ _ _ _ _ (.refl _) rel (.int _) h⟩
  · exact h.elim
theorem o_min : OpN K dMin (fun xs H Q => ∃ i j, xs = [.int i, .int j] ∧ Q (.int (if j < i then j else i)) H) := by
  intro W F H m xs ds q Q rel ra h k
  unfold dMin at h
  split at h
  · obtain ⟨v, u, rfl, rv, ru⟩ := ra2 ra
    cases rv; cases ru
    exact ⟨_, _, rfl, k _ _ _ _ _ (.refl _) rel (.int _) h⟩
  · exact h.elim
theorem o_max : OpN K dMax (fun xs H Q => ∃ i j, xs = [.int i, .int j] ∧ Q (.int (if j > i then j else i)) H) := by
  intro W F H m xs ds q Q rel ra h k
  unfold dMax at h
  split at h
  · obtain ⟨v, u, rfl, rv, ru⟩ := ra2 ra
    cases rv; cases ru
    exact ⟨_, _, rfl, k _ _ _ _ _ (.refl _) rel (.int _) h⟩
  · exact h.elim
theorem o_str : OpN K dStr (fun xs H Q => ∃ i, xs = [.int i] ∧ i.natAbs.log2 < 1920 ∧ Q (.str (toString i)) H) := by
  intro W F H m xs ds q Q rel ra h k
  unfold dStr at h
  split at h
  · obtain ⟨v, rfl, rv⟩ := ra1 ra
    cases rv
    exact ⟨_, rfl, h.1, k _ _ _ _ _ (.refl _) rel (.str _) h.2⟩
  · exact h.elim
def rrRepr (K : PySem.W.Frag) : List V → Hp → VK → Prop := fun xs H Q => ∃ x v, xs = [x] ∧ Dp K H x v ∧ v.showable = true ∧ v.hasDict = false ∧ v.depth ≤ 60 ∧ v.shown.length ≤ sizeLine ∧ Q (.str v.shown) H
theorem o_repr : OpN K dRepr (rrRepr K) := by
  intro W F H m xs ds q Q rel ra h k
  unfold dRepr at h
  split at h
  · obtain ⟨v, rfl, rv⟩ := ra1 ra
    obtain ⟨d, e1, h1, h2, h3, h4, h⟩ := onS_some h
    exact ⟨_, d, rfl, py_dp rel rv e1, h1, h2, h3, h4, k _ _ _ _ _ (.refl _) rel (.str _) h⟩
  · exact h.elim
theorem call_reprD {X : Cx} (gd : X.A.guards = some []) (hu : X.A.units + 64 < cLine) : CallR X (.builtin "repr") (rrRepr X.K) := by
  intro pins s a H xs us Q I r h
  obtain ⟨x, v, rfl, dp, h1, h2, h3, h4, q⟩ := h
  obtain ⟨u, rfl, rx⟩ := vals1 r
  have fin : ∀ (h' : Heap) (tk : Tok) (tk2 : Nat), (∀ b o, s.heap.get? b = some o → h'.get? b = some o) → EP X pins a Q (.str v.shown tk) { s with heap := h', toks := tk2 } := fun h' tk tk2 kk => ⟨.str v.shown, H, I.kept kk, ⟨tk, rfl⟩, q⟩
  cases dp with
  | non => cases rx; exact PySem.P.repr_of_none (fin s.heap _ _ fun _ _ e => e)
  | bl b => cases rx; exact PySem.P.repr_of_bool (fin s.heap _ _ fun _ _ e => e)
  | int i =>
    obtain ⟨t, rfl⟩ := rx
    have hz : i.natAbs.log2 < 1920 := by simpa [PyData.showable] using h1
    exact PySem.P.repr_of_int hz (fin s.heap _ _ fun _ _ e => e)
  | str z =>
    obtain ⟨t, rfl⟩ := rx
    exact PySem.P.repr_of_str (fin s.heap _ _ fun _ _ e => e) h4
  | lst hs ha =>
    obtain ⟨as, rd⟩ := Dp.reads I _ _ _ (.lst hs ha) rx
    cases rx
    exact repr_of_reads' rd h1 (PyData.noDict_hsm h2) gd (by omega) (fun _ _ e => e) (fun h' tk tk2 kk => fin h' tk tk2 kk) h4
  | tup hs ha =>
    obtain ⟨as, rd⟩ := Dp.reads I _ _ _ (.tup hs ha) rx
    cases rx
    exact repr_of_reads' rd h1 (PyData.noDict_hsm h2) gd (by omega) (fun _ _ e => e) (fun h' tk tk2 kk => fin h' tk tk2 kk) h4
theorem o_list : OpN K dList (fun xs H Q => ∃ p ys, xs = [.ref p] ∧ (SqL K H p ys ∨ SqT K H p ys) ∧ ∀ l, H l = none → Q (.ref l) (upd H l (.lst ys))) := by
  intro W F H m xs ds q Q rel ra h k
  unfold dList at h
  split at h
  · obtain ⟨v, rfl, rv⟩ := ra1 ra
    obtain ⟨a, xs, rfl, h1, h2⟩ := tup_at rel rv
    exact ⟨a, xs, rfl, .inr h1, fun p hp => cold_lst rel h2 h k hp⟩
  · obtain ⟨v, rfl, rv⟩ := ra1 ra
    obtain ⟨es, e1, h⟩ := onS_some h
    obtain ⟨a, xs, rfl, h1, h2⟩ := seqL_at rel rv e1
    exact ⟨a, xs, rfl, .inl h1, fun p hp => cold_lst rel h2 h k hp⟩
  · exact h.elim
theorem o_listP : OpN K dListP (fun xs H Q => ∃ p ys, xs = [.ref p] ∧ (SqL K H p ys ∨ SqT K H p ys) ∧ ∀ l, H l = none → Q (.ref l) (upd H l (.lst ys))) := by
  intro W F H m xs ds q Q rel ra h k
  unfold dListP at h
  split at h
  · obtain ⟨v, rfl, rv⟩ := ra1 ra
    obtain ⟨a, xs, rfl, h1, h2⟩ := tup_at rel rv
    exact ⟨a, xs, rfl, .inr h1, fun p hp => hot_lst rel h2 h k hp⟩
  · obtain ⟨v, rfl, rv⟩ := ra1 ra
    obtain ⟨es, e1, h⟩ := onS_some h
    obtain ⟨a, xs, rfl, h1, h2⟩ := seqL_at rel rv e1
    exact ⟨a, xs, rfl, .inl h1, fun p hp => hot_lst rel h2 h k hp⟩
  · exact h.elim
theorem o_tuple : OpN K dTuple (fun xs H Q => ∃ p ys, xs = [.ref p] ∧ ((SqL K H p ys ∧ ∀ l, H l = none → Q (.ref l) (upd H l (.tup ys))) ∨ (SqT K H p ys ∧ Q (.ref p) H))) := by
  intro W F H m xs ds q Q rel ra h k
  unfold dTuple at h
  split at h
  · obtain ⟨v, rfl, rv⟩ := ra1 ra
    obtain ⟨a, xs, rfl, h1, h2⟩ := tup_at rel rv
    exact ⟨a, xs, rfl, .inr ⟨h1, k _ _ _ _ _ (.refl _) rel rv h⟩⟩
  · obtain ⟨v, rfl, rv⟩ := ra1 ra
    obtain ⟨es, e1, h⟩ := onS_some h
    obtain ⟨a, xs, rfl, h1, h2⟩ := seqL_at rel rv e1
    exact ⟨a, xs, rfl, .inl ⟨h1, fun p hp => cold_tup rel h2 h k hp⟩⟩
  · exact h.elim
end
section
variable {X : Cx} {p pos : Pos} {a b : Expr} {ta tb : DE}
abbrev a1 (ta : DE) : DA := dCons ta dNil
abbrev a2 (ta tb : DE) : DA := dCons ta (dCons tb dNil)
theorem je_abs (hg : Gl X "abs") (hm : X.mg "abs" = none) (ha : JE X a ta) (hs : starEach [a] X.env = (false, eval a X.env) :: starEach [] X.env := by rfl) (hp : (backTo pos (starEach [] X.env)).any (·.1) = false := by rfl) : JE X (.Call (.Name "abs" p) [a] [] pos) (dCallB dAbs (a1 ta)) := je_callB call_abs o_abs hg hm (by decide +kernel) (ja_cons ha ja_nil hs) (by decide) (by decide) hs hp
theorem je_len (hg : Gl X "len") (hm : X.mg "len" = none) (ha : JE X a ta) (hs : starEach [a] X.env = (false, eval a X.env) :: starEach [] X.env := by rfl) (hp : (backTo pos (starEach [] X.env)).any (·.1) = false := by rfl) : JE X (.Call (.Name "len" p) [a] [] pos) (dCallB dLen (a1 ta)) := je_callB call_len o_len hg hm PySem.boot_len (ja_cons ha ja_nil hs) (by decide) (by decide) hs hp
theorem je_int1 (hg : Gl X "int") (hm : X.mg "int" = none) (ha : JE X a ta) (hs : starEach [a] X.env = (false, eval a X.env) :: starEach [] X.env := by rfl) (hp : (backTo pos (starEach [] X.env)).any (·.1) = false := by rfl) : JE X (.Call (.Name "int" p) [a] [] pos) (dCallB dInt (a1 ta)) := je_callTy call_int1 o_int hg hm (by decide +kernel) (ja_cons ha ja_nil hs) (by decide) (by decide) hs hp
theorem je_strI (hg : Gl X "str") (hm : X.mg "str" = none) (ha : JE X a ta) (hs : starEach [a] X.env = (false, eval a X.env) :: starEach [] X.env := by rfl) (hp : (backTo pos (starEach [] X.env)).any (·.1) = false := by rfl) : JE X (.Call (.Name "str" p) [a] [] pos) (dCallB dStr (a1 ta)) := je_callTy call_str_int o_str hg hm (by decide +kernel) (ja_cons ha ja_nil hs) (by decide) (by decide) hs hp
theorem je_list1 (hg : Gl X "list") (hm : X.mg "list" = none) (ha : JE X a ta) (hs : starEach [a] X.env = (false, eval a X.env) :: starEach [] X.env := by rfl) (hp : (backTo pos (starEach [] X.env)).any (·.1) = false := by rfl) : JE X (.Call (.Name "list" p) [a] [] pos) (dCallB dList (a1 ta)) := je_callTy call_list_of o_list hg hm (by decide +kernel) (ja_cons ha ja_nil hs) (by decide) (by decide) hs hp
theorem je_list1P (hg : Gl X "list") (hm : X.mg "list" = none) (ha : JE X a ta) (hs : starEach [a] X.env = (false, eval a X.env) :: starEach [] X.env := by rfl) (hp : (backTo pos (starEach [] X.env)).any (·.1) = false := by rfl) : JE X (.Call (.Name "list" p) [a] [] pos) (dCallB dListP (a1 ta)) := je_callTy call_list_of o_listP hg hm (by decide +kernel) (ja_cons ha ja_nil hs) (by decide) (by decide) hs hp
theorem je_tuple1 (hg : Gl X "tuple") (hm : X.mg "tuple" = none) (ha : JE X a ta) (hs : starEach [a] X.env = (false, eval a X.env) :: starEach [] X.env := by rfl) (hp : (backTo pos (starEach [] X.env)).any (·.1) = false := by rfl) : JE X (.Call (.Name "tuple" p) [a] [] pos) (dCallB dTuple (a1 ta)) := je_callTy call_tuple_of o_tuple hg hm (by decide +kernel) (ja_cons ha ja_nil hs) (by decide) (by decide) hs hp
theorem je_repr {k : Nat} (hr : Room k X.A) (gd : X.A.guards = some []) (hg : Gl X "repr") (hm : X.mg "repr" = none) (ha : JE X a ta) (hs : starEach [a] X.env = (false, eval a X.env) :: starEach [] X.env := by rfl) (hp : (backTo pos (starEach [] X.env)).any (·.1) = false := by rfl) : JE X (.Call (.Name "repr" p) [a] [] pos) (dCallB dRepr (a1 ta)) := je_callB (call_reprD gd (units64 hr)) o_repr hg hm (by decide +kernel) (ja_cons ha ja_nil hs) (by decide) (by decide) hs hp
theorem je_min2 (hc : X.calm = true) (hg : Gl X "min") (hm : X.mg "min" = none) (ha : JE X a ta) (hb : JE X b tb) (hs : starEach [a, b] X.env = (false, eval a X.env) :: starEach [b] X.env := by rfl) (hs2 : starEach [b] X.env = (false, eval b X.env) :: starEach [] X.env := by rfl) (hp : (backTo pos (starEach [b] X.env)).any (·.1) = false := by rfl) :
    JE X (.Call (.Name "min" p) [a, b] [] pos) (dCallB dMin (a2 ta tb)) := je_callB (call_min2 hc) o_min hg hm (by decide +kernel) (ja_cons ha (ja_cons hb ja_nil hs2) hs) (by decide) (by decide) hs hp
theorem je_max2 (hc : X.calm = true) (hg : Gl X "max") (hm : X.mg "max" = none) (ha : JE X a ta) (hb : JE X b tb) (hs : starEach [a, b] X.env = (false, eval a X.env) :: starEach [b] X.env := by rfl) (hs2 : starEach [b] X.env = (false, eval b X.env) :: starEach [] X.env := by rfl) (hp : (backTo pos (starEach [b] X.env)).any (·.1) = false := by rfl) :
    JE X (.Call (.Name "max" p) [a, b] [] pos) (dCallB dMax (a2 ta tb)) := je_callB (call_max2 hc) o_max hg hm (by decide +kernel) (ja_cons ha (ja_cons hb ja_nil hs2) hs) (by decide) (by decide) hs hp
end
/-! ### isinstance against a built-in type -/
inductive Ky where | int | bool | str | list | tuple | dict
inductive Kd where | non | bl | int | str | tup | lst | dic
def Ky.nm : Ky → String
  | .int => "int" | .bool => "bool" | .str => "str" | .list => "list" | .tuple => "tuple" | .dict => "dict"
def Kd.nm : Kd → String
  | .non => "NoneType" | .bl => "bool" | .int => "int" | .str => "str" | .tup => "tuple" | .lst => "list" | .dic => "dict"
def isT : Ky → Kd → Bool
  | .int, .int => true | .int, .bl => true | .bool, .bl => true | .str, .str => true | .list, .lst => true | .tuple, .tup => true | .dict, .dic => true
  | _, _ => false
theorem isT_ok (k : Ky) (d : Kd) : kitB d.nm k.nm = some (isT k d) := by cases k <;> cases d <;> decide +kernel
def kd : D → Sto → Option Kd
  | .non, _ => some .non
  | .bl _, _ => some .bl
  | .int _, _ => some .int
  | .str _, _ => some .str
  | .tup _, _ => some .tup
  | .lst _, _ => some .lst
  | .fz _, _ => some .lst
  | .ptr i, m => match m[i]? with | some (.lst _) => some .lst | some (.dic _) => some .dic | _ => none
  | .ty _, _ => none
  | .dic _, _ => some .dic
  | .adr _, _ => none
  | .gl _, _ => none
theorem tyx_tup {K : PySem.W.Frag} {H : Hp} {a : Addr} {xs : List V} (h : SqT K H a xs) : TyX K H (.ref a) (.type "tuple") := by
  rcases h with (h | ⟨o, h⟩) | ⟨o, its, n, hk, hc, _⟩
  · exact .base (.tup h)
  · exact .fTuple h
  · exact .kTuple hk hc
theorem tyx_lst {K : PySem.W.Frag} {H : Hp} {a : Addr} {xs : List V} (h : SqL K H a xs) : TyX K H (.ref a) (.type "list") := by
  rcases h with (h | ⟨o, h⟩) | ⟨o, its, n, hk, hc, _⟩
  · exact .base (.lst h)
  · exact .base (.frz h)
  · exact .kList hk hc
theorem kd_ty {K : PySem.W.Frag} {W : Wd} {F H : Hp} {m : Sto} {x : V} {d : D} {k : Kd} (rel : Rel K W F H m) (rx : R K W x d) (e : kd d m = some k) : TyX K H x (.type k.nm) := by
  cases rx with
  | non => cases e; exact .base .non
  | bl b => cases e; exact .base (.bl b)
  | int i => cases e; exact .base (.int i)
  | str z => cases e; exact .base (.str z)
  | tup h r => cases e; exact tyx_tup (same_seqT rel.sub h)
  | lst h r => cases e; exact tyx_lst (SqL.of (rel.sub _ _ h))
  | fz h r => cases e; exact tyx_lst (same_seqL rel.sub h)
  | ty n => cases e
  | dic h r => cases e; exact .base (.dK (rel.sub _ _ h))
  | adr a => cases e
  | gl h => cases e
  | @ptr a i hb =>
    unfold kd at e
    cases q : m[i]? with
    | none => simp only [q] at e; cases e
    | some c =>
      cases c with
      | dead => simp only [q] at e; cases e
      | ins c fs => simp only [q] at e; cases e
      | dic es =>
        simp only [q] at e
        cases e
        obtain ⟨b, h1, h2, h3, xs, h4, h5⟩ := rel.cell i _ q (fun z => by cases z)
        obtain rfl : b = a := Option.some.inj (h1.symm.trans hb)
        exact .base (.dK h4)
      | lst es =>
        simp only [q] at e
        cases e
        have e' : lstOf (.ptr i) m = some es := by simp only [lstOf, q]
        obtain ⟨b, xs, h1, h2, h3⟩ := lstOf_at rel (R.ptr (K := K) hb) e'
        cases h1
        exact tyx_lst (SqL.of h2)
def dIsi (k : Ky) (te : DE) : DE := fun r m q => te r m fun x m1 => onS (kd x m1) fun d => q (.bl (isT k d)) m1
theorem je_isi (k : Ky) {X : Cx} {p p2 pos : Pos} {e : Expr} {te : DE} {nm : Str} (hg : Gl X "isinstance") (hm : X.mg "isinstance" = none) (he : JE X e te) (hg2 : Gl X nm) (hm2 : X.mg nm = none) (hv : bootBuiltins nm = some (.type k.nm))
    (hn2 : nm ≠ "__name__" := by decide) (hd2 : (nm == ("__debug__" : Str)) = false := by decide) (hs : starEach [e, .Name nm p2] X.env = (false, eval e X.env) :: starEach [.Name nm p2] X.env := by rfl)
    (hs2 : starEach [.Name nm p2] X.env = (false, eval (.Name nm p2) X.env) :: starEach [] X.env := by rfl) (hp : (backTo pos (starEach [.Name nm p2] X.env)).any (·.1) = false := by rfl) :
    JE X (.Call (.Name "isinstance" p) [e, .Name nm p2] [] pos) (dIsi k te) :=
  pe_wk (pe_callB call_isi hg hm (by decide +kernel) (pa_cons he (pa_cons (pe_bltn (v := .ty k.nm) hg2 hm2 hv rfl hn2 hd2) pa_nil hs2) hs) (by decide) (by decide) hs hp) fun s H Q ⟨W, F, m, r, q, rel, rs, h, kk⟩ => by
    refine ⟨W, F, m, r, _, rel, rs, h, fun W1 H1 m1 v d l1 rel1 rv hq => ?_⟩
    obtain ⟨d', e1, hq⟩ := onS_some hq
    exact ⟨v, .ty k.nm, .type d'.nm, .type k.nm, isT k d', rfl, .ty _, kd_ty rel1 rv e1, kit_ty (isT_ok k d'), kk W1 H1 m1 _ _ l1 rel1 (.bl _) hq⟩
/-! ### xs.append(e) -/
def dApp (to te : DE) : DE := fun r m q => to r m fun x m1 => match x with
  | .ptr j => onS (lstOf (.ptr j) m1) fun _ => te r m1 fun y m2 => onS (lstOf (.ptr j) m2) fun ds => ds.length ≤ 1000000 ∧ q .non (m2.set j (.lst (ds ++ [y])))
  | _ => False
theorem mil_line : (1000000 : Nat) < sizeLine := by rw [sizeLine_eq]; decide
theorem je_append {X : Cx} {o e : Expr} {to te : DE} {apos cpos : Pos} (ho : JE X o to) (he : JE X e te) (hbase : attributeBase o "append" X.env (eval o X.env) = eval o X.env := by rfl)
    (hfew : ((backTo cpos (starEach (e :: []) X.env)).all (fun x => !x.1) && (backToKw cpos (keywordEach [] X.env)).all (fun x => x.1.isSome)
      && decide ((e :: []).length + ([] : List Keyword).length + (if ([] : List Keyword).isEmpty then 0 else 1) < 30)) = true := by rfl)
    (hline : (apos.endLine == cpos.line) = true := by rfl) (hs : starEach [e] X.env = (false, eval e X.env) :: starEach [] X.env := by rfl) (hp : (backTo cpos (starEach [] X.env)).any (·.1) = false := by rfl) :
    JE X (.Call (.Attribute o "append" apos) [e] [] cpos) (dApp to te) :=
  pe_wk (pe_bm PySem.F.plainAttrs_list PySem.F.slot_list_append PySem.F.type_list_append mt_append ho (pa_cons he pa_nil hs) hbase hfew hline hs hp) fun s H Q ⟨W, F, m, r, q, rel, rs, h, k⟩ => by
    refine ⟨W, F, m, r, _, rel, rs, h, fun W1 H1 m1 v d l1 rel1 rv hq => ?_⟩
    cases d with
    | ptr j =>
      obtain ⟨es, e1, hq⟩ := onS_some hq
      obtain ⟨b, xs, rfl, g1, g2⟩ := lstOf_at rel1 rv e1
      refine ⟨.inl ⟨rfl, xs, SqL.of g1⟩, W1, F, m1, r, _, rel1, rs.mono l1, hq, fun W2 H2 m2 u y l2 rel2 ru hq2 => ?_⟩
      obtain ⟨ds, e2, hz, hq2⟩ := onS_some hq2
      obtain ⟨b', ys, e3, g3, g4, g5⟩ := cell_write (ds' := ds ++ [y]) rel2 (rv.mono l2) e2
      cases e3
      exact ⟨b, ys, u, rfl, rfl, g3, by rw [g4.len]; exact Nat.lt_of_le_of_lt hz mil_line, k _ _ _ _ _ (l1.trans l2) (g5 _ (g4.app (.cons ru .nil))) .non hq2⟩
    | _ => exact hq.elim
end
/-! ### defs -/
/-- a def's promise: guards are told besides -/
structure FnG (P : Program) (w : World) (K : PySem.W.Frag) (mg : Str → Option Value) (base : Heap) (k : Nat) (f : Addr) (fd : FuncData) (ps : List Str) (sp : Sp) : Prop where
  len : ∀ vs H Q E, sp vs H Q E → vs.length = ps.length
  run : ∀ (A : Around) (outer : List Env) (s : Shared) (H : Hp) (args : Args) (us : List Value) (vs : List V) (Q : VK) (E : XK), Room k A → A.guards = some [] → Env0 P w K mg base A outer s H →
    BindsTo s fd args (ps.zip us) → Vals vs us → sp vs H Q E → codeAny (model P w) A (.call (.ref f) args) (CR (L2.CX P w) outer P w H s Q E) s
abbrev NoX : XK := fun _ _ _ => False
theorem passF {X : Cx} : Passes (L2.CX X.prog X.w) X NoX := fun _ _ _ _ _ _ _ ⟨_, _, _, _, _, _, _, _, _, _, _, _, z⟩ => z.elim
section
variable {P : Program} {w : World} {K : PySem.W.Frag} {mg : Str → Option Value} {base : Heap}
/-- by its body -/
theorem fnG {x qual : Str} {st : Stmt} {f : Addr} {fd : FuncData} {N ps : List Str} {k : Nat} {sp : Sp} (F : L2.Fun K x qual st f fd) (S : FnScope N ps (defScope st)) (len : ∀ vs H Q E, sp vs H Q E → vs.length = ps.length)
    (body : ∀ (cdv : Value) (A : Around) (outer : List Env) (s : Shared) (H : Hp) (vs : List V) (Q : VK) (E : XK), Room k (A.deeper (envOfC qual (defScope st) s.heap.objs.size f cdv)) → A.guards = some [] → sp vs H Q E →
      ∃ t, PSs (cxOf (L2.CX P w) P w K mg base N qual (defScope st) f cdv A outer s H E) (defBody st) t ∧ t { nx := fun _ H' => Q .non H', rt := Q } (L2.start N vs) H) : FnG P w K mg base (k + 1) f fd ps sp where
  len := len
  run := by
    obtain ⟨oc, od, kV, doc, pm, an, cdv, ct, osl, rfl, lk, hcd⟩ := F.ex
    intro A outer s H args us vs Q E hr gd e0 hb r hsp
    have nvs : vs.length = ps.length := len _ _ _ _ hsp
    have inK : K.In s.heap := e0.mod.kin.keeps fun b o q => (e0.bs b o q).1
    have nolim : s.heap.NoLimit := e0.mod.nolimit.keeps fun b o q => (e0.bs b o q).1
    have kinds : ∀ y ∈ ps.zip us, (defScope st).names.lookup y.1 = some .local ∨ ((defScope st).names.lookup y.1 = some .cell ∧ ((cellsFrom (s.heap.objs.size + 1) (defScope st).names []).lookup y.1).isSome = true) := by
      rintro ⟨nm, v⟩ hy
      have hp : nm ∈ ps := (List.of_mem_zip hy).1
      cases S.par nm hp with
      | inl q => exact .inl q
      | inr q => exact .inr ⟨q, PySem.W.cellsFrom_some _ _ _ (.inl q)⟩
    apply codeAny_call_function hr.depth (inK _ _ lk) rfl S.co S.gen rfl (PySem.W.codeRec_of inK hcd)
    apply hb
    refine wpAny_newFunctionEnv_cells S.kind kinds ?_
    intro env he s1 x
    subst he
    refine ⟨nolim.keeps x.toInCall.keep, codeAny_func ?_⟩
    have hr' : Room k (A.deeper (envOfC qual (defScope st) s.heap.objs.size f cdv)) := hr.deeper _
    obtain ⟨t, ht, hq⟩ := body cdv A outer s H vs Q E hr' gd hsp
    have I := inv_start (CX := L2.CX P w) (cd := cdv) (f := f) (E := E) S hr.hd e0 nvs r x
    refine wpAny_mono (ht.run [] s1 (L2.start N vs) H _ I hq) ?_ (fun _ _ z => z)
    intro fl s' hs
    cases fl with
    | ret u =>
      obtain ⟨v, σ', H', J, rv, q⟩ := hs
      exact ⟨v, H', J.os, J.bare, J.base, J.hok, rv, q⟩
    | next =>
      obtain ⟨σ', H', J, q⟩ := hs
      exact ⟨.non, H', J.os, J.bare, J.base, J.hok, rfl, q⟩
    | brk => exact hs.choose_spec.choose_spec.2.elim
    | cont => exact hs.choose_spec.choose_spec.2.elim
end
/-- what follows, in any relation -/
def Fol0 (K : PySem.W.Frag) (W : Wd) (F : Hp) (q : D → Sto → Prop) (Q : VK) : Prop := ∀ W' H' m' v d, W.Le W' → Rel0 K W' F H' m' → R K W' v d → q d m' → Q v H'
theorem Fol.to0 [Lk] {K : PySem.W.Frag} {W : Wd} {F H : Hp} {m : Sto} {q : D → Sto → Prop} {Q : VK} (k : Fol K W F q Q) (r : Rel K W F H m) : Fol0 K W F q Q := fun _ _ _ _ _ l h => k _ _ _ _ _ l (r.of l h)
/-- the promise by data: nothing is raised -/
def spOf (K : PySem.W.Frag) (n : Nat) (f : FN) : Sp := fun vs H Q _ => vs.length = n ∧ ∃ (W : Wd) (F : Hp) (m : Sto) (ds : List D) (q : D → Sto → Prop), Rel0 K W F H m ∧ RA K W vs ds ∧ f ds m q ∧ Fol0 K W F q Q
structure Kn (P : Program) (w : World) (K : PySem.W.Frag) (mg : Str → Option Value) (base : Heap) (k : Nat) (x : Str) (f : FN) : Prop where
  ex : ∃ (n : Nat) (fa : Addr) (fd : FuncData) (ps : List Str), FnG P w K mg base k fa fd ps (spOf K n f) ∧ mg x = some (.ref fa) ∧ PySem.W.keepIn K (.ref fa) = true ∧ Binds K fd ps [] ∧ ∀ ds m q, f ds m q → ds.length = n
section
variable {X : Cx} {pins : List (Addr × Obj)} {σ : L2.St} {H : Hp} {s : Shared} {Q : VK} {us : List Value} {vs : List V} {k j : Nat} {fa : Addr} {fd : FuncData} {ps : List Str} {sp : Sp} {E : XK}
theorem run_g (F : FnG X.prog X.w X.K X.mg X.base k fa fd ps sp) (hr : Room k X.A) (gd : X.A.guards = some []) (hb : Binds X.K fd ps []) (hx : Passes (L2.CX X.prog X.w) X E) (I : Inv X pins σ H s) (r : Vals vs us) (h : sp vs H Q E) :
    wpAny (model X.prog X.w) X.A (call (.ref fa) us) (EP X pins σ Q) X.xe s := by
  have nn : us.length = ps.length := by rw [← r.length]; exact F.len _ _ _ _ h
  have bnd : BindsTo s fd ⟨us, []⟩ (ps.zip us) := by
    have z := hb s us I.kIn (by rw [List.append_nil]; exact nn)
    rw [List.append_nil] at z
    exact z
  have go := F.run X.A X.stack s H ⟨us, []⟩ us vs Q E hr gd I.env0 bnd r h
  refine wpAny_call (codeAny_mono go ?_)
  intro res s' hq
  match res, hq with
  | .error e, hq => exact hx pins σ H s e s' I hq
  | .ok (.ret u), hq => exact I.after hq
  | .ok .next, hq => exact hq.elim
  | .ok .brk, hq => exact hq.elim
  | .ok .cont, hq => exact hq.elim
variable {x : Str} {p pos : Pos} {e : Expr} {es : List Expr} {t : DA} {f : FN}
theorem je_call [Lk] (c : Kn X.prog X.w X.K X.mg X.base k x f) (hr : Room j X.A) (hk : k ≤ j) (gd : X.A.guards = some []) (hg : Gl X x) (ha : JA X (e :: es) t) (hdb : (x == ("__debug__" : Str)) = false := by decide)
    (he : starEach (e :: es) X.env = (false, eval e X.env) :: starEach es X.env := by rfl) (hpl : (backTo pos (starEach es X.env)).any (·.1) = false := by rfl) : JE X (.Call (.Name x p) (e :: es) [] pos) (dCallB f t) := by
  obtain ⟨n, fa, fd, ps, F, hm, kp, hb, har⟩ := c.ex
  refine ⟨fun pins s sg H Q I h => wpAny_Call_Name_kw (ld_glob I hg hm ?_ hdb)⟩
  have h' := call_wk (rr := fun vs H Q => spOf X.K n f vs H Q NoX) (fun W F' H' m xs ds q Q' rel ra hf kk => ⟨by rw [ra.len]; exact har _ _ _ hf, W, F', m, ds, q, rel.toRel0, ra, hf, kk.to0 rel⟩) sg H Q h
  refine PySem.W.callWith_K (h₀ := X.base) I.ok.mod.kin kp ?_ he hpl
  refine thn (ha.run pos pins s sg H _ I h') ?_
  intro us s1 ⟨vs, H1, I1, r, q⟩
  exact ⟨I1.kIn, run_g F (hr.mono hk) gd hb passF I1 r q⟩
end
/-- a def by data: its body's derivation, and its reading at the arguments -/
def startD (N : List Str) (ds : List D) : DSt := ds.map some ++ List.replicate (N.length - ds.length) none
theorem start_rst {K : PySem.W.Frag} {W : Wd} {N : List Str} {vs : List V} {ds : List D} (r : RA K W vs ds) : RSt K W (L2.start N vs) (startD N ds) := by
  unfold L2.start startD
  rw [r.len]
  have base : ∀ n, RSt K W (List.replicate n none) (List.replicate n none) := fun n => by
    induction n with
    | zero => exact .nil
    | succ n ih => exact .no ih
  have go : ∀ {us : List V} {es : List D} (n : Nat), RA K W us es → RSt K W (us.map some ++ List.replicate n none) (es.map some ++ List.replicate n none) := fun {us es} n q => by
    induction us generalizing es with
    | nil => cases q; exact base n
    | cons u us ih => cases q with | cons h q => exact .yes h (ih q)
  exact go _ r
section
variable {P : Program} {w : World} {K : PySem.W.Frag} {mg : Str → Option Value} {base : Heap}
theorem defG {x qual : Str} {st : Stmt} {f : Addr} {fd : FuncData} {N ps : List Str} {k n : Nat} {t : DS} {g : FN} (F : L2.Fun K x qual st f fd) (S : FnScope N ps (defScope st)) (hn : ps.length = n)
    (body : ∀ [Lk] (cdv : Value) (A : Around) (outer : List Env) (s : Shared) (H : Hp) (E : XK), Room k (A.deeper (envOfC qual (defScope st) s.heap.objs.size f cdv)) → A.guards = some [] →
      JSs (cxOf (L2.CX P w) P w K mg base N qual (defScope st) f cdv A outer s H E).nox (defBody st) t)
    (h : ∀ ds m q, ds.length = n → g ds m q → t { nx := fun _ m' => q .non m', rt := q } (startD N ds) m) : FnG P w K mg base (k + 1) f fd ps (spOf K n g) := by
  refine fnG F S (fun vs H Q E z => z.1.trans hn.symm) fun cdv A outer s H vs Q E hr gd z => ?_
  obtain ⟨hl, W, F', m, ds, q, rel, ra, hg, kk⟩ := z
  letI : Lk := ⟨W, F'⟩
  refine ⟨liftS K t, (body cdv A outer s H E hr gd).nox, ?_⟩
  refine ⟨W, F', m, startD N ds, _, ⟨rel, .refl _, Same.refl _⟩, start_rst ra, h ds m q (by rw [← ra.len]; exact hl) hg, ⟨?_, ?_, ?_, ?_⟩⟩
  · exact fun W' H' m' _ _ l rel' _ hq => kk W' H' m' _ _ l rel'.toRel0 .non hq
  · exact fun W' H' m' v d l rel' rv hq => kk W' H' m' v d l rel'.toRel0 rv hq
  · exact fun _ _ _ _ _ _ _ _ z => z
  · exact fun _ _ _ _ _ _ _ _ z => z
theorem kn_of {x : Str} {st : Stmt} {f : Addr} {fd : FuncData} {ps : List Str} {k n : Nat} {g : FN} (F : L2.Fun K x x st f fd) (hm : mg x = some (.ref f)) (b : Binds K fd ps []) (G : FnG P w K mg base k f fd ps (spOf K n g)) (ar : ∀ ds m q, g ds m q → ds.length = n) : Kn P w K mg base k x g :=
  ⟨n, f, fd, ps, G, hm, F.kp, b, ar⟩
end
/-! ### the end of a law -/
/-- what a law is asked: a script of at most 63 ints, an empty store; it answers True -/
def lawD : FN := fun ds m q => ∃ ns : List Int, ds = [.fz (ns.map D.int)] ∧ ns.length ≤ 63 ∧ m = [] ∧ ∀ m', q (.bl true) m'
theorem ra_ints {K : PySem.W.Frag} {W : Wd} : ∀ ns : List Int, RA K W (ns.map V.int) (ns.map D.int)
  | [] => .nil
  | n :: ns => .cons (.int n) (ra_ints ns)
theorem law_end {P : Program} {w : World} {K : PySem.W.Frag} {mg mb : Str → Option Value} {k : Nat} {fa a : Addr} {fd : FuncData} {x : Str} {s0 : Shared} {vs : List Value} {ns : List Int}
    (inK : K.In s0.heap) (gl : s0.heap.Ns mainGlobals mg) (bl : s0.heap.Ns builtinsNs mb) (bb : ∀ x : Str, x ≠ "__name__" → mb x = bootBuiltins x) (nolim : s0.heap.NoLimit) (ng : s0.gens = #[])
    (obj : s0.heap.get? a = some { cls := .type "list", data := .seq vs.toArray }) (hi : IntsAre vs ns) (nl : ns.length ≤ 63) (hr : Room k callerA)
    (F : ∀ base : Heap, K.In base → base.Ns mainGlobals mg → FnG P w K mg base k fa fd [x] (spOf K 1 lawD)) (bnd : ∀ (s : Shared) (u : Value), BindsTo s fd ⟨[u], []⟩ [(x, u)]) :
    codeAny (model P w) callerA (.call (.ref fa) ⟨[.ref a], []⟩) (fun r s' => r = .ok (.ret (.bool true)) ∧ OldK s0.heap s'.heap ∧ s'.os = s0.os ∧ AllBare s'.gens) s0 := by
  have rv := vals_ints hi
  have nv := hi.length
  have nsz : ns.length ≤ sizeLine := small_len (by omega)
  obtain ⟨H, hH⟩ : ∃ H : Hp, H = fun b => if b = a ∧ K.lookup a = none then some (HO.frz { cls := .type "list", data := .seq vs.toArray } (.lst (ns.map V.int))) else none := ⟨_, rfl⟩
  have cases2 : ∀ b, H b = none ∨ (b = a ∧ K.lookup a = none ∧ H b = some (HO.frz { cls := .type "list", data := .seq vs.toArray } (.lst (ns.map V.int)))) := by
    intro b
    by_cases z : b = a ∧ K.lookup a = none
    · exact .inr ⟨z.1, z.2, by rw [hH]; exact if_pos z⟩
    · exact .inl (by rw [hH]; exact if_neg z)
  have isSeq : SqL K H a (ns.map V.int) := by
    cases q : K.lookup a with
    | none => exact .inl (.inr ⟨{ cls := .type "list", data := .seq vs.toArray }, by rw [hH]; exact if_pos ⟨rfl, q⟩⟩)
    | some o =>
      have e1 := inK a o q
      rw [obj] at e1
      cases e1
      exact .inr ⟨_, vs.toArray, _, q, rfl, rfl, rfl, by rw [List.size_toArray, nv]; exact nsz, by simpa using rv⟩
  have okH : HOk P w H s0.heap := by
    intro b u z
    rcases cases2 b with q | ⟨e1, _, q⟩
    · rw [q] at z; cases z
    · rw [q] at z
      cases z
      subst e1
      exact ⟨obj, by rw [List.length_map]; exact nsz, vs, _, rv, obj⟩
  have dictless : ∀ {b : Addr} {o : Obj} {es : Array DictEntry} {ep : Nat}, s0.heap.get? b = some o → o.data = .dict es ep → H b = none := by
    intro b o es ep e1 e2
    rcases cases2 b with q | ⟨e3, _, _⟩
    · exact q
    · subst e3
      rw [obj] at e1
      cases e1
      have z : Data.seq vs.toArray _ = Data.dict es ep := e2
      cases z
  have down : ∀ {b : Addr} {mm : Str → Option Value}, s0.heap.Ns b mm → (hidT s0.heap H).Ns b mm := by
    rintro b mm ⟨o, es, ep, e1, e2, r⟩
    exact ⟨o, es, ep, hidT_get e1 (dictless e1 e2), e2, r⟩
  have inB : K.In (hidT s0.heap H) := by
    intro b o q
    refine hidT_get (inK b o q) ?_
    rcases cases2 b with z | ⟨e1, e2, _⟩
    · exact z
    · subst e1
      rw [e2] at q; cases q
  have md : Mod K mg (hidT s0.heap H) := by
    obtain ⟨mc, h1, h2⟩ := nolim
    exact ⟨inB, down gl, ⟨mb, down bl, bb⟩, ⟨mc, down h1, h2⟩⟩
  have nofr : ∀ b : Addr, b ∉ frs ([] : List Env) := fun b z => by
    have z' : b ∈ ([] : List Addr) := z
    cases z'
  have env : Env0 P w K mg (hidT s0.heap H) callerA [] s0 H := ⟨rfl, md, fun b o e1 => of_hidT e1, Nat.le_of_eq (hidT_size _ _), trivial, fun b z => absurd z (nofr b), okH, .of_eq ng⟩
  have ask : spOf K 1 lawD [.ref a] H (fun v _ => v = .bl true) NoX := by
    refine ⟨rfl, ⟨[], H⟩, fun _ => none, [], [.fz (ns.map D.int)], fun d _ => d = .bl true, ⟨Same.refl _, ?_, ?_, rfl, ?_, ?_⟩, .cons (.fz isSeq (ra_ints ns)) .nil, ⟨ns, rfl, nl, rfl, fun _ => rfl⟩, ?_⟩
    · intro b o z; cases z
    · intro b o z; cases z
    · intro i c z; simp at z
    · intro i j c d d' z; simp at z
    · intro W' H' m' v d _ _ r e1
      subst e1
      cases r
      rfl
  have go := (F _ inB (down gl)).run callerA [] s0 H ⟨[.ref a], []⟩ [.ref a] [.ref a] _ _ hr rfl env (bnd s0 (.ref a)) (.cons rfl .nil) ask
  refine codeAny_mono go ?_
  intro r s' h
  match r, h with
  | .error e, ⟨_, _, _, _, _, _, _, _, _, _, _, _, z⟩ => exact z.elim
  | .ok .next, h => exact h.elim
  | .ok .brk, h => exact h.elim
  | .ok .cont, h => exact h.elim
  | .ok (.ret u), ⟨v, H', os, bare, un, ok', r', q⟩ =>
    have q' : v = .bl true := q
    subst q'
    have eu : u = Value.bool true := r'
    subst eu
    refine ⟨rfl, OldK.of_keep ?_, os, bare⟩
    intro b o e1
    rcases cases2 b with z | ⟨_, _, z⟩
    · exact un.keep b o e1 z (nofr b) (by simp)
    · have z2 := un.frzs b _ _ z
      obtain ⟨g1, _⟩ := okH b _ z
      obtain ⟨g2, _⟩ := ok' b _ z2
      rw [e1] at g1
      cases g1
      exact g2
theorem walkG {l : PySem.W.OpenLaw} {k : Nat} {q : Program} {loose : List Str} {XP : (Str → Option Value) → Heap → Prop} {YP : World → Heap → Prop} {d : DefRec} {K : Params → PySem.W.Frag} {x : Str}
    (hn : l.most = some 63) (hdf : d.params.defaults = []) (hr : Room k callerA) (hY : ∀ (w : World) (h : Heap), YP w h → (K w.params).In h)
    (F : ∀ (w : World) (mg : Str → Option Value) (fa : Addr) (h : Heap), (K w.params).In h → h.Ns mainGlobals mg → mg d.name = some (.ref fa) →
      ∃ fd : FuncData, (∀ (s : Shared) (u : Value), BindsTo s fd ⟨[u], []⟩ [(x, u)]) ∧ ∀ base : Heap, (K w.params).In base → base.Ns mainGlobals mg → FnG l.prog w (K w.params) mg base k fa fd [x] (spOf (K w.params) 1 lawD)) :
    PySem.W.WalkO q loose XP YP l.row.toRowW d [] (fun f vs => PySem.call f vs) := by
  apply Att.attach_call hn hdf
  intro w s0 s1 mg mb fa o pm cd doc a vs ns G Y ho hd hcd hmg hobj hints hlen hg
  have inK := hY w _ Y
  obtain ⟨fd, hb, hF⟩ := F w mg fa _ inK G.T.g hmg
  exact law_end inK G.T.g G.T.b G.T.builtins G.T.nolimit hg hobj hints hlen hr hF hb
end DL
/-! Data layer, part 5: reading by simp; common defs of the laws: the bag, its drawn numbers, gcd loops. -/
namespace DL
open PySem PySem.Spec PyProof.Rows L2
theorem lstOf_set {m : Sto} {b : Nat} {ds : List D} (h : b < m.length) : lstOf (.ptr b) (m.set b (.lst ds)) = some ds := by
  simp only [lstOf, List.getElem?_set_self h]
theorem lstOf_ptr {m : Sto} {b : Nat} {ds : List D} (h : m[b]? = some (.lst ds)) : lstOf (.ptr b) m = some ds := by
  simp only [lstOf, h]
theorem seqL_lst {m : Sto} {ds : List D} : seqL (.lst ds) m = some ds := rfl
theorem seqL_fz {m : Sto} {ds : List D} : seqL (.fz ds) m = some ds := rfl
theorem lstOf_lst {m : Sto} {ds : List D} : lstOf (.lst ds) m = some ds := rfl
theorem items_lst {m : Sto} {ds : List D} : items (.lst ds) m = some (ds, none) := rfl
theorem items_tup {m : Sto} {ds : List D} : items (.tup ds) m = some (ds, none) := rfl
theorem items_ptr {m : Sto} {b : Nat} {ds : List D} (h : m[b]? = some (.lst ds)) : items (.ptr b) m = some (ds, some (b, ds)) := by simp only [items, h]
theorem seqL_ptr {m : Sto} {b : Nat} : seqL (.ptr b) m = lstOf (.ptr b) m := rfl
theorem atI_0 {α : Type} {x : α} {r : List α} : atI (x :: r) 0 = some x := atI_nat (j := 0) rfl
theorem atI_1 {α : Type} {x y : α} {r : List α} : atI (x :: y :: r) 1 = some y := atI_nat (j := 1) rfl
theorem atI_2 {α : Type} {x y z : α} {r : List α} : atI (x :: y :: z :: r) 2 = some z := atI_nat (j := 2) rfl
theorem atI_3 {α : Type} {x y z w : α} {r : List α} : atI (x :: y :: z :: w :: r) 3 = some w := atI_nat (j := 3) rfl
theorem atI_4 {α : Type} {x y z w v : α} {r : List α} : atI (x :: y :: z :: w :: v :: r) 4 = some v := atI_nat (j := 4) rfl
theorem onS_mk {α : Type} {a : α} {k : α → Prop} : onS (some a) k = k a := rfl
theorem cond_true {A B : Prop} : ((true = true → A) ∧ (true = false → B)) = A := by simp
theorem cond_false {A B : Prop} : ((false = true → A) ∧ (false = false → B)) = B := by simp
theorem cond_dec {p : Prop} [Decidable p] {A B : Prop} : ((decide p = true → A) ∧ (decide p = false → B)) = ((p → A) ∧ (¬ p → B)) := by simp
theorem cond_ndec {p : Prop} [Decidable p] {A B : Prop} : (((!decide p) = true → A) ∧ ((!decide p) = false → B)) = ((¬ p → A) ∧ (p → B)) := by simp
theorem len_le_1000 {n : Nat} {A : Prop} (h : n ≤ 1000) : (n ≤ 1000 ∧ A) = A := by simp [h]
end DL
local macro_rules | `(tactic| walk_at "dn") => `(tactic| simp only [DL.dSeq, DL.dIf, DL.dTest, DL.dBin, DL.dUn, DL.dCallB, DL.dVar, DL.dC, DL.dCons, DL.dNil, DL.a1, DL.a2, DL.dTup, DL.dLst, DL.dLstP, DL.dAsg, DL.gN, DL.gsC, DL.gsN, DL.gT, DL.gIx, DL.dPar, DL.dAug, DL.dAugIx, DL.dSub, DL.dMul, DL.dMod, DL.dDiv, DL.dPow, DL.dLt, DL.dLe, DL.dGt, DL.dGe, DL.dI0, DL.dI2, DL.dB0, DL.dNeg,
  DL.dEq, DL.dNe, DL.dIx, DL.dAdd, DL.dAnd, DL.dOr, DL.dNot, DL.dIfE, DL.dTNot, DL.dTAnd, DL.dTOr, DL.dRet, DL.dRetN, DL.dDrop, DL.dNext, DL.dNever, DL.dBreak, DL.dCont, DL.slot, DL.put, DL.onS_mk, DL.dIsi, DL.kd, DL.isT, DL.dAbs, DL.dLen, DL.dInt, DL.dMin, DL.dMax, DL.dApp, DL.dChain, DL.seqL_lst, DL.seqL_fz, DL.seqL_ptr, DL.lstOf_lst, DL.dFor, DL.dIter, DL.dYes,
  DL.startD, List.map_cons, List.map_nil, List.length_cons, List.length_nil, List.replicate, List.cons_append, List.nil_append, Nat.reduceAdd, Nat.reduceSub, Nat.reduceLeDiff, true_and, and_true, DL.cond_dec, DL.cond_ndec, Bool.not_true, Bool.not_false, true_imp_iff, false_imp_iff, Bool.false_eq_true, Bool.true_eq_false, not_true_eq_false, not_false_eq_true, Int.cast_ofNat_Int, DL.atI_0, DL.atI_1, DL.atI_2, DL.atI_3, DL.atI_4, List.set_cons_zero, List.set_cons_succ])
namespace DL
open PySem PySem.Spec PyProof.Rows L2
/-! ### the gcd loop -/
def t_lowest : DS :=
    (dSeq (dIf (dTest (dBin dLt (dVar 1) (dC (.int 0)))) (dPar 0 1 (dCons (dUn dNeg (dVar 0)) (dCons (dUn dNeg (dVar 1)) dNil))) dNext)
    (dSeq (dPar 2 3 (dCons (dVar 1) (dCons (dCallB dAbs (a1 (dVar 0))) dNil)))
    (dSeq (dWhile (dTest (dBin dGt (dVar 3) (dC (.int 0)))) (dPar 2 3 (dCons (dVar 3) (dCons (dBin dMod (dVar 2) (dVar 3)) dNil))))
    (dRet (dTup (dCons (dBin dDiv (dVar 0) (dVar 2)) (dCons (dBin dDiv (dVar 1) (dVar 2)) dNil)))))))
theorem gcd_step (a b : Int) (ha : 0 ≤ a) (hb : 0 < b) : Int.gcd b (a % b) = Int.gcd a b := by
  obtain ⟨x, rfl⟩ := Int.eq_ofNat_of_zero_le ha
  obtain ⟨y, rfl⟩ := Int.eq_ofNat_of_zero_le (Int.le_of_lt hb)
  rw [← Int.natCast_emod]
  show Nat.gcd y (x % y) = Nat.gcd x y
  rw [Nat.gcd_comm y, ← Nat.gcd_rec y x, Nat.gcd_comm]
theorem gcd_loop (d : DEnds) (m : Sto) (x y : Option D) (a b : Int) (ha : 0 ≤ a) (hb : 0 ≤ b) (h : d.nx [x, y, some (.int (Int.gcd a b)), some (.int 0)] m) :
    dWhile (dTest (dBin dGt (dVar 3) (dC (.int 0)))) (dPar 2 3 (dCons (dVar 3) (dCons (dBin dMod (dVar 2) (dVar 3)) dNil))) d [x, y, some (.int a), some (.int b)] m := by
  refine while_i ⟨fun n r m' => m' = m ∧ ∃ a' b' : Int, r = [x, y, some (.int a'), some (.int b')] ∧ 0 ≤ a' ∧ 0 ≤ b' ∧ Int.gcd a' b' = Int.gcd a b ∧ n = b'.toNat, ⟨_, rfl, a, b, rfl, ha, hb, rfl, rfl⟩, ?_⟩
  rintro n r m' ⟨rfl, a', b', rfl, h1, h2, h3, rfl⟩
  walk_at "dn"
  refine ⟨fun hp => ⟨hp, (a' % b').toNat, ?_, b', a' % b', rfl, h2, Int.emod_nonneg _ (by omega), ?_, rfl⟩, fun hp => ?_⟩
  · have := Int.emod_lt_of_pos a' hp
    have := Int.emod_nonneg a' (show b' ≠ 0 by omega)
    omega
  · rw [gcd_step a' b' h1 hp, h3]
  · have e : b' = 0 := by omega
    subst e
    rw [Int.gcd_zero_right] at h3
    have e2 : a' = (Int.gcd a b : Int) := by omega
    rw [e2]
    exact h
theorem abs_if (t : Int) : (if t < 0 then -t else t) = (t.natAbs : Int) := by split <;> omega
theorem gcd_abs (a b : Int) : Int.gcd a (b.natAbs : Int) = Int.gcd a b := by
  simp [Int.gcd]
theorem abs_gcd (a b : Int) : Int.gcd (a.natAbs : Int) b = Int.gcd a b := by
  simp [Int.gcd]
/-- a whole number below 2 ^ n -/
@[irreducible] def Sm (n : Nat) (b : Int) : Prop := b.natAbs < 2 ^ n
theorem Sm.lt {n : Nat} {i : Int} (h : Sm n i) : i.natAbs < 2 ^ n := by unfold Sm at h; exact h
theorem Sm.of {n : Nat} {i : Int} (h : i.natAbs < 2 ^ n) : Sm n i := by unfold Sm; exact h
theorem sm_zero {n : Nat} : Sm n 0 := Sm.of (Nat.pow_pos (by decide))
theorem sm {k n : Nat} {i : Int} (h : i.natAbs < 2 ^ k) (hk : k ≤ n) : Sm n i := Sm.of <| Nat.lt_of_lt_of_le h (Nat.pow_le_pow_right (by decide) hk)
theorem Sm.mono {k n : Nat} {i : Int} (h : Sm k i) (hk : k ≤ n) : Sm n i := sm h.lt hk
theorem Sm.mul {k n : Nat} {i j : Int} (h : Sm k i) (h' : Sm n j) : Sm (k + n) (i * j) := Sm.of (wide_lt h.lt h'.lt)
theorem sm_abs {k n : Nat} {i : Int} {b : Nat} (h : i.natAbs ≤ b) (hb : b < 2 ^ k) (hk : k ≤ n) : Sm n i := sm (Nat.lt_of_le_of_lt h hb) hk
/-- a fraction's data -/
abbrev fr (t b : Int) : D := .tup [.int t, .int b]
def lowT (t b : Int) : Int := (if b < 0 then -t else t) / (Int.gcd t b : Int)
def lowB (t b : Int) : Int := (if b < 0 then -b else b) / (Int.gcd t b : Int)
@[irreducible] def g_lowest : FN := fun ds m q => ∃ t b : Int, ds = [.int t, .int b] ∧ b ≠ 0 ∧ Sm 8900 b ∧ q (fr (lowT t b) (lowB t b)) m
theorem i_lowest {t b : Int} {m : Sto} {q : D → Sto → Prop} (hb : b ≠ 0) (hz : Sm 8900 b) (h : q (fr (lowT t b) (lowB t b)) m) : g_lowest [.int t, .int b] m q := by unfold g_lowest; exact ⟨t, b, rfl, hb, hz, h⟩
theorem ar_lowest : ∀ ds m q, g_lowest ds m q → ds.length = 2 := by
  unfold g_lowest
  rintro _ m q ⟨t, b, rfl, _⟩; rfl
theorem gcd_pos (t b : Int) (hb : b ≠ 0) : 0 < (Int.gcd t b : Int) := by
  have : 0 < Int.gcd t b := Int.gcd_pos_iff.mpr (.inr hb)
  omega
theorem gcd_small (t b : Int) (hb : b ≠ 0) {n : Nat} (h : b.natAbs < 2 ^ n) : ((Int.gcd t b : Nat) : Int).natAbs < 2 ^ n := by
  have h1 : Int.gcd t b ≤ b.natAbs := Nat.le_of_dvd (by omega) (Nat.gcd_dvd_right _ _)
  omega
theorem gcd_div_ok {x : Int} (t b : Int) (hb : b ≠ 0) (h : Sm 8900 b) : CDivW x (Int.gcd t b : Int) := wide_div (b := 8900) (gcd_pos t b hb) (gcd_small t b hb h.lt) (by decide) (by decide)
theorem r_lowest (ds : List D) (m : Sto) (q : D → Sto → Prop) (hl : ds.length = 2) (h : g_lowest ds m q) : t_lowest { nx := fun _ m' => q .non m', rt := q } (startD ["top", "bottom", "one", "other"] ds) m := by
  unfold g_lowest at h
  obtain ⟨t, b, rfl, hb, hz, h⟩ := h
  unfold t_lowest
  walk_at "dn"
  refine ⟨fun hn => ?_, fun hn => ?_⟩
  · refine gcd_loop _ _ _ _ _ _ (by omega) (by rw [abs_if]; omega) ?_
    have eg : Int.gcd (-b) (if -t < 0 then - -t else -t) = Int.gcd t b := by
      rw [abs_if, gcd_abs, Int.neg_gcd, Int.gcd_neg, Int.gcd_comm]
    rw [eg]
    walk_at "dn"
    refine ⟨gcd_div_ok t b hb hz, gcd_div_ok t b hb hz, ?_⟩
    unfold lowT lowB at h
    rw [if_pos hn, if_pos hn] at h
    exact h
  · refine gcd_loop _ _ _ _ _ _ (by omega) (by rw [abs_if]; omega) ?_
    have eg : Int.gcd b (if t < 0 then -t else t) = Int.gcd t b := by
      rw [abs_if, gcd_abs, Int.gcd_comm]
    rw [eg]
    walk_at "dn"
    refine ⟨gcd_div_ok t b hb hz, gcd_div_ok t b hb hz, ?_⟩
    unfold lowT lowB at h
    rw [if_neg hn, if_neg hn] at h
    exact h
def t_law_parted : DS :=
    (dSeq (dPar 2 3 (dCons (dCallB dAbs (a1 (dVar 0))) (dCons (dCallB dAbs (a1 (dVar 1))) dNil)))
    (dSeq (dWhile (dTest (dBin dGt (dVar 3) (dC (.int 0)))) (dPar 2 3 (dCons (dVar 3) (dCons (dBin dMod (dVar 2) (dVar 3)) dNil))))
    (dRet (dVar 2))))
@[irreducible] def g_law_parted : FN := fun ds m q => ∃ t b : Int, ds = [.int t, .int b] ∧ q (.int (Int.gcd t b)) m
theorem i_law_parted {t b : Int} {m : Sto} {q : D → Sto → Prop} (h : q (.int (Int.gcd t b)) m) : g_law_parted [.int t, .int b] m q := by unfold g_law_parted; exact ⟨t, b, rfl, h⟩
theorem ar_law_parted : ∀ ds m q, g_law_parted ds m q → ds.length = 2 := by
  unfold g_law_parted
  rintro _ m q ⟨t, b, rfl, _⟩; rfl
theorem r_law_parted (ds : List D) (m : Sto) (q : D → Sto → Prop) (hl : ds.length = 2) (h : g_law_parted ds m q) : t_law_parted { nx := fun _ m' => q .non m', rt := q } (startD ["_law_top", "_law_bottom", "_law_one", "_law_other"] ds) m := by
  unfold g_law_parted at h
  obtain ⟨t, b, rfl, h⟩ := h
  unfold t_law_parted
  walk_at "dn"
  refine gcd_loop _ _ _ _ _ _ (by rw [abs_if]; omega) (by rw [abs_if]; omega) ?_
  rw [abs_if, abs_if, gcd_abs, abs_gcd]
  walk_at "dn"
  exact h
/-! ### is_whole -/
def t_is_whole : DS :=
    (dRet (dAnd (dIsi .int (dVar 0)) (dNot (dIsi .bool (dVar 0)))))
def isWhole : D → Bool
  | .int _ => true
  | _ => false
@[irreducible] def g_is_whole : FN := fun ds m q => ∃ d k, ds = [d] ∧ kd d m = some k ∧ q (.bl (isWhole d)) m
theorem ar_is_whole : ∀ ds m q, g_is_whole ds m q → ds.length = 1 := by
  unfold g_is_whole
  rintro _ m q ⟨d, k, rfl, _⟩; rfl
theorem kd_whole {d : D} {m : Sto} {k : Kd} (h : kd d m = some k) : isWhole d = (isT .int k && !isT .bool k) := by
  unfold kd at h
  split at h
  case h_8 =>
    split at h
    · cases h; rfl
    · cases h; rfl
    · cases h
  all_goals (cases h; try rfl)
theorem r_is_whole (nm : Str) (ds : List D) (m : Sto) (q : D → Sto → Prop) (hl : ds.length = 1) (h : g_is_whole ds m q) : t_is_whole { nx := fun _ m' => q .non m', rt := q } (startD [nm] ds) m := by
  unfold g_is_whole at h
  obtain ⟨d, k, rfl, hk, h⟩ := h
  unfold t_is_whole
  simp only [dRet, dAnd, dIsi, dVar, slot, startD, List.map_cons, List.map_nil, List.length_cons, List.length_nil, List.replicate, List.cons_append, List.nil_append, Nat.reduceAdd, Nat.reduceSub, onS_mk, hk, dNot]
  rw [kd_whole hk] at h
  cases k <;> simpa [isT] using h
theorem g_is_whole_int (i : Int) (m : Sto) (q : D → Sto → Prop) (h : q (.bl true) m) : g_is_whole [.int i] m q := by unfold g_is_whole; exact ⟨.int i, .int, rfl, rfl, h⟩
theorem i_is_whole {d : D} {k : Kd} {m : Sto} {q : D → Sto → Prop} (hk : kd d m = some k) (h : q (.bl (isWhole d)) m) : g_is_whole [d] m q := by unfold g_is_whole; exact ⟨d, k, rfl, hk, h⟩
/-! ### the bag -/
def t_law_bag : DS :=
    (dRet (dLstP (dCons (dC (.int 0)) (dCons (dC (.int 1234567891)) (dCons (dC (.int 0)) (dCons (dLc 1 (dIter (dSlice dCut (dVar 0) dNoPart (dPart (dC (.int 63))))) dYes (dCallB dAbs (a1 (dVar 1)))) dNil))))))
/-- a bag's cell -/
def BagOk (c : Cell) : Prop := ∃ (a s k : Int) (ns : List Int), c = .lst [.int a, .int s, .int k, .lst (ns.map D.int)] ∧ 0 ≤ a ∧ 0 ≤ s ∧ s < 2147483647 ∧ 0 ≤ k ∧ ∀ n ∈ ns, 0 ≤ n
@[irreducible] def g_law_bag : FN := fun ds m q => ∃ ns : List Int, ds = [.fz (ns.map D.int)] ∧ ns.length ≤ 63 ∧ ∀ c, BagOk c → q (.ptr m.length) (m ++ [c])
theorem i_law_bag {ns : List Int} {m : Sto} {q : D → Sto → Prop} (hn : ns.length ≤ 63) (h : ∀ c, BagOk c → q (.ptr m.length) (m ++ [c])) : g_law_bag [.fz (ns.map D.int)] m q := by unfold g_law_bag; exact ⟨ns, rfl, hn, h⟩
theorem ar_law_bag : ∀ ds m q, g_law_bag ds m q → ds.length = 1 := by
  unfold g_law_bag
  rintro _ m q ⟨ns, rfl, _⟩; rfl
theorem lc_abs (m : Sto) (r : DSt) (hr : ∀ x, slot (put r 1 x) 1 = some x) (ns : List Int) : ∀ (acc : List D) (q : List D → Sto → Prop), q (acc ++ ns.map fun n => D.int (n.natAbs : Int)) m →
    lcD 1 dYes (dCallB dAbs (a1 (dVar 1))) (okP none) (ns.map D.int) r acc m q := by
  induction ns with
  | nil => intro acc q h; simpa [lcD] using h
  | cons n ns ih =>
    intro acc q h
    simp only [List.map_cons, lcD, dYes, dCallB, a1, dCons, dNil, dVar, hr, onS_mk, dAbs, abs_if, okP, true_and]
    exact ⟨fun _ => ih (acc ++ [.int (n.natAbs : Int)]) q (by simpa using h), fun z => by cases z⟩
theorem r_law_bag (nm nm2 : Str) (ds : List D) (m : Sto) (q : D → Sto → Prop) (hl : ds.length = 1) (h : g_law_bag ds m q) : t_law_bag { nx := fun _ m' => q .non m', rt := q } (startD [nm, nm2] ds) m := by
  unfold g_law_bag at h
  obtain ⟨ns, rfl, hn, h⟩ := h
  have hcut : cutD (ns.map D.int) none (some 63) = ns.map D.int := by
    apply cut_whole
    · rfl
    · show HT.sIx (ns.map D.int).length (ns.map D.int).length (some ((63 : Nat) : Int)) = (ns.map D.int).length
      rw [HT.sIx_nat, List.length_map]
      omega
  unfold t_law_bag
  simp only [dRet, dLstP, dCons, dC, dLc, dLcQ, dIter, dSlice, dVar, slot, startD, List.map_cons, List.map_nil, List.length_cons, List.length_nil, List.replicate, List.cons_append, List.nil_append, Nat.reduceAdd, Nat.reduceSub, onS_mk, dNoPart, dPart, dCut, seqL, hcut, items, dNil]
  refine ⟨by rw [List.length_map]; omega, ?_⟩
  rw [lcI_eq]
  refine lc_abs m _ (fun x => rfl) ns [] _ ?_
  refine ⟨by decide, ?_⟩
  refine h _ ⟨0, 1234567891, 0, ns.map fun n => (n.natAbs : Int), ?_, by decide, by decide, by decide, by decide, ?_⟩
  · simp
  · intro n hn
    obtain ⟨k, _, rfl⟩ := List.mem_map.mp hn
    omega
/-! ### a number drawn from the bag -/
def tk3 : DS :=
    (dSeq (dAsg (dBin dMod (dBin dMul (dBin dAdd (dBin dIx (dVar 0) (dC (.int 1))) (dC (.int 1))) (dC (.int 39373))) (dC (.int 1000000007))) (gN 4))
    (dSeq (dAsg (dBin dMod (dBin dMul (dBin dMod (dBin dMul (dVar 4) (dVar 4)) (dC (.int 998244353))) (dC (.int 30011))) (dC (.int 998244353))) (gN 5))
    (dSeq (dIf (dTest (dBin dGt (dVar 1) (dC (.int 1000000)))) (dRet (dBin dMod (dBin dAdd (dBin dMul (dVar 5) (dC (.int 1000000007))) (dVar 4)) (dVar 1))) dNext)
    (dRet (dBin dMod (dBin dDiv (dVar 5) (dC (.int 7))) (dVar 1))))))
def tk2 : DS :=
    (dSeq (dIf (dTest (dBin dGt (dBin dIx (dVar 0) (dC (.int 0))) (dC (.int 0)))) (dSeq (dAsg (dBin dMod (dBin dIx (dVar 0) (dC (.int 0))) (dVar 1)) (gN 3))
    (dSeq (dAsg (dBin dDiv (dBin dIx (dVar 0) (dC (.int 0))) (dVar 1)) (gIx (dVar 0) (dC (.int 0))))
    (dRet (dVar 3)))) dNext) tk3)
def tkS : DS := (dAsg (dBin dMod (dBin dAdd (dBin dAdd (dBin dMul (dBin dIx (dVar 0) (dC (.int 1))) (dC (.int 48271))) (dBin dMod (dVar 2) (dC (.int 2147483647)))) (dBin dMul (dC (.int 7919)) (dBin dIx (dVar 0) (dC (.int 2))))) (dC (.int 2147483647))) (gIx (dVar 0) (dC (.int 1))))
def tk1 : DS :=
    (dSeq (dAugIx (dI0 fun i j => i + j) (dVar 0) (dC (.int 2)) (dC (.int 1)))
    (dSeq (dIf (dTest (dBin dGe (dVar 2) (dC (.int 1000000000000000000)))) (dAsg (dVar 2) (gIx (dVar 0) (dC (.int 0)))) dNext) tkS))
def tk0 : DS :=
    (dSeq (dIf (dTest (dBin dEq (dBin dIx (dVar 0) (dC (.int 0))) (dC (.int 0)))) (dSeq (dAsg (dC (.int 0)) (gN 2))
    (dSeq (dIf (dTest (dBin dLt (dBin dIx (dVar 0) (dC (.int 2))) (dCallB dLen (a1 (dBin dIx (dVar 0) (dC (.int 3))))))) (dAsg (dBin dIx (dBin dIx (dVar 0) (dC (.int 3))) (dBin dIx (dVar 0) (dC (.int 2)))) (gN 2)) dNext)
    tk1)) dNext) tk2)
@[irreducible] def g_law_take : FN := fun ds m q => ∃ (b : Nat) (many : Int) (c : Cell), ds = [.ptr b, .int many] ∧ 0 < many ∧ Sm 8900 many ∧ m[b]? = some c ∧ BagOk c ∧ ∀ v c', 0 ≤ v → v < many → BagOk c' → q (.int v) (m.set b c')
theorem i_law_take {b : Nat} {many : Int} {c : Cell} {m : Sto} {q : D → Sto → Prop} (h0 : 0 < many) (hz : Sm 8900 many) (hm : m[b]? = some c) (hc : BagOk c) (h : ∀ v c', 0 ≤ v → v < many → BagOk c' → q (.int v) (m.set b c')) : g_law_take [.ptr b, .int many] m q := by unfold g_law_take; exact ⟨b, many, c, rfl, h0, hz, hm, hc, h⟩
/-- drawing from the bag in the first cell -/
theorem take_at {many : Int} {c : Cell} {ms : Sto} {q : D → Sto → Prop} (hc : BagOk c) (h0 : 0 < many) (hz : Sm 8900 many) (k : ∀ v c', 0 ≤ v → v < many → BagOk c' → q (.int v) (c' :: ms)) : g_law_take [.ptr 0, .int many] (c :: ms) q :=
  i_law_take h0 hz rfl hc k
theorem ar_law_take : ∀ ds m q, g_law_take ds m q → ds.length = 2 := by
  unfold g_law_take
  rintro _ m q ⟨t, b, c, rfl, _⟩; rfl
theorem dIx_ptr {b : Nat} {i : Int} {m : Sto} {q : D → Sto → Prop} : dIx (.ptr b) (.int i) m q = onS (lstOf (.ptr b) m) fun ds => onS (atI ds i) fun d => q d m := rfl
theorem dIx_lst {ds : List D} {i : Int} {m : Sto} {q : D → Sto → Prop} : dIx (.lst ds) (.int i) m q = onS (atI ds i) fun d => q d m := rfl
theorem ixN_lit {n j : Nat} (h : j < n) : ixN n (j : Int) = some j := by
  unfold ixN
  rw [if_pos (by omega), if_pos (by omega)]
  simp
theorem mulR {i j : Int} (h1 : -(2 ^ 64) < j) (h2 : j < 2 ^ 64) : CMulA i j := .inl (.inr ⟨h1, h2⟩)
theorem mulL {i j : Int} (h1 : -(2 ^ 64) < i) (h2 : i < 2 ^ 64) : CMulA i j := .inl (.inl ⟨h1, h2⟩)
theorem mulS {i j : Int} {a b : Nat} (h1 : Sm a i) (h2 : Sm b j) (ha : 0 < a) (hb : 0 < b) (h : a + b ≤ 1000000) : CMulA i j := .inr (wide_mul h1.lt h2.lt ha hb h)
/-- a drawn number out of a seed -/
theorem take_seed (b : Nat) (many s : Int) (m : Sto) (q : D → Sto → Prop) (x2 x3 : Option D) (a k : Int) (xs : List D) (hm : m[b]? = some (.lst [.int a, .int s, .int k, .lst xs])) (hs : 0 ≤ s) (hs2 : s < 2147483647) (h0 : 0 < many) (hz : Sm 8900 many)
    (h : ∀ v, 0 ≤ v → v < many → q (.int v) m) : tk3 { nx := fun _ m' => q .non m', rt := q } [some (.ptr b), some (.int many), x2, x3, none, none] m := by
  unfold tk3
  simp only [DL.dSeq, DL.dIf, DL.dTest, DL.dBin, DL.dUn, DL.dCallB, DL.dVar, DL.dC, DL.dCons, DL.dNil, DL.a1, DL.a2, DL.dTup, DL.dLst, DL.dLstP, DL.dAsg, DL.gN, DL.gsC, DL.gsN, DL.gT, DL.gIx, DL.dPar, DL.dAug, DL.dAugIx, DL.dSub, DL.dMul, DL.dMod, DL.dDiv, DL.dPow, DL.dLt, DL.dLe, DL.dGt, DL.dGe, DL.dI0, DL.dI2, DL.dB0, DL.dNeg, DL.dEq, DL.dNe, DL.dIx, DL.dAdd, DL.dAnd, DL.dOr, DL.dNot, DL.dIfE, DL.dTNot, DL.dTAnd, DL.dTOr, DL.dRet, DL.dRetN, DL.dDrop, DL.dNext, DL.dNever, DL.dBreak, DL.dCont, DL.slot, DL.put, DL.onS_mk, DL.dIsi, DL.kd, DL.isT, DL.dAbs, DL.dLen, DL.dInt, DL.dMin, DL.dMax, DL.dApp, DL.dChain, DL.seqL_lst, DL.seqL_fz, DL.seqL_ptr, DL.lstOf_lst, DL.dFor, DL.dIter, DL.dYes, DL.startD, List.map_cons, List.map_nil, List.length_cons, List.length_nil, List.replicate, List.cons_append, List.nil_append, Nat.reduceAdd, Nat.reduceSub, Nat.reduceLeDiff, true_and, and_true, DL.cond_dec, DL.cond_ndec, Bool.not_true, Bool.not_false, true_imp_iff, false_imp_iff, Bool.false_eq_true, Bool.true_eq_false, not_true_eq_false, not_false_eq_true, Int.cast_ofNat_Int, DL.atI_0, DL.atI_1, DL.atI_2, DL.atI_3, DL.atI_4, List.set_cons_zero, List.set_cons_succ, dIx_ptr, lstOf_ptr hm]
  have m1 : ∀ x : Int, 0 ≤ x % many ∧ x % many < many := fun x => ⟨Int.emod_nonneg _ (by omega), Int.emod_lt_of_pos _ h0⟩
  obtain ⟨f, ef⟩ : ∃ f, f = (s + 1) * 39373 % 1000000007 := ⟨_, rfl⟩
  have hf : 0 ≤ f ∧ f < 1000000007 := by omega
  refine ⟨mulR (by decide) (by decide), by decide, ?_⟩
  rw [← ef]
  refine ⟨mulR (by omega) (by omega), by decide, ?_⟩
  obtain ⟨g, eg⟩ : ∃ g, g = f * f % 998244353 := ⟨_, rfl⟩
  rw [← eg]
  have hg : 0 ≤ g ∧ g < 998244353 := by omega
  refine ⟨mulR (by decide) (by decide), by decide, ?_⟩
  obtain ⟨e, ee⟩ : ∃ e, e = g * 30011 % 998244353 := ⟨_, rfl⟩
  rw [← ee]
  have he : 0 ≤ e ∧ e < 998244353 := by omega
  refine ⟨fun _ => ⟨mulR (by decide) (by decide), h0, ?_⟩, fun _ => ⟨wide_div (b := 8) (by decide) (by decide) (by decide) (by decide), h0, ?_⟩⟩
  · exact h _ (m1 _).1 (m1 _).2
  · exact h _ (m1 _).1 (m1 _).2
/-- the drawing, once the seed's cell stands -/
theorem take_rest (b : Nat) (many a s k : Int) (ns : List Int) (m : Sto) (q : D → Sto → Prop) (x2 : Option D) (hm : m[b]? = some (.lst [.int a, .int s, .int k, .lst (ns.map D.int)])) (hs : 0 ≤ s) (hs2 : s < 2147483647) (ha : 0 ≤ a) (hk : 0 ≤ k) (hn : ∀ n ∈ ns, 0 ≤ n)
    (h0 : 0 < many) (hz : Sm 8900 many) (h : ∀ v c', 0 ≤ v → v < many → BagOk c' → q (.int v) (m.set b c')) : tk2 { nx := fun _ m' => q .non m', rt := q } [some (.ptr b), some (.int many), x2, none, none, none] m := by
  have hb : b < m.length := (List.getElem?_eq_some_iff.mp hm).1
  have keep : m.set b (.lst [.int a, .int s, .int k, .lst (ns.map D.int)]) = m := by
    apply List.ext_getElem?
    intro i
    by_cases e : b = i
    · subst e; rw [List.getElem?_set_self hb, hm]
    · rw [List.getElem?_set_ne e]
  unfold tk2
  rw [dSeq]
  simp only [dIf, dTest, dBin, dVar, dC, dGt, slot, onS_mk, dIx_ptr, lstOf_ptr hm, atI_0, dB0, cond_dec]
  refine ⟨fun hp => ?_, fun hp => ?_⟩
  · simp only [DL.dSeq, DL.dIf, DL.dTest, DL.dBin, DL.dUn, DL.dCallB, DL.dVar, DL.dC, DL.dCons, DL.dNil, DL.a1, DL.a2, DL.dTup, DL.dLst, DL.dLstP, DL.dAsg, DL.gN, DL.gsC, DL.gsN, DL.gT, DL.gIx, DL.dPar, DL.dAug, DL.dAugIx, DL.dSub, DL.dMul, DL.dMod, DL.dDiv, DL.dPow, DL.dLt, DL.dLe, DL.dGt, DL.dGe, DL.dI0, DL.dI2, DL.dB0, DL.dNeg, DL.dEq, DL.dNe, DL.dIx, DL.dAdd, DL.dAnd, DL.dOr, DL.dNot, DL.dIfE, DL.dTNot, DL.dTAnd, DL.dTOr, DL.dRet, DL.dRetN, DL.dDrop, DL.dNext, DL.dNever, DL.dBreak, DL.dCont, DL.slot, DL.put, DL.onS_mk, DL.dIsi, DL.kd, DL.isT, DL.dAbs, DL.dLen, DL.dInt, DL.dMin, DL.dMax, DL.dApp, DL.dChain, DL.seqL_lst, DL.seqL_fz, DL.seqL_ptr, DL.lstOf_lst, DL.dFor, DL.dIter, DL.dYes, DL.startD, List.map_cons, List.map_nil, List.length_cons, List.length_nil, List.replicate, List.cons_append, List.nil_append, Nat.reduceAdd, Nat.reduceSub, Nat.reduceLeDiff, true_and, and_true, DL.cond_dec, DL.cond_ndec, Bool.not_true, Bool.not_false, true_imp_iff, false_imp_iff, Bool.false_eq_true, Bool.true_eq_false, not_true_eq_false, not_false_eq_true, Int.cast_ofNat_Int, DL.atI_0, DL.atI_1, DL.atI_2, DL.atI_3, DL.atI_4, List.set_cons_zero, List.set_cons_succ, dIx_ptr, lstOf_ptr hm, (show ixN 4 0 = some 0 from rfl)]
    refine ⟨h0, wide_div (b := 8900) h0 hz.lt (by decide) (by decide), ?_⟩
    refine h _ _ (Int.emod_nonneg _ (by omega)) (Int.emod_lt_of_pos _ h0) ⟨a / many, s, k, ns, rfl, Int.ediv_nonneg ha (by omega), hs, hs2, hk, hn⟩
  · rw [dNext]
    refine take_seed b many s m q x2 none a k (ns.map D.int) hm hs hs2 h0 hz fun v h1 h2 => ?_
    have z := h v _ h1 h2 ⟨a, s, k, ns, rfl, ha, hs, hs2, hk, hn⟩
    rw [keep] at z
    exact z
/-- a cell of the script goes into the seed -/
theorem take_cell (b : Nat) (many a s k cell : Int) (ns : List Int) (m : Sto) (q : D → Sto → Prop) (hm : m[b]? = some (.lst [.int a, .int s, .int k, .lst (ns.map D.int)])) (hs : 0 ≤ s) (hs2 : s < 2147483647) (ha : 0 ≤ a) (hk : 0 ≤ k) (hn : ∀ n ∈ ns, 0 ≤ n)
    (hc : 0 ≤ cell) (h0 : 0 < many) (hz : Sm 8900 many) (h : ∀ v c', 0 ≤ v → v < many → BagOk c' → q (.int v) (m.set b c')) :
    tk1 { nx := tk2 { nx := fun _ m' => q .non m', rt := q }, rt := q } [some (.ptr b), some (.int many), some (.int cell), none, none, none] m := by
  have hb : b < m.length := (List.getElem?_eq_some_iff.mp hm).1
  have i2 : ixN 4 2 = some 2 := rfl
  have i1 : ixN 4 1 = some 1 := rfl
  have i0 : ixN 4 0 = some 0 := rfl
  have t2 : (2 : Int).toNat = 2 := rfl
  have seed : ∀ (a' : Int) (m' : Sto), m' = m.set b (.lst [.int a', .int s, .int (k + 1), .lst (ns.map D.int)]) → 0 ≤ a' → tkS { nx := tk2 { nx := fun _ m' => q .non m', rt := q }, rt := q } [some (.ptr b), some (.int many), some (.int cell), none, none, none] m' := by
    intro a' m' em ha'
    have hm' : m'[b]? = some (.lst [.int a', .int s, .int (k + 1), .lst (ns.map D.int)]) := by rw [em]; exact List.getElem?_set_self hb
    rw [tkS, dAsg]
    simp only [dBin, dVar, dC, slot, onS_mk, dMod, dMul, dI2, dAdd, dIx_ptr, lstOf_ptr hm', atI_1, atI_2, gIx, List.length_cons, List.length_nil, Nat.reduceAdd, i1, List.set_cons_succ, List.set_cons_zero]
    refine ⟨mulR (by decide) (by decide), by decide, mulL (by decide) (by decide), by decide, ?_⟩
    rw [em, List.set_set]
    refine take_rest b many a' _ (k + 1) ns _ q _ (List.getElem?_set_self hb) (Int.emod_nonneg _ (by decide)) (Int.emod_lt_of_pos _ (by decide)) ha' (by omega) hn h0 hz fun v c' h1 h2 h3 => ?_
    rw [List.set_set]
    exact h v c' h1 h2 h3
  rw [tk1, dSeq, dAugIx]
  simp only [dVar, slot, onS_mk, dC, lstOf_ptr hm, t2, List.getElem?_cons_succ, List.getElem?_cons_zero, dI0, List.length_cons, List.length_nil, Nat.reduceAdd, i2, List.set_cons_succ, List.set_cons_zero]
  refine ⟨by decide, ?_⟩
  rw [dSeq, dIf]
  have m1 : (m.set b (.lst [.int a, .int s, .int (k + 1), .lst (ns.map D.int)]))[b]? = some (.lst [.int a, .int s, .int (k + 1), .lst (ns.map D.int)]) := List.getElem?_set_self hb
  simp only [dTest, dBin, dVar, dC, dGe, slot, onS_mk, dB0, cond_dec]
  refine ⟨fun hbig => ?_, fun _ => ?_⟩
  · rw [dAsg]
    simp only [dVar, slot, onS_mk, gIx, dC, lstOf_ptr m1, List.length_cons, List.length_nil, Nat.reduceAdd, i0, List.set_cons_zero, List.set_set]
    exact seed cell _ rfl hc
  · rw [dNext]
    exact seed a _ rfl ha
theorem take_all (nm : List Str) (hnm : nm.length = 6) (ds : List D) (m : Sto) (q : D → Sto → Prop) (h : g_law_take ds m q) : tk0 { nx := fun _ m' => q .non m', rt := q } (startD nm ds) m := by
  unfold g_law_take at h
  obtain ⟨b, many, c, rfl, h0, hz, hm, ⟨a, s, k, ns, rfl, ha, hs, hs2, hk, hn⟩, h⟩ := h
  have est : startD nm [.ptr b, .int many] = [some (.ptr b), some (.int many), none, none, none, none] := by
    unfold startD
    rw [hnm]
    rfl
  have go : ∀ cell : Int, 0 ≤ cell → tk1 { nx := tk2 { nx := fun _ m' => q .non m', rt := q }, rt := q } [some (.ptr b), some (.int many), some (.int cell), none, none, none] m := fun cell hc =>
    take_cell b many a s k cell ns m q hm hs hs2 ha hk hn hc h0 hz h
  rw [est, tk0, dSeq, dIf]
  simp only [dTest, dBin, dVar, dC, slot, onS_mk, dIx_ptr, lstOf_ptr hm, atI_0, dEq, cond_dec]
  refine ⟨fun hp => ?_, fun hp => ?_⟩
  · rw [dSeq, dAsg]
    simp only [dC, gN, put]
    rw [dSeq, dIf]
    simp only [dTest, dBin, dVar, dC, dLt, slot, onS_mk, dIx_ptr, lstOf_ptr hm, atI_2, atI_3, dCallB, a1, dCons, dNil, dLen, seqL_lst, dB0, List.length_map, cond_dec]
    refine ⟨fun hlt => ?_, fun _ => ?_⟩
    · obtain ⟨j, rfl⟩ := Int.eq_ofNat_of_zero_le hk
      have hj : j < ns.length := by omega
      have hat : atI (ns.map D.int) (j : Int) = some (.int ns[j]) := atI_nat (by rw [List.getElem?_map, List.getElem?_eq_getElem hj]; rfl)
      rw [dAsg]
      simp only [dBin, dVar, slot, onS_mk, dC, dIx_ptr, lstOf_ptr hm, atI_2, atI_3, dIx_lst, hat, gN, put]
      exact go _ (hn _ (List.getElem_mem hj))
    · rw [dNext]
      exact go 0 (by decide)
  · rw [dNext]
    exact take_rest b many a s k ns m q none hm hs hs2 ha hk hn h0 hz h
end DL
/-! Data layer, part 6: arithmetic of lowest terms, loops by an invariant, == of fractions, signs drawn. -/
namespace DL
open PySem PySem.Spec PyProof.Rows L2
theorem dvd_of_cop {a b c : Int} (h : a ∣ b * c) (g : Int.gcd b a = 1) : a ∣ c := by
  have h1 : a.natAbs ∣ b.natAbs * c.natAbs := by rw [← Int.natAbs_mul]; exact Int.natAbs_dvd_natAbs.mpr h
  have g1 : Nat.Coprime a.natAbs b.natAbs := by
    show Nat.gcd _ _ = 1
    rw [Nat.gcd_comm]; exact g
  exact Int.natAbs_dvd_natAbs.mp (Nat.Coprime.dvd_of_dvd_mul_left g1 h1)
theorem frac_unique {x y x' y' : Int} (hy : 0 < y) (hy' : 0 < y') (g : Int.gcd x y = 1) (g' : Int.gcd x' y' = 1) (e : x * y' = x' * y) : x = x' ∧ y = y' := by
  have d1 : y ∣ y' := dvd_of_cop (b := x) ⟨x', by rw [e, Int.mul_comm]⟩ g
  have d2 : y' ∣ y := dvd_of_cop (b := x') ⟨x, by rw [← e, Int.mul_comm]⟩ g'
  have l1 : y ≤ y' := Int.le_of_dvd hy' d1
  have l2 : y' ≤ y := Int.le_of_dvd hy d2
  have ey : y = y' := by omega
  subst ey
  exact ⟨Int.eq_of_mul_eq_mul_right (by omega) e, rfl⟩
theorem low_parts (t b : Int) (hb : b ≠ 0) : ∃ g t' b' : Int, 0 < g ∧ t = g * t' ∧ b = g * b' ∧ Int.gcd t' b' = 1 ∧ ((b < 0 ∧ lowT t b = -t' ∧ lowB t b = -b') ∨ (0 < b ∧ lowT t b = t' ∧ lowB t b = b')) := by
  have gp := gcd_pos t b hb
  obtain ⟨t', ht⟩ := Int.gcd_dvd_left (a := t) (b := b)
  obtain ⟨b', hb'⟩ := Int.gcd_dvd_right (a := t) (b := b)
  obtain ⟨g, hg⟩ : ∃ g : Nat, g = Int.gcd t b := ⟨_, rfl⟩
  have cop : Int.gcd t' b' = 1 := by
    have e1 : Int.gcd t b = Int.gcd (g * t') (g * b') := by rw [hg, ← ht, ← hb']
    rw [Int.gcd_mul_left, ← hg, Int.natAbs_natCast] at e1
    have : g * 1 = g * Int.gcd t' b' := by omega
    exact (Nat.eq_of_mul_eq_mul_left (by omega) this).symm
  refine ⟨g, t', b', by omega, by rw [hg]; exact ht, by rw [hg]; exact hb', cop, ?_⟩
  unfold lowT lowB
  rw [← hg] at gp ht hb' ⊢
  have can : ∀ z : Int, (g * z) / (g : Int) = z := fun z => Int.mul_ediv_cancel_left _ (by omega)
  have canN : ∀ z : Int, (-(g * z)) / (g : Int) = -z := fun z => by rw [← Int.mul_neg]; exact can _
  by_cases n : b < 0
  · refine .inl ⟨n, ?_, ?_⟩
    · rw [if_pos n, ht, canN]
    · rw [if_pos n, hb', canN]
  · refine .inr ⟨by omega, ?_, ?_⟩
    · rw [if_neg n, ht, can]
    · rw [if_neg n, hb', can]
theorem pos_of_mul {g b : Int} (h : 0 < g * b) (hg : 0 < g) : 0 < b := by
  by_cases n : 0 < b
  · exact n
  · have := Int.mul_nonneg (Int.le_of_lt hg) (show 0 ≤ -b by omega)
    rw [Int.mul_neg] at this
    omega
theorem low_ok (t b : Int) (hb : b ≠ 0) : 0 < lowB t b ∧ t * lowB t b = b * lowT t b ∧ Int.gcd (lowT t b) (lowB t b) = 1 := by
  obtain ⟨g, t', b', gp, ht, hb', cop, ⟨n, e1, e2⟩ | ⟨n, e1, e2⟩⟩ := low_parts t b hb
  · rw [e1, e2]
    refine ⟨pos_of_mul (g := g) (by rw [Int.mul_neg]; omega) gp, ?_, by rw [Int.neg_gcd, Int.gcd_neg]; exact cop⟩
    rw [ht, hb', Int.mul_neg, Int.mul_neg, Int.mul_assoc, Int.mul_assoc, Int.mul_comm t']
  · rw [e1, e2]
    refine ⟨pos_of_mul (g := g) (by omega) gp, ?_, cop⟩
    rw [ht, hb', Int.mul_assoc, Int.mul_assoc, Int.mul_comm t']
theorem cross_trans {t b x y u v : Int} (hb : b ≠ 0) (e : t * y = b * x) (e' : t * v = b * u) : x * v = u * y := by
  have h : b * (x * v) = b * (u * y) := by
    calc b * (x * v) = (b * x) * v := by rw [Int.mul_assoc]
      _ = (t * y) * v := by rw [e]
      _ = (t * v) * y := by rw [Int.mul_right_comm]
      _ = (b * u) * y := by rw [e']
      _ = b * (u * y) := by rw [Int.mul_assoc]
  exact Int.eq_of_mul_eq_mul_left hb h
/-- the only pair in lowest terms -/
theorem low_unique {t b x y : Int} (hb : b ≠ 0) (hy : 0 < y) (g : Int.gcd x y = 1) (e : t * y = b * x) : x = lowT t b ∧ y = lowB t b := by
  obtain ⟨h1, h2, h3⟩ := low_ok t b hb
  exact frac_unique hy h1 g h3 (cross_trans hb e h2)
theorem low_same {t b t' b' : Int} (hb : b ≠ 0) (hb' : b' ≠ 0) (e : t * b' = t' * b) : lowT t b = lowT t' b' ∧ lowB t b = lowB t' b' := by
  obtain ⟨h1, h2, h3⟩ := low_ok t b hb
  refine low_unique hb' h1 h3 ?_
  apply Int.eq_of_mul_eq_mul_left hb
  calc b * (t' * lowB t b) = (t' * b) * lowB t b := by rw [← Int.mul_assoc, Int.mul_comm b]
    _ = (t * b') * lowB t b := by rw [e]
    _ = b' * (t * lowB t b) := by rw [Int.mul_right_comm, Int.mul_comm]
    _ = b' * (b * lowT t b) := by rw [h2]
    _ = b * (b' * lowT t b) := by rw [← Int.mul_assoc, Int.mul_comm b', Int.mul_assoc]
theorem low_scale {t b p : Int} (hb : b ≠ 0) (hp : p ≠ 0) : lowT (t * p) (b * p) = lowT t b ∧ lowB (t * p) (b * p) = lowB t b :=
  low_same (Int.mul_ne_zero hb hp) hb (by rw [Int.mul_assoc, Int.mul_comm p])
theorem low_id {t b : Int} (hb : 0 < b) (g : Int.gcd t b = 1) : lowT t b = t ∧ lowB t b = b := by
  obtain ⟨e1, e2⟩ := low_unique (t := t) (b := b) (x := t) (y := b) (by omega) hb g (Int.mul_comm _ _)
  exact ⟨e1.symm, e2.symm⟩
theorem natAbs_div_le {a g : Int} (h : 0 < g) : (a / g).natAbs ≤ a.natAbs := Int.natAbs_ediv_le_natAbs a g
theorem low_small (t b : Int) (hb : b ≠ 0) : (lowT t b).natAbs ≤ t.natAbs ∧ (lowB t b).natAbs ≤ b.natAbs := by
  unfold lowT lowB
  have h1 := natAbs_div_le (a := if b < 0 then -t else t) (gcd_pos t b hb)
  have h2 := natAbs_div_le (a := if b < 0 then -b else b) (gcd_pos t b hb)
  constructor
  · split at h1 <;> rename_i n <;> simp only [n, if_true, if_false] <;> omega
  · split at h2 <;> rename_i n <;> simp only [n, if_true, if_false] <;> omega
theorem lowT_sm {t b : Int} {n : Nat} (hb : b ≠ 0) (h : Sm n t) : Sm n (lowT t b) := Sm.of (Nat.lt_of_le_of_lt (low_small t b hb).1 h.lt)
theorem lowB_sm {t b : Int} {n : Nat} (hb : b ≠ 0) (h : Sm n b) : Sm n (lowB t b) := Sm.of (Nat.lt_of_le_of_lt (low_small t b hb).2 h.lt)
theorem Sm.add {n : Nat} {i j : Int} (h : Sm n i) (h' : Sm n j) : Sm (n + 1) (i + j) := by
  have e : 2 ^ (n + 1) = 2 ^ n + 2 ^ n := by rw [Nat.pow_succ]; omega
  unfold Sm at *
  rw [e]
  omega
theorem Sm.sub {n : Nat} {i j : Int} (h : Sm n i) (h' : Sm n j) : Sm (n + 1) (i - j) := by
  have e : 2 ^ (n + 1) = 2 ^ n + 2 ^ n := by rw [Nat.pow_succ]; omega
  unfold Sm at *
  rw [e]
  omega
theorem Sm.neg {n : Nat} {i : Int} (h : Sm n i) : Sm n (-i) := by unfold Sm at *; rwa [Int.natAbs_neg]
/-! ### == of fractions -/
theorem eqv_fr (a b c d : Int) : PyData.eqv (.tuple [.int a, .int b]) (.tuple [.int c, .int d]) = decide (a = c ∧ b = d) := by
  simp [PyData.eqv, PyData.eqvAll]
  rfl
theorem shaped_fr (a b : Int) : SeqAt.shaped (.tuple [.int a, .int b]) = true := rfl
theorem dEq_fr {a b c d : Int} {m : Sto} {q : D → Sto → Prop} : dEq (fr a b) (fr c d) m q = q (.bl (decide (a = c ∧ b = d))) m := by
  show dEqG false (fr a b) (fr c d) m q = _
  unfold dEqG
  show (SeqAt.shaped (.tuple [.int a, .int b]) = true ∧ SeqAt.shaped (.tuple [.int c, .int d]) = true ∧ q (.bl (if false = true then _ else PyData.eqv _ _)) m) = _
  rw [shaped_fr, shaped_fr, eqv_fr]
  simp
theorem dNe_fr {a b c d : Int} {m : Sto} {q : D → Sto → Prop} : dNe (fr a b) (fr c d) m q = q (.bl (!decide (a = c ∧ b = d))) m := by
  show dEqG true (fr a b) (fr c d) m q = _
  unfold dEqG
  show (SeqAt.shaped (.tuple [.int a, .int b]) = true ∧ SeqAt.shaped (.tuple [.int c, .int d]) = true ∧ q (.bl (if true = true then !PyData.eqv _ _ else _)) m) = _
  rw [shaped_fr, shaped_fr, eqv_fr]
  simp
theorem dEq_int {i j : Int} {m : Sto} {q : D → Sto → Prop} : dEq (.int i) (.int j) m q = q (.bl (decide (i = j))) m := rfl
theorem dEq_bl {i j : Bool} {m : Sto} {q : D → Sto → Prop} : dEq (.bl i) (.bl j) m q = q (.bl (decide (i = j))) m := rfl
theorem dEq_str {i j : Str} {m : Sto} {q : D → Sto → Prop} : dEq (.str i) (.str j) m q = q (.bl (decide (i = j))) m := rfl
theorem dNe_int {i j : Int} {m : Sto} {q : D → Sto → Prop} : dNe (.int i) (.int j) m q = q (.bl (!decide (i = j))) m := rfl
theorem dNe_bl {i j : Bool} {m : Sto} {q : D → Sto → Prop} : dNe (.bl i) (.bl j) m q = q (.bl (!decide (i = j))) m := rfl
theorem dNe_str {i j : Str} {m : Sto} {q : D → Sto → Prop} : dNe (.str i) (.str j) m q = q (.bl (!decide (i = j))) m := rfl
/-! ### loops -/
theorem forD_ind {g : DG} {tb : DS} {d : DEnds} {ok : Sto → Prop} (I : List D → DSt → Sto → Prop)
    (step : ∀ x xs r m (N : DSt → Sto → Prop), I (x :: xs) r m → (∀ r' m', I xs r' m' → N r' m') → g x r m fun r1 m1 => tb { d with nx := N, ct := N, bk := d.nx } r1 m1)
    (hok : ∀ xs r m, I xs r m → ok m) (fin : ∀ r m, I [] r m → d.nx r m) (xs : List D) (r : DSt) (m : Sto) (h : I xs r m) : forD g tb d ok xs r m := by
  have go : ∀ xs r m, I xs r m → forD0 g tb d ok xs r m := fun xs => by
    induction xs with
    | nil => exact fun r m h => fin r m h
    | cons x xs ih => exact fun r m h => step x xs r m _ h fun r' m' h' => ⟨hok _ _ _ h', ih r' m' h'⟩
  rw [forD_eq]
  exact go xs r m h
/-- drawing one of two, three -/
theorem draw2 {v : Int} (h0 : 0 ≤ v) (h : v < 2) : v = 0 ∨ v = 1 := by omega
theorem draw3 {v : Int} (h0 : 0 ≤ v) (h : v < 3) : v = 0 ∨ v = 1 ∨ v = 2 := by omega
end DL
/-! Data layer, part 7: is None, in, chains as tests, [::-1], bit_length, index, insert, enumerate. -/
namespace DL
open PySem PySem.Spec PyProof.Rows L2
variable [Cl] [Lk]
section
variable {X : Cx} {pos p2 : Pos} {a b c e o : Expr} {ta tb tc te to : DE}
/-! ### is None -/
def isNon : D → Bool
  | .non => true
  | _ => false
def dIsN : F2
  | x, .non, m, q => q (.bl (isNon x)) m
  | _, _, _, _ => False
def dNotN : F2
  | x, .non, m, q => q (.bl (!isNon x)) m
  | _, _, _, _ => False
theorem isNon_v {K : PySem.W.Frag} {W : Wd} {x : V} {d : D} (r : R K W x d) : decide (x = .non) = isNon d := by
  cases r <;> simp [isNon]
theorem o_isN {K : PySem.W.Frag} : Op2 K dIsN (fun x y H Q => y = .non ∧ Q (.bl (decide (x = .non))) H) := by
  intro W F H m x y d e q Q rel rx ry h k
  cases e with
  | non =>
    cases ry
    refine ⟨rfl, ?_⟩
    rw [isNon_v rx]
    exact k _ _ _ _ _ (.refl _) rel (.bl _) h
  | _ => exact h.elim
theorem o_notN {K : PySem.W.Frag} : Op2 K dNotN (fun x y H Q => y = .non ∧ Q (.bl (!decide (x = .non))) H) := by
  intro W F H m x y d e q Q rel rx ry h k
  cases e with
  | non =>
    cases ry
    refine ⟨rfl, ?_⟩
    rw [isNon_v rx]
    exact k _ _ _ _ _ (.refl _) rel (.bl _) h
  | _ => exact h.elim
theorem je_isN (ha : JE X a ta) (hb : JE X b tb) : JE X (.Compare a [.Is] [b] pos) (dBin dIsN ta tb) := je_cmp op_isN o_isN ha hb (nobehind _ (by decide) (by decide))
theorem je_notN (ha : JE X a ta) (hb : JE X b tb) : JE X (.Compare a [.IsNot] [b] pos) (dBin dNotN ta tb) := je_cmp op_notN o_notN ha hb (nobehind _ (by decide) (by decide))
theorem jt_isN (ha : JE X a ta) (hb : JE X b tb) : JT X (.Compare a [.Is] [b] pos) (dTest (dBin dIsN ta tb)) := jt_cmp op_isN o_isN ha hb (nobehind _ (by decide) (by decide))
theorem jt_notN (ha : JE X a ta) (hb : JE X b tb) : JT X (.Compare a [.IsNot] [b] pos) (dTest (dBin dNotN ta tb)) := jt_cmp op_notN o_notN ha hb (nobehind _ (by decide) (by decide))
/-! ### in, not in -/
def toV : D → Option V
  | .non => some .non
  | .bl b => some (.bl b)
  | .int i => some (.int i)
  | .str z => some (.str z)
  | _ => none
def toVs : List D → Option (List V)
  | [] => some []
  | d :: ds => match toV d, toVs ds with
    | some v, some vs => some (v :: vs)
    | _, _ => none
theorem toV_eq {K : PySem.W.Frag} {W : Wd} {x u : V} {d : D} (r : R K W x d) (e : toV d = some u) : x = u ∧ flatV u = true := by
  cases r <;> first | (cases e; exact ⟨rfl, rfl⟩) | cases e
theorem toVs_eq {K : PySem.W.Frag} {W : Wd} : ∀ {xs us : List V} {ds : List D}, RA K W xs ds → toVs ds = some us → xs = us ∧ us.all flatV = true
  | _, _, _, .nil, e => by cases e; exact ⟨rfl, rfl⟩
  | _, us, _, @RA.cons _ _ _ v vs d ds h r, e => by
    unfold toVs at e
    cases e1 : toV d with
    | none => rw [e1] at e; simp at e
    | some u =>
      cases e2 : toVs ds with
      | none => rw [e1, e2] at e; simp at e
      | some ws =>
        rw [e1, e2] at e
        cases e
        obtain ⟨rfl, f1⟩ := toV_eq h e1
        obtain ⟨rfl, f2⟩ := toVs_eq r e2
        exact ⟨rfl, by rw [List.all_cons, f1, f2]; rfl⟩
def dInB (neg : Bool) : F2
  | x, .tup ds, m, q => onS (toV x) fun u => onS (toVs ds) fun us => q (.bl (if neg then !inV u us else inV u us)) m
  | x, y, m, q => onS (py m x) fun p => onS (py m y) fun l => match l with
    | .list ps => SeqAt.shaped p = true ∧ SeqAt.shaped (.list ps) = true ∧ q (.bl (if neg then !ps.any (fun z => PyData.eqv z p) else ps.any fun z => PyData.eqv z p)) m
    | _ => False
abbrev dIn : F2 := dInB false
abbrev dNotIn : F2 := dInB true
def rrIn (K : PySem.W.Frag) (neg : Bool) : R2 := fun x y H Q => rIn K neg x y H Q ∨ (if neg then rNotInD K x y H Q else rInD K x y H Q)
theorem o_in {K : PySem.W.Frag} {neg : Bool} : Op2 K (dInB neg) (rrIn K neg) := by
  intro W F H m x y d e q Q rel rx ry h k
  unfold dInB at h
  split at h
  · rename_i ds
    obtain ⟨u, e1, h⟩ := onS_some h
    obtain ⟨us, e2, h⟩ := onS_some h
    obtain ⟨rfl, f1⟩ := toV_eq rx e1
    obtain ⟨p, xs, rfl, g1, g2⟩ := tup_at rel ry
    obtain ⟨rfl, f2⟩ := toVs_eq g2 e2
    exact .inl ⟨p, xs, rfl, .inr g1, f1, f2, k _ _ _ _ _ (.refl _) rel (.bl _) h⟩
  · obtain ⟨p, e1, h⟩ := onS_some h
    obtain ⟨l, e2, h⟩ := onS_some h
    split at h
    · rename_i ps
      have h1 := py_dp rel rx e1
      have h2 := py_dp rel ry e2
      refine .inr ?_
      cases neg with
      | true => rw [if_pos rfl]; exact ⟨p, ps, h1, h2, h.1, h.2.1, k _ _ _ _ _ (.refl _) rel (.bl _) h.2.2⟩
      | false => rw [if_neg Bool.false_ne_true]; exact ⟨p, ps, h1, h2, h.1, h.2.1, k _ _ _ _ _ (.refl _) rel (.bl _) h.2.2⟩
    · exact h.elim
theorem op_inAll (hu : X.A.units + 65 < cLine) : OpR X (compareOp .In) (rrIn X.K false) := op_in_seq.or (op_inD hu)
theorem op_notInAll (hu : X.A.units + 65 < cLine) : OpR X (compareOp .NotIn) (rrIn X.K true) := op_notIn_seq.or (op_notInD hu)
theorem units65 {k : Nat} {A : Around} (hr : Room k A) : A.units + 65 < cLine := by have := hr.un; omega
theorem je_in {k : Nat} (hr : Room k X.A) (ha : JE X a ta) (hb : JE X b tb) (hm : behindInMarks .In b = false := by rfl) : JE X (.Compare a [.In] [b] pos) (dBin dIn ta tb) := je_cmp (op_inAll (units65 hr)) o_in ha hb hm
theorem je_notin {k : Nat} (hr : Room k X.A) (ha : JE X a ta) (hb : JE X b tb) (hm : behindInMarks .NotIn b = false := by rfl) : JE X (.Compare a [.NotIn] [b] pos) (dBin dNotIn ta tb) := je_cmp (op_notInAll (units65 hr)) o_in ha hb hm
theorem jt_in {k : Nat} (hr : Room k X.A) (ha : JE X a ta) (hb : JE X b tb) (hm : behindInMarks .In b = false := by rfl) : JT X (.Compare a [.In] [b] pos) (dTest (dBin dIn ta tb)) := jt_cmp (op_inAll (units65 hr)) o_in ha hb hm
theorem jt_notin {k : Nat} (hr : Room k X.A) (ha : JE X a ta) (hb : JE X b tb) (hm : behindInMarks .NotIn b = false := by rfl) : JT X (.Compare a [.NotIn] [b] pos) (dTest (dBin dNotIn ta tb)) := jt_cmp (op_notInAll (units65 hr)) o_in ha hb hm
/-! ### chains as tests -/
theorem jt_chain {op op' : CmpOp} {f g : F2} {rr rr' : R2} (ho : OpR X (compareOp op) rr) (o : Op2 X.K f rr) (ho' : OpR X (compareOp op') rr') (o' : Op2 X.K g rr') (ha : JE X a ta) (hb : JE X b tb) (hc : JE X c tc) (hm : lastMarks [op, op'] [b, c] = false := by with_unfolding_all rfl) :
    JT X (.Compare a [op, op'] [b, c] pos) (dTest (dChain f g ta tb tc)) :=
  pt_wk (pt_chain ho ho' ha hb hc hm) fun s H Q h => by
    obtain ⟨W, F, m, r, q, rel, rs, h, k⟩ := h
    exact chain_wk o o' s H (fun x H' => ∃ k, x = .bl k ∧ Q k H') ⟨W, F, m, r, fun x m1 => match x with | .bl c => q c m1 | _ => False, rel, rs, h, fun W1 H1 m1 v d l1 rel1 rv hq => by
      cases d with
      | bl c => cases rv; exact ⟨c, rfl, k _ _ _ _ l1 rel1 hq⟩
      | _ => exact hq.elim⟩
/-! ### [::-1] -/
def dRevS : F1 := fun x m q => onS (seqL x m) fun ds => q (.lst ds.reverse) m
theorem RA.rev {K : PySem.W.Frag} {W : Wd} : ∀ {xs : List V} {ds : List D}, RA K W xs ds → RA K W xs.reverse ds.reverse
  | _, _, .nil => .nil
  | _, _, .cons h r => by
    rw [List.reverse_cons, List.reverse_cons]
    exact (RA.rev r).app (.cons h .nil)
theorem je_rev {kk : Nat} {p1 p3 : Pos} (ha : JE X a ta) : JE X (.Subscript a (.Slice none none (some (.UnaryOp .USub (.Constant (.int 1) kk p1) p2)) p3) pos) (dUn dRevS ta) :=
  pe_wk (pe_revL ha) fun s H Q h => un_wk (f := dRevS) (rr := fun x H1 Q => ∃ a xs, x = .ref a ∧ SqL X.K H1 a xs ∧ ∀ p, H1 p = none → Q (.ref p) (upd H1 p (.lst xs.reverse))) (by
    intro W F H m x d q Q rel rx h k
    obtain ⟨ds, e1, h⟩ := onS_some h
    obtain ⟨p, xs, rfl, g, r⟩ := seqL_at rel rx e1
    exact ⟨p, xs, rfl, g, fun p hp => cold_lst rel r.rev h k hp⟩) s H Q h
/-! ### i.bit_length() -/
def dBits : F1
  | .int i, m, q => q (.int (Builtin.Int.intBits i : Nat)) m
  | _, _, _ => False
theorem je_bits {apos : Pos} (ha : JE X a ta) (hbase : attributeBase a "bit_length" X.env (eval a X.env) = eval a X.env := by rfl) (hline : (apos.endLine == pos.line) = true := by rfl) : JE X (.Call (.Attribute a "bit_length" apos) [] [] pos) (dUn dBits ta) :=
  pe_wk (pe_bits ha hbase hline) fun s H Q h => un_wk (f := dBits) (rr := fun x H1 Q => ∃ i, x = .int i ∧ Q (.int (Builtin.Int.intBits i : Nat)) H1) (by
    intro W F H m x d q Q rel rx h k
    cases d with
    | int i => cases rx; exact ⟨i, rfl, k _ _ _ _ _ (.refl _) rel (.int _) h⟩
    | _ => exact h.elim) s H Q h
/-! ### methods of lists -/
def dMeth (f : D → List D → Sto → (D → Sto → Prop) → Prop) (to : DE) (t : DA) : DE := fun r m q => to r m fun x m1 => t r m1 fun xs m2 => f x xs m2 q
/-- the object is a list when it is asked for its method -/
def dIsL : F1 := fun x m q => onS (seqL x m) fun _ => q x m
@[irreducible] def dIndexF (x : D) (xs : List D) (m : Sto) (q : D → Sto → Prop) : Prop := match xs with
  | [y] => onS (py m x) fun l => onS (py m y) fun d => match l with
    | .list ps => SeqAt.shaped (.list ps) = true ∧ SeqAt.shaped d = true ∧ ∃ (j : Nat) (z : PyData), ps[j]? = some z ∧ PyData.eqv z d = true ∧ (∀ (i : Nat) (z' : PyData), i < j → ps[i]? = some z' → PyData.eqv z' d = false) ∧ q (.int (j : Nat)) m
    | _ => False
  | _ => False
def dIndex (to te : DE) : DE := dMeth dIndexF (dUn dIsL to) (a1 te)
theorem ref_of_list {K : PySem.W.Frag} {W : Wd} {x : V} {d : D} {m : Sto} {ps : List PyData} (r : R K W x d) (e : py m d = some (.list ps)) : ∃ a, x = V.ref a := by
  cases r with
  | tup h r => exact ⟨_, rfl⟩
  | lst h r => exact ⟨_, rfl⟩
  | fz h r => exact ⟨_, rfl⟩
  | ptr h => exact ⟨_, rfl⟩
  | _ => simp only [py, py0] at e; cases e
theorem je_index {k : Nat} (hr : Room k X.A) {apos : Pos} (ho : JE X o to) (he : JE X e te) (hbase : attributeBase o "index" X.env (eval o X.env) = eval o X.env := by rfl)
    (hfew : ((backTo pos (starEach (e :: []) X.env)).all (fun x => !x.1) && (backToKw pos (keywordEach [] X.env)).all (fun x => x.1.isSome)
      && decide ((e :: []).length + ([] : List Keyword).length + (if ([] : List Keyword).isEmpty then 0 else 1) < 30)) = true := by rfl)
    (hline : (apos.endLine == pos.line) = true := by rfl) (hs : starEach [e] X.env = (false, eval e X.env) :: starEach [] X.env := by rfl) (hp : (backTo pos (starEach [] X.env)).any (·.1) = false := by rfl) :
    JE X (.Call (.Attribute o "index" apos) [e] [] pos) (dIndex to te) :=
  pe_wk (pe_bm PySem.F.plainAttrs_list PySem.F.slot_list_index PySem.F.type_list_index (mt_indexD (units65 hr)) ho (pa_cons he pa_nil hs) hbase hfew hline hs hp) fun s H Q ⟨W, F, m, r, q, rel, rs, h, k⟩ => by
    refine ⟨W, F, m, r, _, rel, rs, h, fun W1 H1 m1 v d l1 rel1 rv hq => ?_⟩
    obtain ⟨es, e1, hq⟩ := onS_some hq
    obtain ⟨b, xs, rfl, g1, g2⟩ := seqL_at rel1 rv e1
    refine ⟨.inl ⟨rfl, xs, g1⟩, W1, F, m1, r, _, rel1, rs.mono l1, hq, fun W2 H2 m2 u y l2 rel2 ru hq2 => ?_⟩
    have hq2' : dIndexF d [y] m2 q := hq2
    unfold dIndexF at hq2'
    obtain ⟨l, e2, hq3⟩ := onS_some hq2'
    obtain ⟨z, e3, hq3⟩ := onS_some hq3
    cases l with
    | list ps =>
      obtain ⟨s1, s2, j, w, t1, t2, t3, t4⟩ := hq3
      exact ⟨b, u, z, ps, j, w, rfl, rfl, py_dp rel2 (rv.mono l2) e2, py_dp rel2 ru e3, s1, s2, t1, t2, t3, k _ _ _ _ _ (l1.trans l2) rel2 (.int _) t4⟩
    | _ => exact hq3.elim
/-- xs.insert(i, e), xs in the store -/
def dIns (to ti te : DE) : DE := fun r m q => to r m fun x m1 => match x with
  | .ptr j => onS (lstOf (.ptr j) m1) fun _ => ti r m1 fun y m2 => te r m2 fun z m3 => match y with
    | .int i => onS (lstOf (.ptr j) m3) fun ds => (ds.length ≤ 1000000 ∧ 0 ≤ i ∧ i < 2 ^ 63) ∧ q .non (m3.set j (.lst (ds.take i.toNat ++ [z] ++ ds.drop i.toNat)))
    | _ => False
  | _ => False
theorem je_insert {apos : Pos} {i : Expr} {ti : DE} (ho : JE X o to) (hi : JE X i ti) (he : JE X e te) (hbase : attributeBase o "insert" X.env (eval o X.env) = eval o X.env := by rfl)
    (hfew : ((backTo pos (starEach (i :: [e]) X.env)).all (fun x => !x.1) && (backToKw pos (keywordEach [] X.env)).all (fun x => x.1.isSome)
      && decide ((i :: [e]).length + ([] : List Keyword).length + (if ([] : List Keyword).isEmpty then 0 else 1) < 30)) = true := by rfl)
    (hline : (apos.endLine == pos.line) = true := by rfl) (hs : starEach [i, e] X.env = (false, eval i X.env) :: starEach [e] X.env := by rfl) (hs2 : starEach [e] X.env = (false, eval e X.env) :: starEach [] X.env := by rfl) (hp : (backTo pos (starEach [e] X.env)).any (·.1) = false := by rfl) :
    JE X (.Call (.Attribute o "insert" apos) [i, e] [] pos) (dIns to ti te) :=
  pe_wk (pe_bm PySem.F.plainAttrs_list PySem.F.slot_list_insert PySem.F.type_list_insert mt_insert ho (pa_cons hi (pa_cons he pa_nil hs2) hs) hbase hfew hline hs hp) fun s H Q ⟨W, F, m, r, q, rel, rs, h, k⟩ => by
    refine ⟨W, F, m, r, _, rel, rs, h, fun W1 H1 m1 v d l1 rel1 rv hq => ?_⟩
    cases d with
    | ptr j =>
      obtain ⟨es, e1, hq⟩ := onS_some hq
      obtain ⟨b, xs, rfl, g1, g2⟩ := lstOf_at rel1 rv e1
      refine ⟨.inl ⟨rfl, xs, SqL.of g1⟩, W1, F, m1, r, _, rel1, rs.mono l1, hq, fun W2 H2 m2 u y l2 rel2 ru hq2 => ?_⟩
      refine ⟨W2, F, m2, r, _, rel2, rs.mono (l1.trans l2), hq2, fun W3 H3 m3 u3 z l3 rel3 ru3 hq3 => ?_⟩
      cases y with
      | int iv =>
        obtain ⟨ds, e2, hz, hq3⟩ := onS_some hq3
        obtain ⟨b', ys, e3, g3, g4, g5⟩ := cell_write (ds' := ds.take iv.toNat ++ [z] ++ ds.drop iv.toNat) rel3 (rv.mono (l2.trans l3)) e2
        cases e3
        cases ru
        exact ⟨b, ys, iv, u3, rfl, rfl, g3, by rw [g4.len]; exact Nat.lt_of_le_of_lt hz.1 mil_line, hz.2.1, hz.2.2, k _ _ _ _ _ (l1.trans (l2.trans l3)) (g5 _ (((g4.tk _).app (.cons ru3 .nil)).app (g4.dp _))) .non hq3⟩
      | _ => exact hq3.elim
    | _ => exact hq.elim
/-! ### enumerate -/
def numb (ds : List D) : List D := ds.mapIdx fun i d => .tup [.int (i : Nat), d]
@[irreducible] def enumF (x : D) (m : Sto) (q : List D → Own → Sto → Prop) : Prop := match x with
  | .ptr i => onS (lstOf (.ptr i) m) fun ds => q (numb ds) (some (i, ds)) m
  | x => onS (seqL x m) fun ds => q (numb ds) none m
def dEnum (te : DE) : DI := fun r m q => te r m fun x m1 => enumF x m1 q
theorem itok_enum {K : PySem.W.Frag} {W : Wd} {ds : List D} {a : Addr} {o : Own} (h : ∀ W' F H' m', W.Le W' → Rel K W' F H' m' → okP o m' → ∃ xs, SqL K H' a xs ∧ RA K W' xs ds) : ItOk K W (numb ds) o (Ite K a) where
  go := fun W' F H' m' i l rel ok hi => by
    obtain ⟨xs, h1, h2⟩ := h W' F H' m' l rel ok
    have hx : i < xs.length := by rw [h2.len]; simpa [numb] using hi
    exact ⟨xs, xs[i], h1, List.getElem?_eq_getElem hx⟩
  yld := fun W' F H' m' i x H'' l rel ok hi y => by
    obtain ⟨xs, h1, h2⟩ := h W' F H' m' l rel ok
    obtain ⟨T, x0, rfl, hT, rfl, y⟩ := y
    obtain ⟨d, e1, e2⟩ := h2.getV (y xs h1)
    refine ⟨_, .tup [.int (i : Nat), d], cold_le rel.toRel0 hT, rel.cold hT, ?_, .tup (SqT.of upd_same) (.cons (.int _) (.cons (e2.mono (cold_le rel.toRel0 hT)) .nil))⟩
    simp [numb, e1]
  stop := fun W' F H' m' i l rel ok hi => by
    obtain ⟨xs, h1, h2⟩ := h W' F H' m' l rel ok
    exact ⟨xs, h1, by rw [h2.len]; simpa [numb] using hi⟩
theorem ji_enum {p tpos : Pos} {elts : List Expr} {kk : Nat} (hg : Gl X "enumerate") (hm : X.mg "enumerate" = none) (ha : JE X a ta) (hs : starEach [a] X.env = [(false, eval a X.env)] := by rfl) :
    JI X (.Tuple elts kk tpos) (.Call (.Name "enumerate" p) [a] [] pos) (dEnum ta) :=
  pi_wk (pi_enum hg hm (pa_cons ha pa_nil hs) hs) fun s H Rr ⟨W, F, m, r, q, rel, rs, h, k⟩ => by
    refine ⟨W, F, m, r, _, rel, rs, h, fun W1 H1 m1 v d l1 rel1 rv hq => ?_⟩
    unfold enumF at hq
    have cold : (onS (seqL d m1) fun ds => q (numb ds) none m1) → (∀ i, d ≠ .ptr i) → ∃ a xs, [v] = [V.ref a] ∧ SqL X.K H1 a xs ∧ Rr (Ite X.K a) H1 := fun hq hn => by
      obtain ⟨ds, e1, hq⟩ := onS_some hq
      obtain ⟨a, xs, rfl, g1, g2⟩ := seqL_at rel1 rv e1
      have look : ∀ W' F H' m', W1.Le W' → Rel X.K W' F H' m' → okP none m' → ∃ xs, SqL X.K H' a xs ∧ RA X.K W' xs ds := fun W' F H' m' l rel' _ => by
        have rv' := rv.mono l
        have e1' : seqL d m' = some ds := by
          cases d <;> first | exact e1 | exact absurd rfl (hn _)
        obtain ⟨b, ys, e2, g3, g4⟩ := seqL_at rel' rv' e1'
        cases e2
        exact ⟨ys, g3, g4⟩
      exact ⟨a, xs, rfl, g1, k W1 H1 m1 _ _ _ l1 rel1 (itok_enum look) trivial hq⟩
    cases d with
    | ptr i =>
      obtain ⟨ds, e1, hq⟩ := onS_some hq
      have hm1 : m1[i]? = some (.lst ds) := by
        unfold lstOf at e1
        cases z : m1[i]? with
        | none => simp only [z] at e1; cases e1
        | some c =>
          cases c with
          | dead => simp only [z] at e1; cases e1
          | dic ds => simp only [z] at e1; cases e1
          | ins c fs => simp only [z] at e1; cases e1
          | lst es => simp only [z] at e1; cases e1; rfl
      obtain ⟨a, xs, rfl, g1, g2⟩ := lstOf_at rel1 rv e1
      have look : ∀ W' F H' m', W1.Le W' → Rel X.K W' F H' m' → okP (some (i, ds)) m' → ∃ xs, SqL X.K H' a xs ∧ RA X.K W' xs ds := fun W' F H' m' l rel' ok => by
        have rv' := rv.mono l
        have ok' : m'[i]? = some (.lst ds) := ok
        have e1' : lstOf (.ptr i) m' = some ds := by simp only [lstOf, ok']
        obtain ⟨b, ys, e2, g3, g4⟩ := lstOf_at rel' rv' e1'
        cases e2
        exact ⟨ys, SqL.of g3, g4⟩
      exact ⟨a, xs, rfl, SqL.of g1, k W1 H1 m1 _ _ _ l1 rel1 (itok_enum look) hm1 hq⟩
    | _ => exact cold hq (fun i z => by cases z)
end
/-! ### rows for reading -/
section
variable {m : Sto} {ds : List D} {i : Int} {b : Bool} {x : Str}
theorem kd_non : kd .non m = some .non := rfl
theorem kd_bl : kd (.bl b) m = some .bl := rfl
theorem kd_int : kd (.int i) m = some .int := rfl
theorem kd_str : kd (.str x) m = some .str := rfl
theorem kd_tup : kd (.tup ds) m = some .tup := rfl
theorem kd_lst : kd (.lst ds) m = some .lst := rfl
theorem kd_fz : kd (.fz ds) m = some .lst := rfl
theorem isT_int_non : isT .int .non = false := rfl
theorem isT_int_bl : isT .int .bl = true := rfl
theorem isT_int_int : isT .int .int = true := rfl
theorem isT_int_str : isT .int .str = false := rfl
theorem isT_int_tup : isT .int .tup = false := rfl
theorem isT_int_lst : isT .int .lst = false := rfl
theorem isT_bool_non : isT .bool .non = false := rfl
theorem isT_bool_bl : isT .bool .bl = true := rfl
theorem isT_bool_int : isT .bool .int = false := rfl
theorem isT_bool_str : isT .bool .str = false := rfl
theorem isT_bool_tup : isT .bool .tup = false := rfl
theorem isT_bool_lst : isT .bool .lst = false := rfl
theorem isT_str_non : isT .str .non = false := rfl
theorem isT_str_bl : isT .str .bl = false := rfl
theorem isT_str_int : isT .str .int = false := rfl
theorem isT_str_str : isT .str .str = true := rfl
theorem isT_str_tup : isT .str .tup = false := rfl
theorem isT_str_lst : isT .str .lst = false := rfl
theorem isT_list_non : isT .list .non = false := rfl
theorem isT_list_bl : isT .list .bl = false := rfl
theorem isT_list_int : isT .list .int = false := rfl
theorem isT_list_str : isT .list .str = false := rfl
theorem isT_list_tup : isT .list .tup = false := rfl
theorem isT_list_lst : isT .list .lst = true := rfl
theorem isT_tuple_non : isT .tuple .non = false := rfl
theorem isT_tuple_bl : isT .tuple .bl = false := rfl
theorem isT_tuple_int : isT .tuple .int = false := rfl
theorem isT_tuple_str : isT .tuple .str = false := rfl
theorem isT_tuple_tup : isT .tuple .tup = true := rfl
theorem isT_tuple_lst : isT .tuple .lst = false := rfl
theorem isT_dict_non : isT .dict .non = false := rfl
theorem isT_dict_bl : isT .dict .bl = false := rfl
theorem isT_dict_int : isT .dict .int = false := rfl
theorem isT_dict_str : isT .dict .str = false := rfl
theorem isT_dict_tup : isT .dict .tup = false := rfl
theorem isT_dict_lst : isT .dict .lst = false := rfl
end
/-! ### branches -/
theorem br {p : Prop} [Decidable p] {A B : Prop} (h1 : p → A) (h2 : ¬ p → B) : (decide p = true → A) ∧ (decide p = false → B) := ⟨fun h => h1 (of_decide_eq_true h), fun h => h2 (of_decide_eq_false h)⟩
theorem nbr {p : Prop} [Decidable p] {A B : Prop} (h1 : ¬ p → A) (h2 : p → B) : ((!decide p) = true → A) ∧ ((!decide p) = false → B) := by
  by_cases hp : p
  · rw [decide_eq_true hp]; exact ⟨(fun h => nomatch h), fun _ => h2 hp⟩
  · rw [decide_eq_false hp]; exact ⟨fun _ => h1 hp, (fun h => nomatch h)⟩
theorem bt {A B : Prop} (h : A) : (true = true → A) ∧ (true = false → B) := ⟨fun _ => h, (fun z => nomatch z)⟩
theorem bf {A B : Prop} (h : B) : (false = true → A) ∧ (false = false → B) := ⟨(fun z => nomatch z), fun _ => h⟩
theorem bb {b : Bool} {A B : Prop} (h1 : b = true → A) (h2 : b = false → B) : (b = true → A) ∧ (b = false → B) := ⟨h1, h2⟩
theorem btt {b : Bool} {A B : Prop} (hb : b = true) (h : A) : (b = true → A) ∧ (b = false → B) := by subst hb; exact bt h
theorem bff {b : Bool} {A B : Prop} (hb : b = false) (h : B) : (b = true → A) ∧ (b = false → B) := by subst hb; exact bf h
theorem eqG_fr {a b c d : Int} {m : Sto} {q : D → Sto → Prop} (h : q (.bl (decide (a = c ∧ b = d))) m) : dEqG false (fr a b) (fr c d) m q := by
  have e : dEq (fr a b) (fr c d) m q = dEqG false (fr a b) (fr c d) m q := rfl
  rw [← e, dEq_fr]; exact h
theorem neG_fr {a b c d : Int} {m : Sto} {q : D → Sto → Prop} (h : q (.bl (!decide (a = c ∧ b = d))) m) : dEqG true (fr a b) (fr c d) m q := by
  have e : dNe (fr a b) (fr c d) m q = dEqG true (fr a b) (fr c d) m q := rfl
  rw [← e, dNe_fr]; exact h
end DL
/-! Data layer, part 8: what may be shown and compared; comprehensions by an invariant; slices; lists read. -/
namespace DL
open PySem PySem.Spec PyProof.Rows L2
variable [Cl] [Lk]
/-! ### shown, compared -/
structure Pd (k c : Nat) (v : PyData) : Prop where
  lay : v.canLay0 = true
  dep : v.depth ≤ k
  sho : v.showable = true
  len : v.shown.length ≤ c
theorem Pd.mono {k c k' c' : Nat} {v : PyData} (h : Pd k c v) (hk : k ≤ k') (hc : c ≤ c') : Pd k' c' v := ⟨h.lay, Nat.le_trans h.dep hk, h.sho, Nat.le_trans h.len hc⟩
def Gd (k c : Nat) (d : D) : Prop := ∃ v, py0 d = some v ∧ Pd k c v
theorem Gd.mono {k c k' c' : Nat} {d : D} (h : Gd k c d) (hk : k ≤ k') (hc : c ≤ c') : Gd k' c' d := let ⟨v, e, p⟩ := h; ⟨v, e, p.mono hk hc⟩
theorem log2_lt {a n k : Nat} (h : a < 2 ^ n) (hk : 0 < k) (hn : n ≤ k) : a.log2 < k := by
  by_cases z : a = 0
  · subst z; simpa using hk
  · exact (Nat.log2_lt z).mpr (Nat.lt_of_lt_of_le h (Nat.pow_le_pow_right (by decide) hn))
theorem gd_int {i : Int} {n : Nat} (h : Sm n i) (hn : n ≤ 1900) : Gd 0 (n + 3) (.int i) := by
  refine ⟨.int i, rfl, rfl, Nat.le_refl _, ?_, ?_⟩
  · exact decide_eq_true (log2_lt h.lt (by decide) (by omega))
  · have h1 := int_text_length_le (a := i) (k := n + 1) (by omega) (log2_lt h.lt (by omega) (by omega))
    show (Str.ofString (toString i)).length ≤ _
    rw [PySem.ofString_length]
    omega
theorem gd_non : Gd 0 5 .non := ⟨.none, rfl, rfl, Nat.le_refl _, rfl, by decide⟩
theorem gd_bl {b : Bool} : Gd 0 5 (.bl b) := ⟨.bool b, rfl, rfl, Nat.le_refl _, rfl, by cases b <;> decide⟩
theorem gd_all {k c : Nat} : ∀ {ds : List D}, (∀ d ∈ ds, Gd k c d) → ∃ vs, py0A ds = some vs ∧ PyData.canLayAll0 vs = true ∧ PyData.depthAll vs ≤ k ∧ PyData.showableAll vs = true ∧ ((PyData.shownAll vs).map (·.length)).sum ≤ c * ds.length ∧ (PyData.shownAll vs).length = ds.length
  | [], _ => ⟨[], rfl, rfl, Nat.zero_le _, rfl, Nat.le_refl _, rfl⟩
  | d :: ds, h => by
    obtain ⟨v, e, p⟩ := h d List.mem_cons_self
    obtain ⟨vs, e2, h1, h2, h3, h4, h5⟩ := gd_all fun x hx => h x (List.mem_cons_of_mem _ hx)
    refine ⟨v :: vs, by simp only [py0A, e, e2], ?_, ?_, ?_, ?_, ?_⟩
    · simp only [PyData.canLayAll0, p.lay, h1, Bool.and_self]
    · simp only [PyData.depthAll]; have := p.dep; omega
    · simp only [PyData.showableAll, p.sho, h3, Bool.and_self]
    · simp only [PyData.shownAll, List.map_cons, List.sum_cons, List.length_cons]
      have := p.len
      rw [Nat.mul_add]
      omega
    · simp only [PyData.shownAll, List.length_cons, h5]
theorem gd_tup {k c : Nat} {ds : List D} (h : ∀ d ∈ ds, Gd k c d) : Gd (k + 1) ((c + 2) * ds.length + 3) (.tup ds) := by
  obtain ⟨vs, e2, h1, h2, h3, h4, h5⟩ := gd_all h
  refine ⟨.tuple vs, by simp only [py0, e2, Option.map_some], by simpa only [PyData.canLay0] using h1, by simp only [PyData.depth]; omega, by simpa only [PyData.showable] using h3, ?_⟩
  have := tupleText_len_le (PyData.shownAll vs)
  simp only [PyData.shown]
  rw [Nat.add_mul]
  omega
theorem gd_lstP {k c : Nat} {ds : List D} (h : ∀ d ∈ ds, Gd k c d) : ∃ v, (py0A ds).map PyData.list = some v ∧ Pd (k + 1) ((c + 2) * ds.length + 3) v := by
  obtain ⟨vs, e2, h1, h2, h3, h4, h5⟩ := gd_all h
  refine ⟨.list vs, by simp only [e2, Option.map_some], by simpa only [PyData.canLay0] using h1, by simp only [PyData.depth]; omega, by simpa only [PyData.showable] using h3, ?_⟩
  have := listText_len_le (PyData.shownAll vs)
  simp only [PyData.shown]
  rw [Nat.add_mul]
  omega
theorem gd_lst {k c : Nat} {ds : List D} (h : ∀ d ∈ ds, Gd k c d) : Gd (k + 1) ((c + 2) * ds.length + 3) (.lst ds) := by
  obtain ⟨v, e, p⟩ := gd_lstP h
  exact ⟨v, by simpa only [py0] using e, p⟩
theorem gd_fr {t b : Int} {n : Nat} (st : Sm n t) (sb : Sm n b) (hn : n ≤ 1900) : Gd 1 (2 * n + 13) (fr t b) := by
  refine (gd_tup (k := 0) (c := n + 3) fun d hd => ?_).mono (by omega) (by simp only [List.length_cons, List.length_nil]; omega)
  simp only [List.mem_cons, List.not_mem_nil, or_false] at hd
  rcases hd with rfl | rfl
  · exact gd_int st hn
  · exact gd_int sb hn
theorem py_of {m : Sto} {d : D} {v : PyData} (h : py0 d = some v) : py m d = some v := by
  cases d <;> first | exact h | cases h
theorem py_ptr {m : Sto} {i : Nat} {ds : List D} (h : m[i]? = some (.lst ds)) : py m (.ptr i) = (py0A ds).map PyData.list := by
  simp only [py, h]
theorem py_lst {m : Sto} {ds : List D} : py m (.lst ds) = (py0A ds).map PyData.list := by simp only [py, py0]
theorem pd_shaped {c : Nat} {v : PyData} (p : Pd 60 c v) : SeqAt.shaped v = true := by
  show (v.canLay0 && decide (v.depth ≤ 64)) = true
  rw [p.lay, decide_eq_true (by have := p.dep; omega)]
  rfl
theorem eqG_py {x y : D} {m : Sto} {a b : PyData} {neg : Bool} {q : D → Sto → Prop} {c c' : Nat} (hx : py m x = some a) (hy : py m y = some b) (pa : Pd 60 c a) (pb : Pd 60 c' b) (h : q (.bl (if neg then !PyData.eqv a b else PyData.eqv a b)) m) : dEqG neg x y m q := by
  unfold dEqG
  rw [hx, hy]
  exact ⟨pd_shaped pa, pd_shaped pb, h⟩
theorem eqv_int {i j : Int} : PyData.eqv (.int i) (.int j) = decide (i = j) := by simp [PyData.eqv]; rfl
theorem eqv_bl {i j : Bool} : PyData.eqv (.bool i) (.bool j) = decide (i = j) := by cases i <;> cases j <;> rfl
theorem eqv_str {i j : Str} : PyData.eqv (.str i) (.str j) = decide (i = j) := by
  simp only [PyData.eqv]
  by_cases h : i = j
  · subst h; simp
  · rw [decide_eq_false h]; exact beq_eq_false_iff_ne.mpr h
theorem dEq_py {x y : D} {m : Sto} {a b : PyData} {q : D → Sto → Prop} {c c' : Nat} (hx : py m x = some a) (hy : py m y = some b) (pa : Pd 60 c a) (pb : Pd 60 c' b) (h : q (.bl (PyData.eqv a b)) m) : dEq x y m q := by
  unfold dEq
  split
  · cases hx; cases hy
    rw [eqv_int] at h; exact h
  · cases hx; cases hy
    rw [eqv_bl] at h; exact h
  · cases hx; cases hy
    rw [eqv_str] at h; exact h
  · exact eqG_py hx hy pa pb h
theorem dNe_py {x y : D} {m : Sto} {a b : PyData} {q : D → Sto → Prop} {c c' : Nat} (hx : py m x = some a) (hy : py m y = some b) (pa : Pd 60 c a) (pb : Pd 60 c' b) (h : q (.bl (!PyData.eqv a b)) m) : dNe x y m q := by
  unfold dNe
  split
  · cases hx; cases hy
    rw [eqv_int] at h; exact h
  · cases hx; cases hy
    rw [eqv_bl] at h; exact h
  · cases hx; cases hy
    rw [eqv_str] at h; exact h
  · exact eqG_py hx hy pa pb h
theorem dEq_same {x y : D} {m : Sto} {v : PyData} {q : D → Sto → Prop} {c : Nat} (hx : py m x = some v) (hy : py m y = some v) (p : Pd 60 c v) (h : q (.bl true) m) : dEq x y m q := by
  refine dEq_py hx hy p p ?_
  rw [SeqAt.eqv_refl v p.lay]
  exact h
theorem dNe_same {x y : D} {m : Sto} {v : PyData} {q : D → Sto → Prop} {c : Nat} (hx : py m x = some v) (hy : py m y = some v) (p : Pd 60 c v) (h : q (.bl false) m) : dNe x y m q := by
  refine dNe_py hx hy p p ?_
  rw [SeqAt.eqv_refl v p.lay]
  exact h
theorem eqG_same {x y : D} {m : Sto} {v : PyData} {q : D → Sto → Prop} {c : Nat} {neg : Bool} (hx : py m x = some v) (hy : py m y = some v) (p : Pd 60 c v) (h : q (.bl (!neg)) m) : dEqG neg x y m q := by
  refine eqG_py hx hy p p ?_
  rw [SeqAt.eqv_refl v p.lay]
  cases neg <;> exact h
theorem dRepr_i {x : D} {m : Sto} {v : PyData} {q : D → Sto → Prop} (hx : py m x = some v) (p : Pd 60 sizeLine v) (h : q (.str v.shown) m) : dRepr [x] m q := by
  show onS (py m x) _
  rw [hx]
  exact ⟨p.sho, PyData.hasDict_of_canLay v p.lay, p.dep, p.len, h⟩
theorem dRepr_k {v : PyData} {Q : Prop} (p : Pd 60 sizeLine v) (h : Q) : v.showable = true ∧ v.hasDict = false ∧ v.depth ≤ 60 ∧ v.shown.length ≤ sizeLine ∧ Q := ⟨p.sho, PyData.hasDict_of_canLay v p.lay, p.dep, p.len, h⟩
/-! ### comprehensions -/
theorem lc_ind {i : Nat} {te : DE} {ok : Sto → Prop} {r : DSt} {q : List D → Sto → Prop} (I : List D → List D → Sto → Prop)
    (step : ∀ x xs acc m (N : D → Sto → Prop), I (x :: xs) acc m → (∀ y m', I xs (acc ++ [y]) m' → N y m') → te (put r i x) m N)
    (hok : ∀ xs acc m, I xs acc m → ok m) (fin : ∀ acc m, I [] acc m → q acc m) (ds acc : List D) (m : Sto) (h : I ds acc m) : lcI i dYes te ok ds r acc m q := by
  have go : ∀ ds acc m, I ds acc m → lcD i dYes te ok ds r acc m q := fun ds => by
    induction ds with
    | nil => exact fun acc m h => fin acc m h
    | cons x xs ih => exact fun acc m h => ⟨fun _ => step x xs acc m _ h fun y m' h' => ⟨hok _ _ _ h', ih _ _ h'⟩, fun z => by cases z⟩
  rw [lcI_eq]
  exact go ds acc m h
theorem lc_indT {i : Nat} {tt : DT} {te : DE} {ok : Sto → Prop} {r : DSt} {q : List D → Sto → Prop} (I : List D → List D → Sto → Prop)
    (step : ∀ x xs acc m (N : D → Sto → Prop) (N0 : Sto → Prop), I (x :: xs) acc m → (∀ y m', I xs (acc ++ [y]) m' → N y m') → (∀ m', I xs acc m' → N0 m') → tt (put r i x) m fun b m1 => (b = true → te (put r i x) m1 N) ∧ (b = false → N0 m1))
    (hok : ∀ xs acc m, I xs acc m → ok m) (fin : ∀ acc m, I [] acc m → q acc m) (ds acc : List D) (m : Sto) (h : I ds acc m) : lcI i tt te ok ds r acc m q := by
  have go : ∀ ds acc m, I ds acc m → lcD i tt te ok ds r acc m q := fun ds => by
    induction ds with
    | nil => exact fun acc m h => fin acc m h
    | cons x xs ih => exact fun acc m h => step x xs acc m _ _ h (fun y m' h' => ⟨hok _ _ _ h', ih _ _ h'⟩) (fun m' h' => ⟨hok _ _ _ h', ih _ _ h'⟩)
  rw [lcI_eq]
  exact go ds acc m h
/-! ### lists read -/
theorem kd_of_seq {x : D} {m : Sto} {ds : List D} (h : seqL x m = some ds) : kd x m = some .lst := by
  cases x with
  | lst es => rfl
  | fz es => rfl
  | ptr i =>
    have h' : lstOf (.ptr i) m = some ds := h
    unfold lstOf at h'
    unfold kd
    cases q : m[i]? with
    | none => simp only [q] at h'; cases h'
    | some c => cases c with
      | dead => simp only [q] at h'; cases h'
      | dic ds => simp only [q] at h'; cases h'
      | ins c fs => simp only [q] at h'; cases h'
      | lst es => simp only [q]
  | _ => cases h
theorem items_of_seq {x : D} {m : Sto} {ds : List D} (h : seqL x m = some ds) : ∃ o, items x m = some (ds, o) ∧ okP o m := by
  cases x with
  | lst es => cases h; exact ⟨none, rfl, trivial⟩
  | fz es => cases h; exact ⟨none, rfl, trivial⟩
  | ptr i =>
    have h' : lstOf (.ptr i) m = some ds := h
    unfold lstOf at h'
    cases q : m[i]? with
    | none => simp only [q] at h'; cases h'
    | some c => cases c with
      | dead => simp only [q] at h'; cases h'
      | dic ds => simp only [q] at h'; cases h'
      | ins c fs => simp only [q] at h'; cases h'
      | lst es =>
        simp only [q] at h'
        cases h'
        exact ⟨some (i, ds), by simp only [items, q], q⟩
  | _ => cases h
theorem dIx_seq {x : D} {m : Sto} {ds : List D} {i : Int} {d : D} {q : D → Sto → Prop} (h : seqL x m = some ds) (e : atI ds i = some d) (k : q d m) : dIx x (.int i) m q := by
  have go : (onS (seqL x m) fun ds => onS (atI ds i) fun d => q d m) := by rw [h]; show onS (atI ds i) _; rw [e]; exact k
  cases x <;> first | exact go | cases h
theorem dLen_seq {x : D} {m : Sto} {ds : List D} {q : D → Sto → Prop} (h : seqL x m = some ds) (k : q (.int ds.length) m) : dLen [x] m q := by
  have go : (onS (seqL x m) fun ds => q (.int ds.length) m) := by rw [h]; exact k
  cases x <;> first | exact go | cases h
theorem dList_seq {x : D} {m : Sto} {ds : List D} {q : D → Sto → Prop} (h : seqL x m = some ds) (k : q (.lst ds) m) : dList [x] m q := by
  have go : (onS (seqL x m) fun ds => q (.lst ds) m) := by rw [h]; exact k
  cases x <;> first | exact go | cases h
/-! ### slices -/
theorem cut_from {α : Type} (xs : List α) (k : Nat) : cutD xs (some (k : Int)) none = xs.drop k := by
  unfold cutD
  rw [HT.sIx_nat]
  show ((xs.drop (min k xs.length)).take (xs.length - min k xs.length)) = _
  by_cases h : k ≤ xs.length
  · rw [Nat.min_eq_left h, List.take_of_length_le (by rw [List.length_drop]; omega)]
  · rw [Nat.min_eq_right (by omega), List.drop_of_length_le (show xs.length ≤ k by omega), List.drop_of_length_le (Nat.le_refl _), List.take_nil]
theorem cut_to {α : Type} (xs : List α) (k : Nat) : cutD xs none (some (k : Int)) = xs.take k := by
  unfold cutD
  rw [HT.sIx_nat]
  show ((xs.drop 0).take (min k xs.length - 0)) = _
  rw [List.drop_zero, Nat.sub_zero]
  by_cases h : k ≤ xs.length
  · rw [Nat.min_eq_left h]
  · rw [Nat.min_eq_right (by omega), List.take_of_length_le (Nat.le_refl _), List.take_of_length_le (by omega)]
/-! ### signs of differences -/
def sgn (x y : Int) : Int := if x < y then -1 else if y < x then 1 else 0
theorem sgn_neg {x y : Int} : sgn x y < 0 ↔ x < y := by unfold sgn; split <;> (try split) <;> omega
theorem sgn_pos {x y : Int} : 0 < sgn x y ↔ y < x := by unfold sgn; split <;> (try split) <;> omega
theorem sgn_le {x y : Int} : sgn x y ≤ 0 ↔ x ≤ y := by unfold sgn; split <;> (try split) <;> omega
theorem sgn_self {x : Int} : sgn x x = 0 := by unfold sgn; rw [if_neg (by omega), if_neg (by omega)]
theorem sgn_sm {x y : Int} : Sm 2 (sgn x y) := by unfold sgn Sm; split <;> (try split) <;> decide
theorem sm_le {v : Int} (n : Nat) (h1 : -(2 ^ n) < v) (h2 : v < 2 ^ n) : Sm n v := Sm.of (by
  have e : ((2 ^ n : Nat) : Int) = (2 : Int) ^ n := by rw [Int.natCast_pow]; rfl
  omega)
theorem nilA : (py0A []).map PyData.list = some (.list []) := by simp only [py0A, Option.map_some]
theorem py_nil {m : Sto} : py m (.lst []) = some (.list []) := by simp only [py, py0, py0A, Option.map_some]
theorem pd_nil : Pd 1 2 (.list []) := ⟨rfl, by decide, rfl, by decide⟩
/-- a list with something in it is not the empty one -/
theorem eqv_nil {ds : List D} {v : PyData} (hne : ds ≠ []) (e : (py0A ds).map PyData.list = some v) : PyData.eqv v (.list []) = false := by
  obtain ⟨d, es, rfl⟩ := List.exists_cons_of_ne_nil hne
  simp only [Option.map_eq_some_iff] at e
  obtain ⟨ps, e1, rfl⟩ := e
  cases ps with
  | nil =>
    exfalso
    unfold py0A at e1
    split at e1 <;> cases e1
  | cons a as => rfl
theorem ixN_nn {n : Nat} {a : Int} (h0 : 0 ≤ a) (h : a < n) : ixN n a = some a.toNat := by
  unfold ixN
  rw [if_pos h0, if_pos h]
/-! ### a def that calls itself: at first its promise is empty -/
theorem kn_never {P : Program} {w : World} {K : PySem.W.Frag} {mg : Str → Option Value} {base : Heap} {x : Str} {st : Stmt} {f : Addr} {fd : FuncData} {ps : List Str} {k : Nat} {g : FN} (F : L2.Fun K x x st f fd) (hm : mg x = some (.ref f)) (b : Binds K fd ps []) (hg : ∀ ds m q, ¬ g ds m q) : Kn P w K mg base k x g := by
  refine ⟨0, f, fd, ps, ⟨?_, ?_⟩, hm, F.kp, b, fun ds m q h => (hg _ _ _ h).elim⟩
  · rintro vs H Q E ⟨_, W, F', m, ds, q, _, _, h, _⟩
    exact (hg _ _ _ h).elim
  · rintro A outer s H args us vs Q E _ _ _ _ _ ⟨_, W, F', m, ds, q, _, _, h, _⟩
    exact (hg _ _ _ h).elim
end DL
/-! Data layer, part 9: comprehensions over pairs. -/
namespace DL
open PySem PySem.Spec PyProof.Rows L2
variable [Cl] [Lk]
def gTwo (K : PySem.W.Frag) (i j : Nat) : TG := gTup K 2 (gCons (gName i) (gCons (gName j) gNil))
theorem wipe_two (s : L2.St) (a b : V) {i j : Nat} (h : i ≠ j) : wipe (((wipe s [i, j]).set i (some a)).set j (some b)) [i, j] = wipe s [i, j] := by
  show ((((((s.set j none).set i none).set i (some a)).set j (some b)).set j none).set i none) = (s.set j none).set i none
  rw [List.set_set, List.set_set, List.set_comm _ _ h, List.set_set, List.set_set]
def lcD2 (i j : Nat) (tt : DT) (te : DE) (ok : Sto → Prop) : List D → DSt → List D → Sto → (List D → Sto → Prop) → Prop
  | [], _, acc, m, q => q acc m
  | .tup [a, b] :: xs, r, acc, m, q => tt (put (put r i a) j b) m fun c m1 => (c = true → te (put (put r i a) j b) m1 fun y m2 => ok m2 ∧ lcD2 i j tt te ok xs r (acc ++ [y]) m2 q) ∧ (c = false → ok m1 ∧ lcD2 i j tt te ok xs r acc m1 q)
  | _ :: _, _, _, _, _ => False
def dLcQ2 (i j : Nat) (ti : DI) (tt : DT) (te : DE) (r : DSt) (m : Sto) (q : List D → Sto → Prop) : Prop := ti r m fun ds o m1 => ds.length ≤ 1000000 ∧ lcD2 i j tt te (okP o) ds (forget (forget r j) i) [] m1 q
theorem lc2_wk {K : PySem.W.Frag} {i j' : Nat} (hij : i ≠ j') {ti : DI} {tt : DT} {te : DE} {fin : List D → Sto → (D → Sto → Prop) → Prop}
    (hfin : ∀ (W : Wd) (F H : Hp) (m : Sto) (p : Addr) (xs : List V) (ds : List D) (q : D → Sto → Prop) (Q : VK), F p = none → Same Lk.F0 F → Rel K W (upd F p (.lst xs)) H m → RA K W xs ds → fin ds m q → Fol K W F q Q → Q (.ref p) H)
    (s : L2.St) (H : Hp) (Q : VK) (h : liftE K (fun r m q => dLcQ2 i j' ti tt te r m fun acc m1 => fin acc m1 q) s H Q) : tLc (liftI K ti) (gTwo K i j') (liftT K tt) (liftE K te) [i, j'] s H Q := by
  obtain ⟨W, F, m, r, q, rel, rs, h, k⟩ := h
  refine ⟨W, F, m, r, _, rel, rs, h, fun W1 H1 m1 ds o J l1 rel1 hJ ok1 hq p hp => ?_⟩
  obtain ⟨hz, hq⟩ := hq
  have hF : F p = none := rel1.fF hp
  have rs1 : RSt K W1 (wipe s [i, j']) (forget (forget r j') i) := ((rs.mono l1).forget j').forget i
  refine ⟨fun j n H' => ∃ W' m' xs acc, W1.Le W' ∧ Rel K W' (upd F p (.lst xs)) H' m' ∧ RA K W' xs acc ∧ okP o m' ∧ acc.length ≤ j ∧ j + n = ds.length ∧ lcD2 i j' tt te (okP o) (ds.drop j) (forget (forget r j') i) acc m' (fun acc m1 => fin acc m1 q),
    ⟨ds.length, W1, m1, [], [], .refl _, rel1.framed hp, .nil, ok1, Nat.le_refl _, Nat.zero_add _, by rw [List.drop_zero]; exact hq⟩, fun j n H2 ⟨W2, m2, xs, acc, l2, rel2, ra2, ok2, hacc, en, hq2⟩ => ?_⟩
  by_cases hlt : j < ds.length
  · refine .inr ⟨hJ.go W2 _ H2 m2 j l2 rel2 ok2 hlt, fun H' => ∃ W' m' xs acc, W1.Le W' ∧ Rel K W' (upd F p (.lst xs)) H' m' ∧ RA K W' xs acc ∧ okP o m' ∧ acc.length ≤ j + 1 ∧ lcD2 i j' tt te (okP o) (ds.drop (j + 1)) (forget (forget r j') i) acc m' (fun acc m1 => fin acc m1 q), ?_, fun x H3 y => ?_⟩
    · rintro H' ⟨W', m', xs', acc', a1, a2, a3, a4, a5, a6⟩
      exact ⟨n - 1, by omega, W', m', xs', acc', a1, a2, a3, a4, a5, by omega, a6⟩
    · obtain ⟨W2', dx, l2', rel2', e1, rx⟩ := hJ.yld W2 _ H2 m2 j x H3 l2 rel2 ok2 hlt y
      have ra2' := ra2.mono l2'
      have l22 := l2.trans l2'
      rw [drop_step hlt] at hq2
      have ex : ds[j] = dx := Option.some.inj ((List.getElem?_eq_getElem hlt).symm.trans e1)
      rw [ex] at hq2
      have hq2' := hq2
      unfold lcD2 at hq2'
      match dx, rx, hq2' with
      | .tup [da, db], rx, hq2' =>
      obtain ⟨ad, vs, rfl, hsq, hra⟩ := tup_at rel2' rx
      obtain ⟨va, vb, rfl, rva, rvb⟩ := DL.ra2 hra
      refine ⟨ad, _, rfl, hsq, rfl, va, [vb], rfl, vb, [], rfl, rfl, ?_⟩
      have rs2 : RSt K W2' (((wipe s [i, j']).set i (some va)).set j' (some vb)) (put (put (forget (forget r j') i) i da) j' db) := ((rs1.mono l22).put rva i).put rvb j'
      refine ⟨wipe_two s va vb hij, ?_⟩
      refine ⟨W2', upd F p (.lst xs), m2, _, _, rel2', rs2, hq2', fun W3 H3 m3 b l3 rel3 hq3 => ?_⟩
      cases b with
      | false =>
        rw [if_neg Bool.false_ne_true]
        exact ⟨W3, m3, xs, acc, l22.trans l3, rel3, ra2'.mono l3, (hq3.2 rfl).1, by omega, (hq3.2 rfl).2⟩
      | true =>
        rw [if_pos rfl]
        refine ⟨W3, upd F p (.lst xs), m3, _, _, rel3, rs2.mono l3, hq3.1 rfl, fun W4 H4 m4 z dz l4 rel4 rz hq4 => ?_⟩
        have hH4 : H4 p = some (.lst xs) := rel4.frm _ _ upd_same
        refine ⟨xs, hH4, ?_, W4, m4, xs ++ [z], acc ++ [dz], l22.trans (l3.trans l4), rel4.reframe hF rel1.lf, (ra2'.mono (l3.trans l4)).app (.cons rz .nil), hq4.1, ?_, hq4.2⟩
        · rw [ra2.len]
          have : (1000000 : Nat) < sizeLine := by rw [sizeLine_eq]; decide
          omega
        · rw [List.length_append]
          show acc.length + 1 ≤ j + 1
          omega
  · have ed : ds.drop j = [] := List.drop_eq_nil_of_le (by omega)
    rw [ed] at hq2
    exact .inl ⟨hJ.stop W2 _ H2 m2 j l2 rel2 ok2 (by omega), hfin W2 F H2 m2 p xs acc q Q hF rel1.lf rel2 ra2 hq2 fun _ _ _ _ _ l => k _ _ _ _ _ (l1.trans (l2.trans l))⟩
@[irreducible] def lcI2 (i j : Nat) (tt : DT) (te : DE) (ok : Sto → Prop) (ds : List D) (r : DSt) (acc : List D) (m : Sto) (q : List D → Sto → Prop) : Prop := lcD2 i j tt te ok ds r acc m q
theorem lcI2_eq {i j : Nat} {tt : DT} {te : DE} {ok : Sto → Prop} {ds : List D} {r : DSt} {acc : List D} {m : Sto} {q : List D → Sto → Prop} : lcI2 i j tt te ok ds r acc m q = lcD2 i j tt te ok ds r acc m q := by unfold lcI2; rfl
def dLc2 (i j : Nat) (ti : DI) (tt : DT) (te : DE) : DE := fun r m q => ti r m fun ds o m1 => ds.length ≤ 1000000 ∧ lcI2 i j tt te (okP o) ds (forget (forget r j) i) [] m1 fun acc m1 => q (.lst acc) m1
theorem dLc2_eq {i j : Nat} {ti : DI} {tt : DT} {te : DE} : dLc2 i j ti tt te = fun r m q => dLcQ2 i j ti tt te r m fun acc m1 => q (.lst acc) m1 := by
  funext r m q
  unfold dLc2 dLcQ2
  simp only [lcI2_eq]
section
variable {X : Cx} {elt iter : Expr} {ifs : List Expr} {scope : Scope} {pos py npos npos2 tpos spos : Pos} {x y z : Str} {ti : DI} {tt : DT} {te : DE} {kk : Nat}
theorem je_lc2 (i j : Nat) (hij : i ≠ j) (hc : X.calm = true) (hN : X.N.Nodup) (hi : JI X (.Tuple [.Name x npos, .Name y npos2] kk tpos) iter ti) (ok : BlkOk X.N X.env.scope scope [(x, i), (y, j)]) (hg : Blk X scope fun Y => PG Y (.Tuple [.Name x npos, .Name y npos2] kk tpos) (gTwo X.K i j))
    (ht : ∀ (s : Shared) (H : Hp) (C : Addr) (cl : List (Str × Addr)) (fp : List Addr), JTs (X.blk s H scope (compEnvC scope cl C X.env) fp) ifs tt) (he : ∀ (s : Shared) (H : Hp) (C : Addr) (cl : List (Str × Addr)) (fp : List Addr), JE (X.blk s H scope (compEnvC scope cl C X.env) fp) elt te)
    (hs : ∀ z, foldedSetIterable iter X.env z = pure z := by intro _; rfl) : JE X (.ListComp elt [⟨.Tuple [.Name x npos, .Name y npos2] kk tpos, iter, ifs, 0⟩] scope pos) (dLc2 i j ti tt te) := by
  rw [dLc2_eq]
  exact pe_wk (pe_lc (own := [(x, i), (y, j)]) hc hN hi ok hg ht he hs) fun s H Q h => lc2_wk (i := i) (j' := j) (ti := ti) (tt := tt) (te := te) (fin := finC) hij fin_cold s H Q h
theorem js_setLc2 (i j n : Nat) (hij : i ≠ j) (hc : X.calm = true) (hN : X.N.Nodup) (hi : JI X (.Tuple [.Name x npos, .Name y npos2] kk tpos) iter ti) (ok : BlkOk X.N X.env.scope scope [(x, i), (y, j)]) (hg : Blk X scope fun Y => PG Y (.Tuple [.Name x npos, .Name y npos2] kk tpos) (gTwo X.K i j))
    (ht : ∀ (s : Shared) (H : Hp) (C : Addr) (cl : List (Str × Addr)) (fp : List Addr), JTs (X.blk s H scope (compEnvC scope cl C X.env) fp) ifs tt) (he : ∀ (s : Shared) (H : Hp) (C : Addr) (cl : List (Str × Addr)) (fp : List Addr), JE (X.blk s H scope (compEnvC scope cl C X.env) fp) elt te)
    (hsw : swapsWith (.ListComp elt [⟨.Tuple [.Name x npos, .Name y npos2] kk tpos, iter, ifs, 0⟩] scope pos) (some (.Name z py)) spos.line X.env = pure true) (hy : X.N[n]? = some z := by rfl) (hyl : X.env.scope.names.lookup z = some .local := by rfl)
    (hs : ∀ z, foldedSetIterable iter X.env z = pure z := by intro _; rfl) : JS X (.Assign [.Name z py] (.ListComp elt [⟨.Tuple [.Name x npos, .Name y npos2] kk tpos, iter, ifs, 0⟩] scope pos) spos) (dAsg (dLc2 i j ti tt te) (gN n)) := by
  rw [dLc2_eq]
  exact ps_wk (ps_setLc (own := [(x, i), (y, j)]) hc hN hy hyl hsw hi ok hg ht he hs) fun E s H ⟨W, F, m, r, d, rel, rs, h, L⟩ =>
    lc2_wk (i := i) (j' := j) (ti := ti) (tt := tt) (te := te) (fin := finC) hij fin_cold s H (fun v H1 => gName n v s H1 E.nx) ⟨W, F, m, r, fun x m1 => gN n x r m1 d.nx, rel, rs, h, fun W1 H1 m1 v x l1 rel1 rv hq => L.nx W1 H1 m1 _ _ l1 rel1 ((rs.mono l1).put rv n) hq⟩
end
theorem lc2_ind {i j : Nat} {tt : DT} {te : DE} {ok : Sto → Prop} {r : DSt} {q : List D → Sto → Prop} (I : List D → List D → Sto → Prop)
    (step : ∀ x xs acc m (N : D → Sto → Prop) (N0 : Sto → Prop), I (x :: xs) acc m → (∀ y m', I xs (acc ++ [y]) m' → N y m') → (∀ m', I xs acc m' → N0 m') → ∃ a b, x = .tup [a, b] ∧ tt (put (put r i a) j b) m fun c m1 => (c = true → te (put (put r i a) j b) m1 N) ∧ (c = false → N0 m1))
    (hok : ∀ xs acc m, I xs acc m → ok m) (fin : ∀ acc m, I [] acc m → q acc m) (ds acc : List D) (m : Sto) (h : I ds acc m) : lcI2 i j tt te ok ds r acc m q := by
  have go : ∀ ds acc m, I ds acc m → lcD2 i j tt te ok ds r acc m q := fun ds => by
    induction ds with
    | nil => exact fun acc m h => by unfold lcD2; exact fin acc m h
    | cons x xs ih =>
      intro acc m h
      obtain ⟨a, b, rfl, z⟩ := step x xs acc m (fun y m2 => ok m2 ∧ lcD2 i j tt te ok xs r (acc ++ [y]) m2 q) (fun m1 => ok m1 ∧ lcD2 i j tt te ok xs r acc m1 q) h (fun y m' h' => ⟨hok _ _ _ h', ih _ _ h'⟩) (fun m' h' => ⟨hok _ _ _ h', ih _ _ h'⟩)
      unfold lcD2
      exact z
  rw [lcI2_eq]
  exact go ds acc m h
/-- a comprehension that maps -/
theorem lc_map {i : Nat} {te : DE} {ok : Sto → Prop} {r : DSt} {q : List D → Sto → Prop} {ds : List D} {m : Sto} (f : D → D) (hte : ∀ x ∈ ds, ∀ N : D → Sto → Prop, N (f x) m → te (put r i x) m N) (hok : ok m) (k : q (ds.map f) m) : lcI i dYes te ok ds r [] m q := by
  refine lc_ind (fun xs acc m' => m' = m ∧ (∀ x ∈ xs, x ∈ ds) ∧ acc ++ xs.map f = ds.map f) ?_ ?_ ?_ _ _ _ ⟨rfl, fun x hx => hx, rfl⟩
  · rintro x xs acc m' N ⟨rfl, hx, e⟩ kk
    exact hte x (hx x List.mem_cons_self) N (kk _ _ ⟨rfl, fun y hy => hx y (List.mem_cons_of_mem _ hy), by rw [List.append_assoc]; exact e⟩)
  · rintro xs acc m' ⟨rfl, _⟩
    exact hok
  · rintro acc m' ⟨rfl, _, e⟩
    rw [List.map_nil, List.append_nil] at e
    rw [e]
    exact k
theorem enum_seq {x : D} {m : Sto} {ds : List D} {q : List D → Own → Sto → Prop} (h : seqL x m = some ds) (k : ∀ o, okP o m → q (numb ds) o m) : enumF x m q := by
  unfold enumF
  cases x with
  | ptr i =>
    have h' : lstOf (.ptr i) m = some ds := h
    show onS (lstOf (.ptr i) m) _
    rw [h']
    obtain ⟨o, e, ok⟩ := items_of_seq h
    refine k (some (i, ds)) ?_
    unfold lstOf at h'
    cases q : m[i]? with
    | none => simp only [q] at h'; cases h'
    | some c => cases c with
      | dead => simp only [q] at h'; cases h'
      | dic ds => simp only [q] at h'; cases h'
      | ins c fs => simp only [q] at h'; cases h'
      | lst es => simp only [q] at h'; cases h'; exact q
  | lst es => cases h; exact k none trivial
  | fz es => cases h; exact k none trivial
  | _ => cases h
/-- numbered from k on -/
def numF : Nat → List D → List D
  | _, [] => []
  | k, d :: ds => .tup [.int (k : Nat), d] :: numF (k + 1) ds
theorem numb_eq (ds : List D) : numb ds = numF 0 ds := by
  have go : ∀ (ds : List D) (k : Nat), (ds.mapIdx fun i d => D.tup [.int ((i + k : Nat)), d]) = numF k ds := fun ds => by
    induction ds with
    | nil => intro k; rfl
    | cons d ds ih =>
      intro k
      rw [List.mapIdx_cons]
      show D.tup [.int ((0 + k : Nat)), d] :: _ = D.tup [.int (k : Nat), d] :: numF (k + 1) ds
      rw [Nat.zero_add, ← ih (k + 1)]
      congr 1
      apply List.ext_getElem?
      intro i
      simp only [List.getElem?_mapIdx]
      rw [show i + 1 + k = i + (k + 1) by omega]
  exact go ds 0
theorem numF_len : ∀ (ds : List D) (k : Nat), (numF k ds).length = ds.length
  | [], _ => rfl
  | _ :: ds, k => by rw [numF, List.length_cons, List.length_cons, numF_len ds]
/-- the numbers of those that pass -/
def idxF (P : D → Bool) : Nat → List D → List D
  | _, [] => []
  | k, d :: ds => if P d = true then .int (k : Nat) :: idxF P (k + 1) ds else idxF P (k + 1) ds
/-- [k for k, one in enumerate(..) if t(one)] -/
theorem lc_enum {i j : Nat} {tt : DT} {te : DE} {ok : Sto → Prop} {r : DSt} {q : List D → Sto → Prop} {ds : List D} {m : Sto} (P : D → Bool)
    (htt : ∀ x ∈ ds, ∀ (k : Nat) (N : Bool → Sto → Prop), N (P x) m → tt (put (put r i (.int (k : Nat))) j x) m N) (hte : ∀ x (k : Nat) (N : D → Sto → Prop), N (.int (k : Nat)) m → te (put (put r i (.int (k : Nat))) j x) m N)
    (hok : ok m) (fin : q (idxF P 0 ds) m) : lcI2 i j tt te ok (numF 0 ds) r [] m q := by
  refine lc2_ind (fun xs acc m' => m' = m ∧ ∃ k es, xs = numF k es ∧ (∀ x ∈ es, x ∈ ds) ∧ acc ++ idxF P k es = idxF P 0 ds) ?_ ?_ ?_ _ _ _ ⟨rfl, 0, ds, rfl, fun x hx => hx, rfl⟩
  · rintro x xs acc m' N N0 ⟨rfl, k, es, e1, hx, e2⟩ h1 h2
    cases es with
    | nil => cases e1
    | cons d es =>
      rw [numF] at e1
      cases e1
      refine ⟨_, _, rfl, htt d (hx d List.mem_cons_self) k _ ?_⟩
      rw [idxF] at e2
      refine ⟨fun hp => ?_, fun hp => ?_⟩
      · rw [if_pos hp] at e2
        exact hte d k N (h1 _ _ ⟨rfl, k + 1, es, rfl, fun y hy => hx y (List.mem_cons_of_mem _ hy), by rw [List.append_assoc]; exact e2⟩)
      · rw [if_neg (by rw [hp]; exact Bool.false_ne_true)] at e2
        exact h2 _ ⟨rfl, k + 1, es, rfl, fun y hy => hx y (List.mem_cons_of_mem _ hy), e2⟩
  · rintro xs acc m' ⟨rfl, _⟩
    exact hok
  · rintro acc m' ⟨rfl, k, es, e1, _, e2⟩
    cases es with
    | cons d es => rw [numF] at e1; cases e1
    | nil =>
      rw [idxF, List.append_nil] at e2
      rw [e2]
      exact fin
/-! ### the first place of a fraction -/
def eqF : D → D → Bool
  | .tup [.int a, .int b], .tup [.int c, .int d] => decide (a = c ∧ b = d)
  | _, _ => false
theorem eqF_fr {a b c d : Int} : eqF (fr a b) (fr c d) = decide (a = c ∧ b = d) := rfl
def ixF (x : D) : List D → Nat
  | [] => 0
  | d :: ds => if eqF d x = true then 0 else ixF x ds + 1
theorem ixF_first {x : D} : ∀ {ds : List D}, (∃ d ∈ ds, eqF d x = true) → (∃ d, ds[ixF x ds]? = some d ∧ eqF d x = true) ∧ ∀ (i : Nat) (d : D), i < ixF x ds → ds[i]? = some d → eqF d x = false
  | [], h => by obtain ⟨d, hd, _⟩ := h; cases hd
  | d :: ds, h => by
    unfold ixF
    by_cases e : eqF d x = true
    · rw [if_pos e]
      exact ⟨⟨d, rfl, e⟩, fun i d' hi => by omega⟩
    · rw [if_neg e]
      have h' : ∃ d ∈ ds, eqF d x = true := by
        obtain ⟨y, hy, hye⟩ := h
        rcases List.mem_cons.mp hy with rfl | hy
        · exact absurd hye e
        · exact ⟨y, hy, hye⟩
      obtain ⟨⟨y, e1, e2⟩, e3⟩ := ixF_first h'
      refine ⟨⟨y, by rw [List.getElem?_cons_succ]; exact e1, e2⟩, fun i d' hi hd' => ?_⟩
      cases i with
      | zero =>
        rw [List.getElem?_cons_zero] at hd'
        cases hd'
        simpa using e
      | succ i =>
        rw [List.getElem?_cons_succ] at hd'
        exact e3 i d' (by omega) hd'
theorem idxF_head {P : D → Bool} {f : D → D} {x : D} (hP : ∀ d, P d = eqF (f d) x) : ∀ {ds : List D} {k : Nat}, (∃ d ∈ ds, P d = true) → ∃ rest, idxF P k ds = .int ((k + ixF x (ds.map f) : Nat)) :: rest
  | [], _, h => by obtain ⟨d, hd, _⟩ := h; cases hd
  | d :: ds, k, h => by
    rw [idxF, List.map_cons, ixF, ← hP]
    by_cases e : P d = true
    · rw [if_pos e, if_pos e]
      exact ⟨_, rfl⟩
    · rw [if_neg e, if_neg e]
      have h' : ∃ d ∈ ds, P d = true := by
        obtain ⟨y, hy, hye⟩ := h
        rcases List.mem_cons.mp hy with rfl | hy
        · exact absurd hye e
        · exact ⟨y, hy, hye⟩
      obtain ⟨rest, e1⟩ := idxF_head hP (k := k + 1) h'
      exact ⟨rest, by rw [e1, show k + 1 + ixF x (ds.map f) = k + (ixF x (ds.map f) + 1) by omega]⟩
def toP : D → PyData
  | .tup [.int a, .int b] => .tuple [.int a, .int b]
  | _ => .none
theorem toP_all : ∀ {ds : List D}, (∀ d ∈ ds, ∃ a b, d = fr a b) → py0A ds = some (ds.map toP)
  | [], _ => by simp only [py0A, List.map_nil]
  | d :: ds, h => by
    obtain ⟨a, b, rfl⟩ := h d List.mem_cons_self
    simp only [py0A, py0, Option.map_some, toP_all fun x hx => h x (List.mem_cons_of_mem _ hx), List.map_cons, toP]
theorem index_fr {x : D} {ds : List D} {m : Sto} {q : D → Sto → Prop} {c : Nat} (hd : ∀ d ∈ ds, ∃ a b, d = fr a b) (hx : x ∈ ds) (hl : Pd 60 c (.list (ds.map toP))) (h : q (.int (ixF x ds : Nat)) m) : dIndexF (.lst ds) [x] m q := by
  unfold dIndexF
  have e1 : py m (.lst ds) = some (.list (ds.map toP)) := by rw [py_lst, toP_all hd]; rfl
  obtain ⟨a, b, rfl⟩ := hd x hx
  have e2 : py m (fr a b) = some (toP (fr a b)) := py_of (by simp only [py0, py0A, Option.map_some, toP])
  show onS (py m (.lst ds)) _
  rw [e1, onS_mk, e2, onS_mk]
  have self : eqF (fr a b) (fr a b) = true := decide_eq_true ⟨rfl, rfl⟩
  obtain ⟨⟨d, f1, f2⟩, f3⟩ := ixF_first (x := fr a b) (ds := ds) ⟨_, hx, self⟩
  have ev : ∀ d ∈ ds, PyData.eqv (toP d) (toP (fr a b)) = eqF d (fr a b) := fun d hd' => by
    obtain ⟨a', b', rfl⟩ := hd d hd'
    exact eqv_fr a' b' a b
  refine ⟨pd_shaped hl, shaped_fr a b, ixF (fr a b) ds, toP d, by rw [List.getElem?_map, f1]; rfl, by rw [ev d (List.mem_of_getElem? f1)]; exact f2, fun i z hi hz => ?_, h⟩
  rw [List.getElem?_map] at hz
  cases e : ds[i]? with
  | none => rw [e] at hz; cases hz
  | some d' =>
    rw [e] at hz
    cases hz
    rw [ev d' (List.mem_of_getElem? e)]
    exact f3 i d' hi e
theorem py_seq {x : D} {m : Sto} {ds : List D} (h : seqL x m = some ds) : py m x = (py0A ds).map PyData.list := by
  cases x with
  | lst es => cases h; exact py_lst
  | fz es => cases h; simp only [py, py0]
  | ptr i =>
    have h' : lstOf (.ptr i) m = some ds := h
    unfold lstOf at h'
    cases q : m[i]? with
    | none => simp only [q] at h'; cases h'
    | some c => cases c with
      | dead => simp only [q] at h'; cases h'
      | dic ds => simp only [q] at h'; cases h'
      | ins c fs => simp only [q] at h'; cases h'
      | lst es => simp only [q] at h'; cases h'; exact py_ptr q
  | _ => cases h
theorem ixF_le {x : D} : ∀ {ds : List D}, ixF x ds ≤ ds.length
  | [] => Nat.le_refl _
  | d :: ds => by
    unfold ixF
    split
    · omega
    · have := ixF_le (x := x) (ds := ds); rw [List.length_cons]; omega
theorem at_in {L : List D} {i : Int} (h0 : -(L.length : Int) ≤ i) (h1 : i < L.length) : ∃ d ∈ L, atI L i = some d := by
  obtain ⟨j, e, hj⟩ : ∃ j, ixN L.length i = some j ∧ j < L.length := by
    unfold ixN
    by_cases z : 0 ≤ i
    · rw [if_pos z, if_pos h1]; exact ⟨_, rfl, by omega⟩
    · rw [if_neg z, if_pos h0]; exact ⟨_, rfl, by omega⟩
  refine ⟨L[j], List.getElem_mem hj, ?_⟩
  unfold atI
  rw [e]
  exact List.getElem?_eq_getElem hj
/-- a, b, c = x, y, z -/
def dPar3 (i j l : Nat) (ta : DA) : DS := fun d r m => ta r m fun xs m1 => match xs with | [x, y, z] => d.nx (put (put (put r i x) j y) l z) m1 | _ => False
theorem js_par3 (i j l : Nat) {X : Cx} {x y z : Str} {a b c : Expr} {ta : DA} {px py pz pt pos : Pos} {kt k2 pt2} (hc : X.calm = true) (hN : X.N.Nodup) (ha : JA X [a, b, c] ta) (hij : i ≠ j) (hil : i ≠ l) (hjl : j ≠ l) (hi : X.N[i]? = some x := by rfl) (hj : X.N[j]? = some y := by rfl) (hl : X.N[l]? = some z := by rfl)
    (hx : X.env.scope.names.lookup x = some .local := by rfl) (hy : X.env.scope.names.lookup y = some .local := by rfl) (hz : X.env.scope.names.lookup z = some .local := by rfl)
    (hw : swappedStores [.Tuple [.Name x px, .Name y py, .Name z pz] kt pt] (.Tuple [a, b, c] k2 pt2) X.env = pure (some [x, y, z]) := by rfl)
    (hs : swapsWithSole [.Tuple [.Name x px, .Name y py, .Name z pz] kt pt] (.Tuple [a, b, c] k2 pt2) pos.line X.env = pure false := by rfl) :
    JS X (.Assign [.Tuple [.Name x px, .Name y py, .Name z pz] kt pt] (.Tuple [a, b, c] k2 pt2) pos) (dPar3 i j l ta) :=
  ps_wk (ps_par3 hc hN hi hj hl hij hil hjl hx hy hz ha hw hs) fun E s H ⟨W, F, m, r, d, rel, rs, h, L⟩ => by
    refine ⟨W, F, m, r, _, rel, rs, h, fun W1 H1 m1 vs ds l1 rel1 ra hq => ?_⟩
    cases ra with
    | nil => exact hq.elim
    | cons r1 ra =>
      cases ra with
      | nil => exact hq.elim
      | cons r2 ra =>
        cases ra with
        | nil => exact hq.elim
        | cons r3 ra =>
          cases ra with
          | nil => exact ⟨_, _, _, rfl, L.nx W1 H1 m1 _ _ l1 rel1 ((((rs.mono l1).put r1 i).put r2 j).put r3 l) hq⟩
          | cons _ _ => exact hq.elim
end DL
/-! Data layer, part 10: exceptions. -/
namespace DL
open PySem PySem.Spec PyProof.Rows L2
/-- what is raised: its class's name, its fields -/
structure Exn where
  c : Str
  f : List (Str × D)
abbrev FNX := List D → Sto → (D → Sto → Prop) → (Exn → Sto → Prop) → Prop
abbrev WD := Exn → DSt → Sto → Prop
variable [Cl]
def RX (K : PySem.W.Frag) (W : Wd) (cls : Value) (d : Option Addr) (ex : Exn) : Prop :=
  ∃ C, Cl.ad ex.c = some C ∧ cls = .ref C ∧ ((ex.f = [] ∧ d = none) ∨ ∃ dd fs, d = some dd ∧ W.st dd = some (.xd fs) ∧ RF K W fs ex.f)
theorem RX.mono {K : PySem.W.Frag} {W W' : Wd} {cls : Value} {d : Option Addr} {ex : Exn} (l : W.Le W') (h : RX K W cls d ex) : RX K W' cls d ex := by
  obtain ⟨C, h1, h2, h⟩ := h
  refine ⟨C, h1, h2, ?_⟩
  rcases h with h | ⟨dd, fs, e, h, r⟩
  · exact .inl h
  · exact .inr ⟨dd, fs, e, l.st _ _ h, r.mono l⟩
def FolX (K : PySem.W.Frag) (W : Wd) (F : Hp) (xq : Exn → Sto → Prop) (E : XK) : Prop := ∀ W' H' m' cls d ex, W.Le W' → Rel0 K W' F H' m' → RX K W' cls d ex → xq ex m' → E cls d H'
def spOfX (K : PySem.W.Frag) (n : Nat) (f : FNX) : Sp := fun vs H Q E => vs.length = n ∧ ∃ (W : Wd) (F : Hp) (m : Sto) (ds : List D) (q : D → Sto → Prop) (xq : Exn → Sto → Prop), Rel0 K W F H m ∧ RA K W vs ds ∧ f ds m q xq ∧ Fol0 K W F q Q ∧ FolX K W F xq E
structure KnX (P : Program) (w : World) (K : PySem.W.Frag) (mg : Str → Option Value) (base : Heap) (k : Nat) (x : Str) (f : FNX) : Prop where
  ex : ∃ (n : Nat) (fa : Addr) (fd : FuncData) (ps : List Str), FnG P w K mg base k fa fd ps (spOfX K n f) ∧ mg x = some (.ref fa) ∧ PySem.W.keepIn K (.ref fa) = true ∧ Binds K fd ps [] ∧ ∀ ds m q xq, f ds m q xq → ds.length = n
section
variable [Lk]
/-- a wish about what is raised -/
def liftW (K : PySem.W.Frag) (w : WD) : WX := fun cls d σ H => ∃ (W : Wd) (m : Sto) (r : DSt) (ex : Exn), Lk.W0.Le W ∧ Rel0 K W Lk.F0 H m ∧ RSt K W σ r ∧ RX K W cls d ex ∧ w ex r m
def TakesD (X : Cx) (w : WD) : Prop := Takes X (liftW X.K w)
/-- a call that may raise -/
def dCallX (f : FNX) (w : WD) (ta : DA) : DE := fun r m q => ta r m fun xs m1 => f xs m1 q fun ex m2 => w ex r m2
section
variable {X : Cx} {pins : List (Addr × Obj)} {σ : L2.St} {H : Hp} {s : Shared} {Q : VK} {us : List Value} {vs : List V} {k j : Nat} {fa : Addr} {fd : FuncData} {ps : List Str} {sp : Sp} {E : XK}
theorem run_gS (F : FnG X.prog X.w X.K X.mg X.base k fa fd ps sp) (hr : Room k X.A) (gd : X.A.guards = some []) (hb : Binds X.K fd ps []) (hx : PassesAt (L2.CX X.prog X.w) X σ E) (I : Inv X pins σ H s) (r : Vals vs us) (h : sp vs H Q E) :
    wpAny (model X.prog X.w) X.A (call (.ref fa) us) (EP X pins σ Q) X.xe s := by
  have nn : us.length = ps.length := by rw [← r.length]; exact F.len _ _ _ _ h
  have bnd : BindsTo s fd ⟨us, []⟩ (ps.zip us) := by
    have z := hb s us I.kIn (by rw [List.append_nil]; exact nn)
    rw [List.append_nil] at z
    exact z
  have go := F.run X.A X.stack s H ⟨us, []⟩ us vs Q E hr gd I.env0 bnd r h
  refine wpAny_call (codeAny_mono go ?_)
  intro res s' hq
  match res, hq with
  | .error e, hq => exact hx pins H s e s' I hq
  | .ok (.ret u), hq => exact I.after hq
  | .ok .next, hq => exact hq.elim
  | .ok .brk, hq => exact hq.elim
  | .ok .cont, hq => exact hq.elim
variable {x : Str} {p pos : Pos} {e : Expr} {es : List Expr} {t : DA} {f : FNX} {w : WD}
theorem je_callX (c : KnX X.prog X.w X.K X.mg X.base k x f) (tk : TakesD X w) (hr : Room j X.A) (hk : k ≤ j) (gd : X.A.guards = some []) (hg : Gl X x) (ha : JA X (e :: es) t) (hdb : (x == ("__debug__" : Str)) = false := by decide)
    (he : starEach (e :: es) X.env = (false, eval e X.env) :: starEach es X.env := by rfl) (hpl : (backTo pos (starEach es X.env)).any (·.1) = false := by rfl) : JE X (.Call (.Name x p) (e :: es) [] pos) (dCallX f w t) := by
  obtain ⟨n, fa, fd, ps, F, hm, kp, hb, har⟩ := c.ex
  refine ⟨fun pins s sg H Q I h => wpAny_Call_Name_kw (ld_glob I hg hm ?_ hdb)⟩
  obtain ⟨W, F', m, r, q, rel, rs, h, kk⟩ := h
  refine PySem.W.callWith_K (h₀ := X.base) I.ok.mod.kin kp ?_ he hpl
  refine thn (ha.run pos pins s sg H (fun vs H1 => spOfX X.K n f vs H1 Q (WE (liftW X.K w) sg)) I ?_) ?_
  · refine ⟨W, F', m, r, _, rel, rs, h, fun W1 H1 m1 vs ds l1 rel1 ra hf => ?_⟩
    refine ⟨by rw [ra.len]; exact har _ _ _ _ hf, W1, F', m1, ds, q, _, rel1.toRel0, ra, hf, fun W2 H2 m2 v d l2 rel2 => kk W2 H2 m2 v d (l1.trans l2) (rel1.of l2 rel2), fun W2 H2 m2 cls d ex l2 rel2 rx hw => ?_⟩
    exact ⟨W2, m2, r, ex, rel1.lw.trans l2, rel2.less rel1.lf, rs.mono (l1.trans l2), rx, hw⟩
  · intro us s1 ⟨vs, H1, I1, r, q⟩
    exact ⟨I1.kIn, run_gS F (hr.mono hk) gd hb (passAt tk sg) I1 r q⟩
end
end
section
variable {P : Program} {w : World} {K : PySem.W.Frag} {mg : Str → Option Value} {base : Heap}
theorem defGX {x qual : Str} {st : Stmt} {f : Addr} {fd : FuncData} {N ps : List Str} {k n : Nat} {t : WD → DS} {g : FNX} (F : L2.Fun K x qual st f fd) (S : FnScope N ps (defScope st)) (hn : ps.length = n)
    (body : ∀ [Lk] (wd : WD) (cdv : Value) (A : Around) (outer : List Env) (s : Shared) (H : Hp) (E : XK), Room k (A.deeper (envOfC qual (defScope st) s.heap.objs.size f cdv)) → A.guards = some [] →
      TakesD (cxOf (L2.CX P w) P w K mg base N qual (defScope st) f cdv A outer s H E) wd → JSs (cxOf (L2.CX P w) P w K mg base N qual (defScope st) f cdv A outer s H E) (defBody st) (t wd))
    (h : ∀ ds m q xq, ds.length = n → g ds m q xq → t (fun ex _ m' => xq ex m') { nx := fun _ m' => q .non m', rt := q } (startD N ds) m) : FnG P w K mg base (k + 1) f fd ps (spOfX K n g) := by
  refine fnG F S (fun vs H Q E z => z.1.trans hn.symm) fun cdv A outer s H vs Q E hr gd z => ?_
  obtain ⟨hl, W, F', m, ds, q, xq, rel, ra, hg, kk, kx⟩ := z
  letI : Lk := ⟨W, F'⟩
  refine ⟨liftS K (t fun ex _ m' => xq ex m'), body _ cdv A outer s H E hr gd ?_, ?_⟩
  · refine (takes_of (E := E) rfl rfl rfl rfl).imp fun cls d σ H' h => ?_
    obtain ⟨W1, m1, r1, ex, l1, rel1, _, rx, hx⟩ := h
    exact kx W1 H' m1 cls d ex l1 rel1 rx hx
  refine ⟨W, F', m, startD N ds, _, ⟨rel, .refl _, Same.refl _⟩, start_rst ra, h ds m q xq (by rw [← ra.len]; exact hl) hg, ⟨?_, ?_, ?_, ?_⟩⟩
  · exact fun W' H' m' _ _ l rel' _ hq => kk W' H' m' _ _ l rel'.toRel0 .non hq
  · exact fun W' H' m' v d l rel' rv hq => kk W' H' m' v d l rel'.toRel0 rv hq
  · exact fun _ _ _ _ _ _ _ _ z => z
  · exact fun _ _ _ _ _ _ _ _ z => z
theorem knX_of {x : Str} {st : Stmt} {f : Addr} {fd : FuncData} {ps : List Str} {k n : Nat} {g : FNX} (F : L2.Fun K x x st f fd) (hm : mg x = some (.ref f)) (b : Binds K fd ps []) (G : FnG P w K mg base k f fd ps (spOfX K n g)) (ar : ∀ ds m q xq, g ds m q xq → ds.length = n) : KnX P w K mg base k x g :=
  ⟨n, f, fd, ps, G, hm, F.kp, b, ar⟩
end
/-! ### C.__init__(self, ..) by an own class without one -/
theorem pe_ceinit {X : Cx} {nm : Str} {CE : Addr} {e : Expr} {es : List Expr} {ta : TA} {p1 p2 pos : Pos} {pl : Sem Bool} (hg : Gl X nm) (hm : X.mg nm = some (.ref CE)) (ga : PySem.W.specialIn X.K (.ref CE) "__getattribute__" = some (some (.builtin "type.__getattribute__")))
    (rd : PySem.W.readsIn X.K CE (.type "type") = true) (vV : PySem.W.findCls X.K (.ref CE) (.type "type") "__init__" = some (.val (.builtin "ValueError.__init__"))) (ha : PA X (e :: es) ta)
    (hc : eval (.Call (.Attribute (.Name nm p1) "__init__" p2) (e :: es) [] pos) X.env = (do
      let ov ← eval (.Name nm p1) X.env
      standAt p2.atName
      let (f, first) ← holding [ov] (getMethod ov "__init__" pl)
      callWith pos f first (backTo pos (starEach (e :: es) X.env)) (backToKw pos (keywordEach [] X.env))) := by rfl)
    (he : starEach (e :: es) X.env = (false, eval e X.env) :: starEach es X.env := by rfl) (hpl : (backTo pos (starEach es X.env)).any (·.1) = false := by rfl) (hdb : (nm == ("__debug__" : Str)) = false := by decide) :
    PE X (.Call (.Attribute (.Name nm p1) "__init__" p2) (e :: es) [] pos) (tVeI X.K ta) := ⟨fun pins s σ H Q I h => by
  refine PySem.W.methodCall_KW (ld_glob I hg hm ?_ hdb) hc
  refine PySem.W.method_cls I.kIn ga (PySem.W.cls_value I.kIn rd vV (by decide +kernel) ?_)
  refine PyProof.Rows.callWith_method1 (thn (ha.run pos pins _ σ H _ (I.tok _) h) ?_) he hpl
  rintro us s1 ⟨vs, H1, I1, r1, a, C, ws, rfl, hl, T, ea, q⟩
  obtain ⟨u0, ur, rfl, ra, rr⟩ : ∃ u0 ur, us = u0 :: ur ∧ RelV (.ref a) u0 ∧ Vals ws ur := by
    cases r1 with
    | cons h1 h2 => exact ⟨_, _, rfl, h1, h2⟩
  cases (show u0 = Value.ref a from ra)
  exact oinit_ok T I1 ea (by rw [← Paired.length rr, sizeLine_eq]; omega) fun s' J => ⟨.non, H1, J, rfl, q⟩⟩
/-! ### what is known of an exception class -/
/-- __init__(self, v): C.__init__(self, text); self.f = v -/
def sp1 (C : Addr) (f : Str) : Sp := fun vs H Q _ => ∃ a v, vs = [.ref a, v] ∧ H a = some (exo a C none) ∧ ∀ dx, H dx = none → dx ≠ a → Q .non (upd (upd H dx (exd dx [(f, v)])) a (exo a C (some dx)))
/-- __init__(self): C.__init__(self, text) -/
def sp0 (C : Addr) : Sp := fun vs H Q _ => ∃ a, vs = [.ref a] ∧ H a = some (exo a C none) ∧ Q .non H
/-- the facts about the class at C that are looked up -/
structure ExF (K : PySem.W.Frag) (C : Addr) : Prop where
  ox : OexC K C
  xf : XfC K C
  cl : (PySem.W.clsIn K C).isSome = true
  ca : PySem.W.findIn K (.ref C) "__class__" = some (some (.builtin "object.__class__"))
  cn : PySem.W.specialIn K (.builtin "object.__class__") "__get__" = some (some (.builtin "getset_descriptor.__get__"))
  ct : PySem.W.takesIn K (.builtin "object.__class__") = some true
  cm : PySem.W.mroIn K C (.type "object") = some true
structure XK1 (P : Program) (w : World) (K : PySem.W.Frag) (mg : Str → Option Value) (base : Heap) (c f : Str) : Prop where
  ex : ∃ (C fI : Addr) (fd : FuncData) (ps : List Str), Cl.ad c = some C ∧ mg c = some (.ref C) ∧ ExF K C ∧ PySem.W.findIn K (.ref C) "__init__" = some (some (.ref fI)) ∧ PySem.W.typeIn K (.ref fI) = some (.type "function") ∧
    FnOk P w K mg base (L2.CX P w) 1 fI fd ps (sp1 C f) ∧ Binds K fd ps []
structure XK0 (P : Program) (w : World) (K : PySem.W.Frag) (mg : Str → Option Value) (base : Heap) (c : Str) : Prop where
  ex : ∃ (C fI : Addr) (fd : FuncData) (ps : List Str), Cl.ad c = some C ∧ mg c = some (.ref C) ∧ ExF K C ∧ PySem.W.findIn K (.ref C) "__init__" = some (some (.ref fI)) ∧ PySem.W.typeIn K (.ref fI) = some (.type "function") ∧
    FnOk P w K mg base (L2.CX P w) 1 fI fd ps (sp0 C) ∧ Binds K fd ps []
/-! ### C() -/
section
variable {X : Cx} {pins : List (Addr × Obj)} {σ : L2.St} {H1 H2 : Hp} {Q : XK}
theorem mk_bare {hp hp2 h2 : Heap} {g1 g2 : Array GenState} {d1 d2 : Drawn} {t1 t2 : Nat} {os1 os2 : OsState} {a C : Addr} (T : Raises X (.ref C)) (I1 : Inv X pins σ H1 ⟨hp, g1, d1, t1, os1⟩)
    (ha : hp.objs.size ≤ a) (k : ∀ b o, hp.get? b = some o → hp2.get? b = some o) (un : Un (frs X.stack) [] (upd H1 a (exo a C none)) (upd H1 a (exo a C none)) hp2 h2) (hok : HOk X.prog X.w (upd H1 a (exo a C none)) h2) (ho : os2 = os1) (hb : AllBare g2)
    (q : Q (.ref C) none H1) : MkP X pins σ Q (.ref a) ⟨h2, g2, d2, t2, os2⟩ := by
  have hn : H1 a = none := I1.hok.fresh ha
  obtain ⟨t0, hoe⟩ := exo_at hok (upd_same (H := H1) (a := a) (o := exo a C none))
  obtain ⟨G, g1', g2'⟩ := restrict h2 fun b => decide (b ≠ a)
  have gk : ∀ {b}, b ≠ a → G.get? b = h2.get? b := fun {b} z => g1' b (decide_eq_true z)
  have ge : G.get? a = none := g2' a (by simp)
  have nh : ∀ {b : Addr} {o : Obj}, hp.get? b = some o → b ≠ a := fun {b o} z y => absurd (Heap.lt_size z) (by rw [y]; exact Nat.not_lt.mpr ha)
  have up : ∀ {b : Addr}, b ≠ a → upd H1 a (exo a C none) b = H1 b := fun {b} z => upd_ne z
  have U : Un (frs X.stack) [] H1 H1 hp G := by
    constructor
    · intro b o z n hf hx
      exact (gk (nh z)).trans (un.keep b o (k b o z) ((up (nh z)).trans n) hf hx)
    · intro b o z n hf hx
      obtain ⟨sl, y⟩ := un.slot b o (k b o z) ((up (nh z)).trans n) hf hx
      exact ⟨sl, (gk (nh z)).trans y⟩
    · intro b o z n hx
      exact n
    · intro b o z hx
      obtain ⟨o', y⟩ := un.there b o (k b o z) hx
      exact ⟨o', (gk (nh z)).trans y⟩
    · exact fun b xs z => z
    · exact fun b o v z => z
    · exact fun b ps z => ⟨#[], by rw [z]; simp⟩
  have ok3 : HOk X.prog X.w H1 G := by
    intro b o z
    have ba : b ≠ a := fun y => by rw [y, hn] at z; cases z
    refine (hok b o ((up ba).trans z)).stay (fun c v hc y => ?_) (fun c hc => ?_) (fun c xs hc => ?_)
    · have ca : c ≠ a := by
        rcases hc with hc | hc
        · rw [hc]; exact ba
        · intro y; rw [y, upd_same] at hc; exact exo_own (Option.some.inj hc)
      exact (gk ca).trans y
    · by_cases ca : c = a
      · rw [ca, upd_same] at hc; exact absurd (Option.some.inj hc) exo_own
      · exact (up ca).symm.trans hc
    · by_cases ca : c = a
      · rw [ca, upd_same] at hc; exact absurd (Option.some.inj hc) exo_tup
      · exact (up ca).symm.trans hc
  have J : Inv X pins σ H1 ⟨G, g2, d2, t2, os2⟩ := I1.call' (ch := []) ho U ok3 hb (fun b z => absurd z (by simp))
  refine ⟨a, _, _, ⟨G, g2, d2, t2, os2⟩, _, .ref C, none, rfl, J, fun b o z => ?_, ge, hoe, ⟨rfl, rfl⟩, rfl, rfl, hn, rfl, hb, T, q⟩
  by_cases ba : b = a
  · rw [ba] at z
    have z' : G.get? a = some o := z
    rw [ge] at z'; cases z'
  · exact (gk ba).symm.trans z
theorem pmk_bare {x : Str} {C fI : Addr} {k : Nat} {fd : FuncData} {ps : List Str} {p pos : Pos} (T : OexC X.K C) (iC : PySem.W.findIn X.K (.ref C) "__init__" = some (some (.ref fI))) (tI : PySem.W.typeIn X.K (.ref fI) = some (.type "function"))
    (F1 : FnOk X.prog X.w X.K X.mg X.base (L2.CX X.prog X.w) k fI fd ps (sp0 C)) (hr : Room (k + 1) X.A) (hb : Binds X.K fd ps []) (hg : Gl X x) (hm : X.mg x = some (.ref C)) (hdb : (x == ("__debug__" : Str)) = false := by decide) :
    PMk X (.Call (.Name x p) [] [] pos) (fun _ H Q => Q (.ref C) none H) := by
  intro pins s σ H Q I h
  obtain ⟨nm, q, N, bs, bm, sn, sub, ab, col, dd, k0, k1, k2, k3, k5, hC, hbm⟩ := T.cls
  refine wpAny_Call_Name_kw (ld_glob I hg hm ?_ hdb)
  refine PySem.W.callWith_K0 I.kIn T.kC ?_
  show wpAny _ _ (call (.ref C) []) _ _ _
  obtain ⟨hp, g, dr, tk, os⟩ := s
  have hsz : hp.objs.size ≤ hp.objs.size + 1 := Nat.le_succ _
  have kk : ∀ b o, hp.get? b = some o → ((hp.push (PySem.W.kdv_tup [])).push (PySem.HandSPX.excO C hp.objs.size)).get? b = some o := fun b o e => Heap.get?_push_of_some _ (Heap.get?_push_of_some _ e)
  have hget : ((hp.push (PySem.W.kdv_tup [])).push (PySem.HandSPX.excO C hp.objs.size)).get? (hp.objs.size + 1) = some (PySem.HandSPX.excO C hp.objs.size) := by heap_get
  have I2 : Inv X pins σ (upd H (hp.objs.size + 1) (exo (hp.objs.size + 1) C none)) ⟨(hp.push (PySem.W.kdv_tup [])).push (PySem.HandSPX.excO C hp.objs.size), g, dr, tk, os⟩ :=
    I.laid (t' := tk) (a := hp.objs.size + 1) (o := exo (hp.objs.size + 1) C none) kk hsz (exo_ok hget)
  have hq : sp0 C [.ref (hp.objs.size + 1)] (upd H (hp.objs.size + 1) (exo (hp.objs.size + 1) C none)) (fun v H2 => v = .non ∧ H2 = upd H (hp.objs.size + 1) (exo (hp.objs.size + 1) C none)) (fun _ _ _ => False) := ⟨_, rfl, upd_same, rfl, rfl⟩
  have r2 : Vals [V.ref (hp.objs.size + 1)] [Value.ref (hp.objs.size + 1)] := .cons rfl .nil
  have hl : [Value.ref (hp.objs.size + 1)].length = ps.length := by rw [← F1.len _ _ _ _ hq]; rfl
  have bb := hb _ [Value.ref (hp.objs.size + 1)] I2.kIn (by rw [List.append_nil]; exact hl)
  rw [List.append_nil] at bb
  refine wpAny_call (PySem.HandSPX.call_own F.excBase_ValueError (fun Y => PySem.HandSPX.refsVE_contains Y bm hbm) (I.kIn _ _ hC) (PySem.W.looks_findIn I.kIn iC) (fun self => PySem.W.bind_fn I.kIn self tI) (Nat.zero_le _) ?_)
  refine codeAny_mono (F1.run _ X.stack _ _ ⟨[Value.ref (hp.objs.size + 1)], []⟩ [Value.ref (hp.objs.size + 1)] _ _ (fun _ _ _ => False) (hr.make C [] []) (I2.env0.make C [] []) bb r2 hq) fun r s' hq' => ?_
  match r, hq' with
  | .error er, ⟨_, _, _, _, _, _, _, _, _, _, _, _, z⟩ => exact z.elim
  | .ok (.ret u), ⟨v, H2, os2, bare2, un2, hok2, rv, ev, eH⟩ =>
    subst ev eH
    obtain ⟨h2, g2, d2, t2, os'⟩ := s'
    exact ⟨rv, mk_bare (raises_own T.exC T.tyC) I hsz kk un2 hok2 os2 bare2 h⟩
  | .ok .next, z => exact z.elim
  | .ok .brk, z => exact z.elim
  | .ok .cont, z => exact z.elim
end
/-! ### raise C(..) -/
section
variable [Lk] {X : Cx} {w : WD} {c f x : Str} {e : Expr} {ta : DE} {p pos pos2 : Pos} {j : Nat}
def dRaise1 (w : WD) (c f : Str) (ta : DE) : DS := fun _ r m => ta r m fun x m1 => w ⟨c, [(f, x)]⟩ r m1
def dRaise0 (w : WD) (c : Str) : DS := fun _ r m => w ⟨c, []⟩ r m
theorem js_raise1 (T : XK1 X.prog X.w X.K X.mg X.base c f) (hc : X.calm = true) (tk : TakesD X w) (hr : Room j X.A) (hk : 2 ≤ j) (hg : Gl X c) (he : JE X e ta) (hdb : (c == ("__debug__" : Str)) = false := by decide)
    (hs : starEach [e] X.env = (false, eval e X.env) :: starEach [] X.env := by rfl) (hpl : (backTo pos (starEach [] X.env)).any (·.1) = false := by rfl) : JS X (.Raise (some (.Call (.Name c p) [e] [] pos)) none pos2) (dRaise1 w c f ta) := by
  obtain ⟨C, fI, fd, ps, ad, hm, T, iC, tI, F1, hb⟩ := T.ex
  refine ps_wk (ps_raise hc tk (pmk_oex T.ox iC tI F1 (hr.mono hk) hb .nil (fun _ _ _ _ _ _ _ ⟨_, _, _, _, _, _, _, _, _, _, _, _, z⟩ => z.elim) hg hm (pa_cons he pa_nil hs) hdb hs hpl)) ?_
  rintro E s H ⟨W, F, m, r, d, rel, rs, h, -⟩
  refine ⟨W, F, m, r, _, rel, rs, h, fun W1 H1 m1 v x l1 rel1 rv hq => ⟨by show 1 ≤ 1000; decide, fun a na => ?_⟩⟩
  refine ⟨a, v, rfl, upd_same, fun dx ndx ne => ⟨rfl, dx, [(f, v)], upd_same, ?_, ?_, ?_⟩⟩
  · rw [upd_ne ne, upd_same]
  · rwa [upd_ne ne] at ndx
  have nd : H1 dx = none := by rwa [upd_ne ne] at ndx
  have eH : upd (del (upd (upd (upd H1 a (exo a C none)) dx (exd dx [(f, v)])) a (exo a C (some dx))) a) dx (.xd [(f, v)]) = upd H1 dx (.xd [(f, v)]) := by
    funext b
    by_cases h1 : b = dx
    · rw [h1, upd_same, upd_same]
    · by_cases h2 : b = a
      · rw [upd_ne h1, upd_ne h1, h2, del_same, na]
      · rw [upd_ne h1, upd_ne h1, del_ne h2, upd_ne h2, upd_ne h1, upd_ne h2]
  rw [eH]
  have le := cold_le (o := .xd [(f, v)]) rel1.toRel0 nd
  exact ⟨_, m1, r, ⟨c, [(f, x)]⟩, rel1.lw.trans le, (rel1.toRel0.cold nd).less rel1.lf, rs.mono (l1.trans le), ⟨C, ad, rfl, .inr ⟨dx, _, rfl, upd_same, .cons (rv.mono le) .nil⟩⟩, hq⟩
theorem js_raise0 (T : XK0 X.prog X.w X.K X.mg X.base c) (hc : X.calm = true) (tk : TakesD X w) (hr : Room j X.A) (hk : 2 ≤ j) (hg : Gl X c) (hdb : (c == ("__debug__" : Str)) = false := by decide) : JS X (.Raise (some (.Call (.Name c p) [] [] pos)) none pos2) (dRaise0 w c) := by
  obtain ⟨C, fI, fd, ps, ad, hm, T, iC, tI, F1, hb⟩ := T.ex
  refine ps_wk (ps_raise hc tk (pmk_bare T.ox iC tI F1 (hr.mono hk) hb hg hm hdb)) ?_
  rintro E s H ⟨W, F, m, r, d, rel, rs, h, -⟩
  exact ⟨W, m, r, ⟨c, []⟩, rel.lw, rel.toRel0.less rel.lf, rs, ⟨C, ad, rfl, .inl ⟨rfl, rfl⟩⟩, h⟩
end
/-! ### except -/
/-- which class's exceptions a clause takes -/
def isX (c c' : Str) : Bool := c == c' || c' == ("ChainError" : Str) || c' == ("ValueError" : Str)
/-- the class c' at C' asked of exceptions of the classes cs -/
structure XSub (K : PySem.W.Frag) (mg : Str → Option Value) (cs : List Str) (c' : Str) : Prop where
  ex : ∃ C', mg c' = some (.ref C') ∧ ∀ c ∈ cs, ∀ C, Cl.ad c = some C → PySem.W.exmOne K (.ref C) (.ref C') = some (isX c c')
theorem XSub.nil {K : PySem.W.Frag} {mg : Str → Option Value} {c' : Str} {C' : Addr} (h : mg c' = some (.ref C')) : XSub K mg [] c' := ⟨C', h, fun _ z => nomatch z⟩
theorem XSub.cons {K : PySem.W.Frag} {mg : Str → Option Value} {cs : List Str} {c c' : Str} {C C' : Addr} (h : mg c' = some (.ref C')) (a : Cl.ad c = some C) (e : PySem.W.exmOne K (.ref C) (.ref C') = some (isX c c')) (r : XSub K mg cs c') : XSub K mg (c :: cs) c' := by
  obtain ⟨C2, h2, r⟩ := r.ex
  have e2 : C2 = C' := by rw [h] at h2; cases h2; rfl
  subst e2
  refine ⟨C2, h, fun x hx D hD => ?_⟩
  rcases List.mem_cons.mp hx with z | z
  · subst z; rw [a] at hD; cases hD; exact e
  · exact r x z D hD
def undS (i : Nat) (d : DEnds) : DEnds := { nx := fun r m => d.nx (forget r i) m, rt := d.rt, bk := fun r m => d.bk (forget r i) m, ct := fun r m => d.ct (forget r i) m }
/-- try: body, except c as n (slot i): suite -/
def dTryAs (cs : List Str) (c : Str) (i : Nat) (tb : WD → DS) (hd : Exn → Addr → DS) (w : WD) : DS := fun d r m =>
  tb (fun ex r1 m1 => ex.c ∈ cs ∧ (isX ex.c c = true → ∀ a, hd ex a (undS i d) (put r1 i (.adr a)) m1) ∧ (isX ex.c c = false → w ex r1 m1)) d r m
/-- try: body, except c: suite -/
def dTryOf (cs : List Str) (c : Str) (tb : WD → DS) (hd : Exn → DS) (w : WD) : DS := fun d r m =>
  tb (fun ex r1 m1 => ex.c ∈ cs ∧ (isX ex.c c = true → hd ex d r1 m1) ∧ (isX ex.c c = false → w ex r1 m1)) d r m
section
variable [Lk] {X : Cx} {c n : Str} {cs : List Str} {i : Nat} {body suite : List Stmt} {b₀ : Stmt} {np pos pos' : Pos} {tb : WD → DS} {w : WD}
theorem to0 {L : Lk} {K : PySem.W.Frag} {W : Wd} {F H : Hp} {m : Sto} (r : @Rel _ L K W F H m) : Rel0 K W F H m := @Rel.toRel0 _ L K W F H m r
theorem lift_on {L : Lk} {K : PySem.W.Frag} {W W1 : Wd} {F H : Hp} {m : Sto} {d : DEnds} {E : Ends} (r : @Rel _ L K W F H m) (l1 : W.Le W1) (k : @LiftD _ L K W F d E) : @LiftD _ ⟨W1, F⟩ K W1 F d E :=
  @LiftD.mk _ ⟨W1, F⟩ K W1 F d E (fun W' H' m' s' r' l rl => @LiftD.nx _ L _ _ _ _ _ k W' H' m' s' r' (l1.trans l) (@Rel.of _ L _ _ _ _ _ _ _ _ r (l1.trans l) (to0 rl)))
    (fun W' H' m' v x l rl => @LiftD.rt _ L _ _ _ _ _ k W' H' m' v x (l1.trans l) (@Rel.of _ L _ _ _ _ _ _ _ _ r (l1.trans l) (to0 rl)))
    (fun W' H' m' s' r' l rl => @LiftD.bk _ L _ _ _ _ _ k W' H' m' s' r' (l1.trans l) (@Rel.of _ L _ _ _ _ _ _ _ _ r (l1.trans l) (to0 rl)))
    (fun W' H' m' s' r' l rl => @LiftD.ct _ L _ _ _ _ _ k W' H' m' s' r' (l1.trans l) (@Rel.of _ L _ _ _ _ _ _ _ _ r (l1.trans l) (to0 rl)))
theorem lift_und {L : Lk} {K : PySem.W.Frag} {W : Wd} {F : Hp} {d : DEnds} {E : Ends} {i : Nat} (k : @LiftD _ L K W F d E) : @LiftD _ L K W F (undS i d) { nx := fun σ' H' => E.nx (σ'.set i none) H', rt := E.rt, bk := fun σ' H' => E.bk (σ'.set i none) H', ct := fun σ' H' => E.ct (σ'.set i none) H' } :=
  @LiftD.mk _ L K W F _ _ (fun W' H' m' s' r' l rl rs => @LiftD.nx _ L _ _ _ _ _ k W' H' m' _ _ l rl (rs.forget i)) (fun W' H' m' v x l rl => @LiftD.rt _ L _ _ _ _ _ k W' H' m' v x l rl)
    (fun W' H' m' s' r' l rl rs => @LiftD.bk _ L _ _ _ _ _ k W' H' m' _ _ l rl (rs.forget i)) (fun W' H' m' s' r' l rl rs => @LiftD.ct _ L _ _ _ _ _ k W' H' m' _ _ l rl (rs.forget i))
theorem rel_new {K : PySem.W.Frag} {W : Wd} {F H : Hp} {m : Sto} (r : Rel0 K W F H m) : @Rel _ ⟨W, F⟩ K W F H m := @Rel.mk _ ⟨W, F⟩ K W F H m r (.refl _) (Same.refl _)
theorem body_wk (hb : ∀ [Lk] (wd : WD) (pn : List (Addr × Obj)) (xe : Value → Shared → Prop), TakesD (X.tr pn xe) wd → PassesOwn (model X.prog X.w) X.A X.env xe → JSs (X.tr pn xe) body (tb wd)) (V : WX) (pn : List (Addr × Obj)) (xe : Value → Shared → Prop)
    (tk : Takes (X.tr pn xe) V) (po : PassesOwn (model X.prog X.w) X.A X.env xe) : PSs (X.tr pn xe) body (fun D σ H => ∃ (L : Lk) (wd : WD), (∀ cls d σ H, @liftW _ L X.K wd cls d σ H → V cls d σ H) ∧ @liftS _ L X.K (tb wd) D σ H) :=
  ⟨fun p s a H D I ⟨L, wd, hw, h⟩ => (@hb L wd pn xe (tk.imp hw) po).run p s a H D I h⟩
theorem js_tryAs {hd : Exn → Addr → DS} (T : XSub X.K X.mg cs c) (hs : X.stack = X.env :: X.outer) (hf : X.env.frame = some X.env.locals) (hN : X.N.Nodup) (hi : X.N[i]? = some n) (hln : X.env.kindOf n = some .local) (hg : Gl X c) (hdb : (c == ("__debug__" : Str)) = false) (tk : TakesD X w)
    (hb : ∀ [Lk] (wd : WD) (pn : List (Addr × Obj)) (xe : Value → Shared → Prop), TakesD (X.tr pn xe) wd → PassesOwn (model X.prog X.w) X.A X.env xe → JSs (X.tr pn xe) body (tb wd))
    (hsu : ∀ [Lk] (ex : Exn) (a : Addr) (oe : Obj) (cls : Value) (d : Option Addr) (pn : List (Addr × Obj)), ex.c ∈ cs → Zc cls d oe → (∃ vs, oe.data = .fields vs) → RX X.K Lk.W0 cls d ex → JSs (X.suite a ((a, oe) :: pn)) (b₀ :: suite) (hd ex a)) :
    JS X (.Try body [.ExceptHandler (some (.Name c np)) (some n) (b₀ :: suite) pos'] [] [] pos) (dTryAs cs c i tb hd w) := by
  obtain ⟨C', hm, T⟩ := T.ex
  refine ps_wk (ps_try_as (i := i) (Wout := liftW X.K w) (ts := fun a cls d E σ H => ∃ (L : Lk) (ex : Exn), ex.c ∈ cs ∧ RX X.K L.W0 cls d ex ∧ @liftS _ L X.K (hd ex a) E σ H) hs hf hN hi hln ⟨hg, hdb, .inl hm⟩ tk (body_wk hb) fun a oe cls d pn hz hfl => ⟨fun p s σ H D I ⟨L, ex, hin, rx, h⟩ => (@hsu L ex a oe cls d pn hin hz hfl rx).run p s σ H D I h⟩) ?_
  rintro E s H ⟨W, F, m, r, d, rel, rs, h, L⟩
  refine ⟨⟨W, F⟩, _, ?_, W, F, m, r, d, rel_new (to0 rel), rs, h, lift_on rel (.refl _) L⟩
  rintro cls dd σ H1 ⟨W1, m1, r1, ex, l1, rel1, rs1, rx, hin, hyes, hno⟩
  obtain ⟨C, ad, rfl, rxx⟩ := id rx
  have l1' : W.Le W1 := l1
  have rel1' : Rel0 X.K W1 F H1 m1 := rel1
  refine ⟨isX ex.c c, T _ hin C ad, fun q a na => ?_, fun q => ?_⟩
  · exact ⟨⟨W1, F⟩, ex, hin, rx, W1, F, m1, _, undS i d, rel_new rel1', rs1.put (.adr a) i, hyes q a, lift_und (lift_on rel l1' L)⟩
  · exact ⟨W1, m1, r1, ex, rel.lw.trans l1', rel1'.less rel.lf, rs1, rx, hno q⟩
theorem js_tryOf {hd : Exn → DS} (T : XSub X.K X.mg cs c) (hs : X.stack = X.env :: X.outer) (hf : X.env.frame = some X.env.locals) (hg : Gl X c) (hdb : (c == ("__debug__" : Str)) = false) (tk : TakesD X w)
    (hb : ∀ [Lk] (wd : WD) (pn : List (Addr × Obj)) (xe : Value → Shared → Prop), TakesD (X.tr pn xe) wd → PassesOwn (model X.prog X.w) X.A X.env xe → JSs (X.tr pn xe) body (tb wd))
    (hsu : ∀ [Lk] (ex : Exn) (a : Addr) (oe : Obj) (cls : Value) (d : Option Addr) (pn : List (Addr × Obj)), ex.c ∈ cs → Zc cls d oe → (∃ vs, oe.data = .fields vs) → RX X.K Lk.W0 cls d ex → JSs (X.suite a ((a, oe) :: pn)) (b₀ :: suite) (hd ex)) :
    JS X (.Try body [.ExceptHandler (some (.Name c np)) none (b₀ :: suite) pos'] [] [] pos) (dTryOf cs c tb hd w) := by
  obtain ⟨C', hm, T⟩ := T.ex
  refine ps_wk (ps_try_only (Wout := liftW X.K w) (ts := fun a cls d E σ H => ∃ (L : Lk) (ex : Exn), ex.c ∈ cs ∧ RX X.K L.W0 cls d ex ∧ @liftS _ L X.K (hd ex) E σ H) hs hf ⟨hg, hdb, .inl hm⟩ tk (body_wk hb) fun a oe cls d pn hz hfl => ⟨fun p s σ H D I ⟨L, ex, hin, rx, h⟩ => (@hsu L ex a oe cls d pn hin hz hfl rx).run p s σ H D I h⟩) ?_
  rintro E s H ⟨W, F, m, r, d, rel, rs, h, L⟩
  refine ⟨⟨W, F⟩, _, ?_, W, F, m, r, d, rel_new (to0 rel), rs, h, lift_on rel (.refl _) L⟩
  rintro cls dd σ H1 ⟨W1, m1, r1, ex, l1, rel1, rs1, rx, hin, hyes, hno⟩
  obtain ⟨C, ad, rfl, rxx⟩ := id rx
  have l1' : W.Le W1 := l1
  have rel1' : Rel0 X.K W1 F H1 m1 := rel1
  refine ⟨isX ex.c c, T _ hin C ad, fun q a na => ?_, fun q => ?_⟩
  · exact ⟨⟨W1, F⟩, ex, hin, rx, W1, F, m1, r1, d, rel_new rel1', rs1, hyes q, lift_on rel l1' L⟩
  · exact ⟨W1, m1, r1, ex, rel.lw.trans l1', rel1'.less rel.lf, rs1, rx, hno q⟩
end
/-! ### within a suite: e.f, isinstance(e, C) -/
def dXat (ex : Exn) (a : Addr) (f : Str) (te : DE) : DE := fun r m q => te r m fun x m1 => x = .adr a ∧ onS (ex.f.lookup f) fun v => q v m1
section
variable [Lk] {X : Cx} {a : Addr} {oe : Obj} {cls : Value} {d : Option Addr} {pn : List (Addr × Obj)} {ex : Exn} {e : Expr} {te : DE} {pos : Pos} {cs : List Str}
/-- what the classes' tables say about the attribute f: no class of cs has it -/
structure XAt (K : PySem.W.Frag) (cs : List Str) (f : Str) : Prop where
  ex : ∀ c ∈ cs, ∀ C, Cl.ad c = some C → XfC K C ∧ PySem.W.findIn K (.ref C) f = some none
theorem je_xat {f : Str} (T : XAt X.K cs f) (hin : ex.c ∈ cs) (hz : Zc cls d oe) (hf : ∃ vs, oe.data = .fields vs) (rx : RX X.K Lk.W0 cls d ex) (he : JE (X.suite a ((a, oe) :: pn)) e te) (hb : attributeBase e f X.env (eval e X.env) = eval e X.env := by rfl) :
    JE (X.suite a ((a, oe) :: pn)) (.Attribute e f pos) (dXat ex a f te) := by
  obtain ⟨C, ad, rfl, hx⟩ := rx
  obtain ⟨T1, T2⟩ := T.ex _ hin C ad
  refine pe_wk (pe_xf T1 T2 hz hf he hb) ?_
  rintro s H Q ⟨W, F, m, r, q, rel, rs, h, k⟩
  refine ⟨W, F, m, r, _, rel, rs, h, fun W1 H1 m1 v x l1 rel1 rv hq => ?_⟩
  obtain ⟨rfl, hq⟩ := hq
  obtain ⟨y, e1, hq⟩ := onS_some hq
  cases rv
  rcases hx with ⟨e2, _⟩ | ⟨dd, fs, rfl, e2, rf⟩
  · rw [e2] at e1; cases e1
  obtain ⟨u, e3, ru⟩ := (rf.mono (rel.lw.trans l1)).look e1
  exact ⟨rfl, rfl, dd, fs, u, rfl, rel1.sub _ _ ((rel.lw.trans l1).st _ _ e2), e3, k _ _ _ _ _ l1 rel1 ru hq⟩
/-- isinstance: the class or built-in class c' asked of exceptions of the classes cs -/
structure XIs (K : PySem.W.Frag) (mg : Str → Option Value) (cs : List Str) (c' : Str) : Prop where
  ex : ∃ (u : Value), ((∃ C', mg c' = some u ∧ u = .ref C') ∨ (∃ n, mg c' = none ∧ bootBuiltins c' = some u ∧ u = .type n ∧ c' ≠ "__name__")) ∧ ∀ c ∈ cs, ∀ C, Cl.ad c = some C → ExF K C ∧ PySem.W.kitOne K (.ref C) u = some (isX c c')
def dXis (ex : Exn) (a : Addr) (c' : Str) (te : DE) : DE := fun r m q => te r m fun x m1 => x = .adr a ∧ q (.bl (isX ex.c c')) m1
theorem je_xis {c' : Str} {p p2 : Pos} (T : XIs X.K X.mg cs c') (hin : ex.c ∈ cs) (hz : Zc cls d oe) (hf : ∃ vs, oe.data = .fields vs) (rx : RX X.K Lk.W0 cls d ex) (hg : Gl X "isinstance") (hm : X.mg "isinstance" = none) (hg2 : Gl X c')
    (he : JE (X.suite a ((a, oe) :: pn)) e te) (hdb : (c' == ("__debug__" : Str)) = false := by decide) (hs : starEach [e, .Name c' p2] X.env = (false, eval e X.env) :: starEach [.Name c' p2] X.env := by rfl)
    (hs2 : starEach [.Name c' p2] X.env = (false, eval (.Name c' p2) X.env) :: starEach [] X.env := by rfl) (hp : (backTo pos (starEach [.Name c' p2] X.env)).any (·.1) = false := by rfl) :
    JE (X.suite a ((a, oe) :: pn)) (.Call (.Name "isinstance" p) [e, .Name c' p2] [] pos) (dXis ex a c' te) := by
  obtain ⟨C, ad, rfl, hx⟩ := rx
  obtain ⟨u, hu, T⟩ := T.ex
  obtain ⟨EF, T⟩ := T _ hin C ad
  have cv : ∃ v : V, (∀ u', RelV v u' → u' = u) ∧ PE (X.suite a ((a, oe) :: pn)) (.Name c' p2) (tC v) := by
    rcases hu with ⟨C', h1, rfl⟩ | ⟨n, h1, h2, rfl, h3⟩
    · exact ⟨.ref C', fun _ z => z, pe_glob hg2 h1 rfl hdb⟩
    · exact ⟨.ty n, fun _ z => z, pe_bltn (v := .ty n) hg2 h1 h2 rfl h3 hdb⟩
  obtain ⟨v', hv', pe2⟩ := cv
  have call : CallR (X.suite a ((a, oe) :: pn)) (.builtin "isinstance") (fun xs H Q => xs = [.ref a, v'] ∧ (∀ dd, d = some dd → ∃ fs, H dd = some (.xd fs)) ∧ Q (.bl (isX ex.c c')) H) := by
    rintro pins s σ H xs us Q I r ⟨rfl, hd, q⟩
    obtain ⟨u0, u1, rfl, ra, rb⟩ : ∃ u0 u1, us = [u0, u1] ∧ RelV (.ref a) u0 ∧ RelV v' u1 := by
      cases r with
      | cons h1 h2 =>
        cases h2 with
        | cons h2 h3 => cases h3; exact ⟨_, _, rfl, h1, h2⟩
    cases (show u0 = Value.ref a from ra)
    cases hv' _ rb
    obtain ⟨hget, _⟩ := I.pin (a, oe) (List.mem_append.mpr (.inl List.mem_cons_self))
    obtain ⟨vs, hv⟩ := hf
    have J : ∃ od, PySem.W.InstAt s.heap a oe C od := by
      cases hdd : d with
      | none => exact ⟨none, hget, hz.1, by unfold PySem.W.notCls; rw [hv] <;> rfl, by rw [hz.2, hdd]; trivial⟩
      | some dd =>
        obtain ⟨fs, hfs⟩ := hd dd hdd
        have ok : ObjOk X.prog X.w H s.heap dd (.xd fs) := I.hok dd _ hfs
        obtain ⟨mA, hns, _⟩ := ok
        obtain ⟨od, ho, _⟩ := lookIn_ns hns
        exact ⟨some od, hget, hz.1, by unfold PySem.W.notCls; rw [hv] <;> rfl, by rw [hz.2, hdd]; exact ho⟩
    obtain ⟨od, J⟩ := J
    exact PySem.W.kia_one (PySem.W.kitx_exc EF.cl EF.xf.ga EF.xf.gg EF.xf.exC EF.ca EF.cn EF.ct EF.cm) I.kIn J T (fun z => nomatch z) fun tk => ⟨.bl _, H, I.kept (t' := tk) fun _ _ z => z, rfl, q⟩
  refine pe_wk (pe_callB call hg hm (by decide +kernel) (pa_cons he (pa_cons pe2 pa_nil hs2) hs) (by decide) (by decide) hs hp) ?_
  rintro s H Q ⟨W, F, m, r, q, rel, rs, h, k⟩
  refine ⟨W, F, m, r, _, rel, rs, h, fun W1 H1 m1 v x l1 rel1 rv hq => ?_⟩
  obtain ⟨rfl, hq⟩ := hq
  cases rv
  refine ⟨rfl, fun dd hdd => ?_, k _ _ _ _ _ l1 rel1 (.bl _) hq⟩
  rcases hx with ⟨_, e2⟩ | ⟨dd', fs, e1, e2, rf⟩
  · rw [e2] at hdd; cases hdd
  · rw [e1] at hdd; cases hdd
    exact ⟨fs, rel1.sub _ _ ((rel.lw.trans l1).st _ _ e2)⟩
end
end DL
/-! Data layer, part 11: sorted, join, tuples compared, constants, values by truth. -/
namespace DL
open PySem PySem.Spec PyProof.Rows L2
/-! ### lists of ints, of texts -/
def intOf : D → Option Int
  | .int i => some i
  | _ => none
def intsOf : List D → Option (List Int)
  | [] => some []
  | .int i :: ds => (intsOf ds).map (i :: ·)
  | _ :: _ => none
def strsOf : List D → Option (List Str)
  | [] => some []
  | .str i :: ds => (strsOf ds).map (i :: ·)
  | _ :: _ => none
theorem intsOf_eq : ∀ {ds : List D} {ns : List Int}, intsOf ds = some ns → ds = ns.map D.int
  | [], _, e => by cases e; rfl
  | .int i :: ds, ns, e => by
    simp only [intsOf, Option.map_eq_some_iff] at e
    obtain ⟨l, e, rfl⟩ := e
    rw [intsOf_eq e]; rfl
  | .non :: _, _, e | .bl _ :: _, _, e | .str _ :: _, _, e | .tup _ :: _, _, e | .lst _ :: _, _, e | .fz _ :: _, _, e | .ptr _ :: _, _, e | .ty _ :: _, _, e | .dic _ :: _, _, e | .adr _ :: _, _, e | .gl _ :: _, _, e => by cases e
theorem strsOf_eq : ∀ {ds : List D} {ns : List Str}, strsOf ds = some ns → ds = ns.map D.str
  | [], _, e => by cases e; rfl
  | .str i :: ds, ns, e => by
    simp only [strsOf, Option.map_eq_some_iff] at e
    obtain ⟨l, e, rfl⟩ := e
    rw [strsOf_eq e]; rfl
  | .non :: _, _, e | .bl _ :: _, _, e | .int _ :: _, _, e | .tup _ :: _, _, e | .lst _ :: _, _, e | .fz _ :: _, _, e | .ptr _ :: _, _, e | .ty _ :: _, _, e | .dic _ :: _, _, e | .adr _ :: _, _, e | .gl _ :: _, _, e => by cases e
theorem intsOf_map : ∀ {ns : List Int}, intsOf (ns.map D.int) = some ns
  | [] => rfl
  | n :: ns => by show (intsOf (ns.map D.int)).map (n :: ·) = _; rw [intsOf_map]; rfl
theorem strsOf_map : ∀ {ns : List Str}, strsOf (ns.map D.str) = some ns
  | [] => rfl
  | n :: ns => by show (strsOf (ns.map D.str)).map (n :: ·) = _; rw [strsOf_map]; rfl
section
variable [Cl]
theorem ra_ints_eq {K : PySem.W.Frag} {W : Wd} : ∀ {ns : List Int} {vs : List V}, RA K W vs (ns.map D.int) → vs = ns.map V.int
  | [], _, .nil => rfl
  | _ :: _, _, .cons h r => by cases h; rw [ra_ints_eq r]; rfl
theorem ra_strs_eq {K : PySem.W.Frag} {W : Wd} : ∀ {ns : List Str} {vs : List V}, RA K W vs (ns.map D.str) → vs = ns.map V.str
  | [], _, .nil => rfl
  | _ :: _, _, .cons h r => by cases h; rw [ra_strs_eq r]; rfl
theorem ra_strs {K : PySem.W.Frag} {W : Wd} : ∀ ns : List Str, RA K W (ns.map V.str) (ns.map D.str)
  | [] => .nil
  | n :: ns => .cons (.str n) (ra_strs ns)
end
/-! ### sorted(xs) of ints; of at most 63 texts -/
def dSorted : FN
  | [x], m, q => onS (seqL x m) fun ds => match intsOf ds with
    | some ns => ∀ ns' : List Int, ns'.Perm ns → ns'.Pairwise (· ≤ ·) → q (.lst (ns'.map D.int)) m
    | none => onS (strsOf ds) fun ss => ss.length < 64 ∧ ∀ ss' : List Str, ss'.Perm ss → sortedS ss' = true → q (.lst (ss'.map D.str)) m
  | _, _, _ => False
section
variable [Cl] [Lk]
theorem o_sorted {K : PySem.W.Frag} : OpN K dSorted (fun xs H Q => rSortedI K xs H Q ∨ rSortedS K xs H Q) := by
  intro W F H m xs ds q Q rel ra h k
  unfold dSorted at h
  split at h
  · obtain ⟨v, rfl, rv⟩ := ra1 ra
    obtain ⟨es, e1, h⟩ := onS_some h
    obtain ⟨a, ys, rfl, g, r⟩ := seqL_at rel rv e1
    cases e2 : intsOf es with
    | some ns =>
      rw [e2] at h
      rw [intsOf_eq e2] at r
      have := ra_ints_eq r
      subst this
      exact .inl ⟨a, ns, rfl, g, fun ns' p h1 h2 hp => cold_lst rel (ra_ints ns') (h ns' h1 h2) k hp⟩
    | none =>
      rw [e2] at h
      obtain ⟨ss, e3, hl, h⟩ := onS_some h
      rw [strsOf_eq e3] at r
      have := ra_strs_eq r
      subst this
      exact .inr ⟨a, ss, rfl, g, hl, fun ns' p h1 h2 hp => cold_lst rel (ra_strs ns') (h ns' h1 h2) k hp⟩
  · exact h.elim
theorem cr_or {X : Cx} {f : Value} {r r' : List V → Hp → VK → Prop} (h : CallR X f r) (h' : CallR X f r') : CallR X f (fun xs H Q => r xs H Q ∨ r' xs H Q) := by
  intro pins s σ H xs us Q I rr z
  rcases z with z | z
  · exact h pins s σ H xs us Q I rr z
  · exact h' pins s σ H xs us Q I rr z
variable {X : Cx} {a b e o : Expr} {ta tb te to : DE} {p pos apos : Pos} {rest : List Expr}
theorem je_sorted (hg : Gl X "sorted") (hm : X.mg "sorted" = none) (ha : JE X a ta) (hs : starEach [a] X.env = (false, eval a X.env) :: starEach [] X.env := by rfl) (hp : (backTo pos (starEach [] X.env)).any (·.1) = false := by rfl) : JE X (.Call (.Name "sorted" p) [a] [] pos) (dCallB dSorted (a1 ta)) :=
  je_callB (cr_or cr_sortedI cr_sortedS) o_sorted hg hm (by decide +kernel) (ja_cons ha ja_nil hs) (by decide) (by decide) hs hp
/-! ### sep.join(xs) -/
def dJoin (to te : DE) : DE := fun r m q => to r m fun x m1 => match x with
  | .str a => te r m1 fun y m2 => onS (seqL y m2) fun ds => onS (strsOf ds) fun ys => (ys.map (·.length)).sum + ys.length * a.length ≤ 16777216 ∧ q (.str (Txt.join a ys)) m2
  | _ => False
theorem je_join (ho : JE X o to) (he : JE X e te) (hs : starEach [e] X.env = [(false, eval e X.env)] := by rfl) (hbase : attributeBase o "join" X.env (eval o X.env) = eval o X.env := by rfl) (hline : (apos.endLine == pos.line) = true := by rfl) :
    JE X (.Call (.Attribute o "join" apos) [e] [] pos) (dJoin to te) :=
  pe_wk (pe_join ho he hs hbase hline) fun s H Q ⟨W, F, m, r, q, rel, rs, h, k⟩ => by
    refine ⟨W, F, m, r, _, rel, rs, h, fun W1 H1 m1 v d l1 rel1 rv hq => ?_⟩
    cases d with
    | str a =>
      cases rv
      refine ⟨⟨a, rfl⟩, W1, F, m1, r, _, rel1, rs.mono l1, hq, fun W2 H2 m2 u y l2 rel2 ru hq2 => ?_⟩
      obtain ⟨ds, e1, hq2⟩ := onS_some hq2
      obtain ⟨ys, e2, hz, hq2⟩ := onS_some hq2
      obtain ⟨b, xs, rfl, g, ra⟩ := seqL_at rel2 ru e1
      rw [strsOf_eq e2] at ra
      have := ra_strs_eq ra
      subst this
      exact ⟨a, b, ys, rfl, rfl, .inl g, hz, k _ _ _ _ _ (l1.trans l2) rel2 (.str _) hq2⟩
    | _ => exact hq.elim
/-! ### t.index(x), t a tuple of texts -/
def ixS (x : Str) : List Str → Option Nat
  | [] => none
  | y :: ys => if y = x then some 0 else (ixS x ys).map (· + 1)
theorem ixS_at {x : Str} : ∀ {ys : List Str} {j : Nat}, ixS x ys = some j → ys[j]? = some x ∧ ∀ i, i < j → ys[i]? ≠ some x
  | y :: ys, j, e => by
    unfold ixS at e
    by_cases h : y = x
    · rw [if_pos h] at e; cases e
      exact ⟨by rw [List.getElem?_cons_zero, h], fun i hi => absurd hi (Nat.not_lt_zero i)⟩
    · rw [if_neg h, Option.map_eq_some_iff] at e
      obtain ⟨n, e, rfl⟩ := e
      obtain ⟨h1, h2⟩ := ixS_at e
      refine ⟨by rw [List.getElem?_cons_succ]; exact h1, fun i hi => ?_⟩
      cases i with
      | zero => rw [List.getElem?_cons_zero]; intro z; cases z; exact h rfl
      | succ i => rw [List.getElem?_cons_succ]; exact h2 i (by omega)
/-! ### a module's tuple of texts -/
theorem je_globT {x : Str} {a : Addr} {ss : List Str} (hg : Gl X x) (hm : X.mg x = some (.ref a)) (ht : ∃ o its n, X.K.lookup a = some o ∧ o.cls = .type "tuple" ∧ o.data = .seq its n ∧ Vals (ss.map V.str) its.toList) (hl : ss.length ≤ 1000) (hd : (x == ("__debug__" : Str)) = false := by decide) : JE X (.Name x pos) (dC (.tup (ss.map D.str))) := by
  obtain ⟨o, its, n, h1, h2, h3, h4⟩ := ht
  refine je_c (v := .ref a) (pe_glob hg hm rfl hd) fun W => .tup (.inr ⟨o, its, n, h1, h2, h3, ?_, h4⟩) (ra_strs ss)
  have e := Paired.length h4
  rw [List.length_map] at e
  rw [← Array.length_toList, ← e]
  exact small_len hl
/-- X.index(e), X such a tuple -/
def dCIdx (ss : List Str) (te : DE) : DE := fun r m q => te r m fun y m1 => match y with
  | .str z => onS (ixS z ss) fun j => q (.int (j : Nat)) m1
  | _ => False
theorem je_cindex {x : Str} {u : Addr} {ss : List Str} {np : Pos} (hg : Gl X x) (hm : X.mg x = some (.ref u)) (ht : ∃ o its n, X.K.lookup u = some o ∧ o.cls = .type "tuple" ∧ o.data = .seq its n ∧ Vals (ss.map V.str) its.toList) (hdn : ∃ o, X.K.lookup u = some o ∧ o.cls = .type "tuple" ∧ o.dict = none) (hl : ss.length ≤ 1000) (he : JE X e te) (hd : (x == ("__debug__" : Str)) = false := by decide)
    (hbase : attributeBase (.Name x np) "index" X.env (eval (.Name x np) X.env) = eval (.Name x np) X.env := by rfl)
    (hfew : ((backTo pos (starEach (e :: []) X.env)).all (fun x => !x.1) && (backToKw pos (keywordEach [] X.env)).all (fun x => x.1.isSome) && decide ((e :: []).length + ([] : List Keyword).length + (if ([] : List Keyword).isEmpty then 0 else 1) < 30)) = true := by rfl)
    (hline : (apos.endLine == pos.line) = true := by rfl) (hs : starEach [e] X.env = (false, eval e X.env) :: starEach [] X.env := by rfl) (hp : (backTo pos (starEach [] X.env)).any (·.1) = false := by rfl) :
    JE X (.Call (.Attribute (.Name x np) "index" apos) [e] [] pos) (dCIdx ss te) :=
  pe_wk (pe_bm PySem.F.plainAttrs_tuple PySem.F.slot_tuple_index PySem.F.type_tuple_index mt_tup_index (pe_glob (v := .ref u) hg hm rfl hd) (pa_cons he pa_nil hs) hbase hfew hline hs hp) fun s H Q ⟨W, F, m, r, q, rel, rs, h, k⟩ => by
    refine ⟨.inr (.inl ⟨rfl, hdn⟩), W, F, m, r, _, rel, rs, h, fun W1 H1 m1 v y l1 rel1 ru hq2 => ?_⟩
    cases y with
    | str z =>
      cases ru
      obtain ⟨j, e2, hq2⟩ := onS_some hq2
      obtain ⟨o, its, n, h1, h2, h3, h4⟩ := ht
      obtain ⟨g1, g2⟩ := ixS_at e2
      have e := Paired.length h4
      rw [List.length_map] at e
      exact ⟨u, ss, z, j, rfl, rfl, .inr ⟨o, its, n, h1, h2, h3, by rw [← Array.length_toList, ← e]; exact small_len hl, h4⟩, g1, g2, k _ _ _ _ _ l1 rel1 (.int _) hq2⟩
    | _ => exact hq2.elim
/-- what is known of a module's tuple of texts -/
structure TxtT (K : PySem.W.Frag) (mg : Str → Option Value) (x : Str) (ss : List Str) : Prop where
  ex : ∃ u its n sl, mg x = some (.ref u) ∧ K.lookup u = some ⟨.type "tuple", none, .seq its n, sl⟩ ∧ Vals (ss.map V.str) its.toList
theorem je_txt {x : Str} {ss : List Str} (T : TxtT X.K X.mg x ss) (hg : Gl X x) (hl : ss.length ≤ 1000) (hd : (x == ("__debug__" : Str)) = false := by decide) : JE X (.Name x pos) (dC (.tup (ss.map D.str))) := by
  obtain ⟨u, its, n, sl, hm, h1, h2⟩ := T.ex
  exact je_globT hg hm ⟨_, its, n, h1, rfl, rfl, h2⟩ hl hd
theorem je_txtix {x : Str} {ss : List Str} {np : Pos} (T : TxtT X.K X.mg x ss) (hg : Gl X x) (hl : ss.length ≤ 1000) (he : JE X e te) (hd : (x == ("__debug__" : Str)) = false := by decide)
    (hbase : attributeBase (.Name x np) "index" X.env (eval (.Name x np) X.env) = eval (.Name x np) X.env := by rfl)
    (hfew : ((backTo pos (starEach (e :: []) X.env)).all (fun x => !x.1) && (backToKw pos (keywordEach [] X.env)).all (fun x => x.1.isSome) && decide ((e :: []).length + ([] : List Keyword).length + (if ([] : List Keyword).isEmpty then 0 else 1) < 30)) = true := by rfl)
    (hline : (apos.endLine == pos.line) = true := by rfl) (hs : starEach [e] X.env = (false, eval e X.env) :: starEach [] X.env := by rfl) (hp : (backTo pos (starEach [] X.env)).any (·.1) = false := by rfl) :
    JE X (.Call (.Attribute (.Name x np) "index" apos) [e] [] pos) (dCIdx ss te) := by
  obtain ⟨u, its, n, sl, hm, h1, h2⟩ := T.ex
  exact je_cindex hg hm ⟨_, its, n, h1, rfl, rfl, h2⟩ ⟨_, h1, rfl, rfl⟩ hl he hd hbase hfew hline hs hp
/-! ### < of ints, of tuples of ints, of texts -/
def lexLt : List Int → List Int → Bool
  | [], [] => false
  | [], _ :: _ => true
  | _ :: _, [] => false
  | x :: xs, y :: ys => if x = y then lexLt xs ys else decide (x < y)
theorem lexAt_lt : ∀ (i : Nat) (ns ms ps qs : List Int), (∀ j, ns.getD j 0 = ps.getD (i + j) 0) → (∀ j, ms.getD j 0 = qs.getD (i + j) 0) →
    Ob.lexAt (fun j => decide (ps.getD j 0 = qs.getD j 0)) (fun j => decide (ps.getD j 0 < qs.getD j 0)) (decide (ns.length < ms.length)) i (min ns.length ms.length) = lexLt ns ms
  | i, [], [], _, _, _, _ => rfl
  | i, [], _ :: _, _, _, _, _ => by simp [Ob.lexAt_zero, lexLt]
  | i, _ :: _, [], _, _, _, _ => by simp [Ob.lexAt_zero, lexLt]
  | i, x :: xs, y :: ys, ps, qs, h1, h2 => by
    have e1 := h1 0
    have e2 := h2 0
    simp only [List.getD_cons_zero, Nat.add_zero] at e1 e2
    have em : min (x :: xs).length (y :: ys).length = min xs.length ys.length + 1 := by simp only [List.length_cons]; omega
    have el : decide ((x :: xs).length < (y :: ys).length) = decide (xs.length < ys.length) := by simp
    rw [em, el, Ob.lexAt_succ]
    simp only [← e1, ← e2, decide_eq_true_eq, lexLt]
    rw [lexAt_lt (i + 1) xs ys ps qs (fun j => by have z := h1 (j + 1); rw [List.getD_cons_succ] at z; rw [z]; congr 1; omega) (fun j => by have z := h2 (j + 1); rw [List.getD_cons_succ] at z; rw [z]; congr 1; omega)]
def rLtT (K : PySem.W.Frag) : R2 := fun x y H Q => ∃ (a b : Addr) (ns ms : List Int), x = .ref a ∧ y = .ref b ∧ SqT K H a (ns.map V.int) ∧ SqT K H b (ms.map V.int) ∧ Q (.bl (lexLt ns ms)) H
theorem op_ltT (hu : X.A.units < cLine) : OpR X (compareOp .Lt) (rLtT X.K) := by
  intro pins s σ H x y v u Q I rx ry h
  obtain ⟨a, b, ns, ms, rfl, rfl, ha, hb, q⟩ := h
  cases rx
  cases ry
  obtain ⟨its, r1, p1, _⟩ := I.tuple ha
  obtain ⟨its2, r2, p2, _⟩ := I.tuple hb
  have i1 : IntsAre its ns := Vals.ints r1
  have i2 : IntsAre its2 ms := Vals.ints r2
  have g1 : ∀ j (h1 : j < its.toArray.size), ∃ t, its.toArray[j] = .int (ns.getD j 0) t := fun j h1 => PyProof.Rows.IntsAre.int_at i1 _ _ (by simp at h1; simp [h1])
  have g2 : ∀ j (h1 : j < its2.toArray.size), ∃ t, its2.toArray[j] = .int (ms.getD j 0) t := fun j h1 => PyProof.Rows.IntsAre.int_at i2 _ _ (by simp at h1; simp [h1])
  have R := Ob.RcOp.tuples_lt (A := X.A) (s := s) (e := fun j => decide (ns.getD j 0 = ms.getD j 0)) (r := fun j => decide (ns.getD j 0 < ms.getD j 0)) p1 p2 hu
    (fun j h1 h2 => by
      obtain ⟨t, et⟩ := g1 j h1
      obtain ⟨t', et'⟩ := g2 j h2
      have z : decide (ns.getD j 0 = ms.getD j 0) = (ns.getD j 0 == ms.getD j 0) := by rw [Bool.eq_iff_iff]; simp
      rw [et, et']
      show SeqAt.EqAt _ _ _ _ (decide (ns.getD j 0 = ms.getD j 0))
      rw [z]
      exact SeqAt.EqAt.int_int _ _ _ _)
    (fun j h1 h2 _ => by
      obtain ⟨t, et⟩ := g1 j h1
      obtain ⟨t', et'⟩ := g2 j h2
      rw [et, et']
      exact Ob.RcOp.lt_int _ _ _ _)
  have s1 : its.toArray.size = ns.length := by rw [List.size_toArray]; exact i1.length
  have s2 : its2.toArray.size = ms.length := by rw [List.size_toArray]; exact i2.length
  rw [s1, s2, lexAt_lt 0 ns ms ns ms (fun j => by rw [Nat.zero_add]) (fun j => by rw [Nat.zero_add])] at R
  exact R X.prog X.w X.xe (EP X pins σ Q) ⟨.bl _, H, I, rfl, q⟩
def dLtA : F2
  | .int i, .int j, m, q => q (.bl (decide (i < j))) m
  | .tup ds, .tup es, m, q => onS (intsOf ds) fun ns => onS (intsOf es) fun ms => q (.bl (lexLt ns ms)) m
  | .str a, .str b, m, q => q (.bl (decide (a.cps.toList < b.cps.toList))) m
  | _, _, _, _ => False
def rrLtA (K : PySem.W.Frag) : R2 := fun x y H Q => (rI0 fun i j => .bl (decide (i < j))) x y H Q ∨ rLtT K x y H Q ∨ (fun x y H Q => ∃ i j, x = .str i ∧ y = .str j ∧ Q (.bl (decide (i.cps.toList < j.cps.toList))) H) x y H Q
theorem o_ltA {K : PySem.W.Frag} : Op2 K dLtA (rrLtA K) := by
  intro W F H m x y d e q Q rel rx ry h k
  unfold dLtA at h
  split at h
  · cases rx; cases ry
    exact .inl ⟨_, _, rfl, rfl, k _ _ _ _ _ (.refl _) rel (.bl _) h⟩
  · obtain ⟨ns, e1, h⟩ := onS_some h
    obtain ⟨ms, e2, h⟩ := onS_some h
    obtain ⟨a, xs, rfl, g1, r1⟩ := tup_at rel rx
    obtain ⟨b, ys, rfl, g2, r2⟩ := tup_at rel ry
    rw [intsOf_eq e1] at r1
    rw [intsOf_eq e2] at r2
    have q1 := ra_ints_eq r1
    have q2 := ra_ints_eq r2
    subst q1 q2
    exact .inr (.inl ⟨a, b, ns, ms, rfl, rfl, g1, g2, k _ _ _ _ _ (.refl _) rel (.bl _) h⟩)
  · cases rx; cases ry
    exact .inr (.inr ⟨_, _, rfl, rfl, k _ _ _ _ _ (.refl _) rel (.bl _) h⟩)
  · exact h.elim
theorem op_ltAll {k : Nat} (hr : Room k X.A) : OpR X (compareOp .Lt) (rrLtA X.K) := op_lt.or ((op_ltT (by have := hr.un; omega)).or op_lt_str)
theorem je_ltA {k : Nat} (hr : Room k X.A) (ha : JE X a ta) (hb : JE X b tb) : JE X (.Compare a [.Lt] [b] pos) (dBin dLtA ta tb) := je_cmp (op_ltAll hr) o_ltA ha hb (nobehind _ (by decide) (by decide))
theorem jt_ltA {k : Nat} (hr : Room k X.A) (ha : JE X a ta) (hb : JE X b tb) : JT X (.Compare a [.Lt] [b] pos) (dTest (dBin dLtA ta tb)) := jt_cmp (op_ltAll hr) o_ltA ha hb (nobehind _ (by decide) (by decide))
/-! ### x or y, by truth -/
def truD : D → Sto → Option Bool
  | .non, _ => some false
  | .bl b, _ => some b
  | .int i, _ => some (i != 0)
  | .tup ds, _ => some (!ds.isEmpty)
  | .dic ds, _ => some (!ds.isEmpty)
  | d, m => (seqL d m).map fun ds => !ds.isEmpty
theorem emp_ra {K : PySem.W.Frag} {W : Wd} {vs : List V} {ds : List D} (r : RA K W vs ds) : (!ds.isEmpty) = !vs.isEmpty := by cases r <;> rfl
theorem emp_rd {K : PySem.W.Frag} {W : Wd} {vs : List (L2.Key × V)} {ds : List (L2.Key × D)} (r : RD K W vs ds) : (!ds.isEmpty) = !vs.isEmpty := by cases r <;> rfl
theorem tru_at {K : PySem.W.Frag} {W : Wd} {F H : Hp} {m : Sto} {x : V} {d : D} {b : Bool} (rel : Rel K W F H m) (rx : R K W x d) (e : truD d m = some b) : TruV K x H b := by
  have lists : (seqL d m).map (fun ds => !ds.isEmpty) = some b → TruV K x H b := fun e => by
    simp only [Option.map_eq_some_iff] at e
    obtain ⟨ds, e1, rfl⟩ := e
    obtain ⟨a, xs, rfl, g, r⟩ := seqL_at rel rx e1
    exact .inl ⟨xs, g, emp_ra r⟩
  cases rx with
  | non => cases e; rfl
  | bl b => cases e; rfl
  | int i => cases e; rfl
  | tup h r => cases e; exact .inr (.inl ⟨_, same_seqT rel.sub h, emp_ra r⟩)
  | dic h r => cases e; exact .inr (.inr ⟨_, rel.sub _ _ h, emp_rd r⟩)
  | str x => cases e
  | ty n => cases e
  | adr a => cases e
  | gl h => cases e
  | lst h r => exact lists e
  | fz h r => exact lists e
  | ptr h => exact lists e
def dOrT (ta tb : DE) : DE := fun r m q => ta r m fun x m1 => onS (truD x m1) fun c => (c = true → q x m1) ∧ (c = false → tb r m1 q)
theorem je_orT (ha : JE X a ta) (hb : JE X (.BoolOp .Or (b :: rest) pos) tb) : JE X (.BoolOp .Or (a :: b :: rest) pos) (dOrT ta tb) := pe_wk (pe_orT ha hb) fun s H Q ⟨W, F, m, r, q, rel, rs, h, k⟩ => by
  refine ⟨W, F, m, r, _, rel, rs, h, fun W1 H1 m1 v d l1 rel1 rv hq => ?_⟩
  obtain ⟨c, e1, hq⟩ := onS_some hq
  refine ⟨c, tru_at rel1 rv e1, ?_⟩
  cases c with
  | true => rw [if_pos rfl]; exact k _ _ _ _ _ l1 rel1 rv (hq.1 rfl)
  | false => rw [if_neg Bool.false_ne_true]; exact ⟨W1, F, m1, r, q, rel1, rs.mono l1, hq.2 rfl, fun _ _ _ _ _ l => k _ _ _ _ _ (l1.trans l)⟩
/-! ### a list of the store is frozen -/
def dFrz (te : DE) : DE := fun r m q => te r m fun x m1 => match x with
  | .ptr i => onS (lstOf (.ptr i) m1) fun ds => q (.lst ds) (m1.set i .dead)
  | x => q x m1
theorem je_frz (he : JE X e te) : JE X e (dFrz te) := pe_wk he fun s H Q ⟨W, F, m, r, q, rel, rs, h, k⟩ => by
  refine ⟨W, F, m, r, _, rel, rs, h, fun W1 H1 m1 v d l1 rel1 rv hq => ?_⟩
  by_cases hp : ∃ i, d = .ptr i
  · obtain ⟨i, rfl⟩ := hp
    obtain ⟨ds, e1, hq⟩ := onS_some hq
    obtain ⟨a, xs, rfl, h1, h2⟩ := lstOf_at rel1 rv e1
    cases rv with
    | ptr hb =>
      have hm : m1[i]? = some (.lst ds) := by
        unfold lstOf at e1
        cases q : m1[i]? with
        | none => simp only [q] at e1; cases e1
        | some c => cases c <;> simp only [q] at e1 <;> cases e1; rfl
      obtain ⟨f1, f2⟩ := rel1.toRel0.freeze hb hm (fun z => by cases z) h1
      exact k _ _ _ _ _ (l1.trans f2) ⟨f1, rel1.lw.trans f2, rel1.lf⟩ (.lst upd_same (h2.mono f2)) hq
  · have hq' : q d m1 := by
      cases d <;> first | exact hq | exact absurd ⟨_, rfl⟩ hp
    exact k _ _ _ _ _ l1 rel1 rv hq'
theorem mid_get {c x : Cell} {ms dn : Sto} : (c :: (ms ++ x :: dn))[ms.length + 1]? = some x := by simp
theorem mid_set {c x y : Cell} {ms dn : Sto} : (c :: (ms ++ x :: dn)).set (ms.length + 1) y = c :: (ms ++ y :: dn) := by simp
theorem mid_app {c x : Cell} {ms dn es : Sto} : c :: ((ms ++ x :: dn) ++ es) = c :: (ms ++ x :: (dn ++ es)) := by simp
theorem lst_mid {c : Cell} {ms dn : Sto} {ds : List D} : lstOf (.ptr (ms.length + 1)) (c :: (ms ++ Cell.lst ds :: dn)) = some ds := lstOf_ptr mid_get
end
end DL
/-! Data layer, part 12: objects of own classes. -/
namespace DL
open PySem PySem.Spec PyProof.Rows L2
def FN.toX (f : FN) : FNX := fun ds m q _ => f ds m q
variable [Cl]
theorem fng_x {P : Program} {w : World} {K : PySem.W.Frag} {mg : Str → Option Value} {base : Heap} {k n : Nat} {fa : Addr} {fd : FuncData} {ps : List Str} {g : FN} (G : FnG P w K mg base k fa fd ps (spOf K n g)) : FnG P w K mg base k fa fd ps (spOfX K n g.toX) := by
  have wk : ∀ vs H Q E, spOfX K n g.toX vs H Q E → spOf K n g vs H Q E := fun vs H Q E ⟨hl, W, F, m, ds, q, xq, rel, ra, h, k, _⟩ => ⟨hl, W, F, m, ds, q, rel, ra, h, k⟩
  exact ⟨fun vs H Q E h => G.len _ _ _ _ (wk _ _ _ _ h), fun A outer s H args us vs Q E hr gd e0 hb r h => G.run A outer s H args us vs Q E hr gd e0 hb r (wk _ _ _ _ h)⟩
theorem knx_n {P : Program} {w : World} {K : PySem.W.Frag} {mg : Str → Option Value} {base : Heap} {k : Nat} {x : Str} {g : FN} (c : Kn P w K mg base k x g) : KnX P w K mg base k x g.toX := by
  obtain ⟨n, fa, fd, ps, G, h1, h2, h3, h4⟩ := c.ex
  exact ⟨n, fa, fd, ps, fng_x G, h1, h2, h3, fun ds m q _ h => h4 ds m q h⟩
/-! ### what is known of a class -/
structure KnA (K : PySem.W.Frag) (c f : Str) : Prop where
  ex : ∃ C, Cl.ad c = some C ∧ Cls K C ∧ NoAttr K C f
structure KnM (P : Program) (w : World) (K : PySem.W.Frag) (mg : Str → Option Value) (base : Heap) (k : Nat) (c mn : Str) (g : FNX) : Prop where
  ex : ∃ (C fa : Addr) (fd : FuncData) (ps : List Str) (n : Nat), Cl.ad c = some C ∧ Cls K C ∧ Meth K C mn fa ∧ FnG P w K mg base k fa fd ps (spOfX K n g) ∧ Binds K fd ps [] ∧ ∀ ds m q xq, g ds m q xq → ds.length = n
structure KnI (P : Program) (w : World) (K : PySem.W.Frag) (mg : Str → Option Value) (base : Heap) (k : Nat) (c : Str) (g : FNX) : Prop where
  ex : ∃ (C fa : Addr) (fd : FuncData) (ps : List Str) (n : Nat), Cl.ad c = some C ∧ mg c = some (.ref C) ∧ Mk K C fa ∧ FnG P w K mg base k fa fd ps (spOfX K n g) ∧ Binds K fd ps [] ∧ ∀ ds m q xq, g ds m q xq → ds.length = n
/-- a function of a class, read off the class -/
structure KnS (P : Program) (w : World) (K : PySem.W.Frag) (mg : Str → Option Value) (base : Heap) (k : Nat) (c mn : Str) (g : FNX) : Prop where
  ex : ∃ (C fa : Addr) (fd : FuncData) (ps : List Str) (n : Nat), mg c = some (.ref C) ∧ PySem.W.specialIn K (.ref C) "__getattribute__" = some (some (.builtin "type.__getattribute__")) ∧ PySem.W.readsIn K C (.type "type") = true ∧
    PySem.W.findCls K (.ref C) (.type "type") mn = some (.val (.ref fa)) ∧ PySem.W.keepIn K (.ref fa) = true ∧ FnG P w K mg base k fa fd ps (spOfX K n g) ∧ Binds K fd ps [] ∧ ∀ ds m q xq, g ds m q xq → ds.length = n
/-! ### cells that are objects -/
section
variable [Lk] {K : PySem.W.Frag} {W : Wd} {F H : Hp} {m : Sto} {x : V} {j : Nat} {c : Str} {fs : List (Str × D)}
theorem ins_at (rel : Rel K W F H m) (rv : R K W x (.ptr j)) (e : m[j]? = some (.ins c fs)) : ∃ a C dx us, x = .ref a ∧ W.be[j]? = some a ∧ Cl.ad c = some C ∧ H a = some (.ins C dx us) ∧ W.st dx = some (.own a) ∧ RF K W us fs := by
  cases rv with
  | @ptr a _ hb =>
    obtain ⟨b, h1, h2, h3, C, dx, us, h4, h5, h6, h7⟩ := rel.cell j _ e (fun z => by cases z)
    obtain rfl : b = a := Option.some.inj (h1.symm.trans hb)
    exact ⟨b, C, dx, us, rfl, hb, h4, h5, h6, h7⟩
def putD (f : Str) (y : D) : List (Str × D) → List (Str × D)
  | [] => [(f, y)]
  | (g, x) :: r => if g = f then (g, y) :: r else (g, x) :: putD f y r
theorem RF.put {f : Str} {v : V} {d : D} (h : R K W v d) : ∀ {us : List (Str × V)} {fs : List (Str × D)}, RF K W us fs → RF K W (L2.putF f v us) (putD f d fs)
  | _, _, .nil => .cons h .nil
  | _, _, .cons (x := g) q r => by
    unfold putF putD
    by_cases e : g = f
    · rw [if_pos e, if_pos e]; exact .cons h r
    · rw [if_neg e, if_neg e]; exact .cons q (RF.put h r)
end
/-! ### o.f, o.f = e -/
def dFld (cs : List Str) (f : Str) (to : DE) : DE := fun r m q => to r m fun x m1 => match x with
  | .ptr j => match m1[j]? with
    | some (.ins c fs) => c ∈ cs ∧ onS (fs.lookup f) fun v => q v m1
    | _ => False
  | _ => False
def dSetF (cs : List Str) (f : Str) (to tv : DE) : DS := fun d r m => tv r m fun y m1 => to r m1 fun x m2 => match x with
  | .ptr j => match m2[j]? with
    | some (.ins c fs) => (c ∈ cs ∧ fs.length < 1000) ∧ d.nx r (m2.set j (.ins c (putD f y fs)))
    | _ => False
  | _ => False
section
variable [Lk] {X : Cx} {cs : List Str} {f : Str} {o e : Expr} {to tv : DE} {pos pos' : Pos}
theorem je_fld (T : ∀ c ∈ cs, KnA X.K c f) (he : JE X o to) (hb : attributeBase o f X.env (eval o X.env) = eval o X.env := by rfl) : JE X (.Attribute o f pos) (dFld cs f to) :=
  pe_wk (pe_fld he hb) fun s H Q ⟨W, F, m, r, q, rel, rs, h, k⟩ => by
    refine ⟨W, F, m, r, _, rel, rs, h, fun W1 H1 m1 v d l1 rel1 rv hq => ?_⟩
    cases d with
    | ptr j =>
      cases hm : m1[j]? with
      | none => simp only [hm] at hq
      | some cl =>
        cases cl with
        | ins c fs =>
          simp only [hm] at hq
          obtain ⟨hc, hq⟩ := hq
          obtain ⟨y, e1, hq⟩ := onS_some hq
          obtain ⟨a, C, dx, us, rfl, hb, ad, h1, h2, rf⟩ := ins_at rel1 rv hm
          obtain ⟨C', ad', cls, na⟩ := (T c hc).ex
          rw [ad] at ad'; cases ad'
          obtain ⟨u, e2, ru⟩ := rf.look e1
          exact ⟨a, C, dx, us, u, rfl, h1, cls, na, e2, k _ _ _ _ _ l1 rel1 ru hq⟩
        | _ => simp only [hm] at hq
    | _ => exact hq.elim
theorem js_fld (T : ∀ c ∈ cs, KnA X.K c f) (he : JE X o to) (hv : JE X e tv) (hs : swapsWith e (some (.Attribute o f pos')) pos.line X.env = pure false := by rfl) : JS X (.Assign [.Attribute o f pos'] e pos) (dSetF cs f to tv) :=
  ps_wk (ps_fld he hv hs) fun E s H ⟨W, F, m, r, d, rel, rs, h, L⟩ => by
    refine ⟨W, F, m, r, _, rel, rs, h, fun W1 H1 m1 u y l1 rel1 ru hq => ?_⟩
    refine ⟨W1, F, m1, r, _, rel1, rs.mono l1, hq, fun W2 H2 m2 v x l2 rel2 rv hq2 => ?_⟩
    cases x with
    | ptr j =>
      cases hm : m2[j]? with
      | none => simp only [hm] at hq2
      | some cl =>
        cases cl with
        | ins c fs =>
          simp only [hm] at hq2
          obtain ⟨⟨hc, hl⟩, hq2⟩ := hq2
          obtain ⟨a, C, dx, us, rfl, hb, ad, h1, h2, rf⟩ := ins_at rel2 rv hm
          obtain ⟨C', ad', cls, na⟩ := (T c hc).ex
          rw [ad] at ad'; cases ad'
          refine ⟨a, C, dx, us, rfl, h1, cls, na, by rw [rf.len]; exact hl, ?_⟩
          refine L.nx W2 _ _ _ _ (l1.trans l2) (rel2.write hb hm (fun z => by cases z) (fun z => by cases z) ?_) (rs.mono (l1.trans l2)) hq2
          exact ⟨C, dx, _, ad, upd_same, h2, RF.put (ru.mono l2) rf⟩
        | _ => simp only [hm] at hq2
    | _ => exact hq2.elim
end
/-! ### o.m(..) -/
def dMethX (tbl : List (Str × FNX)) (w : WD) (mn : Str) (to : DE) (ta : DA) : DE := fun r m q => to r m fun x m1 => match x with
  | .ptr j => match m1[j]? with
    | some (.ins c fs) => onS (tbl.lookup c) fun g => fs.lookup mn = none ∧ ta r m1 fun xs m2 => g (.ptr j :: xs) m2 q fun ex m3 => w ex r m3
    | _ => False
  | _ => False
section
variable [Lk] {X : Cx} {k j : Nat} {tbl : List (Str × FNX)} {w : WD} {mn : Str} {o e : Expr} {es : List Expr} {to : DE} {ta : DA} {apos pos : Pos} {pl : Sem Bool}
theorem meth_spec {g : FNX} {n : Nat} {W W1 : Wd} {F H1 : Hp} {m1 : Sto} {r : DSt} {q : D → Sto → Prop} {Q : VK} {s : L2.St} {x : V} {d : D} {vs : List V} {ds : List D} (har : ∀ ds m q xq, g ds m q xq → ds.length = n) (rs : RSt X.K W s r) (l1 : W.Le W1) (rel1 : Rel X.K W1 F H1 m1) (rx : R X.K W1 x d) (ra : RA X.K W1 vs ds)
    (k : Fol X.K W F q Q) (h : g (d :: ds) m1 q fun ex m3 => w ex r m3) : spOfX X.K n g (x :: vs) H1 Q (WE (liftW X.K w) s) := by
  refine ⟨by rw [(RA.cons rx ra).len]; exact har _ _ _ _ h, W1, F, m1, d :: ds, q, _, rel1.toRel0, .cons rx ra, h, fun W2 H2 m2 v d l2 rel2 => k W2 H2 m2 v d (l1.trans l2) (rel1.of l2 rel2), fun W2 H2 m2 cls d ex l2 rel2 rx hw => ?_⟩
  exact ⟨W2, m2, r, ex, rel1.lw.trans l2, rel2.less rel1.lf, rs.mono (l1.trans l2), rx, hw⟩
theorem je_meth (T : ∀ c g, tbl.lookup c = some g → KnM X.prog X.w X.K X.mg X.base k c mn g) (tk : TakesD X w) (hr : Room j X.A) (hk : k ≤ j) (gd : X.A.guards = some []) (he : JE X o to) (ha : JA X (e :: es) ta)
    (hst : starEach (e :: es) X.env = (false, eval e X.env) :: starEach es X.env := by rfl) (hpl : (backTo pos (starEach es X.env)).any (·.1) = false := by rfl)
    (ht : eval (.Call (.Attribute o mn apos) (e :: es) [] pos) X.env = (do
      let ov ← eval o X.env
      standAt apos.atName
      let (f, first) ← holding [ov] (getMethod ov mn pl)
      callWith pos f first (backTo pos (starEach (e :: es) X.env)) (backToKw pos (keywordEach [] X.env))) := by rfl) : JE X (.Call (.Attribute o mn apos) (e :: es) [] pos) (dMethX tbl w mn to ta) := by
  refine ⟨fun pins s sg H Q I ⟨W, F, m, r, q, rel, rs, h, kk⟩ => ?_⟩
  refine PySem.W.methodCall_KW (pl := pl) (thn (he.run pins s sg H (fun x H1 => ∃ W1 m1 d, W.Le W1 ∧ Rel X.K W1 F H1 m1 ∧ R X.K W1 x d ∧ match d with
    | .ptr j => match m1[j]? with
      | some (.ins c fs) => onS (tbl.lookup c) fun g => fs.lookup mn = none ∧ ta r m1 fun xs m2 => g (.ptr j :: xs) m2 q fun ex m3 => w ex r m3
      | _ => False
    | _ => False) I ⟨W, F, m, r, _, rel, rs, h, fun W1 H1 m1 v d l1 rel1 rv hq => ⟨W1, m1, d, l1, rel1, rv, hq⟩⟩) ?_) ht
  rintro u s1 ⟨x, H1, I1, rx, W1, m1, d, l1, rel1, rv, hq⟩
  cases d with
  | ptr i =>
    cases hm : m1[i]? with
    | none => simp only [hm] at hq
    | some cl =>
      cases cl with
      | ins c fs =>
        simp only [hm] at hq
        obtain ⟨g, e1, nl, hq⟩ := onS_some hq
        obtain ⟨a, C, dx, us, rfl, hb, ad, h1, h2, rf⟩ := ins_at rel1 rv hm
        obtain ⟨C', fa, fd, ps, n, ad', cls, mt, G, hbd, har⟩ := (T c g e1).ex
        rw [ad] at ad'; cases ad'
        obtain rfl : u = Value.ref a := rx
        refine getmeth_ok I1 h1 cls mt (rf.look0 nl) ?_
        refine PySem.W.callWith_K (first := [.ref a]) (h₀ := X.base) I.ok.mod.kin mt.kp (thn (ha.run pos pins s1 sg H1 (fun vs H2 => spOfX X.K n g (.ref a :: vs) H2 Q (WE (liftW X.K w) sg)) I1 ⟨W1, F, m1, r, _, rel1, rs.mono l1, hq, fun W2 H2 m2 vs ds l2 rel2 ra hg => ?_⟩) ?_) hst hpl
        · exact meth_spec har rs (l1.trans l2) rel2 (rv.mono l2) ra kk hg
        · rintro vs s2 ⟨xs, H2, I2, r2, sp⟩
          exact ⟨I2.kIn, run_gS (us := .ref a :: vs) (vs := .ref a :: xs) G (hr.mono hk) gd hbd (passAt tk sg) I2 (.cons rfl r2) sp⟩
      | _ => simp only [hm] at hq
  | _ => exact hq.elim
theorem je_meth0 (T : ∀ c g, tbl.lookup c = some g → KnM X.prog X.w X.K X.mg X.base k c mn g) (tk : TakesD X w) (hr : Room j X.A) (hk : k ≤ j) (gd : X.A.guards = some []) (he : JE X o to)
    (ht : eval (.Call (.Attribute o mn apos) [] [] pos) X.env = (do
      let ov ← eval o X.env
      standAt apos.atName
      let (f, first) ← holding [ov] (getMethod ov mn pl)
      callWith pos f first (backTo pos (starEach [] X.env)) (backToKw pos (keywordEach [] X.env))) := by rfl) : JE X (.Call (.Attribute o mn apos) [] [] pos) (dMethX tbl w mn to dNil) := by
  refine ⟨fun pins s sg H Q I ⟨W, F, m, r, q, rel, rs, h, kk⟩ => ?_⟩
  refine PySem.W.methodCall_KW (pl := pl) (thn (he.run pins s sg H (fun x H1 => ∃ W1 m1 d, W.Le W1 ∧ Rel X.K W1 F H1 m1 ∧ R X.K W1 x d ∧ match d with
    | .ptr j => match m1[j]? with
      | some (.ins c fs) => onS (tbl.lookup c) fun g => fs.lookup mn = none ∧ g [.ptr j] m1 q fun ex m3 => w ex r m3
      | _ => False
    | _ => False) I ⟨W, F, m, r, _, rel, rs, h, fun W1 H1 m1 v d l1 rel1 rv hq => ⟨W1, m1, d, l1, rel1, rv, hq⟩⟩) ?_) ht
  rintro u s1 ⟨x, H1, I1, rx, W1, m1, d, l1, rel1, rv, hq⟩
  cases d with
  | ptr i =>
    cases hm : m1[i]? with
    | none => simp only [hm] at hq
    | some cl =>
      cases cl with
      | ins c fs =>
        simp only [hm] at hq
        obtain ⟨g, e1, nl, hq⟩ := onS_some hq
        obtain ⟨a, C, dx, us, rfl, hb, ad, h1, h2, rf⟩ := ins_at rel1 rv hm
        obtain ⟨C', fa, fd, ps, n, ad', cls, mt, G, hbd, har⟩ := (T c g e1).ex
        rw [ad] at ad'; cases ad'
        obtain rfl : u = Value.ref a := rx
        refine getmeth_ok I1 h1 cls mt (rf.look0 nl) ?_
        exact PySem.W.callWith_K0 (first := [.ref a]) I1.kIn mt.kp (run_gS (us := [.ref a]) (vs := [.ref a]) G (hr.mono hk) gd hbd (passAt tk sg) I1 (.cons rfl .nil) (meth_spec har rs l1 rel1 rv .nil kk hq))
      | _ => simp only [hm] at hq
  | _ => exact hq.elim
/-! ### C.m(o, ..) -/
theorem je_clsm {c : Str} {g : FNX} {np : Pos} (T : KnS X.prog X.w X.K X.mg X.base k c mn g) (tk : TakesD X w) (hr : Room j X.A) (hk : k ≤ j) (gd : X.A.guards = some []) (hg : Gl X c) (ha : JA X (e :: es) ta) (hdb : (c == ("__debug__" : Str)) = false := by decide)
    (hst : starEach (e :: es) X.env = (false, eval e X.env) :: starEach es X.env := by rfl) (hpl : (backTo pos (starEach es X.env)).any (·.1) = false := by rfl)
    (ht : eval (.Call (.Attribute (.Name c np) mn apos) (e :: es) [] pos) X.env = (do
      let ov ← eval (.Name c np) X.env
      standAt apos.atName
      let (f, first) ← holding [ov] (getMethod ov mn pl)
      callWith pos f first (backTo pos (starEach (e :: es) X.env)) (backToKw pos (keywordEach [] X.env))) := by rfl) : JE X (.Call (.Attribute (.Name c np) mn apos) (e :: es) [] pos) (dCallX g w ta) := by
  obtain ⟨C, fa, fd, ps, n, hm, ga, rd, fc, kp, G, hb, har⟩ := T.ex
  refine ⟨fun pins s sg H Q I ⟨W, F', m, r, q, rel, rs, h, kk⟩ => ?_⟩
  refine PySem.W.methodCall_KW (ld_glob I hg hm ?_ hdb) ht
  refine PySem.W.method_cls I.kIn ga (PySem.W.cls_value I.kIn rd fc rfl ?_)
  refine PySem.W.callWith_K (h₀ := X.base) I.ok.mod.kin kp (thn (ha.run pos pins _ sg H (fun vs H1 => spOfX X.K n g vs H1 Q (WE (liftW X.K w) sg)) (I.tok _) ?_) ?_) hst hpl
  · refine ⟨W, F', m, r, _, rel, rs, h, fun W1 H1 m1 vs ds l1 rel1 ra hf => ?_⟩
    refine ⟨by rw [ra.len]; exact har _ _ _ _ hf, W1, F', m1, ds, q, _, rel1.toRel0, ra, hf, fun W2 H2 m2 v d l2 rel2 => kk W2 H2 m2 v d (l1.trans l2) (rel1.of l2 rel2), fun W2 H2 m2 cls d ex l2 rel2 rx hw => ?_⟩
    exact ⟨W2, m2, r, ex, rel1.lw.trans l2, rel2.less rel1.lf, rs.mono (l1.trans l2), rx, hw⟩
  · rintro us s1 ⟨vs, H1, I1, r, sp⟩
    exact ⟨I1.kIn, run_gS G (hr.mono hk) gd hb (passAt tk sg) I1 r sp⟩
end
/-! ### C(..) -/
def dMakeX (g : FNX) (c : Str) (w : WD) (ta : DA) : DE := fun r m q => ta r m fun xs m1 => g (.ptr m1.length :: xs) (m1 ++ [.ins c []]) (fun v m2 => v = .non ∧ q (.ptr m1.length) m2) fun ex m2 => w ex r m2
section
variable [Lk] {X : Cx} {k j : Nat} {w : WD} {c : Str} {g : FNX} {e : Expr} {es : List Expr} {ta : DA} {p pos : Pos}
theorem make_run {C fa : Addr} {fd : FuncData} {ps : List Str} {sp : Sp} {E : XK} {pins : List (Addr × Obj)} {σ : L2.St} {H : Hp} {s : Shared} {Q : VK} {us : List Value} {vs : List V} (M : Mk X.K C fa) (G : FnG X.prog X.w X.K X.mg X.base k fa fd ps sp) (hr : Room (k + 1) X.A) (gd : X.A.guards = some []) (hb : Binds X.K fd ps []) (hx : PassesAt (L2.CX X.prog X.w) X σ E) (I : Inv X pins σ H s) (r : Vals vs us)
    (h : ∀ x dx, H x = none → H dx = none → dx ≠ x → sp (.ref x :: vs) (upd (upd H dx (.own x)) x (.ins C dx [])) (fun v H2 => v = .non ∧ Q (.ref x) H2) E) : wpAny (model X.prog X.w) X.A (call (.ref C) us) (EP X pins σ Q) X.xe s := by
  have hq := h (s.heap.objs.size + 1) s.heap.objs.size (I.hok.fresh (Nat.le_succ _)) (I.hok.fresh (Nat.le_refl _)) (Nat.ne_of_lt (Nat.lt_succ_self _))
  have J := Inv.made (C := C) I
  have rr : Vals (V.ref (s.heap.objs.size + 1) :: vs) (Value.ref (s.heap.objs.size + 1) :: us) := .cons rfl r
  have hl : (Value.ref (s.heap.objs.size + 1) :: us).length = ps.length := by rw [← rr.length]; exact G.len _ _ _ _ hq
  have bb := hb _ (Value.ref (s.heap.objs.size + 1) :: us) J.kIn (by rw [List.append_nil]; exact hl)
  rw [List.append_nil] at bb
  refine wpAny_call (make_map (f := fa) I.kIn M.makes M.init (beq_iff_eq.mp M.fn) (codeAny_mono (G.run _ X.stack _ _ ⟨Value.ref (s.heap.objs.size + 1) :: us, []⟩ (Value.ref (s.heap.objs.size + 1) :: us) _ _ E (hr.make C us []) gd (J.env0.make C us []) bb rr hq) fun res s' hq' => ?_))
  match res, hq' with
  | .error er, hq' => exact hx pins _ _ er s' J hq'
  | .ok (.ret u), hq' =>
    obtain ⟨v, H', J3, rv, ⟨ev, q3⟩⟩ := J.after hq'
    subst ev
    exact ⟨rv, ⟨V.ref (s.heap.objs.size + 1), H', J3, rfl, q3⟩⟩
  | .ok .next, z => exact z.elim
  | .ok .brk, z => exact z.elim
  | .ok .cont, z => exact z.elim
theorem made_rel {K : PySem.W.Frag} {W : Wd} {F H : Hp} {m : Sto} {C x dx : Addr} (rel : Rel K W F H m) (ad : Cl.ad c = some C) (hx : H x = none) (hd : H dx = none) (ne : dx ≠ x) :
    Rel K ⟨W.be ++ [x], upd W.st dx (.own x)⟩ F (upd (upd H dx (.own x)) x (.ins C dx [])) (m ++ [.ins c []]) ∧ W.Le ⟨W.be ++ [x], upd W.st dx (.own x)⟩ := by
  have l1 := cold_le (o := .own x) rel.toRel0 hd
  have r1 := rel.cold (o := .own x) hd
  have hx' : (upd H dx (.own x)) x = none := by rw [upd_ne (Ne.symm ne)]; exact hx
  have r2 := r1.hot (o := .ins C dx []) (c := .ins c []) hx' ⟨C, dx, [], ad, upd_same, upd_same, .nil⟩
  exact ⟨r2, l1.trans hot_le⟩
theorem make_wk {C : Addr} {n : Nat} {W : Wd} {F : Hp} {r : DSt} {q : D → Sto → Prop} {Q : VK} {s : L2.St} {W1 : Wd} {H1 : Hp} {m1 : Sto} {vs : List V} {ds : List D} (har : ∀ ds m q xq, g ds m q xq → ds.length = n) (ad : Cl.ad c = some C) (rs : RSt X.K W s r) (kk : Fol X.K W F q Q) (l1 : W.Le W1) (rel1 : Rel X.K W1 F H1 m1) (ra : RA X.K W1 vs ds)
    (hf : g (.ptr m1.length :: ds) (m1 ++ [.ins c []]) (fun v m2 => v = .non ∧ q (.ptr m1.length) m2) fun ex m2 => w ex r m2) (x dx : Addr) (hx : H1 x = none) (hd : H1 dx = none) (ne : dx ≠ x) :
    spOfX X.K n g (.ref x :: vs) (upd (upd H1 dx (.own x)) x (.ins C dx [])) (fun v H2 => v = .non ∧ Q (.ref x) H2) (WE (liftW X.K w) s) := by
  obtain ⟨rel2, l2⟩ := made_rel rel1 ad hx hd ne
  have ptr : R X.K ⟨W1.be ++ [x], upd W1.st dx (.own x)⟩ (.ref x) (.ptr m1.length) := .ptr (hot_at (p := x) rel1.toRel0)
  refine ⟨by rw [List.length_cons, ra.len]; exact har _ _ _ _ hf, _, F, _, .ptr m1.length :: ds, _, _, rel2.toRel0, .cons ptr (ra.mono l2), hf, fun W2 H2 m2 v d l3 rel3 rv hq => ?_, fun W2 H2 m2 cls d ex l3 rel3 rx hw => ?_⟩
  · obtain ⟨rfl, hq⟩ := hq
    cases rv
    exact ⟨rfl, kk W2 H2 m2 _ _ (l1.trans (l2.trans l3)) (rel2.of l3 rel3) (ptr.mono l3) hq⟩
  · exact ⟨W2, m2, r, ex, rel2.lw.trans l3, rel3.less rel2.lf, rs.mono (l1.trans (l2.trans l3)), rx, hw⟩
theorem je_make (T : KnI X.prog X.w X.K X.mg X.base k c g) (tk : TakesD X w) (hr : Room j X.A) (hk : k + 1 ≤ j) (gd : X.A.guards = some []) (hg : Gl X c) (ha : JA X (e :: es) ta) (hdb : (c == ("__debug__" : Str)) = false := by decide)
    (he : starEach (e :: es) X.env = (false, eval e X.env) :: starEach es X.env := by rfl) (hpl : (backTo pos (starEach es X.env)).any (·.1) = false := by rfl) : JE X (.Call (.Name c p) (e :: es) [] pos) (dMakeX g c w ta) := by
  obtain ⟨C, fa, fd, ps, n, ad, hm, M, G, hb, har⟩ := T.ex
  refine ⟨fun pins s sg H Q I ⟨W, F', m, r, q, rel, rs, h, kk⟩ => wpAny_Call_Name_kw (ld_glob I hg hm ?_ hdb)⟩
  refine PySem.W.callWith_K (h₀ := X.base) I.ok.mod.kin M.kp (thn (ha.run pos pins s sg H (fun vs H1 => ∀ x dx, H1 x = none → H1 dx = none → dx ≠ x → spOfX X.K n g (.ref x :: vs) (upd (upd H1 dx (.own x)) x (.ins C dx [])) (fun v H2 => v = .non ∧ Q (.ref x) H2) (WE (liftW X.K w) sg)) I ?_) ?_) he hpl
  · exact ⟨W, F', m, r, _, rel, rs, h, fun W1 H1 m1 vs ds l1 rel1 ra hf => make_wk har ad rs kk l1 rel1 ra hf⟩
  · rintro us s1 ⟨vs, H1, I1, rv, sp⟩
    exact ⟨I1.kIn, make_run M G (hr.mono hk) gd hb (passAt tk sg) I1 rv sp⟩
theorem je_make0 (T : KnI X.prog X.w X.K X.mg X.base k c g) (tk : TakesD X w) (hr : Room j X.A) (hk : k + 1 ≤ j) (gd : X.A.guards = some []) (hg : Gl X c) (hdb : (c == ("__debug__" : Str)) = false := by decide) : JE X (.Call (.Name c p) [] [] pos) (dMakeX g c w dNil) := by
  obtain ⟨C, fa, fd, ps, n, ad, hm, M, G, hb, har⟩ := T.ex
  refine ⟨fun pins s sg H Q I ⟨W, F', m, r, q, rel, rs, h, kk⟩ => wpAny_Call_Name_kw (ld_glob I hg hm ?_ hdb)⟩
  exact PySem.W.callWith_K0 I.kIn M.kp (make_run (us := []) (vs := []) M G (hr.mono hk) gd hb (passAt tk sg) I .nil (make_wk har ad rs kk (.refl _) rel .nil h))
end
end DL
/-! Data layer, part 13: dicts, constants that are dicts, the end of a law with classes. -/
namespace DL
open PySem PySem.Spec PyProof.Rows L2
abbrev noW : WD := fun _ _ _ => False
theorem walkGC {l : PySem.W.OpenLaw} {k : Nat} {q : Program} {loose : List Str} {XP : (Str → Option Value) → Heap → Prop} {YP : World → Heap → Prop} {d : DefRec} {K : Params → PySem.W.Frag} {x : Str}
    (hn : l.most = some 63) (hdf : d.params.defaults = []) (hr : Room k callerA) (hY : ∀ (w : World) (h : Heap), YP w h → (K w.params).In h)
    (F : ∀ (w : World) (mg : Str → Option Value) (fa : Addr) (h : Heap), (K w.params).In h → h.Ns mainGlobals mg → mg d.name = some (.ref fa) →
      ∃ (_ : Cl) (fd : FuncData), (∀ (s : Shared) (u : Value), BindsTo s fd ⟨[u], []⟩ [(x, u)]) ∧ ∀ base : Heap, (K w.params).In base → base.Ns mainGlobals mg → FnG l.prog w (K w.params) mg base k fa fd [x] (spOf (K w.params) 1 lawD)) :
    PySem.W.WalkO q loose XP YP l.row.toRowW d [] (fun f vs => PySem.call f vs) := by
  apply Att.attach_call hn hdf
  intro w s0 s1 mg mb fa o pm cd doc a vs ns G Y ho hd hcd hmg hobj hints hlen hg
  have inK := hY w _ Y
  obtain ⟨_, fd, hb, hF⟩ := F w mg fa _ inK G.T.g hmg
  exact law_end inK G.T.g G.T.b G.T.builtins G.T.nolimit hg hobj hints hlen hr hF hb
/-- the addresses that names stand for -/
abbrev clOf (mg : Str → Option Value) : Cl := ⟨fun x => match mg x with | some (.ref a) => some a | _ => none⟩
theorem clOf_ad {mg : Str → Option Value} {x : Str} {a : Addr} (h : mg x = some (.ref a)) : (clOf mg).ad x = some a := by
  show (match mg x with | some (.ref a) => some a | _ => none) = _
  rw [h]
variable [Cl]
theorem takesD_no [Lk] {X : Cx} : TakesD X noW := fun _ _ x => by
  obtain ⟨_, _, _, _, _, _, _, _, _, _, _, _, _, _, _, _, _, _, _, _, _, _, _, _, z⟩ := x
  exact z.elim
/-! ### a module's dict whose keys are texts -/
inductive TblE (P : Params) : List (Str × V) → List DictEntry → Prop
  | nil : TblE P [] []
  | cons {x : Str} {v : V} {r : List (Str × V)} {e : DictEntry} {es : List DictEntry} : (∃ t, e.key = .str x t) → e.hash = PyData.keyHash P x → RelV v e.val → TblE P r es → TblE P ((x, v) :: r) (e :: es)
theorem TblE.lit {P : Params} : ∀ {r : List (Str × V)} {es : List DictEntry}, TblE P r es → PySem.W.KeysLit P es
  | _, _, .nil => trivial
  | _, _, .cons ⟨t, h1⟩ h2 _ r => ⟨⟨_, t, h1, h2⟩, r.lit⟩
theorem TblE.find {P : Params} (x : Str) : ∀ {r : List (Str × V)} {es : List DictEntry}, TblE P r es → RelO (r.lookup x) ((es.find? fun d => Value.isStrOf x d.key).map (·.val))
  | _, _, .nil => trivial
  | _, _, .cons (x := y) (e := e) ⟨t, h1⟩ _ h3 r => by
    rw [List.lookup_cons, List.find?_cons]
    have q : Value.isStrOf x e.key = (x == y) := by
      rw [h1]
      show (y == x) = (x == y)
      rw [Bool.eq_iff_iff, beq_iff_eq, beq_iff_eq]
      exact ⟨Eq.symm, Eq.symm⟩
    rw [q]
    cases z : x == y with
    | true => exact h3
    | false => exact r.find x
def flatD : D → Option V := toV
def flatT : List (Str × D) → Option (List (Str × V))
  | [] => some []
  | (x, d) :: r => match toV d, flatT r with
    | some v, some vs => some ((x, v) :: vs)
    | _, _ => none
theorem flatT_look {x : Str} : ∀ {t : List (Str × D)} {vs : List (Str × V)}, flatT t = some vs → (vs.lookup x) = (t.lookup x).bind toV
  | [], _, e => by cases e; rfl
  | (y, d) :: r, vs, e => by
    unfold flatT at e
    cases e1 : toV d with
    | none => rw [e1] at e; simp at e
    | some v =>
      cases e2 : flatT r with
      | none => rw [e1, e2] at e; simp at e
      | some us =>
        rw [e1, e2] at e
        cases e
        rw [List.lookup_cons, List.lookup_cons]
        cases z : x == y with
        | true => exact e1.symm
        | false => exact flatT_look e2
theorem toV_r {K : PySem.W.Frag} {W : Wd} {d : D} {v : V} (e : toV d = some v) : R K W v d := by
  cases d <;> cases e
  · exact .non
  · exact .bl _
  · exact .int _
  · exact .str _
structure DicT (K : PySem.W.Frag) (mg : Str → Option Value) (P : Params) (x : Str) (t : List (Str × D)) : Prop where
  ex : ∃ u es n vs, mg x = some (.ref u) ∧ K.lookup u = some ⟨.type "dict", none, .dict es n, #[]⟩ ∧ (u == sysModules) = false ∧ flatT t = some vs ∧ TblE P vs es.toList
def dKIx (t : List (Str × D)) (te : DE) : DE := fun r m q => te r m fun y m1 => match y with
  | .str z => onS (t.lookup z) fun v => q v m1
  | _ => False
def dKIn (neg : Bool) (t : List (Str × D)) (te : DE) : DE := fun r m q => te r m fun y m1 => match y with
  | .str z => q (.bl (if neg then !(t.lookup z).isSome else (t.lookup z).isSome)) m1
  | _ => False
section
variable [Lk] {X : Cx} {x : Str} {t : List (Str × D)} {e : Expr} {te : DE} {np pos : Pos}
theorem find_tbl {es : Array DictEntry} {vs : List (Str × V)} {P : Params} (h : TblE P vs es.toList) (z : Str) : RelO (vs.lookup z) (findBy Value.isStrOf es z) := by
  have q := h.find z
  unfold findBy
  obtain ⟨l⟩ := es
  rw [List.find?_toArray]
  exact q
theorem je_kix (T : DicT X.K X.mg X.w.params x t) (hg : Gl X x) (he : JE X e te) (hd : (x == ("__debug__" : Str)) = false := by decide) (hs : PlainIx e := by exact fun _ _ => rfl) : JE X (.Subscript (.Name x np) e pos) (dKIx t te) := by
  obtain ⟨u, es, n, vs, hm, hl, hu, ft, te'⟩ := T.ex
  have pn : PE X (.Name x np) (tC (.ref u)) := pe_glob hg hm rfl hd
  have rule : IxR X (fun a b H Q => ∃ z v, a = .ref u ∧ b = .str z ∧ vs.lookup z = some v ∧ Q v H) := by
    intro value slice pins s σ H a b v w Q I rx ry h hs
    obtain ⟨z, r, rfl, rfl, e1, q⟩ := h
    obtain rfl : v = Value.ref u := rx
    obtain ⟨tk, rfl⟩ := ry
    have hm' := PySem.W.mapOf_K (prog := X.prog) (w := X.w) I.kIn hl te'.lit
    obtain ⟨w', e2, ru⟩ := RelO.some_of (v := r) (o := findBy Value.isStrOf es z) (by rw [← e1]; exact find_tbl te' z)
    exact tail_any hm'.typeIs slot_dict_getitem.lookup (wpAny_getItem_of (strKind_is X.prog X.w z tk) hm' e2 ⟨r, H, I.tok _, ru, q⟩) hs
  refine pe_wk (pe_ix rule pn he hs) ?_
  rintro s H Q ⟨W, F, m, r, q, rel, rs, h, k⟩
  refine ⟨W, F, m, r, _, rel, rs, h, fun W1 H1 m1 v d l1 rel1 rv hq => ?_⟩
  cases d with
  | str z =>
    cases rv
    obtain ⟨d, e1, hq⟩ := onS_some hq
    have e2 := flatT_look (x := z) ft
    rw [e1, Option.bind_some] at e2
    cases e3 : toV d with
    | none =>
      exfalso
      have key : ∀ {t : List (Str × D)} {vs : List (Str × V)}, flatT t = some vs → t.lookup z = some d → False := by
        intro t
        induction t with
        | nil => intro vs _ h; cases h
        | cons p t ih =>
          obtain ⟨y, d'⟩ := p
          intro vs e h
          unfold flatT at e
          rw [List.lookup_cons] at h
          cases q1 : toV d' with
          | none => rw [q1] at e; simp at e
          | some v =>
            cases q2 : flatT t with
            | none => rw [q1, q2] at e; simp at e
            | some us =>
              cases q3 : z == y with
              | true => rw [q3] at h; cases h; rw [e3] at q1; cases q1
              | false => rw [q3] at h; exact ih q2 h
      exact key ft e1
    | some v =>
      rw [e3] at e2
      exact ⟨z, v, rfl, rfl, e2, k _ _ _ _ _ l1 rel1 (toV_r e3) hq⟩
  | _ => exact hq.elim
theorem tbl_some {z : Str} {t : List (Str × D)} {vs : List (Str × V)} (ft : flatT t = some vs) : (vs.lookup z).isSome = (t.lookup z).isSome := by
  induction t generalizing vs with
  | nil => cases ft; rfl
  | cons p t ih =>
    obtain ⟨y, d⟩ := p
    unfold flatT at ft
    cases q1 : toV d with
    | none => rw [q1] at ft; simp at ft
    | some v =>
      cases q2 : flatT t with
      | none => rw [q1, q2] at ft; simp at ft
      | some us =>
        rw [q1, q2] at ft
        cases ft
        rw [List.lookup_cons, List.lookup_cons]
        cases q3 : z == y with
        | true => rfl
        | false => exact ih q2
theorem relO_isSome {o : Option V} {u : Option Value} (h : RelO o u) : u.isSome = o.isSome := by
  cases o <;> cases u <;> first | rfl | exact h.elim
theorem op_kin {u : Addr} {es : Array DictEntry} {n : Nat} {vs : List (Str × V)} (hl : X.K.lookup u = some ⟨.type "dict", none, .dict es n, #[]⟩) (hu : (u == sysModules) = false) (te' : TblE X.w.params vs es.toList) :
    OpR X (compareOp .In) (fun a b H Q => ∃ z, a = .str z ∧ b = .ref u ∧ Q (.bl (vs.lookup z).isSome) H) := by
  intro pins s σ H a b v w Q I ra rb h
  obtain ⟨z, rfl, rfl, q⟩ := h
  obtain ⟨tk, rfl⟩ := ra
  obtain rfl : w = Value.ref u := rb
  have hm' := PySem.W.mapOf_K (prog := X.prog) (w := X.w) I.kIn hl te'.lit
  refine wpAny_in_of (strKind_is X.prog X.w z tk) hu hm' ?_
  rw [relO_isSome (find_tbl te' z)]
  exact ⟨.bl _, H, I.tok _, rfl, q⟩
theorem op_knotin {u : Addr} {es : Array DictEntry} {n : Nat} {vs : List (Str × V)} (hl : X.K.lookup u = some ⟨.type "dict", none, .dict es n, #[]⟩) (hu : (u == sysModules) = false) (te' : TblE X.w.params vs es.toList) :
    OpR X (compareOp .NotIn) (fun a b H Q => ∃ z, a = .str z ∧ b = .ref u ∧ Q (.bl (!(vs.lookup z).isSome)) H) := by
  intro pins s σ H a b v w Q I ra rb h
  obtain ⟨z, rfl, rfl, q⟩ := h
  obtain ⟨tk, rfl⟩ := ra
  obtain rfl : w = Value.ref u := rb
  have hm' := PySem.W.mapOf_K (prog := X.prog) (w := X.w) I.kIn hl te'.lit
  refine wpAny_notIn_of (strKind_is X.prog X.w z tk) hu hm' ?_
  rw [relO_isSome (find_tbl te' z)]
  exact ⟨.bl _, H, I.tok _, rfl, q⟩
theorem kin_wk {u : Addr} {vs : List (Str × V)} {neg : Bool} (ft : flatT t = some vs) (s : L2.St) (H : Hp) (Q : VK) (h : liftE X.K (dKIn neg t te) s H Q) :
    tOp (fun a b H Q => ∃ z, a = .str z ∧ b = .ref u ∧ Q (.bl (if neg then !(vs.lookup z).isSome else (vs.lookup z).isSome)) H) (liftE X.K te) (tC (.ref u)) s H Q := by
  obtain ⟨W, F, m, r, q, rel, rs, h, k⟩ := h
  refine ⟨W, F, m, r, _, rel, rs, h, fun W1 H1 m1 v d l1 rel1 rv hq => ?_⟩
  cases d with
  | str z =>
    cases rv
    have e := tbl_some (z := z) ft
    exact ⟨z, rfl, rfl, by rw [e]; exact k _ _ _ _ _ l1 rel1 (.bl _) hq⟩
  | _ => exact hq.elim
theorem je_kin (T : DicT X.K X.mg X.w.params x t) (hg : Gl X x) (he : JE X e te) (hd : (x == ("__debug__" : Str)) = false := by decide) : JE X (.Compare e [.In] [.Name x np] pos) (dKIn false t te) := by
  obtain ⟨u, es, n, vs, hm, hl, hu, ft, te'⟩ := T.ex
  exact pe_wk (pe_cmpR (op_kin hl hu te') he (pe_glob (v := .ref u) hg hm rfl hd) (by rfl)) (kin_wk ft)
theorem je_knotin (T : DicT X.K X.mg X.w.params x t) (hg : Gl X x) (he : JE X e te) (hd : (x == ("__debug__" : Str)) = false := by decide) : JE X (.Compare e [.NotIn] [.Name x np] pos) (dKIn true t te) := by
  obtain ⟨u, es, n, vs, hm, hl, hu, ft, te'⟩ := T.ex
  exact pe_wk (pe_cmpR (op_knotin hl hu te') he (pe_glob (v := .ref u) hg hm rfl hd) (by rfl)) (kin_wk ft)
theorem jt_kin (T : DicT X.K X.mg X.w.params x t) (hg : Gl X x) (he : JE X e te) (hd : (x == ("__debug__" : Str)) = false := by decide) : JT X (.Compare e [.In] [.Name x np] pos) (dTest (dKIn false t te)) := by
  obtain ⟨u, es, n, vs, hm, hl, hu, ft, te'⟩ := T.ex
  refine pt_wk (pt_cmpR (op_kin hl hu te') he (pe_glob (v := .ref u) hg hm rfl hd) (by rfl)) fun s H Q h => ?_
  obtain ⟨W, F, m, r, q, rel, rs, h, k⟩ := h
  exact kin_wk (u := u) ft s H (fun x H' => ∃ k, x = .bl k ∧ Q k H') ⟨W, F, m, r, fun x m1 => match x with | .bl c => q c m1 | _ => False, rel, rs, h, fun W1 H1 m1 v d l1 rel1 rv hq => by
    cases d with
    | bl c => cases rv; exact ⟨c, rfl, k _ _ _ _ l1 rel1 hq⟩
    | _ => exact hq.elim⟩
theorem jt_knotin (T : DicT X.K X.mg X.w.params x t) (hg : Gl X x) (he : JE X e te) (hd : (x == ("__debug__" : Str)) = false := by decide) : JT X (.Compare e [.NotIn] [.Name x np] pos) (dTest (dKIn true t te)) := by
  obtain ⟨u, es, n, vs, hm, hl, hu, ft, te'⟩ := T.ex
  refine pt_wk (pt_cmpR (op_knotin hl hu te') he (pe_glob (v := .ref u) hg hm rfl hd) (by rfl)) fun s H Q h => ?_
  obtain ⟨W, F, m, r, q, rel, rs, h, k⟩ := h
  exact kin_wk (u := u) ft s H (fun x H' => ∃ k, x = .bl k ∧ Q k H') ⟨W, F, m, r, fun x m1 => match x with | .bl c => q c m1 | _ => False, rel, rs, h, fun W1 H1 m1 v d l1 rel1 rv hq => by
    cases d with
    | bl c => cases rv; exact ⟨c, rfl, k _ _ _ _ l1 rel1 hq⟩
    | _ => exact hq.elim⟩
end
/-! ### dicts: in the store, or frozen -/
def keyD : D → Option L2.Key
  | .int i => some (.inl i)
  | .str x => some (.inr x)
  | _ => none
theorem keyD_v {K : PySem.W.Frag} {W : Wd} {d : D} {k : L2.Key} {v : V} (e : keyD d = some k) (r : R K W v d) : v = kV k := by
  cases d <;> cases e <;> cases r <;> rfl
def dicOf : D → Sto → Option (List (L2.Key × D))
  | .dic ds, _ => some ds
  | .ptr i, m => match m[i]? with | some (.dic ds) => some ds | _ => none
  | _, _ => none
section
variable [Lk] {K : PySem.W.Frag} {W : Wd} {F H : Hp} {m : Sto} {x : V} {d : D} {ds : List (L2.Key × D)}
theorem dicOf_ptr {i : Nat} (h : m[i]? = some (.dic ds)) : dicOf (.ptr i) m = some ds := by simp only [dicOf, h]
theorem dicOf_at (rel : Rel K W F H m) (rv : R K W x d) (e : dicOf d m = some ds) : ∃ a xs, x = .ref a ∧ H a = some (.dK xs) ∧ RD K W xs ds := by
  cases rv with
  | dic h r => cases e; exact ⟨_, _, rfl, rel.sub _ _ h, r⟩
  | @ptr a i hb =>
    unfold dicOf at e
    cases q : m[i]? with
    | none => simp only [q] at e; cases e
    | some c =>
      cases c with
      | dic es =>
        simp only [q] at e
        cases e
        obtain ⟨b, h1, h2, h3, xs, h4, h5⟩ := rel.cell i _ q (fun z => by cases z)
        obtain rfl : b = a := Option.some.inj (h1.symm.trans hb)
        exact ⟨b, xs, rfl, h4, h5⟩
      | _ => simp only [q] at e; cases e
  | _ => cases e
def valD (k : L2.Key) : List (L2.Key × D) → Option D
  | [] => none
  | (k', d) :: r => if k' = k then some d else valD k r
def putKD (k : L2.Key) (y : D) (ds : List (L2.Key × D)) : List (L2.Key × D) :=
  if (ds.any fun kv => decide (kv.1 = k)) = true then ds.map (fun kv => if kv.1 = k then (kv.1, y) else kv) else ds ++ [(k, y)]
def dropD (k : L2.Key) (ds : List (L2.Key × D)) : List (L2.Key × D) := ds.filter fun kv => decide (kv.1 ≠ k)
theorem RD.val {k : L2.Key} : ∀ {xs : List (L2.Key × V)} {ds : List (L2.Key × D)}, RD K W xs ds → match valD k ds with | some d => ∃ v, valV xs k = some v ∧ R K W v d | none => valV xs k = none
  | _, _, .nil => rfl
  | _, _, .cons (k := k') h r => by
    unfold valD
    by_cases e : k' = k
    · rw [if_pos e]; exact ⟨_, valV_pos e, h⟩
    · rw [if_neg e, valV_neg e]; exact r.val
theorem RD.some {k : L2.Key} {xs : List (L2.Key × V)} {ds : List (L2.Key × D)} {d : D} (r : RD K W xs ds) (e : valD k ds = some d) : ∃ v, valV xs k = some v ∧ R K W v d := by
  have z := r.val (k := k)
  rw [e] at z
  exact z
theorem RD.none {k : L2.Key} {xs : List (L2.Key × V)} {ds : List (L2.Key × D)} (r : RD K W xs ds) (e : valD k ds = none) : valV xs k = none := by
  have z := r.val (k := k)
  rw [e] at z
  exact z
theorem RD.keys : ∀ {xs : List (L2.Key × V)} {ds : List (L2.Key × D)}, RD K W xs ds → xs.map (·.1) = ds.map (·.1)
  | _, _, .nil => rfl
  | _, _, .cons _ r => by rw [List.map_cons, List.map_cons, r.keys]
theorem RD.drop {k : L2.Key} : ∀ {xs : List (L2.Key × V)} {ds : List (L2.Key × D)}, RD K W xs ds → RD K W (L2.dropK xs k) (dropD k ds)
  | _, _, .nil => .nil
  | _, _, .cons (k := k') h r => by
    unfold dropK dropD
    by_cases e : k' = k
    · rw [List.filter_cons_of_neg (by simp [e]), List.filter_cons_of_neg (by simp [e])]; exact r.drop
    · rw [List.filter_cons_of_pos (by simp [e]), List.filter_cons_of_pos (by simp [e])]; exact .cons h r.drop
theorem RD.any {k : L2.Key} : ∀ {xs : List (L2.Key × V)} {ds : List (L2.Key × D)}, RD K W xs ds → (xs.any fun kv => decide (kv.1 = k)) = (ds.any fun kv => decide (kv.1 = k))
  | _, _, .nil => rfl
  | _, _, .cons _ r => by rw [List.any_cons, List.any_cons, r.any]
theorem RD.app : ∀ {xs ys : List (L2.Key × V)} {ds es : List (L2.Key × D)}, RD K W xs ds → RD K W ys es → RD K W (xs ++ ys) (ds ++ es)
  | _, _, _, _, .nil, s => s
  | _, _, _, _, .cons h r, s => .cons h (r.app s)
theorem RD.repl {k : L2.Key} {v : V} {y : D} (h : R K W v y) : ∀ {xs : List (L2.Key × V)} {ds : List (L2.Key × D)}, RD K W xs ds → RD K W (xs.map fun kv => if kv.1 = k then (kv.1, v) else kv) (ds.map fun kv => if kv.1 = k then (kv.1, y) else kv)
  | _, _, .nil => .nil
  | _, _, .cons (k := k') q r => by
    rw [List.map_cons, List.map_cons]
    by_cases e : k' = k
    · rw [if_pos e, if_pos e]; exact .cons h (r.repl h)
    · rw [if_neg e, if_neg e]; exact .cons q (r.repl h)
theorem RD.put {k : L2.Key} {v : V} {y : D} (h : R K W v y) {xs : List (L2.Key × V)} {ds : List (L2.Key × D)} (r : RD K W xs ds) : RD K W (putK xs k v) (putKD k y ds) := by
  unfold putK putKD
  rw [r.any (k := k)]
  split
  · exact r.repl h
  · exact r.app (.cons h .nil)
theorem valD_any {k : L2.Key} : ∀ {ds : List (L2.Key × D)}, (ds.any fun kv => decide (kv.1 = k)) = (valD k ds).isSome
  | [] => rfl
  | (k', d) :: r => by
    rw [List.any_cons, valD_any]
    unfold valD
    by_cases e : k' = k
    · rw [if_pos e, decide_eq_true e]; rfl
    · rw [if_neg e, decide_eq_false e, Bool.false_or]; cases r <;> rfl
theorem valD_put {k j : L2.Key} {y : D} : ∀ {ds : List (L2.Key × D)}, valD j (putKD k y ds) = if j = k then some y else valD j ds := by
  intro ds
  have mp : ∀ ds : List (L2.Key × D), valD j (ds.map fun kv => if kv.1 = k then (kv.1, y) else kv) = (valD j ds).map fun d => if j = k then y else d := by
    intro ds
    induction ds with
    | nil => rfl
    | cons p r ih =>
      obtain ⟨k', d⟩ := p
      rw [List.map_cons]
      by_cases e : k' = k
      · subst e
        rw [if_pos rfl]
        unfold valD
        by_cases e2 : k' = j
        · rw [if_pos e2, if_pos e2, Option.map_some, if_pos e2.symm]
        · rw [if_neg e2, if_neg e2, ih]
      · rw [if_neg e]
        unfold valD
        by_cases e2 : k' = j
        · rw [if_pos e2, if_pos e2, Option.map_some, if_neg (fun z => e (e2.trans z))]
        · rw [if_neg e2, if_neg e2, ih]
  have ap : ∀ ds : List (L2.Key × D), valD k ds = none → valD j (ds ++ [(k, y)]) = if j = k then some y else valD j ds := by
    intro ds
    induction ds with
    | nil =>
      intro _
      show (if k = j then some y else none) = _
      by_cases e : j = k
      · rw [if_pos e, if_pos e.symm]
      · rw [if_neg e, if_neg (Ne.symm e)]; rfl
    | cons p r ih =>
      obtain ⟨k', d⟩ := p
      intro h
      unfold valD at h
      by_cases e : k' = k
      · rw [if_pos e] at h; cases h
      · rw [if_neg e] at h
        rw [List.cons_append]
        unfold valD
        by_cases e2 : k' = j
        · rw [if_pos e2, if_pos e2, if_neg (fun z => e (e2.trans z))]
        · rw [if_neg e2, if_neg e2, ih h]
  unfold putKD
  by_cases a : (ds.any fun kv => decide (kv.1 = k)) = true
  · rw [if_pos a, mp]
    rw [valD_any] at a
    obtain ⟨x, hx⟩ := Option.isSome_iff_exists.mp a
    by_cases e : j = k
    · rw [if_pos e, e, hx]; simp
    · rw [if_neg e]; cases valD j ds <;> simp [e]
  · rw [if_neg a]
    refine ap ds ?_
    rw [valD_any] at a
    cases q : valD k ds with
    | none => rfl
    | some x => rw [q] at a; exact absurd rfl a
end
/-! ### {}, {k: v ..}, d[k], d.get(k, e), d[k] = e, k in d -/
def dDic : DE := fun _ m q => q (.dic []) m
def dDicP : DE := fun _ m q => q (.ptr m.length) (m ++ [.dic []])
def dDIx (to ti : DE) : DE := fun r m q => to r m fun x m1 => ti r m1 fun y m2 => onS (dicOf x m2) fun ds => onS (keyD y) fun k => onS (valD k ds) fun v => q v m2
def dDGet2 (to ti te : DE) : DE := fun r m q => to r m fun x m1 => onS (dicOf x m1) fun _ => ti r m1 fun y m2 => te r m2 fun z m3 => onS (dicOf x m3) fun ds => onS (keyD y) fun k => q ((valD k ds).getD z) m3
def dDGet1 (to ti : DE) : DE := fun r m q => to r m fun x m1 => onS (dicOf x m1) fun _ => ti r m1 fun y m2 => onS (dicOf x m2) fun ds => onS (keyD y) fun k => q ((valD k ds).getD .non) m2
def dDIn (neg : Bool) (ti to : DE) : DE := fun r m q => ti r m fun y m1 => to r m1 fun x m2 => onS (dicOf x m2) fun ds => onS (keyD y) fun k => q (.bl (if neg then !(valD k ds).isSome else (valD k ds).isSome)) m2
def dDPut (to ti tv : DE) : DS := fun d r m => tv r m fun v m1 => to r m1 fun x m2 => ti r m2 fun y m3 => match x with
  | .ptr j => onS (dicOf (.ptr j) m3) fun ds => onS (keyD y) fun k => ds.length ≤ 1000000 ∧ d.nx r (m3.set j (.dic (putKD k v ds)))
  | _ => False
section
variable [Lk] {X : Cx} {o e i value : Expr} {to te ti tv : DE} {pos pos' apos tpos cpos : Pos} {k : Nat}
theorem je_dic : JE X (.Dict [] [] pos) dDic := pe_wk pe_dnewK fun s H Q ⟨W, F, m, r, q, rel, rs, h, kk⟩ p hp =>
  kk _ _ m (.ref p) (.dic []) (cold_le rel.toRel0 hp) (rel.cold hp) (.dic upd_same .nil) h
theorem je_dicP : JE X (.Dict [] [] pos) dDicP := pe_wk pe_dnewK fun s H Q ⟨W, F, m, r, q, rel, rs, h, kk⟩ p hp =>
  kk _ _ (m ++ [Cell.dic []]) (.ref p) (.ptr m.length) hot_le (rel.hot (c := .dic []) hp ⟨[], upd_same, .nil⟩) (.ptr (hot_at rel.toRel0)) (show q (.ptr m.length) (m ++ [Cell.dic []]) from h)
theorem units1 {A : Around} (hr : Room k A) : A.units + 1 < cLine := by have := hr.un; omega
theorem dget_at {K : PySem.W.Frag} {W : Wd} {F H : Hp} {m : Sto} {x y : V} {d e : D} {ds : List (L2.Key × D)} {kk : L2.Key} (rel : Rel K W F H m) (rx : R K W x d) (ry : R K W y e) (e1 : dicOf d m = some ds) (e2 : keyD e = some kk) :
    ∃ a o, x = .ref a ∧ DGet H a y o ∧ match valD kk ds with | some v => ∃ u, o = some u ∧ R K W u v | none => o = none := by
  obtain ⟨a, xs, rfl, h, r⟩ := dicOf_at rel rx e1
  have ey := keyD_v e2 ry
  subst ey
  refine ⟨a, valV xs kk, rfl, .k h, ?_⟩
  exact r.val
theorem je_dix (hr : Room k X.A) (ho : JE X o to) (hi : JE X i ti) (hs : NoSl i := by exact fun _ _ => rfl) : JE X (.Subscript o i pos) (dDIx to ti) := pe_wk (pe_dget (units1 hr) ho hi hs) fun s H Q ⟨W, F, m, r, q, rel, rs, h, kk⟩ => by
  refine ⟨W, F, m, r, _, rel, rs, h, fun W1 H1 m1 v d l1 rel1 rv hq => ?_⟩
  refine ⟨W1, F, m1, r, _, rel1, rs.mono l1, hq, fun W2 H2 m2 u y l2 rel2 ru hq2 => ?_⟩
  obtain ⟨ds, e1, hq2⟩ := onS_some hq2
  obtain ⟨kk', e2, hq2⟩ := onS_some hq2
  obtain ⟨w, e3, hq2⟩ := onS_some hq2
  obtain ⟨a, o', rfl, g, z⟩ := dget_at rel2 (rv.mono l2) ru e1 e2
  rw [e3] at z
  obtain ⟨u', rfl, ru'⟩ := z
  exact ⟨a, u', rfl, g, kk _ _ _ _ _ (l1.trans l2) rel2 ru' hq2⟩
theorem isD_of {K : PySem.W.Frag} {W : Wd} {F H : Hp} {m : Sto} {x : V} {d : D} {ds : List (L2.Key × D)} (rel : Rel K W F H m) (rx : R K W x d) (e1 : dicOf d m = some ds) : ∃ a, x = .ref a ∧ IsD H a := by
  obtain ⟨a, xs, rfl, h, r⟩ := dicOf_at rel rx e1
  exact ⟨a, rfl, .inl ⟨xs, .inl h⟩⟩
theorem je_dget2 (hr : Room k X.A) (ho : JE X o to) (hi : JE X i ti) (he : JE X e te) (m : M2 X o "get" apos i e cpos := by exact ⟨rfl, rfl, rfl, rfl⟩) : JE X (.Call (.Attribute o "get" apos) [i, e] [] cpos) (dDGet2 to ti te) := pe_wk (pe_dget2 (units1 hr) ho hi he m) fun s H Q ⟨W, F, m, r, q, rel, rs, h, kk⟩ => by
  refine ⟨W, F, m, r, _, rel, rs, h, fun W1 H1 m1 v d l1 rel1 rv hq => ?_⟩
  obtain ⟨ds0, e0, hq⟩ := onS_some hq
  obtain ⟨a, rfl, isd⟩ := isD_of rel1 rv e0
  refine ⟨a, rfl, isd, W1, F, m1, r, _, rel1, rs.mono l1, hq, fun W2 H2 m2 u y l2 rel2 ru hq2 => ?_⟩
  refine ⟨W2, F, m2, r, _, rel2, rs.mono (l1.trans l2), hq2, fun W3 H3 m3 w z l3 rel3 rw3 hq3 => ?_⟩
  obtain ⟨ds, e1, hq3⟩ := onS_some hq3
  obtain ⟨kk', e2, hq3⟩ := onS_some hq3
  obtain ⟨a', o', ea, g, zz⟩ := dget_at rel3 (rv.mono (l2.trans l3)) (ru.mono l3) e1 e2
  cases ea
  refine ⟨o', g, ?_⟩
  cases e3 : valD kk' ds with
  | some v =>
    rw [e3] at zz hq3
    obtain ⟨u', rfl, ru'⟩ := zz
    exact kk _ _ _ _ _ (l1.trans (l2.trans l3)) rel3 ru' hq3
  | none =>
    rw [e3] at zz hq3
    have zz' : o' = none := zz
    subst zz'
    exact kk _ _ _ _ _ (l1.trans (l2.trans l3)) rel3 rw3 hq3
theorem je_dget1 (hr : Room k X.A) (ho : JE X o to) (hi : JE X i ti) (m : M1 X o "get" apos i cpos := by exact ⟨rfl, rfl, rfl, rfl⟩) : JE X (.Call (.Attribute o "get" apos) [i] [] cpos) (dDGet1 to ti) := pe_wk (pe_dget1 (units1 hr) ho hi m) fun s H Q ⟨W, F, m, r, q, rel, rs, h, kk⟩ => by
  refine ⟨W, F, m, r, _, rel, rs, h, fun W1 H1 m1 v d l1 rel1 rv hq => ?_⟩
  obtain ⟨ds0, e0, hq⟩ := onS_some hq
  obtain ⟨a, rfl, isd⟩ := isD_of rel1 rv e0
  refine ⟨a, rfl, isd, W1, F, m1, r, _, rel1, rs.mono l1, hq, fun W3 H3 m3 u y l3 rel3 ru hq3 => ?_⟩
  obtain ⟨ds, e1, hq3⟩ := onS_some hq3
  obtain ⟨kk', e2, hq3⟩ := onS_some hq3
  obtain ⟨a', o', ea, g, zz⟩ := dget_at rel3 (rv.mono l3) ru e1 e2
  cases ea
  refine ⟨o', g, ?_⟩
  cases e3 : valD kk' ds with
  | some v =>
    rw [e3] at zz hq3
    obtain ⟨u', rfl, ru'⟩ := zz
    exact kk _ _ _ _ _ (l1.trans l3) rel3 ru' hq3
  | none =>
    rw [e3] at zz hq3
    have zz' : o' = none := zz
    subst zz'
    exact kk _ _ _ _ _ (l1.trans l3) rel3 .non hq3
theorem js_dput (hr : Room k X.A) (ho : JE X o to) (hi : JE X i ti) (hv : JE X value tv) (hs : swapsWith value (some (.Subscript o i pos')) pos.line X.env = pure false := by rfl) : JS X (.Assign [.Subscript o i pos'] value pos) (dDPut to ti tv) := ps_wk (ps_dput (units1 hr) ho hi hv hs) fun E s H ⟨W, F, m, r, d, rel, rs, h, L⟩ => by
  refine ⟨W, F, m, r, _, rel, rs, h, fun W1 H1 m1 w z l1 rel1 rz hq => ?_⟩
  refine ⟨W1, F, m1, r, _, rel1, rs.mono l1, hq, fun W2 H2 m2 v x l2 rel2 rv hq2 => ?_⟩
  refine ⟨W2, F, m2, r, _, rel2, rs.mono (l1.trans l2), hq2, fun W3 H3 m3 u y l3 rel3 ru hq3 => ?_⟩
  cases x with
  | ptr j =>
    obtain ⟨ds, e1, hq3⟩ := onS_some hq3
    obtain ⟨kk', e2, hl, hq3⟩ := onS_some hq3
    have hm : m3[j]? = some (.dic ds) := by
      unfold dicOf at e1
      cases q : m3[j]? with
      | none => simp only [q] at e1; cases e1
      | some c => cases c <;> simp only [q] at e1 <;> cases e1; rfl
    obtain ⟨a, xs, rfl, h1, rd⟩ := dicOf_at rel3 (rv.mono l3) e1
    have ey := keyD_v e2 ru
    subst ey
    refine ⟨a, _, rfl, .k (k := kk') (v := w) h1 (by rw [rd.len]; exact Nat.lt_of_le_of_lt hl mil_line), ?_⟩
    have hb : W3.be[j]? = some a := by
      cases (rv.mono l3) with | ptr hb => exact hb
    exact L.nx W3 _ _ _ _ (l1.trans (l2.trans l3)) (rel3.write (c' := .dic (putKD kk' z ds)) hb hm (fun z => by cases z) (fun z => by cases z) ⟨_, upd_same, rd.put (rz.mono (l2.trans l3))⟩) (rs.mono (l1.trans (l2.trans l3))) hq3
  | _ => exact hq3.elim
end
end DL
/-! Data layer, part 14: list.count, list * int, isinstance of own classes, clear, extend, k in d, sorted(d). -/
namespace DL
open PySem PySem.Spec PyProof.Rows L2
theorem ints_are : ∀ {ns : List Int} {us : List Value}, Vals (ns.map V.int) us → IntsAre us ns
  | [], _, .nil => .nil
  | n :: ns, _, .cons h r => by
    obtain ⟨t, rfl⟩ := h
    exact .cons n t (ints_are r)
/-! ### xs.count(i), xs of ints -/
def rCountI (K : PySem.W.Frag) : V → List V → Hp → VK → Prop := fun x xs H Q => ∃ (a : Addr) (ns : List Int) (i : Int), x = .ref a ∧ xs = [.int i] ∧ SqL K H a (ns.map V.int) ∧ Q (.int (ns.count i : Nat)) H
theorem mt_countI {X : Cx} (hu : X.A.units + 65 < cLine) : MtR X "list.count" (rCountI X.K) := by
  intro pins s σ H x xs v us Q I rx rxs h
  obtain ⟨a, ns, i, rfl, rfl, hl, q⟩ := h
  cases rx
  cases rxs with
  | cons ry rt =>
    rename_i uy ut
    cases rt
    obtain ⟨t, rfl⟩ := ry
    obtain ⟨its, rv, pl, hz⟩ := I.list hl
    obtain ⟨o, n, ho, hc, hd, hn⟩ := pl
    have isl : s.heap.IsList a its.toArray := ⟨o, ho, hc, n, hn⟩
    refine PySem.W.count_list_datum (α := Int) (xs := ns) (x := i) isl (PySem.W.HoldAll.of_ints (ints_are rv)) (PySem.W.holds_int i t) ?_ ?_
    · show X.A.units + 1 + PySem.W.Datum.depth Int < cLine
      have : PySem.W.Datum.depth Int = 0 := rfl
      omega
    · exact ⟨.int (ns.count i : Nat), H, I.tok _, ⟨_, rfl⟩, q⟩
variable [Cl]
def dCount (to te : DE) : DE := fun r m q => to r m fun x m1 => onS (seqL x m1) fun _ => te r m1 fun y m2 => match y with
  | .int i => onS (seqL x m2) fun ds => onS (intsOf ds) fun ns => q (.int (ns.count i : Nat)) m2
  | _ => False
section
variable [Lk] {X : Cx} {a b e o : Expr} {ta tb te to : DE} {p np pos apos : Pos} {k : Nat}
theorem je_count (hr : Room k X.A) (ho : JE X o to) (he : JE X e te) (hbase : attributeBase o "count" X.env (eval o X.env) = eval o X.env := by rfl)
    (hfew : ((backTo pos (starEach (e :: []) X.env)).all (fun x => !x.1) && (backToKw pos (keywordEach [] X.env)).all (fun x => x.1.isSome)
      && decide ((e :: []).length + ([] : List Keyword).length + (if ([] : List Keyword).isEmpty then 0 else 1) < 30)) = true := by rfl)
    (hline : (apos.endLine == pos.line) = true := by rfl) (hs : starEach [e] X.env = (false, eval e X.env) :: starEach [] X.env := by rfl) (hp : (backTo pos (starEach [] X.env)).any (·.1) = false := by rfl) :
    JE X (.Call (.Attribute o "count" apos) [e] [] pos) (dCount to te) :=
  pe_wk (pe_bm PySem.F.plainAttrs_list PySem.F.slot_list_count PySem.F.type_list_count (mt_countI (units65 hr)) ho (pa_cons he pa_nil hs) hbase hfew hline hs hp) fun s H Q ⟨W, F, m, r, q, rel, rs, h, k⟩ => by
    refine ⟨W, F, m, r, _, rel, rs, h, fun W1 H1 m1 v d l1 rel1 rv hq => ?_⟩
    obtain ⟨es, e1, hq⟩ := onS_some hq
    obtain ⟨b, xs, rfl, g1, g2⟩ := seqL_at rel1 rv e1
    refine ⟨.inl ⟨rfl, xs, g1⟩, W1, F, m1, r, _, rel1, rs.mono l1, hq, fun W2 H2 m2 u y l2 rel2 ru hq2 => ?_⟩
    cases y with
    | int i =>
      cases ru
      obtain ⟨ds, e2, hq2⟩ := onS_some hq2
      obtain ⟨ns, e3, hq2⟩ := onS_some hq2
      obtain ⟨b', ys, e4, g3, g4⟩ := seqL_at rel2 (rv.mono l2) e2
      cases e4
      rw [intsOf_eq e3] at g4
      have := ra_ints_eq g4
      subst this
      exact ⟨b, ns, i, rfl, rfl, g3, k _ _ _ _ _ (l1.trans l2) rel2 (.int _) hq2⟩
    | _ => exact hq2.elim
/-! ### xs * i -/
def dRep : F2
  | x, .int k, m, q => onS (lstOf x m) fun ds => (-(2 ^ 63) ≤ k ∧ k < 2 ^ 63 ∧ ds.length * k.toNat ≤ 1000000) ∧ q (.lst (List.replicate k.toNat ds).flatten) m
  | _, _, _, _ => False
theorem ra_rep {K : PySem.W.Frag} {W : Wd} {xs : List V} {ds : List D} (h : RA K W xs ds) : ∀ n : Nat, RA K W (List.replicate n xs).flatten (List.replicate n ds).flatten
  | 0 => .nil
  | n + 1 => by
    rw [List.replicate_succ, List.replicate_succ, List.flatten_cons, List.flatten_cons]
    exact h.app (ra_rep h n)
theorem o_rep {K : PySem.W.Frag} : Op2 K dRep rRep := by
  intro W F H m x y d e q Q rel rx ry h k
  cases e with
  | int i =>
    cases ry
    obtain ⟨ds, e1, ⟨h1, h2, h3⟩, h⟩ := onS_some h
    obtain ⟨a, xs, rfl, g1, g2⟩ := lstOf_at rel rx e1
    refine ⟨a, i, xs, rfl, rfl, g1, h1, h2, ?_, fun p hp => cold_lst rel (ra_rep g2 _) h k hp⟩
    rw [g2.len]
    exact Nat.le_trans h3 (Nat.le_of_lt mil_line)
  | _ => exact h.elim
theorem je_rep (ha : JE X a ta) (hb : JE X b tb) : JE X (.BinOp a .Mult b pos) (dBin dRep ta tb) := je_op op_rep o_rep ha hb
/-! ### xs.clear(), xs.extend(ys), xs.pop() -/
def dClear (to : DE) : DE := fun r m q => to r m fun x m1 => match x with
  | .ptr j => onS (lstOf (.ptr j) m1) fun _ => q .non (m1.set j (.lst []))
  | _ => False
theorem je_clear (ho : JE X o to) (hbase : attributeBase o "clear" X.env (eval o X.env) = eval o X.env := by rfl) (hline : (apos.endLine == pos.line) = true := by rfl) : JE X (.Call (.Attribute o "clear" apos) [] [] pos) (dClear to) :=
  pe_wk (pe_bm0 PySem.F.plainAttrs_list PySem.F.slot_list_clear PySem.F.type_list_clear mt_clear ho hbase hline) fun s H Q ⟨W, F, m, r, q, rel, rs, h, k⟩ => by
    refine ⟨W, F, m, r, _, rel, rs, h, fun W1 H1 m1 v d l1 rel1 rv hq => ?_⟩
    cases d with
    | ptr j =>
      obtain ⟨es, e1, hq⟩ := onS_some hq
      obtain ⟨b, xs, rfl, g1, g2, g5⟩ := cell_write (ds' := []) rel1 rv e1
      exact ⟨.inl ⟨rfl, xs, SqL.of g1⟩, b, xs, rfl, rfl, g1, k _ _ _ _ _ l1 (g5 _ .nil) .non hq⟩
    | _ => exact hq.elim
def dExt (to te : DE) : DE := fun r m q => to r m fun x m1 => match x with
  | .ptr j => onS (lstOf (.ptr j) m1) fun _ => te r m1 fun y m2 => onS (lstOf (.ptr j) m2) fun ds => onS (lstOf y m2) fun es => ds.length + es.length ≤ 1000000 ∧ q .non (m2.set j (.lst (ds ++ es)))
  | _ => False
theorem je_extend (ho : JE X o to) (he : JE X e te) (hbase : attributeBase o "extend" X.env (eval o X.env) = eval o X.env := by rfl)
    (hfew : ((backTo pos (starEach (e :: []) X.env)).all (fun x => !x.1) && (backToKw pos (keywordEach [] X.env)).all (fun x => x.1.isSome)
      && decide ((e :: []).length + ([] : List Keyword).length + (if ([] : List Keyword).isEmpty then 0 else 1) < 30)) = true := by rfl)
    (hline : (apos.endLine == pos.line) = true := by rfl) (hs : starEach [e] X.env = (false, eval e X.env) :: starEach [] X.env := by rfl) (hp : (backTo pos (starEach [] X.env)).any (·.1) = false := by rfl) :
    JE X (.Call (.Attribute o "extend" apos) [e] [] pos) (dExt to te) :=
  pe_wk (pe_bm PySem.F.plainAttrs_list PySem.F.slot_list_extend PySem.F.type_list_extend mt_extend ho (pa_cons he pa_nil hs) hbase hfew hline hs hp) fun s H Q ⟨W, F, m, r, q, rel, rs, h, k⟩ => by
    refine ⟨W, F, m, r, _, rel, rs, h, fun W1 H1 m1 v d l1 rel1 rv hq => ?_⟩
    cases d with
    | ptr j =>
      obtain ⟨es, e1, hq⟩ := onS_some hq
      obtain ⟨b, xs, rfl, g1, g2⟩ := lstOf_at rel1 rv e1
      refine ⟨.inl ⟨rfl, xs, SqL.of g1⟩, W1, F, m1, r, _, rel1, rs.mono l1, hq, fun W2 H2 m2 u y l2 rel2 ru hq2 => ?_⟩
      obtain ⟨ds, e2, hq2⟩ := onS_some hq2
      obtain ⟨es, e3, hz, hq2⟩ := onS_some hq2
      obtain ⟨c, zs, rfl, f1, f2⟩ := lstOf_at rel2 ru e3
      obtain ⟨b', ys, e4, g3, g4, g5⟩ := cell_write (ds' := ds ++ es) rel2 (rv.mono l2) e2
      cases e4
      refine ⟨b, c, ys, zs, rfl, rfl, g3, f1, ?_, k _ _ _ _ _ (l1.trans l2) (g5 _ (g4.app f2)) .non hq2⟩
      rw [g4.len, f2.len]
      exact Nat.le_trans hz (Nat.le_of_lt mil_line)
    | _ => exact hq.elim
theorem RA.dropLast {K : PySem.W.Frag} {W : Wd} : ∀ {xs : List V} {ds : List D}, RA K W xs ds → RA K W xs.dropLast ds.dropLast
  | _, _, .nil => .nil
  | _, _, .cons h .nil => .nil
  | _, _, .cons h (.cons h2 r) => .cons h (RA.dropLast (.cons h2 r))
def dPop (to : DE) : DE := fun r m q => to r m fun x m1 => match x with
  | .ptr j => onS (lstOf (.ptr j) m1) fun ds => onS ds[ds.length - 1]? fun y => q y (m1.set j (.lst ds.dropLast))
  | _ => False
theorem je_pop (ho : JE X o to) (hbase : attributeBase o "pop" X.env (eval o X.env) = eval o X.env := by rfl) (hline : (apos.endLine == pos.line) = true := by rfl) : JE X (.Call (.Attribute o "pop" apos) [] [] pos) (dPop to) :=
  pe_wk (pe_bm0 PySem.F.plainAttrs_list PySem.F.slot_list_pop PySem.F.type_list_pop mt_pop ho hbase hline) fun s H Q ⟨W, F, m, r, q, rel, rs, h, k⟩ => by
    refine ⟨W, F, m, r, _, rel, rs, h, fun W1 H1 m1 v d l1 rel1 rv hq => ?_⟩
    cases d with
    | ptr j =>
      obtain ⟨es, e1, hq⟩ := onS_some hq
      obtain ⟨y, e2, hq⟩ := onS_some hq
      obtain ⟨b, xs, rfl, g1, g2, g5⟩ := cell_write (ds' := es.dropLast) rel1 rv e1
      obtain ⟨u, e3, ru⟩ := g2.get e2
      refine ⟨.inl ⟨rfl, xs, SqL.of g1⟩, b, xs, u, rfl, rfl, g1, by rw [g2.len]; exact e3, k _ _ _ _ _ l1 (g5 _ g2.dropLast) ru hq⟩
    | _ => exact hq.elim
/-! ### isinstance(o, C), o of own classes -/
structure KnT (K : PySem.W.Frag) (mg : Str → Option Value) (tbl : List (Str × Bool)) (c' : Str) : Prop where
  ex : ∃ C', mg c' = some (.ref C') ∧ ∀ c b, tbl.lookup c = some b → ∃ C, Cl.ad c = some C ∧ Cls K C ∧ PySem.W.findIn K (.ref C) "__class__" = some (some (.builtin "object.__class__")) ∧
    PySem.W.specialIn K (.builtin "object.__class__") "__get__" = some (some (.builtin "getset_descriptor.__get__")) ∧ PySem.W.takesIn K (.builtin "object.__class__") = some true ∧ PySem.W.mroIn K C (.type "object") = some true ∧ PySem.W.kitOne K (.ref C) (.ref C') = some b
def dIsO (tbl : List (Str × Bool)) (te : DE) : DE := fun r m q => te r m fun x m1 => match x with
  | .ptr j => match m1[j]? with
    | some (.ins c _) => onS (tbl.lookup c) fun b => q (.bl b) m1
    | _ => False
  | _ => False
theorem je_isO {tbl : List (Str × Bool)} {c' : Str} {p2 : Pos} (T : KnT X.K X.mg tbl c') (hg : Gl X "isinstance") (hm : X.mg "isinstance" = none) (he : JE X e te) (hg2 : Gl X c') (hdb : (c' == ("__debug__" : Str)) = false := by decide)
    (hs : starEach [e, .Name c' p2] X.env = (false, eval e X.env) :: starEach [.Name c' p2] X.env := by rfl)
    (hs2 : starEach [.Name c' p2] X.env = (false, eval (.Name c' p2) X.env) :: starEach [] X.env := by rfl) (hp : (backTo pos (starEach [.Name c' p2] X.env)).any (·.1) = false := by rfl) :
    JE X (.Call (.Name "isinstance" p) [e, .Name c' p2] [] pos) (dIsO tbl te) := by
  obtain ⟨C', hm2, T⟩ := T.ex
  exact pe_wk (pe_callB call_isi hg hm (by decide +kernel) (pa_cons he (pa_cons (pe_glob (v := .ref C') hg2 hm2 rfl hdb) pa_nil hs2) hs) (by decide) (by decide) hs hp) fun s H Q ⟨W, F, m, r, q, rel, rs, h, kk⟩ => by
    refine ⟨W, F, m, r, _, rel, rs, h, fun W1 H1 m1 v d l1 rel1 rv hq => ?_⟩
    cases d with
    | ptr j =>
      cases hm : m1[j]? with
      | none => simp only [hm] at hq
      | some cl =>
        cases cl with
        | ins c fs =>
          simp only [hm] at hq
          obtain ⟨b, e1, hq⟩ := onS_some hq
          obtain ⟨a, C, dx, us, rfl, hb, ad, h1, h2, rf⟩ := ins_at rel1 rv hm
          obtain ⟨C2, ad', cls, t1, t2, t3, t4, t5⟩ := T c b e1
          rw [ad] at ad'; cases ad'
          exact ⟨.ref a, .ref C', .ref C, .ref C', b, rfl, .own _, .base (.ins h1 cls t1 t2 t3 t4), t5, kk _ _ _ _ _ l1 rel1 (.bl _) hq⟩
        | _ => simp only [hm] at hq
    | _ => exact hq.elim
/-! ### k in d, sorted(d) -/
theorem din_wk {neg : Bool} {ti to : DE} {s : L2.St} {H : Hp} {Q : VK} (h : liftE X.K (dDIn neg ti to) s H Q) :
    (liftE X.K ti) s H fun y H1 => (liftE X.K to) s H1 fun x H2 => ∃ a o, x = .ref a ∧ DGet H2 a y o ∧ Q (.bl (if neg then !o.isSome else o.isSome)) H2 := by
  obtain ⟨W, F, m, r, q, rel, rs, h, k⟩ := h
  refine ⟨W, F, m, r, _, rel, rs, h, fun W1 H1 m1 v d l1 rel1 rv hq => ?_⟩
  refine ⟨W1, F, m1, r, _, rel1, rs.mono l1, hq, fun W2 H2 m2 u y l2 rel2 ru hq2 => ?_⟩
  obtain ⟨ds, e1, hq2⟩ := onS_some hq2
  obtain ⟨kk', e2, hq2⟩ := onS_some hq2
  obtain ⟨a, o', rfl, g, z⟩ := dget_at rel2 ru (rv.mono l2) e1 e2
  refine ⟨a, o', rfl, g, ?_⟩
  have eo : o'.isSome = (valD kk' ds).isSome := by
    cases e3 : valD kk' ds with
    | some w => rw [e3] at z; obtain ⟨u', rfl, _⟩ := z; rfl
    | none => rw [e3] at z; have z' : o' = none := z; subst z'; rfl
  rw [eo]
  exact k _ _ _ _ _ (l1.trans l2) rel2 (.bl _) hq2
theorem je_din (hr : Room k X.A) {i : Expr} {ti : DE} (hi : JE X i ti) (ho : JE X o to) (hm : behindInMarks .In o = false := by rfl) : JE X (.Compare i [.In] [o] pos) (dDIn false ti to) :=
  pe_wk (pe_cmp (pc_din (units1 hr) hi ho) hm) fun s H Q h => din_wk h
theorem je_dnotin (hr : Room k X.A) {i : Expr} {ti : DE} (hi : JE X i ti) (ho : JE X o to) (hm : behindInMarks .NotIn o = false := by rfl) : JE X (.Compare i [.NotIn] [o] pos) (dDIn true ti to) :=
  pe_wk (pe_cmp (pc_dnotin (units1 hr) hi ho) hm) fun s H Q h => din_wk h
def keysI : List (L2.Key × D) → Option (List Int)
  | [] => some []
  | (.inl i, _) :: r => (keysI r).map (i :: ·)
  | _ => none
theorem keysI_eq : ∀ {ds : List (L2.Key × D)} {ns : List Int}, keysI ds = some ns → ds.map (·.1) = ns.map Sum.inl
  | [], _, e => by cases e; rfl
  | (.inl i, d) :: ds, ns, e => by
    simp only [keysI, Option.map_eq_some_iff] at e
    obtain ⟨l, e, rfl⟩ := e
    rw [List.map_cons, List.map_cons, keysI_eq e]
  | (.inr x, d) :: ds, ns, e => by cases e
def dSortedD : FN
  | [x], m, q => onS (dicOf x m) fun ds => onS (keysI ds) fun ns => ns.length < 64 ∧ ∀ ns' : List Int, ns'.Perm ns → ns'.Pairwise (· ≤ ·) → q (.lst (ns'.map D.int)) m
  | _, _, _ => False
theorem o_sortedD {K : PySem.W.Frag} : OpN K dSortedD (fun xs H Q => ∃ (a : Addr) (kvs : List (L2.Key × V)) (ks : List Int), xs = [.ref a] ∧ Rd H a (.dK kvs) ∧ kvs.map (·.1) = ks.map Sum.inl ∧ ks.length < 64 ∧
    ∀ (ys : List Int) (p : Addr), ys.Perm ks → ys.Pairwise (· ≤ ·) → H p = none → Q (.ref p) (upd H p (.lst (ys.map V.int)))) := by
  intro W F H m xs ds q Q rel ra h k
  unfold dSortedD at h
  split at h
  · obtain ⟨v, rfl, rv⟩ := ra1 ra
    obtain ⟨es, e1, h⟩ := onS_some h
    obtain ⟨ns, e2, hl, h⟩ := onS_some h
    obtain ⟨a, ys, rfl, g, r⟩ := dicOf_at rel rv e1
    refine ⟨a, ys, ns, rfl, .inl g, by rw [r.keys]; exact keysI_eq e2, hl, fun zs p h1 h2 hp => cold_lst rel (ra_ints zs) (h zs h1 h2) k hp⟩
  · exact h.elim
theorem je_sortedD (hc : X.calm = true) (hg : Gl X "sorted") (hm : X.mg "sorted" = none) (ha : JE X a ta) (hs : starEach [a] X.env = (false, eval a X.env) :: starEach [] X.env := by rfl) (hp : (backTo pos (starEach [] X.env)).any (·.1) = false := by rfl) : JE X (.Call (.Name "sorted" p) [a] [] pos) (dCallB dSortedD (a1 ta)) :=
  je_callB (call_sortedDI hc) o_sortedD hg hm (by decide +kernel) (ja_cons ha ja_nil hs) (by decide) (by decide) hs hp
end
end DL
/-! Data layer, part 15: what is known of classes, out of what stands in the written part. -/
namespace DL
open PySem PySem.Spec PyProof.Rows L2
/-! ### one look for a class -/
def clsB (K : PySem.W.Frag) (C : Addr) : Bool :=
  PySem.W.plainGet K C Str.empty && (PySem.W.hasDictIn K C && (PySem.W.plainOver K C && decide (PySem.W.findIn K (.ref C) "__setattr__" = some (some (.builtin "object.__setattr__")))))
theorem clsB_ok {K : PySem.W.Frag} {C : Addr} (h : clsB K C = true) : Cls K C := by
  obtain ⟨h1, h⟩ := Bool.and_eq_true_iff.mp h
  obtain ⟨h2, h⟩ := Bool.and_eq_true_iff.mp h
  obtain ⟨h3, h4⟩ := Bool.and_eq_true_iff.mp h
  exact ⟨h1, h2, h3, of_decide_eq_true h4⟩
def metB (K : PySem.W.Frag) (C f : Addr) (m : Str) : Bool := decide (PySem.W.findIn K (.ref C) m = some (some (.ref f))) && (PySem.W.isFn K (.ref f) && PySem.W.keepIn K (.ref f))
theorem metB_ok {K : PySem.W.Frag} {C f : Addr} {m : Str} (h : metB K C f m = true) : Meth K C m f := by
  obtain ⟨h1, h⟩ := Bool.and_eq_true_iff.mp h
  obtain ⟨h2, h3⟩ := Bool.and_eq_true_iff.mp h
  exact ⟨of_decide_eq_true h1, h2, h3⟩
def makB (K : PySem.W.Frag) (C f : Addr) : Bool := PySem.W.makesIn K C && (decide (PySem.W.findIn K (.ref C) "__init__" = some (some (.ref f))) && (PySem.W.isFn K (.ref f) && PySem.W.keepIn K (.ref C)))
theorem makB_ok {K : PySem.W.Frag} {C f : Addr} (h : makB K C f = true) : Mk K C f := by
  obtain ⟨h1, h⟩ := Bool.and_eq_true_iff.mp h
  obtain ⟨h2, h⟩ := Bool.and_eq_true_iff.mp h
  obtain ⟨h3, h4⟩ := Bool.and_eq_true_iff.mp h
  exact ⟨h1, of_decide_eq_true h2, h3, h4⟩
structure OffC (K : PySem.W.Frag) (C f : Addr) (m : Str) : Prop where
  ga : PySem.W.specialIn K (.ref C) "__getattribute__" = some (some (.builtin "type.__getattribute__"))
  rd : PySem.W.readsIn K C (.type "type") = true
  fc : PySem.W.findCls K (.ref C) (.type "type") m = some (.val (.ref f))
  kp : PySem.W.keepIn K (.ref f) = true
structure IsoC (K : PySem.W.Frag) (C : Addr) : Prop where
  ca : PySem.W.findIn K (.ref C) "__class__" = some (some (.builtin "object.__class__"))
  cn : PySem.W.specialIn K (.builtin "object.__class__") "__get__" = some (some (.builtin "getset_descriptor.__get__"))
  ct : PySem.W.takesIn K (.builtin "object.__class__") = some true
  cm : PySem.W.mroIn K C (.type "object") = some true
def isoB (K : PySem.W.Frag) (C : Addr) : Bool := decide (PySem.W.findIn K (.ref C) "__class__" = some (some (.builtin "object.__class__"))) && (decide (PySem.W.specialIn K (.builtin "object.__class__") "__get__" = some (some (.builtin "getset_descriptor.__get__"))) &&
  (decide (PySem.W.takesIn K (.builtin "object.__class__") = some true) && decide (PySem.W.mroIn K C (.type "object") = some true)))
theorem isoB_ok {K : PySem.W.Frag} {C : Addr} (h : isoB K C = true) : IsoC K C := by
  obtain ⟨h1, h⟩ := Bool.and_eq_true_iff.mp h
  obtain ⟨h2, h⟩ := Bool.and_eq_true_iff.mp h
  obtain ⟨h3, h4⟩ := Bool.and_eq_true_iff.mp h
  exact ⟨of_decide_eq_true h1, of_decide_eq_true h2, of_decide_eq_true h3, of_decide_eq_true h4⟩
/-- an own exception class -/
def oexIn (K : PySem.W.Frag) (C : Addr) : Bool := match K.lookup C with
  | some ⟨.type "type", _, .cls cd, sl⟩ => (match cd.mro, sl.toList with
    | .ref C' :: bm, [_, _, _, _, some (.builtin n), _] => C' == C && (n == "ValueError.__new__" && (!cd.hasDel && (cd.hasDict && PySem.HandSPX.refsVE bm)))
    | _, _ => false)
  | _ => false
theorem oexIn_ok {K : PySem.W.Frag} {C : Addr} (q : oexIn K C = true) : ∃ nm q N bs bm sn sub ab col dd k0 k1 k2 k3 k5, K.lookup C = some (excClassObj nm q C N bs bm true sn sub ab col dd k0 k1 k2 k3 k5 "ValueError.__new__") ∧ PySem.HandSPX.refsVE bm = true := by
  unfold oexIn at q
  split at q
  · rename_i dd cd sl ho
    split at q
    · rename_i C' bm k0 k1 k2 k3 n k5 hm hs
      simp only [Bool.and_eq_true, beq_iff_eq, Bool.not_eq_true'] at q
      obtain ⟨rfl, rfl, hdel, hdc, hr⟩ := q
      obtain ⟨nm, bs, mro, ns, qn, hd, sn, sub, ab, col, del⟩ := cd
      dsimp only at hm hdel hdc
      subst hm hdel hdc
      have hsl : sl = #[k0, k1, k2, k3, some (.builtin "ValueError.__new__"), k5] := by
        obtain ⟨l⟩ := sl
        simp only at hs
        rw [hs]
      subst hsl
      exact ⟨nm, qn, ns, bs, bm, sn, sub, ab, col, dd, k0, k1, k2, k3, k5, ho, hr⟩
    · cases q
  · cases q
def exfB (K : PySem.W.Frag) (C : Addr) : Bool := oexIn K C && (decide (PySem.W.findIn K (.ref C) "__setattr__" = some (some (.builtin "object.__setattr__"))) && (decide (PySem.W.subIn K (.ref C) (.type "BaseException") = some true) &&
  (decide (PySem.W.typeIn K (.ref C) = some (.type "type")) && (PySem.W.keepIn K (.ref C) && (xfB K C && ((PySem.W.clsIn K C).isSome && isoB K C))))))
theorem exfB_ok {K : PySem.W.Frag} {C : Addr} (h : exfB K C = true) : ExF K C := by
  obtain ⟨h1, h⟩ := Bool.and_eq_true_iff.mp h
  obtain ⟨h2, h⟩ := Bool.and_eq_true_iff.mp h
  obtain ⟨h3, h⟩ := Bool.and_eq_true_iff.mp h
  obtain ⟨h4, h⟩ := Bool.and_eq_true_iff.mp h
  obtain ⟨h5, h⟩ := Bool.and_eq_true_iff.mp h
  obtain ⟨h6, h⟩ := Bool.and_eq_true_iff.mp h
  obtain ⟨h7, h8⟩ := Bool.and_eq_true_iff.mp h
  have i := isoB_ok h8
  exact ⟨⟨oexIn_ok h1, of_decide_eq_true h2, of_decide_eq_true h3, of_decide_eq_true h4, h5⟩, xfB_ok h6, h7, i.ca, i.cn, i.ct, i.cm⟩
variable [Cl]
/-! ### tables -/
section
variable {P : Program} {w : World} {K : PySem.W.Frag} {mg : Str → Option Value} {base : Heap} {k k' : Nat} {c c' mn f : Str} {C fa : Addr} {fd : FuncData} {ps : List Str} {n : Nat} {g : FNX} {g0 : FN}
theorem fng_mono {sp : Sp} (hk : k ≤ k') (G : FnG P w K mg base k fa fd ps sp) : FnG P w K mg base k' fa fd ps sp := ⟨G.len, fun A outer s H args us vs Q E hr gd => G.run A outer s H args us vs Q E (hr.mono hk) gd⟩
theorem knA_mk (a : mg c = some (.ref C)) (ad : Cl.ad c = some C) (h : clsB K C = true) (na : PySem.W.findIn K (.ref C) f = some none) : KnA K c f := ⟨C, ad, clsB_ok h, na⟩
theorem knA_nil : ∀ c ∈ ([] : List Str), KnA K c f := fun _ z => nomatch z
theorem knA_cons {cs : List Str} (h : KnA K c f) (r : ∀ c ∈ cs, KnA K c f) : ∀ x ∈ c :: cs, KnA K x f := fun x hx => by
  rcases List.mem_cons.mp hx with z | z
  · rw [z]; exact h
  · exact r x z
theorem knM_mk (ad : Cl.ad c = some C) (h : clsB K C = true) (hm : metB K C fa mn = true) (G : FnG P w K mg base k fa fd ps (spOfX K n g)) (hk : k ≤ k') (b : Binds K fd ps []) (ar : ∀ ds m q xq, g ds m q xq → ds.length = n) : KnM P w K mg base k' c mn g :=
  ⟨C, fa, fd, ps, n, ad, clsB_ok h, metB_ok hm, fng_mono hk G, b, ar⟩
theorem knM_nil : ∀ c g, ([] : List (Str × FNX)).lookup c = some g → KnM P w K mg base k c mn g := fun _ _ z => nomatch z
theorem knM_cons {tbl : List (Str × FNX)} (h : KnM P w K mg base k c mn g) (r : ∀ c g, tbl.lookup c = some g → KnM P w K mg base k c mn g) : ∀ c' g', ((c, g) :: tbl).lookup c' = some g' → KnM P w K mg base k c' mn g' := fun c' g' e => by
  rw [List.lookup_cons] at e
  cases z : c' == c with
  | true =>
    rw [z] at e
    cases e
    rw [beq_iff_eq.mp z]
    exact h
  | false =>
    rw [z] at e
    exact r c' g' e
theorem knI_mk (a : mg c = some (.ref C)) (ad : Cl.ad c = some C) (hm : makB K C fa = true) (G : FnG P w K mg base k fa fd ps (spOfX K n g)) (b : Binds K fd ps []) (ar : ∀ ds m q xq, g ds m q xq → ds.length = n) : KnI P w K mg base k c g :=
  ⟨C, fa, fd, ps, n, ad, a, makB_ok hm, G, b, ar⟩
theorem knS_mk (a : mg c = some (.ref C)) (ga : PySem.W.specialIn K (.ref C) "__getattribute__" = some (some (.builtin "type.__getattribute__"))) (rd : PySem.W.readsIn K C (.type "type") = true) (fc : PySem.W.findCls K (.ref C) (.type "type") mn = some (.val (.ref fa)))
    (kp : PySem.W.keepIn K (.ref fa) = true) (G : FnG P w K mg base k fa fd ps (spOfX K n g)) (b : Binds K fd ps []) (ar : ∀ ds m q xq, g ds m q xq → ds.length = n) : KnS P w K mg base k c mn g :=
  ⟨C, fa, fd, ps, n, a, ga, rd, fc, kp, G, b, ar⟩
theorem arX (h : ∀ ds m q, g0 ds m q → ds.length = n) : ∀ ds m q xq, g0.toX ds m q xq → ds.length = n := fun ds m q _ z => h ds m q z
theorem knT_nil (a : mg c' = some (.ref C)) : KnT K mg [] c' := ⟨C, a, fun _ _ z => nomatch z⟩
theorem knT_cons {tbl : List (Str × Bool)} {b : Bool} {C' : Addr} (a : mg c' = some (.ref C')) (ad : Cl.ad c = some C) (h : clsB K C = true) (i : isoB K C = true) (e : PySem.W.kitOne K (.ref C) (.ref C') = some b) (r : KnT K mg tbl c') : KnT K mg ((c, b) :: tbl) c' := by
  obtain ⟨C2, h2, r⟩ := r.ex
  have e2 : C2 = C' := by rw [h2] at a; cases a; rfl
  subst e2
  refine ⟨C2, a, fun x b' e' => ?_⟩
  rw [List.lookup_cons] at e'
  cases z : x == c with
  | true =>
    rw [z] at e'
    cases e'
    rw [beq_iff_eq.mp z]
    have i := isoB_ok i
    exact ⟨C, ad, clsB_ok h, i.ca, i.cn, i.ct, i.cm, e⟩
  | false =>
    rw [z] at e'
    exact r x b' e'
/-! ### the __init__ of an exception class -/
def tIni0 (K : PySem.W.Frag) (txt : Str) : TS := tDrop (tVeI K (tCons (tVar 0) (tCons (tC (.str txt)) tNil)))
def tIni1 (K : PySem.W.Frag) (f txt : Str) : TS := tSeq (tDrop (tVeI K (tCons (tVar 0) (tCons (tC (.str txt)) tNil)))) (tOst K f (tVar 0) (tVar 1))
theorem xk0_mk {txt qual : Str} {st : Stmt} (F : L2.Fun K "__init__" qual st fa fd) (S : FnScope ["self"] ["self"] (defScope st)) (ad : Cl.ad c = some C) (hm : mg c = some (.ref C)) (ef : exfB K C = true) (iC : PySem.W.findIn K (.ref C) "__init__" = some (some (.ref fa)))
    (tI : PySem.W.typeIn K (.ref fa) = some (.type "function")) (b : Binds K fd ["self"] [])
    (body : ∀ (cdv : Value) (A : Around) (outer : List Env) (s : Shared) (H : Hp) (E : XK), PSs (cxOf (L2.CX P w) P w K mg base ["self"] qual (defScope st) fa cdv A outer s H E) (defBody st) (tIni0 K txt)) : XK0 P w K mg base c := by
  have ef := exfB_ok ef
  refine ⟨C, fa, fd, ["self"], ad, hm, ef, iC, tI, Fun.okX F S (fun vs H Q E ⟨_, e, _⟩ => by rw [e]; rfl) fun cdv A outer s H vs Q E hr ⟨a, e, ha, hq⟩ => ⟨_, body cdv A outer s H E, ?_⟩, b⟩
  subst e
  refine ⟨.ref a, rfl, a, C, [.str txt], rfl, by show 1 ≤ 1000; decide, ef.ox, ha, hq⟩
theorem xk1_mk {txt qual y : Str} {st : Stmt} (F : L2.Fun K "__init__" qual st fa fd) (S : FnScope ["self", y] ["self", y] (defScope st)) (ad : Cl.ad c = some C) (hm : mg c = some (.ref C)) (ef : exfB K C = true) (iC : PySem.W.findIn K (.ref C) "__init__" = some (some (.ref fa)))
    (tI : PySem.W.typeIn K (.ref fa) = some (.type "function")) (b : Binds K fd ["self", y] []) (no : PySem.W.findIn K (.ref C) f = some none)
    (body : ∀ (cdv : Value) (A : Around) (outer : List Env) (s : Shared) (H : Hp) (E : XK), PSs (cxOf (L2.CX P w) P w K mg base ["self", y] qual (defScope st) fa cdv A outer s H E) (defBody st) (tIni1 K f txt)) : XK1 P w K mg base c f := by
  have ef := exfB_ok ef
  refine ⟨C, fa, fd, ["self", y], ad, hm, ef, iC, tI, Fun.okX F S (fun vs H Q E ⟨_, _, e, _⟩ => by rw [e]; rfl) fun cdv A outer s H vs Q E hr ⟨a, v, e, ha, hq⟩ => ⟨_, body cdv A outer s H E, ?_⟩, b⟩
  subst e
  refine ⟨.ref a, rfl, a, C, [.str txt], rfl, by show 1 ≤ 1000; decide, ef.ox, ha, ?_⟩
  exact ⟨v, rfl, .ref a, rfl, a, C, rfl, ef.ox, no, .inl ⟨ha, fun dx h1 h2 => hq dx h1 h2⟩⟩
theorem xis_nil (a : mg c' = some (.ref C)) : XIs K mg [] c' := ⟨.ref C, .inl ⟨C, a, rfl⟩, fun _ z => nomatch z⟩
theorem xis_cons {cs : List Str} {C' : Addr} (a : mg c' = some (.ref C')) (ad : Cl.ad c = some C) (ef : exfB K C = true) (e : PySem.W.kitOne K (.ref C) (.ref C') = some (isX c c')) (r : XIs K mg cs c') : XIs K mg (c :: cs) c' := by
  obtain ⟨u, h2, r⟩ := r.ex
  have hu : u = .ref C' := by
    rcases h2 with ⟨D, h2, rfl⟩ | ⟨n, h2, _⟩
    · rw [h2] at a; exact Option.some.inj a
    · rw [h2] at a; cases a
  subst hu
  refine ⟨.ref C', h2, fun x hx D hD => ?_⟩
  rcases List.mem_cons.mp hx with z | z
  · subst z; rw [ad] at hD; cases hD; exact ⟨exfB_ok ef, e⟩
  · exact r x z D hD
theorem xat_nil : XAt K [] f := ⟨fun _ z => nomatch z⟩
theorem xat_cons {cs : List Str} (ad : Cl.ad c = some C) (ef : exfB K C = true) (no : PySem.W.findIn K (.ref C) f = some none) (r : XAt K cs f) : XAt K (c :: cs) f := by
  refine ⟨fun x hx D hD => ?_⟩
  rcases List.mem_cons.mp hx with z | z
  · subst z; rw [ad] at hD; cases hD; exact ⟨(exfB_ok ef).xf, no⟩
  · exact r.ex x z D hD
end
end DL
/-! Data layer, part 16: lists of whole numbers, marks and spots. -/
namespace DL
open PySem PySem.Spec PyProof.Rows L2
theorem get_app {m dn : Sto} {i : Nat} {c : Cell} (h : m[i]? = some c) : (m ++ dn)[i]? = some c := by
  obtain ⟨hi, e⟩ := List.getElem?_eq_some_iff.mp h
  rw [List.getElem?_append_left hi]; exact h
theorem py0A_ints : ∀ ns : List Int, py0A (ns.map D.int) = some (ns.map PyData.int)
  | [] => rfl
  | n :: ns => by
    rw [List.map_cons, List.map_cons]
    unfold py0A
    rw [py0A_ints ns]
    rfl
theorem lay_ints : ∀ ns : List Int, PyData.canLayAll0 (ns.map PyData.int) = true ∧ PyData.depthAll (ns.map PyData.int) = 0
  | [] => ⟨rfl, rfl⟩
  | n :: ns => by
    obtain ⟨h1, h2⟩ := lay_ints ns
    rw [List.map_cons]
    constructor
    · show (PyData.canLay0 (.int n) && PyData.canLayAll0 (ns.map PyData.int)) = true
      rw [h1]; rfl
    · show max (PyData.depth (.int n)) (PyData.depthAll (ns.map PyData.int)) = 0
      rw [h2]; rfl
theorem shaped_ints (ns : List Int) : SeqAt.shaped (.list (ns.map PyData.int)) = true := by
  obtain ⟨h1, h2⟩ := lay_ints ns
  show (PyData.canLayAll0 (ns.map PyData.int) && decide (PyData.depthAll (ns.map PyData.int) + 1 ≤ 64)) = true
  rw [h1, h2]; rfl
theorem any_ints (i : Int) : ∀ ns : List Int, ((ns.map PyData.int).any fun z => PyData.eqv z (.int i)) = ns.contains i
  | [] => rfl
  | n :: ns => by
    rw [List.map_cons, List.any_cons, any_ints i ns, List.contains_cons, eqv_int]
    have : (i == n) = decide (n = i) := by
      rw [Bool.eq_iff_iff, beq_iff_eq, decide_eq_true_eq]; exact ⟨Eq.symm, Eq.symm⟩
    rw [this]
theorem inB_ints {y : D} {m : Sto} {ns : List Int} {i : Int} {neg : Bool} {q : D → Sto → Prop} (e : seqL y m = some (ns.map D.int)) (h : q (.bl (if neg then !ns.contains i else ns.contains i)) m) : dInB neg (.int i) y m q := by
  have go : onS (py m (.int i)) (fun p => onS (py m y) fun l => match l with
    | .list ps => SeqAt.shaped p = true ∧ SeqAt.shaped (.list ps) = true ∧ q (.bl (if neg then !ps.any (fun z => PyData.eqv z p) else ps.any fun z => PyData.eqv z p)) m
    | _ => False) := by
    rw [py_seq e, py0A_ints]
    refine ⟨rfl, shaped_ints ns, ?_⟩
    rw [any_ints]; exact h
  cases y <;> first | exact go | cases e
@[irreducible] def dInG (neg : Bool) : F2 := dInB neg
section
variable [Cl] [Lk] {X : Cx} {a b : Expr} {ta tb : DE} {pos : Pos} {k : Nat}
theorem je_inG (hr : Room k X.A) (ha : JE X a ta) (hb : JE X b tb) (hm : behindInMarks .In b = false := by rfl) : JE X (.Compare a [.In] [b] pos) (dBin (dInG false) ta tb) := by unfold dInG; exact je_in hr ha hb hm
theorem je_notinG (hr : Room k X.A) (ha : JE X a ta) (hb : JE X b tb) (hm : behindInMarks .NotIn b = false := by rfl) : JE X (.Compare a [.NotIn] [b] pos) (dBin (dInG true) ta tb) := by unfold dInG; exact je_notin hr ha hb hm
theorem jt_inG (hr : Room k X.A) (ha : JE X a ta) (hb : JE X b tb) (hm : behindInMarks .In b = false := by rfl) : JT X (.Compare a [.In] [b] pos) (dTest (dBin (dInG false) ta tb)) := by unfold dInG; exact jt_in hr ha hb hm
theorem jt_notinG (hr : Room k X.A) (ha : JE X a ta) (hb : JE X b tb) (hm : behindInMarks .NotIn b = false := by rfl) : JT X (.Compare a [.NotIn] [b] pos) (dTest (dBin (dInG true) ta tb)) := by unfold dInG; exact jt_notin hr ha hb hm
end
theorem in_ints {y : D} {m : Sto} {ns : List Int} {i : Int} {q : D → Sto → Prop} (e : seqL y m = some (ns.map D.int)) (h : q (.bl (ns.contains i)) m) : dInG false (.int i) y m q := by unfold dInG; exact inB_ints e h
theorem notin_ints {y : D} {m : Sto} {ns : List Int} {i : Int} {q : D → Sto → Prop} (e : seqL y m = some (ns.map D.int)) (h : q (.bl (!ns.contains i)) m) : dInG true (.int i) y m q := by unfold dInG; exact inB_ints e h
/-! ### kinds -/
def btw (x : D) (lo hi : Int) : Bool := match x with
  | .int i => decide (lo ≤ i) && decide (i ≤ hi)
  | _ => false
theorem btw_int {x : D} {lo hi : Int} (h : btw x lo hi = true) : ∃ i, x = .int i ∧ lo ≤ i ∧ i ≤ hi := by
  cases x with
  | int i =>
    obtain ⟨h1, h2⟩ := Bool.and_eq_true_iff.mp h
    exact ⟨i, rfl, of_decide_eq_true h1, of_decide_eq_true h2⟩
  | _ => cases h
def Kd0 (x : D) (m : Sto) : Prop := ∃ k, kd x m = some k
/-- a thing that may be asked whether it is a list of things -/
def Kds (x : D) (m : Sto) : Prop := ∃ k, kd x m = some k ∧ ((k = .lst ∧ ∃ ds, seqL x m = some ds ∧ ∀ d ∈ ds, Kd0 d m) ∨ (k ≠ .lst ∧ seqL x m = none))
theorem kds_ints {x : D} {m : Sto} {ns : List Int} (e : seqL x m = some (ns.map D.int)) : Kds x m := by
  have k0 : ∀ d ∈ ns.map D.int, Kd0 d m := fun d hd => by
    obtain ⟨i, _, rfl⟩ := List.mem_map.mp hd
    exact ⟨_, rfl⟩
  have kx : kd x m = some .lst := by
    cases x with
    | lst es => rfl
    | fz es => rfl
    | ptr i =>
      have h' : lstOf (.ptr i) m = some (ns.map D.int) := e
      unfold lstOf at h'
      unfold kd
      cases e : m[i]? with
      | none => simp only [e] at h'; cases h'
      | some c =>
        cases c with
        | lst es => simp only [e]
        | _ => simp only [e] at h'; cases h'
    | _ => cases e
  exact ⟨.lst, kx, .inl ⟨rfl, _, e, k0⟩⟩
/-- points, none less than the one ahead -/
def upD : Int → List D → Bool
  | _, [] => true
  | l, .int i :: r => btw (.int i) 0 1000 && (decide (l ≤ i) && upD i r)
  | _, _ => false
def spotD (x : D) (m : Sto) : Bool := match seqL x m with
  | some ds => decide (1 ≤ ds.length ∧ ds.length ≤ 6) && upD 0 ds
  | none => false
/-- a spot -/
structure Spot (sp : List Int) : Prop where
  h1 : 1 ≤ sp.length
  h6 : sp.length ≤ 6
  up : sp.Pairwise (· ≤ ·)
  rg : ∀ i ∈ sp, 0 ≤ i ∧ i ≤ 1000
theorem upD_of : ∀ {sp : List Int} {l : Int}, (l :: sp).Pairwise (· ≤ ·) → (∀ i ∈ sp, 0 ≤ i ∧ i ≤ 1000) → upD l (sp.map D.int) = true
  | [], _, _, _ => rfl
  | i :: sp, l, h, hr => by
    rw [List.map_cons]
    obtain ⟨h1, h2⟩ := List.pairwise_cons.mp h
    have r := hr i List.mem_cons_self
    have hl := h1 i List.mem_cons_self
    show ((decide (0 ≤ i) && decide (i ≤ 1000)) && (decide (l ≤ i) && upD i (sp.map D.int))) = true
    rw [decide_eq_true r.1, decide_eq_true r.2, decide_eq_true hl, upD_of h2 fun j hj => hr j (List.mem_cons_of_mem _ hj)]; rfl
theorem Spot.is {sp : List Int} {x : D} {m : Sto} (h : Spot sp) (e : seqL x m = some (sp.map D.int)) : spotD x m = true := by
  unfold spotD
  rw [e]
  have u : upD 0 (sp.map D.int) = true := upD_of (List.pairwise_cons.mpr ⟨fun i hi => (h.rg i hi).1, h.up⟩) h.rg
  show (decide (1 ≤ (sp.map D.int).length ∧ (sp.map D.int).length ≤ 6) && upD 0 (sp.map D.int)) = true
  rw [u, List.length_map, decide_eq_true ⟨h.h1, h.h6⟩]; rfl
/-- strictly rising -/
def rises : List Int → Bool
  | a :: b :: r => decide (a < b) && rises (b :: r)
  | _ => true
def marksD (x : D) (few : Int) (m : Sto) : Bool := match seqL x m with
  | some ds => decide (few ≤ (ds.length : Int) ∧ ds.length ≤ 8) && match intsOf ds with
    | some ns => ns.all (fun i => decide (0 ≤ i) && decide (i ≤ 1000)) && rises ns
    | none => false
  | none => false
structure Marks (few : Int) (ms : List Int) : Prop where
  h1 : few ≤ (ms.length : Int)
  h8 : ms.length ≤ 8
  up : ms.Pairwise (· < ·)
  rg : ∀ i ∈ ms, 0 ≤ i ∧ i ≤ 1000
theorem rises_of : ∀ {ms : List Int}, ms.Pairwise (· < ·) → rises ms = true
  | [], _ => rfl
  | [_], _ => rfl
  | a :: b :: r, h => by
    obtain ⟨h1, h2⟩ := List.pairwise_cons.mp h
    unfold rises
    rw [decide_eq_true (h1 b List.mem_cons_self), rises_of h2]; rfl
theorem rises_step : ∀ {ms : List Int}, rises ms = true ↔ ∀ j, (h : j + 1 < ms.length) → ms[j] < ms[j + 1]
  | [] => ⟨fun _ j h => absurd h (by simp), fun _ => rfl⟩
  | [a] => ⟨fun _ j h => absurd h (by simp), fun _ => rfl⟩
  | a :: b :: r => by
    unfold rises
    rw [Bool.and_eq_true_iff, decide_eq_true_eq, rises_step (ms := b :: r)]
    constructor
    · rintro ⟨h1, h2⟩ j hj
      cases j with
      | zero => exact h1
      | succ j => exact h2 j (by simpa using hj)
    · intro h
      exact ⟨h 0 (by simp), fun j hj => h (j + 1) (by simpa using hj)⟩
theorem rises_pw : ∀ {ms : List Int}, rises ms = true → ms.Pairwise (· < ·)
  | [], _ => .nil
  | [a], _ => by simp
  | a :: b :: r, h => by
    unfold rises at h
    rw [Bool.and_eq_true_iff, decide_eq_true_eq] at h
    have p := rises_pw h.2
    refine List.pairwise_cons.mpr ⟨fun x hx => ?_, p⟩
    rcases List.mem_cons.mp hx with z | z
    · rw [z]; exact h.1
    · have := (List.pairwise_cons.mp p).1 x z
      have := h.1
      omega
theorem Marks.is {few : Int} {ms : List Int} {x : D} {m : Sto} (h : Marks few ms) (e : seqL x m = some (ms.map D.int)) : marksD x few m = true := by
  unfold marksD
  rw [e]
  show (decide (few ≤ (((ms.map D.int).length : Nat) : Int) ∧ (ms.map D.int).length ≤ 8) && match intsOf (ms.map D.int) with | some ns => ns.all (fun i => decide (0 ≤ i) && decide (i ≤ 1000)) && rises ns | none => false) = true
  rw [intsOf_map, List.length_map, decide_eq_true ⟨h.h1, h.h8⟩]
  show (ms.all (fun i => decide (0 ≤ i) && decide (i ≤ 1000)) && rises ms) = true
  rw [rises_of h.up, Bool.and_true, List.all_eq_true]
  intro i hi
  have := h.rg i hi
  rw [decide_eq_true this.1, decide_eq_true this.2]; rfl
/-! ### a store that grew -/
theorem seqL_app {x : D} {m dn : Sto} {ds : List D} (h : seqL x m = some ds) : seqL x (m ++ dn) = some ds := by
  cases x with
  | ptr i =>
    have h' : lstOf (.ptr i) m = some ds := h
    unfold lstOf at h'
    cases e : m[i]? with
    | none => simp only [e] at h'; cases h'
    | some c =>
      cases c with
      | lst es => simp only [e] at h'; cases h'; exact lstOf_ptr (get_app e)
      | _ => simp only [e] at h'; cases h'
  | lst es => exact h
  | fz es => exact h
  | _ => cases h
theorem items_app {x : D} {m : Sto} {ds : List D} (h : seqL x m = some ds) : ∃ o, ∀ dn, items x (m ++ dn) = some (ds, o) ∧ okP o (m ++ dn) := by
  cases x with
  | ptr i =>
    have h' : lstOf (.ptr i) m = some ds := h
    unfold lstOf at h'
    cases e : m[i]? with
    | none => simp only [e] at h'; cases h'
    | some c =>
      cases c with
      | lst es =>
        simp only [e] at h'; cases h'
        refine ⟨some (i, ds), fun dn => ⟨?_, get_app e⟩⟩
        show (match (m ++ dn)[i]? with | some (.lst ds) => some (ds, some (i, ds)) | _ => none) = _
        rw [get_app e]
      | _ => simp only [e] at h'; cases h'
  | lst es => cases h; exact ⟨none, fun dn => ⟨rfl, trivial⟩⟩
  | fz es => cases h; exact ⟨none, fun dn => ⟨rfl, trivial⟩⟩
  | _ => cases h
theorem dic_end {m : Sto} {ds : List (L2.Key × D)} : dicOf (.ptr m.length) (m ++ [Cell.dic ds]) = some ds := dicOf_ptr (by simp)
theorem set_end {m : Sto} {c c' : Cell} : (m ++ [c]).set m.length c' = m ++ [c'] := by simp
theorem putKD_new {k : L2.Key} {y : D} {ds : List (L2.Key × D)} (h : valD k ds = none) : putKD k y ds = ds ++ [(k, y)] := by
  unfold putKD
  rw [valD_any, h]
  rfl
theorem valD_map {k : Int} {f : Int → D} : ∀ {ps : List Int}, valD (.inl k) (ps.map fun p => ((Sum.inl p : L2.Key), f p)) = if k ∈ ps then some (f k) else none
  | [] => rfl
  | p :: ps => by
    rw [List.map_cons]
    unfold valD
    by_cases e : (Sum.inl p : L2.Key) = .inl k
    · rw [if_pos e]
      have : p = k := Sum.inl.inj e
      subst this
      rw [if_pos List.mem_cons_self]
    · rw [if_neg e, valD_map]
      have ne : k ≠ p := fun z => e (by rw [z])
      by_cases e2 : k ∈ ps
      · rw [if_pos e2, if_pos (List.mem_cons_of_mem _ e2)]
      · rw [if_neg e2, if_neg]
        intro z
        rcases List.mem_cons.mp z with z | z
        · exact ne z
        · exact e2 z
theorem keysI_map {f : Int → D} : ∀ {ps : List Int}, keysI (ps.map fun p => ((Sum.inl p : L2.Key), f p)) = some ps
  | [] => rfl
  | p :: ps => by
    rw [List.map_cons]
    show (keysI (ps.map fun p => ((Sum.inl p : L2.Key), f p))).map (p :: ·) = _
    rw [keysI_map]; rfl
/-! ### a box -/
def boxFits (ms sp : List Int) : Bool := sp.all fun p => ms.contains p && decide (sp.count p ≤ 1)
abbrev boxPt (p : Int) : D := .tup [.int p, fr 1 1]
end DL
/-! Data layer, part 17: fractions as rational numbers. -/
namespace DL
open PySem PySem.Spec PyProof.Rows L2
abbrev dv (t b : Int) : Rat := (t : Rat) / (b : Rat)
theorem icast_ne {b : Int} (h : b ≠ 0) : (b : Rat) ≠ 0 := fun z => h (by exact_mod_cast z)
theorem icast_inj {a b : Int} (h : (a : Rat) = (b : Rat)) : a = b := by exact_mod_cast h
theorem rat_eq (x : Rat) : x = dv x.num (x.den : Int) := by
  have h := Rat.num_divInt_den x
  rw [Rat.divInt_eq_div] at h
  exact h.symm
theorem den_pos (x : Rat) : (0 : Int) < (x.den : Int) := by have := x.den_pos; omega
theorem rat_cop (x : Rat) : Int.gcd x.num (x.den : Int) = 1 := x.reduced
theorem cross_of {t b t' b' : Int} (hb : b ≠ 0) (hb' : b' ≠ 0) (h : dv t b = dv t' b') : t * b' = t' * b := by
  have h1 := icast_ne hb
  have h2 := icast_ne hb'
  apply icast_inj
  rw [Rat.intCast_mul, Rat.intCast_mul]
  have h' : (t : Rat) / (b : Rat) = (t' : Rat) / (b' : Rat) := h
  grind
theorem low_rat {t b : Int} {x : Rat} (hb : b ≠ 0) (h : dv t b = x) : lowT t b = x.num ∧ lowB t b = (x.den : Int) := by
  have e : dv t b = dv x.num (x.den : Int) := h.trans (rat_eq x)
  have c := cross_of hb (Int.ne_of_gt (den_pos x)) e
  have u := low_unique (x := x.num) (y := (x.den : Int)) hb (den_pos x) (rat_cop x) (by rw [c, Int.mul_comm])
  exact ⟨u.1.symm, u.2.symm⟩
/-- a fraction's data -/
abbrev frQ (x : Rat) : D := fr x.num (x.den : Int)
theorem fr_low {t b : Int} {x : Rat} (hb : b ≠ 0) (h : dv t b = x) : fr (lowT t b) (lowB t b) = frQ x := by
  obtain ⟨h1, h2⟩ := low_rat hb h
  rw [h1, h2]
theorem dv_add {a b c d : Int} (hb : b ≠ 0) (hd : d ≠ 0) : dv (a * d + c * b) (b * d) = dv a b + dv c d := by
  have h1 := icast_ne hb
  have h2 := icast_ne hd
  show ((a * d + c * b : Int) : Rat) / ((b * d : Int) : Rat) = (a : Rat) / (b : Rat) + (c : Rat) / (d : Rat)
  rw [Rat.intCast_add, Rat.intCast_mul, Rat.intCast_mul, Rat.intCast_mul]
  grind
theorem dv_int (a : Int) : dv a 1 = (a : Rat) := by
  show (a : Rat) / ((1 : Int) : Rat) = a
  rw [show ((1 : Int) : Rat) = 1 from rfl]
  grind
theorem dv_zero {b : Int} : dv 0 b = 0 := by
  show ((0 : Int) : Rat) / _ = 0
  rw [show ((0 : Int) : Rat) = 0 from rfl]
  grind
theorem frQ_int (a : Int) : frQ (a : Rat) = fr a 1 := rfl
theorem frQ_zero : frQ 0 = fr 0 1 := rfl
theorem frQ_one : frQ 1 = fr 1 1 := rfl
/-- of bounded size -/
structure QS (n : Nat) (x : Rat) : Prop where
  st : Sm n x.num
  sb : Sm n (x.den : Int)
theorem QS.mono {k n : Nat} {x : Rat} (h : QS k x) (hk : k ≤ n) : QS n x := ⟨h.st.mono hk, h.sb.mono hk⟩
theorem qs_dv {t b : Int} {x : Rat} {n : Nat} (hb : b ≠ 0) (h : dv t b = x) (st : Sm n t) (sb : Sm n b) : QS n x := by
  obtain ⟨h1, h2⟩ := low_rat hb h
  exact ⟨h1 ▸ lowT_sm hb st, h2 ▸ lowB_sm hb sb⟩
theorem QS.add {k n : Nat} {x y : Rat} (h : QS k x) (h' : QS n y) : QS (k + n + 1) (x + y) := by
  have e : dv (x.num * y.den + y.num * x.den) ((x.den : Int) * y.den) = x + y := by
    rw [dv_add (Int.ne_of_gt (den_pos x)) (Int.ne_of_gt (den_pos y)), ← rat_eq, ← rat_eq]
  refine qs_dv (Int.mul_ne_zero (Int.ne_of_gt (den_pos x)) (Int.ne_of_gt (den_pos y))) e ?_ ((h.sb.mul h'.sb).mono (by omega))
  exact Sm.add (h.st.mul h'.sb) ((h'.st.mul h.sb).mono (by omega))
theorem num_pos {x : Rat} : 0 < x.num ↔ 0 < x := by
  rw [Rat.lt_iff]
  show 0 < x.num ↔ 0 * (x.den : Int) < x.num * 1
  rw [Int.zero_mul, Int.mul_one]
theorem dv_pos {t b : Int} (ht : 0 < t) (hb : 0 < b) : 0 < dv t b := by
  have h1 : (0 : Rat) < (t : Rat) := by exact_mod_cast ht
  have h2 : (0 : Rat) < (b : Rat) := by exact_mod_cast hb
  show 0 < (t : Rat) / (b : Rat)
  rw [Rat.lt_div_iff h2, Rat.zero_mul]
  exact h1
/-! ### sums -/
def sumQ (f : Nat → Rat) : Nat → Rat
  | 0 => 0
  | n + 1 => sumQ f n + f n
def updQ (f : Nat → Rat) (j : Nat) (w : Rat) : Nat → Rat := fun i => if i = j then f i + w else f i
theorem sumQ_upd {f : Nat → Rat} {j : Nat} {w : Rat} : ∀ {n : Nat}, sumQ (updQ f j w) n = if j < n then sumQ f n + w else sumQ f n
  | 0 => rfl
  | n + 1 => by
    show sumQ (updQ f j w) n + (if n = j then f n + w else f n) = if j < n + 1 then sumQ f n + f n + w else sumQ f n + f n
    rw [sumQ_upd]
    by_cases h : j < n
    · have h1 : ¬ n = j := by omega
      have h2 : j < n + 1 := by omega
      rw [if_pos h, if_neg h1, if_pos h2]; grind
    · by_cases e : n = j
      · have h2 : j < n + 1 := by omega
        rw [if_neg h, if_pos e, if_pos h2]; grind
      · have h2 : ¬ j < n + 1 := by omega
        rw [if_neg h, if_neg e, if_neg h2]
theorem sumQ_zero {n : Nat} : sumQ (fun _ => 0) n = 0 := by
  induction n with
  | zero => rfl
  | succ n ih => show sumQ (fun _ => 0) n + 0 = 0; rw [ih, Rat.add_zero]
theorem sumQ_ext {f g : Nat → Rat} : ∀ {n : Nat}, (∀ i, i < n → f i = g i) → sumQ f n = sumQ g n
  | 0, _ => rfl
  | n + 1, h => by
    show sumQ f n + f n = sumQ g n + g n
    rw [sumQ_ext fun i hi => h i (by omega), h n (by omega)]
/-- one's share of a list of things -/
def addQ (c : Int → Nat → Rat) (L : List Int) (j : Nat) : Rat := L.foldl (fun a p => a + c p j) 0
theorem addQ_snoc {c : Int → Nat → Rat} {L : List Int} {p : Int} {j : Nat} : addQ c (L ++ [p]) j = addQ c L j + c p j := by
  unfold addQ
  rw [List.foldl_append]; rfl
/-! ### a scale -/
/-- what the mark at j gets of a point -/
def at0 (ms : List Int) (i : Nat) : Int := ms.getD i 0
def shr (ms : List Int) (p : Int) (i : Nat) : Rat :=
  if p = at0 ms i then 1 else if 0 < i ∧ at0 ms (i - 1) < p ∧ p < at0 ms i then dv (p - at0 ms (i - 1)) (at0 ms i - at0 ms (i - 1))
  else if i + 1 < ms.length ∧ at0 ms i < p ∧ p < at0 ms (i + 1) then dv (at0 ms (i + 1) - p) (at0 ms (i + 1) - at0 ms i) else 0
end DL
/-! Data layer, part 18: a scale's mix. -/
namespace DL
open PySem PySem.Spec PyProof.Rows L2
theorem sorted_ext : ∀ {l k : List Int}, l.Pairwise (· < ·) → k.Pairwise (· < ·) → (∀ x, x ∈ l ↔ x ∈ k) → l = k
  | [], [], _, _, _ => rfl
  | [], b :: k, _, _, h => absurd ((h b).mpr List.mem_cons_self) (by simp)
  | a :: l, [], _, _, h => absurd ((h a).mp List.mem_cons_self) (by simp)
  | a :: l, b :: k, hl, hk, h => by
    obtain ⟨l1, l2⟩ := List.pairwise_cons.mp hl
    obtain ⟨k1, k2⟩ := List.pairwise_cons.mp hk
    have e : a = b := by
      rcases List.mem_cons.mp ((h a).mp List.mem_cons_self) with z | z
      · exact z
      · rcases List.mem_cons.mp ((h b).mpr List.mem_cons_self) with y | y
        · exact y.symm
        · have := k1 a z; have := l1 b y; omega
    subst e
    rw [sorted_ext l2 k2 fun x => ?_]
    constructor
    · intro hx
      rcases List.mem_cons.mp ((h x).mp (List.mem_cons_of_mem _ hx)) with z | z
      · have := l1 x hx; omega
      · exact z
    · intro hx
      rcases List.mem_cons.mp ((h x).mpr (List.mem_cons_of_mem _ hx)) with z | z
      · have := k1 x hx; omega
      · exact z
theorem strict_of : ∀ {l : List Int}, l.Pairwise (· ≤ ·) → l.Nodup → l.Pairwise (· < ·)
  | [], _, _ => .nil
  | a :: l, h, hn => by
    obtain ⟨h1, h2⟩ := List.pairwise_cons.mp h
    obtain ⟨n1, n2⟩ := List.nodup_cons.mp hn
    refine List.pairwise_cons.mpr ⟨fun x hx => ?_, strict_of h2 n2⟩
    have := h1 x hx
    rcases Int.lt_or_eq_of_le this with z | z
    · exact z
    · exact absurd (z ▸ hx) n1
theorem at0_eq {ms : List Int} {i : Nat} (h : i < ms.length) : at0 ms i = ms[i] := by
  show ms.getD i 0 = ms[i]
  rw [List.getD_eq_getElem?_getD, List.getElem?_eq_getElem h]; rfl
theorem at0_get {ms : List Int} {i : Nat} (h : i < ms.length) : ms[i]? = some (at0 ms i) := by rw [at0_eq h]; exact List.getElem?_eq_getElem h
theorem at0_lt {ms : List Int} (h : ms.Pairwise (· < ·)) {i j : Nat} (hij : i < j) (hj : j < ms.length) : at0 ms i < at0 ms j := by
  rw [at0_eq hj, at0_eq (by omega)]
  exact List.pairwise_iff_getElem.mp h i j _ _ hij
theorem at0_inj {ms : List Int} (h : ms.Pairwise (· < ·)) {i j : Nat} (hi : i < ms.length) (hj : j < ms.length) (e : at0 ms i = at0 ms j) : i = j := by
  rcases Nat.lt_trichotomy i j with z | z | z
  · have := at0_lt h z hj; omega
  · exact z
  · have := at0_lt h z hi; omega
theorem at0_mem {ms : List Int} {i : Nat} (h : i < ms.length) : at0 ms i ∈ ms := by rw [at0_eq h]; exact List.getElem_mem h
theorem mem_at0 {ms : List Int} {k : Int} (h : k ∈ ms) : ∃ i, i < ms.length ∧ at0 ms i = k := by
  obtain ⟨i, hi, e⟩ := List.mem_iff_getElem.mp h
  exact ⟨i, hi, by rw [at0_eq hi]; exact e⟩
/-- what a point counts where -/
inductive EntS (ms : List Int) (p : Int) : List (Nat × Rat) → Prop
  | on {j : Nat} : j < ms.length → at0 ms j = p → EntS ms p [(j, 1)]
  | off {a : Nat} : a + 1 < ms.length → at0 ms a < p → p < at0 ms (a + 1) → EntS ms p [(a, dv (at0 ms (a + 1) - p) (at0 ms (a + 1) - at0 ms a)), (a + 1, dv (p - at0 ms a) (at0 ms (a + 1) - at0 ms a))]
def accE : List (Nat × Rat) → Nat → Rat
  | [], _ => 0
  | (j, w) :: r, i => accE r i + (if i = j then w else 0)
theorem qs_one : QS 11 1 := ⟨sm (k := 1) (by decide) (by decide), sm (k := 1) (by decide) (by decide)⟩
theorem ent_ok {ms : List Int} {p : Int} {E : List (Nat × Rat)} (h : EntS ms p E) (hr : ∀ i ∈ ms, 0 ≤ i ∧ i ≤ 1000) : E.length ≤ 2 ∧ ∀ e ∈ E, e.1 < ms.length ∧ 0 < e.2 ∧ QS 11 e.2 := by
  cases h with
  | on hj e =>
    refine ⟨by simp, fun x hx => ?_⟩
    rw [List.mem_singleton] at hx
    subst hx
    exact ⟨hj, (by decide : (0 : Rat) < 1), qs_one⟩
  | @off a ha h1 h2 =>
    refine ⟨by simp, fun x hx => ?_⟩
    have r1 := hr _ (at0_mem (show a < ms.length by omega))
    have r2 := hr _ (at0_mem ha)
    have sz : ∀ t : Int, 0 ≤ t → t ≤ 1000 → Sm 11 t := fun t h0 h1 => sm_le 11 (by omega) (by omega)
    rcases List.mem_cons.mp hx with z | z
    · subst z
      exact ⟨by show a < _; omega, dv_pos (by omega) (by omega), qs_dv (by omega) rfl (sz _ (by omega) (by omega)) (sz _ (by omega) (by omega))⟩
    · rw [List.mem_singleton] at z
      subst z
      exact ⟨ha, dv_pos (by omega) (by omega), qs_dv (by omega) rfl (sz _ (by omega) (by omega)) (sz _ (by omega) (by omega))⟩
theorem dv_one {x y p : Int} (h : x < y) : dv (y - p) (y - x) + dv (p - x) (y - x) = 1 := by
  have h1 := icast_ne (show y - x ≠ 0 by omega)
  show ((y - p : Int) : Rat) / ((y - x : Int) : Rat) + ((p - x : Int) : Rat) / ((y - x : Int) : Rat) = 1
  rw [Rat.intCast_sub, Rat.intCast_sub, Rat.intCast_sub] at *
  grind
theorem shr_acc {ms : List Int} {p : Int} {E : List (Nat × Rat)} (h : EntS ms p E) (hp : ms.Pairwise (· < ·)) {i : Nat} (hi : i < ms.length) : shr ms p i = accE E i := by
  have lt : ∀ {i j : Nat}, i < j → j < ms.length → at0 ms i < at0 ms j := fun a b => at0_lt hp a b
  unfold shr
  cases h with
  | @on j hj e =>
    show _ = (0 : Rat) + (if i = j then 1 else 0)
    rw [Rat.zero_add]
    by_cases c : i = j
    · subst c
      rw [if_pos e.symm, if_pos rfl]
    · have ne : p ≠ at0 ms i := fun z => c (at0_inj hp hi hj (z.symm.trans e.symm))
      rw [if_neg ne, if_neg c, if_neg, if_neg]
      · rintro ⟨h1, z⟩
        rcases Nat.lt_or_ge i j with q | q
        · rcases Nat.lt_or_ge (i + 1) j with q2 | q2
          · have := lt q2 hj; omega
          · have : j = i + 1 := by omega
            rw [this] at e; omega
        · have := lt (show j < i by omega) hi; omega
      · rintro ⟨h0, z⟩
        rcases Nat.lt_or_ge i j with q | q
        · have := lt q hj; omega
        · rcases Nat.lt_or_ge j (i - 1) with q2 | q2
          · have := lt q2 (show i - 1 < ms.length by omega); omega
          · have : j = i - 1 := by omega
            rw [this] at e; omega
  | @off a ha h1 h2 =>
    show _ = (0 : Rat) + (if i = a + 1 then _ else 0) + (if i = a then _ else 0)
    have ne : p ≠ at0 ms i := fun z => by
      rcases Nat.lt_or_ge i a with q | q
      · have := lt q (show a < ms.length by omega); omega
      · rcases Nat.lt_or_ge (a + 1) i with q2 | q2
        · have := lt q2 hi; omega
        · have : i = a + 1 ∨ i = a := by omega
          rcases this with y | y <;> (rw [y] at z; omega)
    rw [if_neg ne, Rat.zero_add]
    by_cases c1 : i = a + 1
    · subst c1
      have e1 : a + 1 - 1 = a := rfl
      rw [if_pos rfl, if_neg (show ¬ a + 1 = a by omega), e1, if_pos ⟨by omega, h1, h2⟩, Rat.add_zero]
    · rw [if_neg c1, Rat.zero_add, if_neg]
      · by_cases c2 : i = a
        · subst c2
          rw [if_pos rfl, if_pos ⟨ha, h1, h2⟩]
        · rw [if_neg c2, if_neg]
          rintro ⟨hl, z⟩
          rcases Nat.lt_or_ge i a with q | q
          · rcases Nat.lt_or_ge (i + 1) a with q2 | q2
            · have := lt q2 (show a < ms.length by omega); omega
            · have : i + 1 = a := by omega
              rw [this] at z; omega
          · have := lt (show a + 1 < i by omega) hi; omega
      · rintro ⟨h0, z⟩
        rcases Nat.lt_or_ge i (a + 1) with q | q
        · rcases Nat.lt_or_ge i a with q2 | q2
          · have := lt q2 (show a < ms.length by omega); omega
          · have : i = a := by omega
            rw [this] at z; omega
        · rcases Nat.lt_or_ge (a + 1) (i - 1) with q2 | q2
          · have := lt q2 (show i - 1 < ms.length by omega); omega
          · have : i - 1 = a + 1 := by omega
            rw [this] at z; omega
/-! ### the dict that is found -/
theorem keysI_any {k : Int} : ∀ {ds : List (L2.Key × D)} {ks : List Int}, keysI ds = some ks → ((ds.any fun kv => decide (kv.1 = (.inl k : L2.Key))) = true ↔ k ∈ ks)
  | [], _, e => by cases e; simp
  | (.inl i, d) :: ds, ks, e => by
    simp only [keysI, Option.map_eq_some_iff] at e
    obtain ⟨l, e, rfl⟩ := e
    rw [List.any_cons, Bool.or_eq_true, keysI_any e, decide_eq_true_eq, List.mem_cons]
    constructor
    · rintro (z | z)
      · exact .inl (Sum.inl.inj z).symm
      · exact .inr z
    · rintro (z | z)
      · exact .inl (by rw [z])
      · exact .inr z
  | (.inr x, d) :: ds, ks, e => by cases e
theorem keysI_of {ds es : List (L2.Key × D)} (h : es.map (·.1) = ds.map (·.1)) : keysI es = keysI ds := by
  induction ds generalizing es with
  | nil =>
    cases es with
    | nil => rfl
    | cons _ _ => cases h
  | cons e ds ih =>
    cases es with
    | nil => cases h
    | cons e' es =>
      obtain ⟨k, d⟩ := e
      obtain ⟨k', d'⟩ := e'
      simp only [List.map_cons, List.cons.injEq] at h
      obtain ⟨rfl, h⟩ := h
      cases k' with
      | inl i => simp only [keysI, ih h]
      | inr x => rfl
theorem keysI_app {k : Int} {y : D} : ∀ {ds : List (L2.Key × D)} {ks : List Int}, keysI ds = some ks → keysI (ds ++ [(.inl k, y)]) = some (ks ++ [k])
  | [], _, e => by cases e; rfl
  | (.inl i, d) :: ds, ks, e => by
    simp only [keysI, Option.map_eq_some_iff] at e
    obtain ⟨l, e, rfl⟩ := e
    simp only [List.cons_append, keysI, keysI_app e, Option.map_some]
  | (.inr x, d) :: ds, ks, e => by cases e
theorem keysI_put {k : Int} {y : D} {ds : List (L2.Key × D)} {ks : List Int} (e : keysI ds = some ks) : keysI (putKD (.inl k) y ds) = some (if k ∈ ks then ks else ks ++ [k]) := by
  unfold putKD
  by_cases h : k ∈ ks
  · rw [if_pos ((keysI_any e).mpr h), if_pos h, ← e]
    refine keysI_of ?_
    rw [List.map_map]
    congr 1
    funext kv
    show (if kv.1 = .inl k then (kv.1, y) else kv).1 = kv.1
    split <;> rfl
  · rw [if_neg fun z => h ((keysI_any e).mp z), if_neg h]
    exact keysI_app e
structure DicI (ms : List Int) (ds : List (L2.Key × D)) (f : Nat → Rat) (n : Nat) : Prop where
  val : ∀ i, i < ms.length → valD (.inl (at0 ms i)) ds = if 0 < f i then some (frQ (f i)) else none
  ks : ∃ ks, keysI ds = some ks ∧ ks.Nodup ∧ ∀ k ∈ ks, k ∈ ms
  nn : ∀ i, 0 ≤ f i
  sz : ∀ i, QS (12 * n + 12) (f i)
  ln : ds.length ≤ n
theorem dicI_nil {ms : List Int} : DicI ms [] (fun _ => 0) 0 := ⟨fun i _ => by rw [if_neg (by decide)]; rfl, ⟨[], rfl, .nil, fun _ z => nomatch z⟩, fun _ => by decide, fun _ => ⟨sm_zero, sm (k := 1) (by decide) (by decide)⟩, Nat.le_refl _⟩
theorem DicI.put {ms : List Int} {ds : List (L2.Key × D)} {f : Nat → Rat} {n j : Nat} {w : Rat} (h : DicI ms ds f n) (hp : ms.Pairwise (· < ·)) (hj : j < ms.length) (hw : 0 < w) (hq : QS 11 w) :
    DicI ms (putKD (.inl (at0 ms j)) (frQ (f j + w)) ds) (updQ f j w) (n + 1) := by
  have fw : 0 < f j + w := by have := h.nn j; grind
  refine ⟨fun i hi => ?_, ?_, fun i => ?_, fun i => ?_, ?_⟩
  · rw [valD_put, h.val i hi]
    unfold updQ
    by_cases e : i = j
    · subst e
      rw [if_pos rfl, if_pos rfl, if_pos fw]
    · rw [if_neg e, if_neg fun z => e (at0_inj hp hi hj (Sum.inl.inj z))]
  · obtain ⟨ks, e, nd, hm⟩ := h.ks
    refine ⟨_, keysI_put e, ?_, ?_⟩
    · by_cases c : at0 ms j ∈ ks
      · rw [if_pos c]; exact nd
      · rw [if_neg c]
        rw [List.nodup_append]
        exact ⟨nd, by simp, fun a ha b hb => by rw [List.mem_singleton] at hb; rw [hb]; exact fun z => c (z ▸ ha)⟩
    · intro k hk
      split at hk
      · exact hm k hk
      · rcases List.mem_append.mp hk with z | z
        · exact hm k z
        · rw [List.mem_singleton] at z; rw [z]; exact at0_mem hj
  · unfold updQ
    split
    · have := h.nn i; grind
    · exact h.nn i
  · unfold updQ
    split
    · exact ((h.sz i).add hq).mono (by omega)
    · exact (h.sz i).mono (by omega)
  · unfold putKD
    split
    · rw [List.length_map]; have := h.ln; omega
    · rw [List.length_append, List.length_singleton]; have := h.ln; omega
theorem DicI.get {ms : List Int} {ds : List (L2.Key × D)} {f : Nat → Rat} {n j : Nat} (h : DicI ms ds f n) (hj : j < ms.length) : (valD (.inl (at0 ms j)) ds).getD (fr 0 1) = frQ (f j) := by
  rw [h.val j hj]
  by_cases c : 0 < f j
  · rw [if_pos c]; rfl
  · have : f j = 0 := by have := h.nn j; grind
    rw [if_neg c, this]; rfl
/-- the marks that count -/
def posI (ms : List Int) (f : Nat → Rat) : List Nat := (List.range ms.length).filter fun i => decide (0 < f i)
theorem posI_mem {ms : List Int} {f : Nat → Rat} {i : Nat} : i ∈ posI ms f ↔ i < ms.length ∧ 0 < f i := by
  unfold posI
  rw [List.mem_filter, List.mem_range, decide_eq_true_eq]
theorem posI_up {ms : List Int} {f : Nat → Rat} (hp : ms.Pairwise (· < ·)) : ((posI ms f).map (at0 ms)).Pairwise (· < ·) := by
  rw [List.pairwise_map]
  have h : (posI ms f).Pairwise (· < ·) := List.Pairwise.sublist List.filter_sublist List.pairwise_lt_range
  refine h.imp_of_mem fun {a b} ha hb hab => at0_lt hp hab (posI_mem.mp hb).1
theorem DicI.keys {ms : List Int} {ds : List (L2.Key × D)} {f : Nat → Rat} {n : Nat} (h : DicI ms ds f n) {ks : List Int} (e : keysI ds = some ks) {k : Int} : k ∈ ks ↔ ∃ i, i < ms.length ∧ at0 ms i = k ∧ 0 < f i := by
  obtain ⟨ks', e', _, hm⟩ := h.ks
  rw [e] at e'
  cases e'
  rw [← keysI_any e, valD_any]
  constructor
  · intro z
    have : k ∈ ks := (keysI_any e).mp (by rw [valD_any]; exact z)
    obtain ⟨i, hi, ei⟩ := mem_at0 (hm k this)
    refine ⟨i, hi, ei, ?_⟩
    rw [← ei, h.val i hi] at z
    by_cases c : 0 < f i
    · exact c
    · rw [if_neg c] at z; cases z
  · rintro ⟨i, hi, rfl, c⟩
    rw [h.val i hi, if_pos c]; rfl
theorem DicI.sorted {ms : List Int} {ds : List (L2.Key × D)} {f : Nat → Rat} {n : Nat} (h : DicI ms ds f n) (hp : ms.Pairwise (· < ·)) {ks ns : List Int} (e : keysI ds = some ks) (p : ns.Perm ks) (s : ns.Pairwise (· ≤ ·)) : ns = (posI ms f).map (at0 ms) := by
  obtain ⟨ks', e', nd, _⟩ := h.ks
  rw [e] at e'
  cases e'
  refine sorted_ext (strict_of s (p.symm.nodup nd)) (posI_up hp) fun x => ?_
  rw [p.mem_iff, h.keys e, List.mem_map]
  constructor
  · rintro ⟨i, hi, rfl, c⟩; exact ⟨i, posI_mem.mpr ⟨hi, c⟩, rfl⟩
  · rintro ⟨i, hi, rfl⟩; exact ⟨i, (posI_mem.mp hi).1, rfl, (posI_mem.mp hi).2⟩
/-! ### all entries of a point -/
def updE (f : Nat → Rat) : List (Nat × Rat) → Nat → Rat
  | [] => f
  | (j, w) :: r => updE (updQ f j w) r
theorem updE_at {i : Nat} : ∀ {E : List (Nat × Rat)} {f : Nat → Rat}, updE f E i = f i + accE E i
  | [], f => by show f i = f i + 0; rw [Rat.add_zero]
  | (j, w) :: r, f => by
    show updE (updQ f j w) r i = f i + (accE r i + if i = j then w else 0)
    rw [updE_at]
    unfold updQ
    split <;> grind
theorem updE_sum {ms : List Int} {p : Int} {E : List (Nat × Rat)} {f : Nat → Rat} (h : EntS ms p E) : sumQ (updE f E) ms.length = sumQ f ms.length + 1 := by
  cases h with
  | on hj e =>
    show sumQ (updQ f _ 1) _ = _
    rw [sumQ_upd, if_pos hj]
  | @off a ha h1 h2 =>
    show sumQ (updQ (updQ f a _) (a + 1) _) _ = _
    rw [sumQ_upd, if_pos ha, sumQ_upd, if_pos (show a < ms.length by omega), Rat.add_assoc, dv_one (by omega)]
def sumL (f : Nat → Rat) : List Nat → Rat
  | [] => 0
  | i :: r => f i + sumL f r
theorem sumL_app {f : Nat → Rat} : ∀ {L R : List Nat}, sumL f (L ++ R) = sumL f L + sumL f R
  | [], R => by show _ = 0 + _; rw [Rat.zero_add]; rfl
  | i :: L, R => by
    show f i + sumL f (L ++ R) = f i + sumL f L + sumL f R
    rw [sumL_app, Rat.add_assoc]
theorem sumL_pos {f : Nat → Rat} (nn : ∀ i, 0 ≤ f i) : ∀ {n : Nat}, sumL f ((List.range n).filter fun i => decide (0 < f i)) = sumQ f n
  | 0 => rfl
  | n + 1 => by
    rw [List.range_succ, List.filter_append, sumL_app, sumL_pos nn]
    show sumQ f n + _ = sumQ f n + f n
    by_cases c : 0 < f n
    · rw [List.filter_cons_of_pos (by rw [decide_eq_true c])]
      show sumQ f n + (f n + 0) = _
      rw [Rat.add_zero]
    · rw [List.filter_cons_of_neg (by rw [decide_eq_false c]; exact Bool.false_ne_true)]
      show sumQ f n + 0 = _
      have : f n = 0 := by have := nn n; grind
      rw [this]
/-- what a mix is told as -/
abbrev mixD (ms : List Int) (f : Nat → Rat) : List D := (posI ms f).map fun i => .tup [.int (at0 ms i), frQ (f i)]
theorem posI_ext {ms : List Int} {f g : Nat → Rat} (h : ∀ i, i < ms.length → f i = g i) : mixD ms f = mixD ms g := by
  have e : posI ms f = posI ms g := by
    unfold posI
    refine List.filter_congr fun i hi => ?_
    rw [h i (List.mem_range.mp hi)]
  unfold mixD
  rw [e]
  refine List.map_congr_left fun i hi => ?_
  rw [h i (posI_mem.mp hi).1]
end DL
/-! Data layer, part 19: repr of an empty dict. -/
namespace DL
open PySem PySem.Spec PyProof.Rows L2
variable [Cl] [Lk]
def dReprE : FN
  | [.dic []], m, q => q (.str "{}") m
  | xs, m, q => dRepr xs m q
def rReprE : List V → Hp → VK → Prop := fun xs H Q => ∃ a, xs = [.ref a] ∧ H a = some (.dK []) ∧ Q (.str "{}") H
theorem call_reprE {X : Cx} (gd : X.A.guards = some []) (hu : X.A.units + 64 < cLine) : CallR X (.builtin "repr") rReprE := by
  intro pins s σ H xs us Q I r h
  obtain ⟨a, rfl, ha, q⟩ := h
  obtain ⟨u, rfl, rx⟩ := vals1 r
  cases rx
  obtain ⟨hz, hS, vs, rel, o, es, ep, ho, hx, hd, hk, hp, hn⟩ := (show ([] : List (L2.Key × V)).length ≤ sizeLine ∧ (a == sysModules) = false ∧ ∃ vs, KV [] vs ∧ s.heap.DictOf (mixKind X.prog X.w) a vs from I.hok a _ ha)
  cases rel
  have e0 : es.toList = [] := by
    obtain ⟨l⟩ := es
    have hp : Pairs (mixKind X.prog X.w) l [] := hp
    cases hp; rfl
  have rd : Reads s.heap (.ref a) (.dict []) (a :: [] ++ []) := Reads.dict ho hx.1 hd (by rw [e0]; exact .nil) (by rw [e0]; exact .nil)
  refine repr_of_reads' rd rfl (fun _ hm => ?_) gd (by show X.A.units + (PyData.depth (.dict []) + 1) < cLine; have : PyData.depth (.dict []) ≤ 2 := by decide
                                                       omega) (fun _ _ e => e) (fun h' tk tk2 kk => ⟨.str "{}", H, I.kept kk, ⟨tk, rfl⟩, q⟩) (by decide)
  have hm : sysModules ∈ [a] := hm
  rw [List.mem_singleton] at hm
  rw [← hm] at hS
  simp at hS
theorem o_reprE {K : PySem.W.Frag} : OpN K dReprE (fun xs H Q => rrRepr K xs H Q ∨ rReprE xs H Q) := by
  intro W F H m xs ds q Q rel ra h k
  unfold dReprE at h
  split at h
  · obtain ⟨v, rfl, rv⟩ := ra1 ra
    cases rv with
    | dic hh r =>
      cases r
      exact .inr ⟨_, rfl, rel.sub _ _ hh, k _ _ _ _ _ (.refl _) rel (.str _) h⟩
  · exact .inl (o_repr W F H m xs _ q Q rel ra h k)
theorem je_reprE {X : Cx} {a : Expr} {ta : DE} {p pos : Pos} {k : Nat} (hr : Room k X.A) (gd : X.A.guards = some []) (hg : Gl X "repr") (hm : X.mg "repr" = none) (ha : JE X a ta) (hs : starEach [a] X.env = (false, eval a X.env) :: starEach [] X.env := by rfl) (hp : (backTo pos (starEach [] X.env)).any (·.1) = false := by rfl) : JE X (.Call (.Name "repr" p) [a] [] pos) (dCallB dReprE (a1 ta)) :=
  je_callB (cr_or (call_reprD gd (by have := units65 hr; omega)) (call_reprE gd (by have := units65 hr; omega))) o_reprE hg hm (by decide +kernel) (ja_cons ha ja_nil hs) (by decide) (by decide) hs hp
end DL
/-! Data layer, part 20: sizes of rationals, a bound for each part; order. -/
namespace DL
open PySem PySem.Spec PyProof.Rows L2
/-- top below 2 ^ n, bottom below 2 ^ d -/
structure QZ (n d : Nat) (x : Rat) : Prop where
  st : Sm n x.num
  sb : Sm d (x.den : Int)
theorem QZ.mono {n d n' d' : Nat} {x : Rat} (h : QZ n d x) (hn : n ≤ n') (hd : d ≤ d') : QZ n' d' x := ⟨h.st.mono hn, h.sb.mono hd⟩
theorem QZ.qs {n d k : Nat} {x : Rat} (h : QZ n d x) (hn : n ≤ k) (hd : d ≤ k) : QS k x := ⟨h.st.mono hn, h.sb.mono hd⟩
theorem qz_dv {t b : Int} {x : Rat} {n d : Nat} (hb : b ≠ 0) (h : dv t b = x) (st : Sm n t) (sb : Sm d b) : QZ n d x := by
  obtain ⟨h1, h2⟩ := low_rat hb h
  exact ⟨h1 ▸ lowT_sm hb st, h2 ▸ lowB_sm hb sb⟩
theorem dv_sub {a b c d : Int} (hb : b ≠ 0) (hd : d ≠ 0) : dv (a * d - c * b) (b * d) = dv a b - dv c d := by
  have h1 := icast_ne hb
  have h2 := icast_ne hd
  show ((a * d - c * b : Int) : Rat) / ((b * d : Int) : Rat) = (a : Rat) / (b : Rat) - (c : Rat) / (d : Rat)
  rw [Rat.intCast_sub, Rat.intCast_mul, Rat.intCast_mul, Rat.intCast_mul]
  grind
theorem dv_mul {a b c d : Int} (hb : b ≠ 0) (hd : d ≠ 0) : dv (a * c) (b * d) = dv a b * dv c d := by
  have h1 := icast_ne hb
  have h2 := icast_ne hd
  show ((a * c : Int) : Rat) / ((b * d : Int) : Rat) = (a : Rat) / (b : Rat) * ((c : Rat) / (d : Rat))
  rw [Rat.intCast_mul, Rat.intCast_mul]
  grind
theorem dn (x : Rat) : (x.den : Int) ≠ 0 := Int.ne_of_gt (den_pos x)
theorem QZ.add {n d n' d' k : Nat} {x y : Rat} (h : QZ n d x) (h' : QZ n' d' y) (h1 : n + d' ≤ k) (h2 : n' + d ≤ k) : QZ (k + 1) (d + d') (x + y) := by
  have e : dv (x.num * y.den + y.num * x.den) ((x.den : Int) * y.den) = x + y := by rw [dv_add (dn x) (dn y), ← rat_eq, ← rat_eq]
  exact qz_dv (Int.mul_ne_zero (dn x) (dn y)) e (Sm.add ((h.st.mul h'.sb).mono h1) ((h'.st.mul h.sb).mono h2)) (h.sb.mul h'.sb)
theorem QZ.sub {n d n' d' k : Nat} {x y : Rat} (h : QZ n d x) (h' : QZ n' d' y) (h1 : n + d' ≤ k) (h2 : n' + d ≤ k) : QZ (k + 1) (d + d') (x - y) := by
  have e : dv (x.num * y.den - y.num * x.den) ((x.den : Int) * y.den) = x - y := by rw [dv_sub (dn x) (dn y), ← rat_eq, ← rat_eq]
  exact qz_dv (Int.mul_ne_zero (dn x) (dn y)) e (Sm.sub ((h.st.mul h'.sb).mono h1) ((h'.st.mul h.sb).mono h2)) (h.sb.mul h'.sb)
theorem QZ.mul {n d n' d' : Nat} {x y : Rat} (h : QZ n d x) (h' : QZ n' d' y) : QZ (n + n') (d + d') (x * y) := by
  have e : dv (x.num * y.num) ((x.den : Int) * y.den) = x * y := by rw [dv_mul (dn x) (dn y), ← rat_eq, ← rat_eq]
  exact qz_dv (Int.mul_ne_zero (dn x) (dn y)) e (h.st.mul h'.st) (h.sb.mul h'.sb)
/-- a number over a bottom that all have -/
theorem qz_over {S N : Int} {x : Rat} {n d : Nat} (hN : 0 < N) (h : x = dv S N) (hS : Sm n S) (hb : Sm d N) : QZ n d x := qz_dv (by omega) h.symm hS hb
theorem dv_same {a c N : Int} (hN : N ≠ 0) : dv a N + dv c N = dv (a + c) N := by
  have h1 := icast_ne hN
  show (a : Rat) / (N : Rat) + (c : Rat) / (N : Rat) = ((a + c : Int) : Rat) / (N : Rat)
  rw [Rat.intCast_add]
  grind
theorem le_cross {x y : Rat} : x ≤ y ↔ x.num * (y.den : Int) ≤ y.num * (x.den : Int) := Rat.le_iff x y
theorem lt_cross {x y : Rat} : x < y ↔ x.num * (y.den : Int) < y.num * (x.den : Int) := Rat.lt_iff x y
/-- a lowest pair is the data of its quotient -/
theorem fr_is {t b : Int} (hb : 0 < b) (g : Int.gcd t b = 1) : t = (dv t b).num ∧ b = ((dv t b).den : Int) := by
  obtain ⟨h1, h2⟩ := low_rat (show b ≠ 0 by omega) (rfl : dv t b = dv t b)
  obtain ⟨e1, e2⟩ := low_id hb g
  rw [e1] at h1
  rw [e2] at h2
  exact ⟨h1, h2⟩
end DL
/-! Data layer, part 21: max(xs), min(xs) of a list of ints. -/
namespace DL
open PySem PySem.Spec PyProof.Rows L2
variable [Cl] [Lk]
def dMaxL : FN
  | [x], m, q => onS (seqL x m) fun ds => onS (intsOf ds) fun ns => 0 < ns.length ∧ ∀ k, k ∈ ns → (∀ y, y ∈ ns → y ≤ k) → q (.int k) m
  | _, _, _ => False
def dMinL : FN
  | [x], m, q => onS (seqL x m) fun ds => onS (intsOf ds) fun ns => 0 < ns.length ∧ ∀ k, k ∈ ns → (∀ y, y ∈ ns → k ≤ y) → q (.int k) m
  | _, _, _ => False
theorem o_maxL {K : PySem.W.Frag} : OpN K dMaxL (rMax K) := by
  intro W F H m xs ds q Q rel ra h k
  unfold dMaxL at h
  split at h
  · obtain ⟨v, rfl, rv⟩ := ra1 ra
    obtain ⟨es, e1, h⟩ := onS_some h
    obtain ⟨ns, e2, hl, h⟩ := onS_some h
    obtain ⟨a, ys, rfl, g, r⟩ := seqL_at rel rv e1
    rw [intsOf_eq e2] at r
    have := ra_ints_eq r
    subst this
    exact ⟨a, ns, rfl, g, hl, fun i hi hy => k _ _ _ _ _ (.refl _) rel (.int _) (h i hi hy)⟩
  · exact h.elim
theorem o_minL {K : PySem.W.Frag} : OpN K dMinL (rMin K) := by
  intro W F H m xs ds q Q rel ra h k
  unfold dMinL at h
  split at h
  · obtain ⟨v, rfl, rv⟩ := ra1 ra
    obtain ⟨es, e1, h⟩ := onS_some h
    obtain ⟨ns, e2, hl, h⟩ := onS_some h
    obtain ⟨a, ys, rfl, g, r⟩ := seqL_at rel rv e1
    rw [intsOf_eq e2] at r
    have := ra_ints_eq r
    subst this
    exact ⟨a, ns, rfl, g, hl, fun i hi hy => k _ _ _ _ _ (.refl _) rel (.int _) (h i hi hy)⟩
  · exact h.elim
variable {X : Cx} {a : Expr} {ta : DE} {p pos : Pos}
theorem je_maxL (hc : X.calm = true) (hg : Gl X "max") (hm : X.mg "max" = none) (ha : JE X a ta) (hs : starEach [a] X.env = (false, eval a X.env) :: starEach [] X.env := by rfl) (hp : (backTo pos (starEach [] X.env)).any (·.1) = false := by rfl) : JE X (.Call (.Name "max" p) [a] [] pos) (dCallB dMaxL (a1 ta)) :=
  je_callB (cr_max hc) o_maxL hg hm (by decide +kernel) (ja_cons ha ja_nil hs) (by decide) (by decide) hs hp
theorem je_minL (hc : X.calm = true) (hg : Gl X "min") (hm : X.mg "min" = none) (ha : JE X a ta) (hs : starEach [a] X.env = (false, eval a X.env) :: starEach [] X.env := by rfl) (hp : (backTo pos (starEach [] X.env)).any (·.1) = false := by rfl) : JE X (.Call (.Name "min" p) [a] [] pos) (dCallB dMinL (a1 ta)) :=
  je_callB (cr_min hc) o_minL hg hm (by decide +kernel) (ja_cons ha ja_nil hs) (by decide) (by decide) hs hp
end DL
/-! Data layer, part 22: sets of a kind of keys whose table rises; set(list), sorted(set(list)). -/
namespace DL
open PySem PySem.Spec PyProof.Rows L2
abbrev bareSet (w : World) : Obj := { data := .set #[] 0 (.fresh 0 0 (!w.params.followText "set-order")), cls := .type "set", dict := none }
section
variable {P : Program} {w : World} {K : Type} [DecidableEq K]
/-- no two stand for the same key -/
def Unl (N : KeyKind P w K) (l : List (Int × Value)) : Prop := l.Pairwise fun e f => ∀ k, N.is k e.2 = true → N.is k f.2 = true → False
def Mem (N : KeyKind P w K) (S : K → Bool) (l : List (Int × Value)) : Prop := ∀ k, S k = true ↔ ∃ e ∈ l, N.is k e.2 = true
theorem Unl.perm {N : KeyKind P w K} {l l' : List (Int × Value)} (p : l.Perm l') (u : Unl N l) : Unl N l' := (p.pairwise_iff (fun h k a b => h k b a)).mp u
theorem Mem.perm {N : KeyKind P w K} {S : K → Bool} {l l' : List (Int × Value)} (p : l.Perm l') (u : Mem N S l) : Mem N S l' := fun k => by
  rw [u k]
  exact ⟨fun ⟨e, h1, h2⟩ => ⟨e, p.mem_iff.mp h1, h2⟩, fun ⟨e, h1, h2⟩ => ⟨e, p.mem_iff.mpr h1, h2⟩⟩
structure Tab (w : World) (n : Nat) (es : Array (Int × Value)) (t : SetTable) : Prop where
  room : es.size < scanBound
  fit : t.fits es.size = true
  num : es.size = n
  ris : Ris t.place.toList
  led : w.params.followText "set-order" = true ∨ t.led = true
def SetG (N : KeyKind P w K) (h : Heap) (a : Addr) (S : K → Bool) (n : Nat) : Prop :=
  ∃ o es ep t, h.get? a = some o ∧ o.ExactSet ∧ o.data = .set es ep t ∧ ElemsOf N es.toList ∧ Unl N es.toList ∧ Mem N S es.toList ∧ Tab w n es t
variable {N : KeyKind P w K} {h h' : Heap} {a : Addr} {S : K → Bool} {n : Nat} {A : Around} {E : Value → Shared → Prop} {s : Shared}
theorem SetG.keep (R : SetG N h a S n) (k : ∀ o, h.get? a = some o → h'.get? a = some o) : SetG N h' a S n := by
  obtain ⟨o, es, ep, t, z, r⟩ := R
  exact ⟨o, es, ep, t, k o z, r⟩
theorem SetG.alike {S' : K → Bool} (R : SetG N h a S n) (e : ∀ k, S' k = S k) : SetG N h a S' n := by
  obtain rfl : S' = S := funext e
  exact R
theorem ElemsOf.perm' {l l' : List (Int × Value)} (p : l.Perm l') (u : ElemsOf N l) : ElemsOf N l' := fun e he => u e (p.mem_iff.mpr he)
theorem setG_bare {ns : List K} (z : h.get? a = some (bareSet w)) : SetG N h a (fun j => decide (j ∈ ns.take 0)) 0 := by
  refine ⟨_, #[], 0, _, z, ⟨rfl, rfl, rfl⟩, rfl, (by intro e he; cases he), List.Pairwise.nil, fun k => by simp, ⟨by decide, rfl, rfl, List.Pairwise.nil, ?_⟩⟩
  show _ ∨ (!w.params.followText "set-order") = true
  cases w.params.followText "set-order"
  · exact .inr rfl
  · exact .inl rfl
/-- the new element stands in the table: it is stored, the table perhaps laid anew -/
theorem setG_tail {g : Bool → Sem Unit} (free : ∀ (b : Bool) (s₁ : Shared) (Q' : Unit → Shared → Prop), Q' () s₁ → wpAny (model P w) A (g b) Q' E s₁)
    {o : Obj} {es xs : Array (Int × Value)} {ep : Nat} {t u : SetTable} (z : s.heap.get? a = some o) (ex : o.ExactSet) (dz : o.data = .set es ep t) (el : ElemsOf N xs.toList) (un : Unl N xs.toList) (me : Mem N S xs.toList) (T : Tab w n xs u)
    {old : Bool} {R : Option Bool → Shared → Prop} (fin : ∀ h', Heap.SameBut a s.heap h' → SetG N h' a S n → R (some true) { s with heap := h' }) :
    wpAny (model P w) A (do { storeSet a xs u; if (!old && u.tooFull) = true then (do { g (relayAll u xs (SetTable.grown xs.size)).2.2; storeSet a (relayAll u xs (SetTable.grown xs.size)).1 (relayAll u xs (SetTable.grown xs.size)).2.1; pure (some true) }) else pure (some true) }) R E s := by
  refine wpAny_bind (wpAny_storeSet_of z dz ?_ (fits_of_scanBound T.room))
  have z1 := store_at (es' := xs) (t' := u) z dz
  have b1 := Heap.SameBut.update s.heap a (Obj.putSet xs u)
  split
  · have p := relayAll_perm u xs (SetTable.grown xs.size)
    have f3 := relayAll_fits u xs (SetTable.grown xs.size)
    have r3 := relayAll_ris u xs (SetTable.grown xs.size)
    have l3 := relayAll_led u xs (SetTable.grown xs.size)
    generalize relayAll u xs (SetTable.grown xs.size) = Y at p f3 r3 l3 ⊢
    obtain ⟨ys, v, way⟩ := Y
    simp only at p f3 r3 l3 ⊢
    have sz : ys.size = xs.size := by rw [← Array.length_toList, p.length_eq, Array.length_toList]
    have rm : ys.size < scanBound := sz ▸ T.room
    refine wpAny_bind (free _ _ _ ?_)
    refine wpAny_bind (wpAny_storeSet_of z1 rfl ?_ (fits_of_scanBound rm))
    refine wpAny_pure (fin _ (b1.trans (Heap.SameBut.update _ a _)) ⟨_, ys, _, v, store_at (es' := ys) (t' := v) z1 rfl, ex, rfl, ElemsOf.perm' p.symm el, un.perm p.symm, me.perm p.symm, ⟨rm, f3, sz.trans T.num, r3, T.led.imp id fun q => l3.trans q⟩⟩)
  · exact wpAny_pure (fin _ b1 ⟨_, xs, _, u, z1, ex, rfl, el, un, me, T⟩)
theorem setG_add {k : K} {x : Value} {Q : Bool → Shared → Prop} (kx : N.is k x = true) (sc : x.scannable = true) (R : SetG N s.heap a S n) (room : n + 1 < scanBound)
    (fin : ∀ h', Heap.SameBut a s.heap h' → SetG N h' a (fun j => S j || decide (j = k)) (if S k = true then n else n + 1) → Q (!S k) { s with heap := h' }) : wpAny (model P w) A (setAddHashed a x (N.hash k)) Q E s := by
  obtain ⟨o, es, ep, t, z, ex, dz, el, un, me, T⟩ := R
  have kd : ∀ j, N.is j x = decide (j = k) := fun j => KeyKind.is_eq_decide kx j
  unfold setAddHashed setAddHashedIn
  refine wpAny_holding (wpAny_bind (wpAny_setState_of z dz T.fit ?_))
  simp only [byScan_of sc T.room el, ↓reduceIte]
  unfold setAddByScan
  refine wpAny_bind ?_
  refine wpAny_bind (wpAny_rule (wpAny_bind (wpAny_setScan_of kx z dz T.fit el ?_)))
  cases fi : List.findIdx? (fun e => N.is k e.2) es.toList with
  | some j =>
    simp only
    obtain ⟨hj, pj, _⟩ := List.findIdx?_eq_some_iff_getElem.mp fi
    have Sk : S k = true := (me k).2 ⟨es.toList[j], List.getElem_mem hj, pj⟩
    refine wpAny_pure (wpAny_pure ?_)
    have q := fin s.heap (Heap.SameBut.refl a s.heap) ⟨o, es, ep, t, z, ex, dz, el, un, fun i => by
      rw [Bool.or_eq_true, decide_eq_true_eq, ← me i]
      exact ⟨fun y => y.elim id (fun e => e ▸ Sk), .inl⟩, by rw [if_pos Sk]; exact T⟩
    rw [Sk] at q
    exact q
  | none =>
    simp only
    have no : ∀ e ∈ es.toList, N.is k e.2 = false := fun e he => by
      have c := List.findIdx?_eq_none_iff.mp fi e he
      cases q : N.is k e.2 with
      | false => rfl
      | true => rw [q] at c; cases c
    have Sk : S k = false := by
      cases q : S k with
      | false => rfl
      | true =>
        obtain ⟨e, he, c⟩ := (me k).1 q
        rw [no e he] at c; cases c
    have way : ∀ (b : Bool) {s₁ : Shared} {Q' : Unit → Shared → Prop}, Q' () s₁ → wpAny (model P w) A (match b with | true => rule "set.scan.the-table-gave-way" | false => pure ()) Q' E s₁ :=
      fun b s₁ Q' q => by cases b <;> first | exact wpAny_pure q | exact wpAny_rule q
    have pm := layNew_perm t es (N.hash k) x
    have f1 := layNew_fits t es (N.hash k) x
    have r1 := layNew_ris t es (N.hash k) x T.ris
    have l1 := layNew_led t es (N.hash k) x
    generalize layNew t es (N.hash k) x = Y at pm f1 r1 l1 ⊢
    obtain ⟨xs, u, was, gave⟩ := Y
    simp only at pm f1 r1 l1 ⊢
    rw [Array.toList_push] at pm
    have p : ((N.hash k, x) :: es.toList).Perm xs.toList := ((List.perm_append_singleton _ _).symm.trans pm.symm)
    have el1 : ElemsOf N xs.toList := ElemsOf.perm' p fun e he => by
      rcases List.mem_cons.mp he with y | y
      · rw [y]; exact ⟨⟨k, kx, rfl⟩, sc⟩
      · exact el e y
    have un1 : Unl N xs.toList := Unl.perm p (List.pairwise_cons.mpr ⟨fun e he j h1 h2 => (by
      rw [kd j, decide_eq_true_eq] at h1
      rw [h1, no e he] at h2
      cases h2), un⟩)
    have me1 : Mem N (fun j => S j || decide (j = k)) xs.toList := Mem.perm p fun i => by
      rw [Bool.or_eq_true, decide_eq_true_eq, me i]
      constructor
      · rintro (⟨e, h1, h2⟩ | rfl)
        · exact ⟨e, List.mem_cons_of_mem _ h1, h2⟩
        · exact ⟨_, List.mem_cons_self, kx⟩
      · rintro ⟨e, h1, h2⟩
        rcases List.mem_cons.mp h1 with y | y
        · rw [y] at h2
          have h2 : N.is i x = true := h2
          rw [kd i, decide_eq_true_eq] at h2
          exact .inr h2
        · exact .inl ⟨e, y, h2⟩
    have sz : xs.size = n + 1 := by rw [← Array.length_toList, ← p.length_eq, List.length_cons, Array.length_toList, T.num]
    have T1 : ∀ v : SetTable, v.fits xs.size = true → Ris v.place.toList → v.led = u.led → Tab w (n + 1) xs v := fun v f r l => ⟨sz ▸ room, f, sz, r, T.led.imp id fun q => by rw [l, l1]; exact q⟩
    have last : ∀ h', Heap.SameBut a s.heap h' → SetG N h' a (fun j => S j || decide (j = k)) (n + 1) → Q true { s with heap := h' } := fun h' sb r => by
      have q := fin h' sb
      rw [Sk] at q
      exact q r
    refine wpAny_bind (way _ ?_)
    split
    · refine wpAny_bind ?_
      rw [hashByValue_scannable 8 sc]
      refine wpAny_pure ?_
      refine setG_tail (n := n + 1) (S := fun j => S j || decide (j = k)) ?_ z ex dz el1 un1 me1 (T1 _ ?_ ?_ ?_) ?_
      · intro b s₁ Q' q; cases b <;> first | exact wpAny_pure q | exact wpAny_rule q
      · first | (split <;> first | exact f1 | exact SetTable.fits_plain_off f1) | exact f1
      · first | (split <;> exact r1) | exact r1
      · first | (split <;> rfl) | rfl
      · intro h' sb r; simp only; exact wpAny_pure (last h' sb r)
    · refine wpAny_bind (wpAny_pure ?_)
      simp only [↓reduceIte]
      refine setG_tail (n := n + 1) (S := fun j => S j || decide (j = k)) ?_ z ex dz el1 un1 me1 (T1 _ f1 r1 rfl) ?_
      · intro b s₁ Q' q; cases b <;> first | exact wpAny_pure q | exact wpAny_rule q
      · intro h' sb r; simp only; exact wpAny_pure (last h' sb r)
/-- the loop that fills it -/
theorem setG_fill {I : Addr} {fp wr : List Addr} {G : Array GenState → Array GenState → Prop} {c : Nat} {Pv : Nat → Value → Prop} {St : Nat → Shared → Prop} {R : Result → Shared → Prop} (W : WalksS P w A.in1 I fp wr G c Pv St) (B : Addr) (out : B ∉ fp)
    (ks : List K) (hc : c = ks.length) (room : ks.length + 1 < scanBound) (val : ∀ i v, Pv i v → ∃ k, ks[i]? = some k ∧ N.is k v = true ∧ v.scannable = true) : ∀ (j i : Nat) (s : Shared), c - i = j → i ≤ c → St i s → (∃ b, b ≤ i ∧ SetG N s.heap B (fun j => decide (j ∈ ks.take i)) b) →
    (∀ s' b, Moved (B :: wr) G s s' → b ≤ c → SetG N s'.heap B (fun j => decide (j ∈ ks)) b → R (.ok (.ret .none)) s') → codeAny (model P w) A (.builtin "set.update.loop" ⟨[.ref B, .ref I], []⟩) R s := by
  have out' : B ∉ wr := fun q => out (W.sub _ q)
  have more : ∀ b ∈ wr, b ∈ B :: wr := fun b hb => List.mem_cons_of_mem _ hb
  intro j
  induction j with
  | zero =>
    rintro i s hj hi st ⟨b, hb, g⟩ fin
    obtain rfl : i = c := by omega
    refine codeAny_builtin F.entry_set_update_loop ?_
    rw [Around.under_plainId F.plain_set_update_loop _]; show wpAny _ A.in1 (pyNext (.ref I) >>= _) _ _ s
    refine wpAny_bind (W.done s _ _ st fun s1 mv => ?_)
    show wpAny _ A.in1 (ret Value.none) _ _ s1
    rw [List.take_of_length_le (by omega)] at g
    exact wpAny_pure (fin s1 b (mv.mono more) hb (g.keep fun o e => mv.heap B o out' e))
  | succ j ih =>
    rintro i s hj hi st ⟨b, hb, g⟩ fin
    have lt : i < c := by omega
    refine codeAny_builtin F.entry_set_update_loop ?_
    rw [Around.under_plainId F.plain_set_update_loop _]; show wpAny _ A.in1 (pyNext (.ref I) >>= _) _ _ s
    refine wpAny_bind (W.item i s _ _ lt st fun v s1 pv st1 mv => ?_)
    obtain ⟨k, hk, kx, sc⟩ := val i v pv
    have g1 : SetG N s1.heap B (fun j => decide (j ∈ ks.take i)) b := g.keep fun o e => mv.heap B o out' e
    show wpAny _ A.in1 (holding [v] (setAdd B v) >>= _) _ _ s1
    refine wpAny_bind (wpAny_holding ?_)
    unfold setAdd
    refine wpAny_holding (wpAny_bind (N.pyHash (k := k) kx ?_))
    refine setG_add (s := { s1 with toks := s1.toks + 1 }) kx sc g1 (by omega) fun h' sb g2 => ?_
    have g3 : SetG N h' B (fun j => decide (j ∈ ks.take (i + 1))) (if decide (k ∈ ks.take i) = true then b else b + 1) := g2.alike fun j => by
      rw [List.take_add_one, hk]; simp [List.mem_append]
    have up : (if decide (k ∈ ks.take i) = true then b else b + 1) ≤ i + 1 := by split <;> omega
    refine wpAny_pure ⟨plainId_quiet F.plain_set_update_loop _, ih (i + 1) _ (by omega) lt (W.frame _ s1 _ _ st1 (Nat.le_succ _) fun x hx o e => ?_) ⟨_, up, g3⟩ fun s2 d mv2 hd g4 => ?_⟩
    · rw [sb.2 x (fun q : x = B => out (q ▸ hx))]; exact e
    · refine fin s2 d (Moved.trans W.gtrans ((mv.mono more).then_heap (Nat.le_succ _) fun x o hx e => ?_) mv2) hd g4
      rw [sb.2 x (fun q : x = B => hx (q ▸ List.mem_cons_self))]; exact e
/-- set(l) of a list -/
theorem set_list {l : Addr} {items : Array Value} (ks : List K) {Q : Value → Shared → Prop} (calm : A.handled = none) (hl : s.heap.IsList l items) (len : items.size = ks.length) (room : ks.length + 1 < scanBound)
    (val : ∀ (i : Nat) (v : Value), items[i]? = some v → ∃ k, ks[i]? = some k ∧ N.is k v = true ∧ v.scannable = true)
    (fin : ∀ (h' : Heap) (tk c : Nat), SetG N h' s.heap.objs.size (fun j => decide (j ∈ ks)) c → c ≤ ks.length → (∀ b o, s.heap.get? b = some o → h'.get? b = some o) → Q (.ref s.heap.objs.size) { s with heap := h', toks := tk }) :
    wpAny (model P w) A (call (.type "set") [.ref l]) Q E s := by
  obtain ⟨cc, tl, mro⟩ := F.called_set.mro
  have made := F.called_set.made
  have sub := F.called_set.sub
  refine wpAny_call (codeAny_of_tree ?_)
  show wpAny _ _ (callAny (.type "set") _) _ _ _
  refine wpAny_pure ⟨Code.quiet_builtin _ (by decide +kernel), codeAny_builtin F.entry_type_call ?_⟩
  rw [Around.under_plain (weight_type_call_type "set" [.ref l] []) rfl]
  have f1 := F.called_set.notType
  have f2 := F.called_set.canCreate
  have f3 := F.typeCall_set_1 (.ref l)
  repeat any_goals (first | assumption | wp_step)
  refine codeAny_mono (code_set_led1 (.ref l) (E := E) (Q₁ := fun obj s₁ => obj = .ref s.heap.objs.size ∧ s₁ = { s with heap := s.heap.push (bareSet w) }) ⟨rfl, rfl⟩) fun r s₁ got => ?_
  match r, got with
  | .error e, got => exact got
  | .ok (.ret obj), got =>
    obtain ⟨rfl, rfl⟩ := got
    have zS : (s.heap.push (bareSet w)).get? s.heap.objs.size = some (bareSet w) := Heap.get?_push_size _ rfl
    have tS : Shared.TypeIs { s with heap := s.heap.push (bareSet w) } (.ref s.heap.objs.size) "set" := ⟨_, zS, rfl⟩
    have il := F.called_set.init.lookup
    have ib := F.called_set.init.bind (.ref s.heap.objs.size)
    repeat any_goals (first | assumption | wp_step)
    refine codeAny_mono (codeAny_call_builtin (R := wants (fun r s₂ => r = .none ∧ ∃ h' tk c, s₂ = { s with heap := h', toks := tk } ∧ SetG N h' s.heap.objs.size (fun j => decide (j ∈ ks)) c ∧ c ≤ ks.length ∧ (∀ b o, s.heap.get? b = some o → h'.get? b = some o)) E) F.called_set.init.plain F.entry_set_init (check_set_init_1 tS ?_)) fun r₂ s₂ got₂ => ?_
    · obtain ⟨ol, hol, hcl, nl, hdl⟩ := hl
      obtain ⟨ocls, odict, odata, oslots⟩ := ol
      simp only at hcl hdl
      subst hcl hdl
      have hol1 : (s.heap.push (bareSet w)).get? l = some { cls := .type "list", dict := odict, data := .seq items nl, slots := oslots } := Heap.get?_push_of_some _ hol
      have n1 : (Value.type "list" == Value.type "dict") = false := by decide
      have hl1 : (s.heap.push (bareSet w)).IsList l items := ⟨_, hol1, rfl, nl, rfl⟩
      have g1 := F.sub_list_set
      have g2 := F.sub_list_frozenset
      unfold Builtin.«set.__init__» noKeywords Builtin.Frozenset.updateFrom
      generalize ePI : pyIter = PI
      wp_walk
      subst ePI
      refine wpAny_pyIter_list hl1 (wpAny_bind (wpAny_runValue ?_))
      have lS : l < s.heap.objs.size := Heap.lt_size hol
      have calm3 : A.in1.in1.in1.handled = none := by simp [calm]
      have sz1 : (s.heap.push (bareSet w)).objs.size = s.heap.objs.size + 1 := Heap.size_push ..
      have lI : l ≠ (s.heap.push (bareSet w)).objs.size := by rw [sz1]; exact Nat.ne_of_lt (Nat.lt_succ_of_lt lS)
      have outf : s.heap.objs.size ∉ [(s.heap.push (bareSet w)).objs.size, l] := by
        rw [sz1]
        intro q
        rcases List.mem_cons.mp q with q | q
        · exact absurd q (Nat.ne_of_lt (Nat.lt_succ_self _))
        · exact absurd (List.mem_singleton.mp q) (Nat.ne_of_gt lS)
      refine setG_fill (N := N) ((Walks.list calm3 _ l lI items).toS) s.heap.objs.size outf ks len room val (items.size - 0) 0 _ (by omega) (Nat.zero_le _) ⟨⟨_, Heap.get?_push_size _ rfl, rfl, rfl⟩, (hl1.push _)⟩ ?start ?last
      case start => exact ⟨0, Nat.le_refl 0, setG_bare (Heap.get?_push_of_some _ zS)⟩
      case last =>
        intro s' c mv hc g
        obtain ⟨h', gg, d', tk', os'⟩ := s'
        obtain rfl : gg = s.gens := mv.gens
        obtain rfl : d' = s.drawn := mv.drawn
        obtain rfl : os' = s.os := mv.os
        show wpAny _ _ _ _ _ _
        refine wpAny_pure ?_
        show wpAny _ _ (ret Value.none) _ _ _
        rw [len] at hc
        refine wpAny_pure ⟨rfl, h', tk', c, rfl, g, hc, fun b o e => ?_⟩
        have b0 : b < s.heap.objs.size := Heap.lt_size e
        refine mv.heap b o (fun q => ?_) (Heap.get?_push_of_some _ (Heap.get?_push_of_some _ e))
        rcases List.mem_cons.mp q with q | q
        · exact absurd q (Nat.ne_of_lt b0)
        · have q := List.mem_singleton.mp q
          rw [sz1] at q
          exact absurd q (Nat.ne_of_lt (Nat.lt_succ_of_lt b0))
    · match r₂, got₂ with
      | .error e, got₂ => exact got₂
      | .ok (.ret r), got₂ =>
        obtain ⟨rfl, h', tk, c, rfl, g, hc, kk⟩ := got₂
        repeat any_goals (first | assumption | wp_step)
        exact fin _ _ _ g hc kk
end
end DL
/-! Data layer, part 23: sorted(set(xs)) of a list of ints or of texts. -/
namespace DL
open PySem PySem.Spec PyProof.Rows L2
section
variable {P : Program} {w : World} {K : Type} [DecidableEq K] {N : KeyKind P w K} {a : Addr} {S : K → Bool} {n : Nat} {A : Around} {E : Value → Shared → Prop} {s : Shared}
/-- what sorts a list of such keys -/
def SortsBy (P : Program) (w : World) (Are : List Value → List K → Prop) (ord : List K → Prop) : Prop :=
  ∀ {A : Around} {E : Value → Shared → Prop} {s : Shared} {p : Addr} {vs : List Value} {ks : List K} {c : Nat} {T : Fin → Shared → Prop}, s.heap.get? p = some (seqObj "list" vs.toArray c) → Are vs ks → vs.length < 64 →
  (∀ (out : Array Value) (ks' : List K), Are out.toList ks' → ks'.Perm ks → ord ks' → T (.done (.ret .none)) { s with heap := sortedHeap s.heap p vs out }) → wpAny (model P w) A (Builtin.«list.sort» ⟨[.ref p], []⟩) T E s
theorem sorts_ints : SortsBy P w IntsAre (fun ns => ns.Pairwise (· ≤ ·)) := fun z i l h => PyProof.Rows.list_sort_tree z i l h
theorem sorts_strs : SortsBy P w StrsAre (fun ns => sortedS ns = true) := fun z i l h => PyProof.Rows.list_sort_treeK PyProof.Rows.strKind_oneLt z i.keysOf (fun v₁ v₂ rest e => PyProof.Rows.keyKind_strs (by rw [← e]; exact i)) l fun st p o => by
  obtain ⟨ss, h1, h2, h3⟩ := PyProof.Rows.sorted_out_str i p o
  exact h _ ss h1 h2 h3
theorem unl_nodup {ofV : Value → K} (of : ∀ k v, N.is k v = true → ofV v = k) : ∀ {l : List (Int × Value)}, Unl N l → ElemsOf N l → (l.map fun e => ofV e.2).Nodup
  | [], _, _ => List.Pairwise.nil
  | e :: l, u, el => by
    obtain ⟨u1, u2⟩ := List.pairwise_cons.mp u
    refine List.nodup_cons.mpr ⟨fun z => ?_, unl_nodup of u2 fun x hx => el x (List.mem_cons_of_mem _ hx)⟩
    obtain ⟨f, hf, q⟩ := List.mem_map.mp z
    obtain ⟨⟨k, hk, _⟩, _⟩ := el e List.mem_cons_self
    obtain ⟨⟨j, hj, _⟩, _⟩ := el f (List.mem_cons_of_mem _ hf)
    have q : ofV f.2 = ofV e.2 := q
    rw [of _ _ hk, of _ _ hj] at q
    subst q
    exact u1 f hf _ hk hj
theorem sorted_setG {Are : List Value → List K → Prop} {ord : List K → Prop} {ofV : Value → K} (srt : SortsBy P w Are ord) (of : ∀ k v, N.is k v = true → ofV v = k) (are : ∀ vs : List Value, (∀ v ∈ vs, ∃ k, N.is k v = true) → Are vs (vs.map ofV))
    {Q : Value → Shared → Prop} (R : SetG N s.heap a S n) (calm : A.handled = none) (few : n < 64)
    (fin : ∀ s' p (out : Array Value) (c : Nat) (ks : List K), (∀ b o, s.heap.get? b = some o → s'.heap.get? b = some o) → s'.gens = s.gens → s'.os = s.os → s.heap.objs.size ≤ p → s'.heap.get? p = some (seqObj "list" out c) → Are out.toList ks → ord ks → ks.Nodup → (∀ k, k ∈ ks ↔ S k = true) → ks.length = n → Q (.ref p) s') :
    wpAny (model P w) A (call (.builtin "sorted") [.ref a]) Q E s := by
  obtain ⟨o, es, ep, t, z, ex, dz, el, un, me, T⟩ := R
  refine Calls.call_function_entry PyProof.Rows.kind_sorted PyProof.Rows.plain_sorted PyProof.Rows.entry_sorted (PyProof.Rows.args_sorted1 _) ?_
  unfold Builtin.«sorted»
  refine wpAny_bind (m := checkCount "sorted" 1 1 _) (wpAny_pure (wpAny_bind ?_))
  refine collect_set (A := A.in1) calm ⟨o, z, ex.1, dz⟩ T.fit T.room T.ris T.led fun s1 vs k1 hz g1 o1 pm => ?_
  have ln : vs.length = n := by rw [pm.length_eq, List.length_map, Array.length_toList]; exact T.num
  have ar : Are vs (vs.map ofV) := are vs fun v hv => by
    obtain ⟨e, he, q⟩ := List.mem_map.mp (pm.mem_iff.mp hv)
    obtain ⟨⟨k, hk, _⟩, _⟩ := el e he
    exact ⟨k, q ▸ hk⟩
  have pk : (vs.map ofV).Perm (es.toList.map fun e => ofV e.2) := by
    have q := pm.map ofV
    rw [List.map_map] at q
    exact q
  refine wpAny_bind (wpAny_newList ?_ (by rw [ln, sizeLine_eq]; omega))
  have zL : (s1.heap.push (seqObj "list" vs.toArray 0)).get? s1.heap.objs.size = some (seqObj "list" vs.toArray 0) := Heap.get?_push_size _ rfl
  refine wpAny_bind (wpAny_holding ?_)
  refine wpAny_call_entry PyProof.Rows.slot_list_sort ⟨_, zL, rfl⟩ PyProof.Rows.entry_list_sort (srt zL ar (by rw [ln]; exact few) fun out ks a1 a2 a3 => ⟨_, rfl, ?_⟩) (PyProof.Rows.args_list_sort _)
  obtain ⟨c, hc⟩ := PyProof.Rows.sortedHeap_at (vs := vs) (out := out) zL
  have pn := a2.trans pk
  refine wpAny_pure ⟨_, rfl, fin _ s1.heap.objs.size out c ks (fun b u e => ?_) g1 o1 hz hc a1 a3 (pn.nodup_iff.mpr (unl_nodup of un el)) (fun k => ?_) ?_⟩
  · have q := k1 b u e
    have lt := Heap.lt_size q
    show (sortedHeap (s1.heap.push (seqObj "list" vs.toArray 0)) s1.heap.objs.size vs out).get? b = some u
    rw [PyProof.Rows.sortedHeap_old (Nat.ne_of_lt lt) (by rw [Heap.size_push]; exact Nat.lt_succ_of_lt lt)]
    exact Heap.get?_push_of_some _ q
  · rw [pn.mem_iff, List.mem_map, me k]
    constructor
    · rintro ⟨e, he, q⟩
      obtain ⟨⟨j, hj, _⟩, _⟩ := el e he
      have q : ofV e.2 = k := q
      rw [of _ _ hj] at q
      exact ⟨e, he, q ▸ hj⟩
    · rintro ⟨e, he, q⟩
      exact ⟨e, he, of _ _ q⟩
  · rw [pn.length_eq, List.length_map, Array.length_toList]; exact T.num
end
/-- a set in the abstract heap -/
def SetHG {K : Type} [DecidableEq K] {P : Program} {w : World} (N : KeyKind P w K) (a : Addr) (S : K → Bool) (n : Nat) : HO := .ext fun h => SetG N h a S n
section
variable {X : Cx} {K : Type} [DecidableEq K] {N : KeyKind X.prog X.w K}
theorem setHG_ok {H : Hp} {h : Heap} {a : Addr} {S : K → Bool} {n : Nat} (R : SetG N h a S n) : ObjOk X.prog X.w H h a (SetHG N a S n) :=
  ⟨R, let ⟨o, _, _, _, z, _⟩ := R; ⟨o, z⟩, fun h1 h2 p k => SetG.keep p k⟩
theorem setHG_at {pins : List (Addr × Obj)} {σ : L2.St} {H : Hp} {s : Shared} {a : Addr} {S : K → Bool} {n : Nat} (I : Inv X pins σ H s) (z : H a = some (SetHG N a S n)) : SetG N s.heap a S n := (I.hok a _ z).1
/-- set(xs), xs a list of keys vk -/
def rSetL (N : KeyKind X.prog X.w K) (vk : K → V) : List V → Hp → VK → Prop := fun xs H Q => ∃ (l : Addr) (ks : List K), xs = [.ref l] ∧ SqL X.K H l (ks.map vk) ∧ ks.length ≤ 1000 ∧
  ∀ p c, H p = none → c ≤ ks.length → Q (.ref p) (upd H p (SetHG N p (fun j => decide (j ∈ ks)) c))
theorem cr_setL {vk : K → V} (calm : X.calm = true) (kv : ∀ k u, RelV (vk k) u → N.is k u = true ∧ u.scannable = true) : CallR X (.type "set") (rSetL N vk) := by
  intro pins s σ H xs us Q I r h
  obtain ⟨l, ks, rfl, hs, few, q⟩ := h
  obtain ⟨its, rv, hl, _⟩ := I.list hs
  rw [Vals.ref1 r]
  have len : its.length = ks.length := by rw [← rv.length, List.length_map]
  refine set_list (N := N) ks (I.ok.hd calm) hl.isList (by rw [List.size_toArray]; exact len) (by unfold scanBound; omega) (fun i v hv => ?_) fun h' tk c g hc kk => ?_
  · rw [List.getElem?_toArray] at hv
    have hi : i < ks.length := by rw [← len]; exact (List.getElem?_eq_some_iff.mp hv).1
    obtain ⟨u, hu, ru⟩ := rv.get (i := i) (by rw [List.getElem?_map, List.getElem?_eq_getElem hi]; rfl)
    obtain rfl : u = v := Option.some.inj (hu.symm.trans hv)
    exact ⟨_, List.getElem?_eq_getElem hi, kv _ _ ru⟩
  · have fr : H s.heap.objs.size = none := I.hok.fresh (Nat.le_refl _)
    have J : Inv X pins σ (upd H s.heap.objs.size (SetHG N s.heap.objs.size (fun j => decide (j ∈ ks)) c)) { s with heap := h', toks := tk } :=
      I.call (ch := []) (Un.laid kk (Nat.le_refl _) fr) (I.hok.laid kk (Nat.le_refl _) (setHG_ok g)) I.bare (fun _ z => nomatch z)
    exact ⟨.ref _, _, J, rfl, q _ c fr hc⟩
def rSortG (N : KeyKind X.prog X.w K) (vk : K → V) (ord : List K → Prop) : List V → Hp → VK → Prop := fun xs H Q => ∃ (a : Addr) (S : K → Bool) (n : Nat), xs = [.ref a] ∧ H a = some (SetHG N a S n) ∧ n < 64 ∧
  ∀ (ks : List K) (p : Addr), ord ks → ks.Nodup → (∀ k, k ∈ ks ↔ S k = true) → ks.length = n → H p = none → Q (.ref p) (upd H p (.lst (ks.map vk)))
theorem cr_sortG {vk : K → V} {Are : List Value → List K → Prop} {ord : List K → Prop} {ofV : Value → K} (calm : X.calm = true) (srt : SortsBy X.prog X.w Are ord) (of : ∀ k v, N.is k v = true → ofV v = k) (are : ∀ vs : List Value, (∀ v ∈ vs, ∃ k, N.is k v = true) → Are vs (vs.map ofV))
    (vals : ∀ {us : List Value} {ks : List K}, Are us ks → Vals (ks.map vk) us) : CallR X (.builtin "sorted") (rSortG N vk ord) := by
  intro pins s σ H xs us Q I r h
  obtain ⟨a, S, n, rfl, ha, few, q⟩ := h
  rw [Vals.ref1 r]
  refine sorted_setG srt of are (setHG_at I ha) (I.ok.hd calm) few fun s' p out c ks k g o hp hg ar od nd me ln => ?_
  have small : (ks.map vk).length ≤ sizeLine := by rw [List.length_map, ln, sizeLine_eq]; omega
  have fr : H p = none := I.hok.fresh hp
  have J : Inv X pins σ (upd H p (.lst (ks.map vk))) { s with heap := s'.heap, gens := s'.gens, drawn := s'.drawn, toks := s'.toks } :=
    I.call (ch := []) (Un.laid k hp fr) (I.hok.laid k hp ⟨small, out.toList, c, vals ar, hg⟩) (by rw [g]; exact I.bare) (fun _ z => nomatch z)
  have e : s' = { s with heap := s'.heap, gens := s'.gens, drawn := s'.drawn, toks := s'.toks } := by
    cases s'; cases s; cases o; rfl
  rw [e]
  exact ⟨.ref p, _, J, rfl, q ks p od nd me ln fr⟩
end
section
variable [Cl] [Lk] {X : Cx}
theorem is_int {k : Int} {v : Value} (h : (PySem.intKind X.prog X.w).is k v = true) : ∃ t, v = .int k t := Value.isInt_shape h
theorem is_str {k : Str} {v : Value} (h : (PySem.strKind X.prog X.w).is k v = true) : ∃ t, v = .str k t := Value.isStrOf_shape h
def intV : Value → Int | .int k _ => k | _ => 0
theorem intsAre_is : ∀ vs : List Value, (∀ v ∈ vs, ∃ k, (PySem.intKind X.prog X.w).is k v = true) → IntsAre vs (vs.map intV)
  | [], _ => .nil
  | v :: vs, h => by
    obtain ⟨k, hk⟩ := h v List.mem_cons_self
    obtain ⟨t, rfl⟩ := is_int hk
    exact .cons k t (intsAre_is vs fun u hu => h u (List.mem_cons_of_mem _ hu))
theorem strs_are (vs : List Value) (h : ∀ v ∈ vs, ∃ k, (PySem.strKind X.prog X.w).is k v = true) : StrsAre vs (vs.map PyProof.Rows.strOf) := PyProof.Rows.strsAre_map vs fun v hv => by
  obtain ⟨k, hk⟩ := h v hv
  obtain ⟨t, e⟩ := is_str hk
  exact ⟨k, t, e⟩
theorem cr_setI (calm : X.calm = true) : CallR X (.type "set") (rSetL (PySem.intKind X.prog X.w) V.int) := cr_setL calm fun k u r => by
  obtain ⟨t, rfl⟩ := r
  exact ⟨by show (k == k) = true; exact beq_self_eq_true k, rfl⟩
theorem cr_setS (calm : X.calm = true) : CallR X (.type "set") (rSetL (PySem.strKind X.prog X.w) V.str) := cr_setL calm fun k u r => by
  obtain ⟨t, rfl⟩ := r
  exact ⟨by show (k == k) = true; exact beq_self_eq_true k, rfl⟩
theorem cr_sortSI (calm : X.calm = true) : CallR X (.builtin "sorted") (rSortG (PySem.intKind X.prog X.w) V.int fun ns => ns.Pairwise (· ≤ ·)) :=
  cr_sortG (ofV := intV) calm sorts_ints (fun k v h => by obtain ⟨t, rfl⟩ := is_int h; rfl) intsAre_is vals_of_ints
theorem cr_sortSS (calm : X.calm = true) : CallR X (.builtin "sorted") (rSortG (PySem.strKind X.prog X.w) V.str fun ns => sortedS ns = true) :=
  cr_sortG (ofV := PyProof.Rows.strOf) calm sorts_strs (fun k v h => by obtain ⟨t, rfl⟩ := is_str h; rfl) strs_are vals_of_strs
def dSortSet : FN
  | [x], m, q => onS (seqL x m) fun ds => ds.length < 64 ∧ ((∃ ns, intsOf ds = some ns ∧ ∀ ms : List Int, ms.Pairwise (· < ·) → (∀ k, k ∈ ms ↔ k ∈ ns) → ms.length ≤ ns.length → q (.lst (ms.map D.int)) m) ∨
      (∃ ns, strsOf ds = some ns ∧ ∀ ms : List Str, sortedS ms = true → ms.Nodup → (∀ k, k ∈ ms ↔ k ∈ ns) → ms.length ≤ ns.length → q (.lst (ms.map D.str)) m))
  | _, _, _ => False
abbrev rSetE (X : Cx) : List V → Hp → VK → Prop := fun xs H Q => rSetL (PySem.intKind X.prog X.w) V.int xs H Q ∨ rSetL (PySem.strKind X.prog X.w) V.str xs H Q
abbrev rSortE (X : Cx) : List V → Hp → VK → Prop := fun xs H Q => rSortG (PySem.intKind X.prog X.w) V.int (fun ns => ns.Pairwise (· ≤ ·)) xs H Q ∨ rSortG (PySem.strKind X.prog X.w) V.str (fun ns => sortedS ns = true) xs H Q
def rSortSet (X : Cx) : List V → Hp → VK → Prop := fun xs H Q => rSetE X xs H fun v H1 => rSortE X [v] H1 Q
theorem lt_nodup : ∀ l : List Int, l.Pairwise (· ≤ ·) → l.Nodup → l.Pairwise (· < ·) := fun l h d => (List.Pairwise.and h d).imp fun ⟨a, b⟩ => by omega
theorem o_sortSet : OpN X.K dSortSet (rSortSet X) := by
  intro W F H m xs ds q Q rel ra h k
  unfold dSortSet at h
  split at h
  · obtain ⟨v, rfl, rv⟩ := ra1 ra
    obtain ⟨es, e1, few, h⟩ := onS_some h
    obtain ⟨a, ys, rfl, g, r⟩ := seqL_at rel rv e1
    rcases h with ⟨ns, e2, h⟩ | ⟨ns, e2, h⟩
    · rw [intsOf_eq e2] at r few
      rw [List.length_map] at few
      have := ra_ints_eq r
      subst this
      refine .inl ⟨a, ns, rfl, g, by omega, fun p c hp hc => .inl ⟨p, _, c, rfl, upd_same, by omega, fun ms p' od nd me ln hp' => ?_⟩⟩
      have rel1 := rel.grow (o := SetHG (PySem.intKind X.prog X.w) p (fun j => decide (j ∈ ns)) c) hp
      have hq := h ms (lt_nodup ms od nd) (fun k => by rw [me k, decide_eq_true_eq]) (by omega)
      exact cold_lst rel1 (ra_ints ms) hq k hp'
    · rw [strsOf_eq e2] at r few
      rw [List.length_map] at few
      have := ra_strs_eq r
      subst this
      refine .inr ⟨a, ns, rfl, g, by omega, fun p c hp hc => .inr ⟨p, _, c, rfl, upd_same, by omega, fun ms p' od nd me ln hp' => ?_⟩⟩
      have rel1 := rel.grow (o := SetHG (PySem.strKind X.prog X.w) p (fun j => decide (j ∈ ns)) c) hp
      have hq := h ms od nd (fun k => by rw [me k, decide_eq_true_eq]) (by omega)
      exact cold_lst rel1 (ra_strs ms) hq k hp'
  · exact h.elim
theorem je_sortSet {a : Expr} {ta : DE} {p p2 pos qos : Pos} (calm : X.calm = true) (hg : Gl X "sorted") (hm : X.mg "sorted" = none) (hg2 : Gl X "set") (hm2 : X.mg "set" = none) (ha : JE X a ta) (hs : starEach [a] X.env = (false, eval a X.env) :: starEach [] X.env := by rfl) (hp : (backTo qos (starEach [] X.env)).any (·.1) = false := by rfl)
    (hs2 : starEach [.Call (.Name "set" p2) [a] [] qos] X.env = (false, eval (.Call (.Name "set" p2) [a] [] qos) X.env) :: starEach [] X.env := by rfl) (hp2 : (backTo pos (starEach [] X.env)).any (·.1) = false := by rfl) : JE X (.Call (.Name "sorted" p) [.Call (.Name "set" p2) [a] [] qos] [] pos) (dCallB dSortSet (a1 ta)) :=
  pe_wk (pe_callB (e := .Call (.Name "set" p2) [a] [] qos) (cr_or (cr_sortSI calm) (cr_sortSS calm)) hg hm (by decide +kernel) (pa_cons (pe_callTy (cr_or (cr_setI calm) (cr_setS calm)) hg2 hm2 (by decide +kernel) (ja_cons ha ja_nil hs) (by decide) (by decide) hs hp) pa_nil hs2) (by decide) (by decide) hs2 hp2) fun s H Q h => call_wk o_sortSet s H Q h
end
end DL
/-! Data layer, part 24: the place of an int; worths read off bent lines. -/
namespace DL
open PySem PySem.Spec PyProof.Rows L2
theorem map_py_get {ns : List Int} {j : Nat} {z : PyData} (h : (ns.map PyData.int)[j]? = some z) : ∃ (hj : j < ns.length), z = .int ns[j] := by
  obtain ⟨h1, h2⟩ := List.getElem?_eq_some_iff.mp h
  rw [List.length_map] at h1
  exact ⟨h1, by rw [← h2, List.getElem_map]⟩
theorem index_ints {y : D} {m : Sto} {ns : List Int} {j : Nat} {q : D → Sto → Prop} (e : seqL y m = some (ns.map D.int)) (up : ns.Nodup) (hj : j < ns.length) (h : q (.int (j : Nat)) m) : dIndexF y [.int ns[j]] m q := by
  unfold dIndexF
  show onS (py m y) _
  rw [py_seq e, py0A_ints]
  refine ⟨shaped_ints ns, rfl, j, .int ns[j], ?_, ?_, fun i z hi hz => ?_, h⟩
  · rw [List.getElem?_map, List.getElem?_eq_getElem hj]; rfl
  · rw [eqv_int]; exact decide_eq_true rfl
  · obtain ⟨h1, rfl⟩ := map_py_get hz
    rw [eqv_int]
    refine decide_eq_false fun z => ?_
    exact List.pairwise_iff_getElem.mp up i j h1 hj hi z
/-- the numbers of the marks that are not above a point, as numbers -/
def notAbove (p : Int) : Nat → List Int → List Int
  | _, [] => []
  | k, a :: r => if a ≤ p then (k : Int) :: notAbove p (k + 1) r else notAbove p (k + 1) r
def leD (p : Int) (d : D) : Bool := match d with | .int a => decide (a ≤ p) | _ => false
theorem idx_notAbove {p : Int} : ∀ {ms : List Int} {k : Nat}, idxF (leD p) k (ms.map D.int) = (notAbove p k ms).map D.int
  | [], _ => rfl
  | a :: r, k => by
    have e : leD p (.int a) = decide (a ≤ p) := rfl
    show (if leD p (.int a) = true then D.int (k : Nat) :: idxF (leD p) (k + 1) (r.map D.int) else idxF (leD p) (k + 1) (r.map D.int)) = _
    rw [notAbove, idx_notAbove, e]
    by_cases h : a ≤ p
    · rw [decide_eq_true h, if_pos rfl, if_pos h]; rfl
    · rw [decide_eq_false h, if_neg Bool.false_ne_true, if_neg h]
theorem mem_notAbove {p x : Int} : ∀ {ms : List Int} {k : Nat}, x ∈ notAbove p k ms ↔ ∃ j : Nat, j < ms.length ∧ x = ((k + j : Nat) : Int) ∧ at0 ms j ≤ p
  | [], k => by simp [notAbove]
  | a :: r, k => by
    have ih := mem_notAbove (p := p) (x := x) (ms := r) (k := k + 1)
    have st : (∃ j : Nat, j < (a :: r).length ∧ x = ((k + j : Nat) : Int) ∧ at0 (a :: r) j ≤ p) ↔ (x = (k : Int) ∧ a ≤ p) ∨ ∃ j : Nat, j < r.length ∧ x = ((k + 1 + j : Nat) : Int) ∧ at0 r j ≤ p := by
      constructor
      · rintro ⟨j, h1, h2, h3⟩
        cases j with
        | zero => exact .inl ⟨by rw [h2]; rfl, h3⟩
        | succ j => exact .inr ⟨j, by rw [List.length_cons] at h1; omega, by rw [h2]; congr 1; omega, h3⟩
      · rintro (⟨h1, h2⟩ | ⟨j, h1, h2, h3⟩)
        · exact ⟨0, by rw [List.length_cons]; omega, by rw [h1]; rfl, h2⟩
        · exact ⟨j + 1, by rw [List.length_cons]; omega, by rw [h2]; congr 1; omega, h3⟩
    rw [st, ← ih, notAbove]
    by_cases h : a ≤ p
    · rw [if_pos h, List.mem_cons]
      constructor
      · rintro (z | z)
        · exact .inl ⟨z, h⟩
        · exact .inr z
      · rintro (⟨z, _⟩ | z)
        · exact .inl z
        · exact .inr z
    · rw [if_neg h]
      constructor
      · exact fun z => .inr z
      · rintro (⟨_, z⟩ | z)
        · exact absurd z h
        · exact z
/-! ### worths -/
def valE (W : Nat → Rat) : List (Nat × Rat) → Rat
  | [] => 0
  | (j, w) :: r => valE W r + w * W j
theorem sumE {W : Nat → Rat} {n : Nat} : ∀ {E : List (Nat × Rat)}, (∀ e ∈ E, e.1 < n) → sumQ (fun i => accE E i * W i) n = valE W E
  | [], _ => by
    show sumQ (fun i => (0 : Rat) * W i) n = 0
    rw [sumQ_ext (g := fun _ => 0) fun i _ => Rat.zero_mul _, sumQ_zero]
  | (j, w) :: r, h => by
    have hj : j < n := h _ List.mem_cons_self
    rw [sumQ_ext (g := updQ (fun i => accE r i * W i) j (w * W j)) fun i _ => ?_, sumQ_upd, if_pos hj, sumE fun e he => h e (List.mem_cons_of_mem _ he)]
    · rfl
    · show (accE r i + if i = j then w else 0) * W i = if i = j then accE r i * W i + w * W j else accE r i * W i
      by_cases c : i = j
      · subst c
        rw [if_pos rfl, if_pos rfl, Rat.add_mul]
      · rw [if_neg c, if_neg c, Rat.add_zero]
/-- what is read at a point -/
def rdQ (ms : List Int) (W : Nat → Rat) (p : Int) : Rat := sumQ (fun i => shr ms p i * W i) ms.length
theorem rd_val {ms : List Int} {W : Nat → Rat} {p : Int} {E : List (Nat × Rat)} (h : EntS ms p E) (up : ms.Pairwise (· < ·)) : rdQ ms W p = valE W E := by
  unfold rdQ
  rw [sumQ_ext (g := fun i => accE E i * W i) fun i hi => by rw [shr_acc h up hi]]
  refine sumE fun e he => ?_
  cases h with
  | on hj _ => rw [List.mem_singleton] at he; rw [he]; exact hj
  | off ha _ _ =>
    rcases List.mem_cons.mp he with z | z
    · rw [z]; show _ < _; omega
    · rw [List.mem_singleton] at z; rw [z]; exact ha
theorem rd_on {ms : List Int} {W : Nat → Rat} {p : Int} {j : Nat} (up : ms.Pairwise (· < ·)) (hj : j < ms.length) (e : at0 ms j = p) : rdQ ms W p = W j := by
  rw [rd_val (.on hj e) up]
  show (0 : Rat) + 1 * W j = W j
  rw [Rat.zero_add, Rat.one_mul]
theorem rd_off {ms : List Int} {W : Nat → Rat} {p : Int} {a : Nat} (up : ms.Pairwise (· < ·)) (ha : a + 1 < ms.length) (h1 : at0 ms a < p) (h2 : p < at0 ms (a + 1)) :
    rdQ ms W p = W a + dv (p - at0 ms a) (at0 ms (a + 1) - at0 ms a) * (W (a + 1) - W a) := by
  rw [rd_val (.off ha h1 h2) up]
  have e := dv_one (p := p) (show at0 ms a < at0 ms (a + 1) by omega)
  show (0 : Rat) + _ * W (a + 1) + _ * W a = _
  grind
def sumP (g : Int → Rat) : List Int → Rat
  | [] => 0
  | p :: r => g p + sumP g r
theorem sumP_app {g : Int → Rat} : ∀ {L R : List Int}, sumP g (L ++ R) = sumP g L + sumP g R
  | [], R => by show _ = 0 + _; rw [Rat.zero_add]; rfl
  | i :: L, R => by
    show g i + sumP g (L ++ R) = g i + sumP g L + sumP g R
    rw [sumP_app, Rat.add_assoc]
theorem sumQ_add {f g : Nat → Rat} : ∀ {n : Nat}, sumQ (fun i => f i + g i) n = sumQ f n + sumQ g n
  | 0 => by show (0 : Rat) = 0 + 0; rw [Rat.add_zero]
  | n + 1 => by
    show sumQ (fun i => f i + g i) n + (f n + g n) = sumQ f n + f n + (sumQ g n + g n)
    rw [sumQ_add]; grind
/-- the whole: what the mix's weights sum up is what is read at the points -/
theorem mix_reads {ms : List Int} {W : Nat → Rat} : ∀ {k : Nat} {sp : List Int}, sp.length = k → sumQ (fun i => addQ (shr ms) sp i * W i) ms.length = sumP (rdQ ms W) sp
  | 0, sp, e => by
    obtain rfl := List.eq_nil_of_length_eq_zero e
    show sumQ (fun i => (0 : Rat) * W i) _ = 0
    rw [sumQ_ext (g := fun _ => 0) fun i _ => Rat.zero_mul _, sumQ_zero]
  | k + 1, sp, e => by
    rcases List.eq_nil_or_concat sp with z | ⟨L, p, z⟩
    · rw [z] at e; cases e
    · rw [List.concat_eq_append] at z
      subst z
      rw [List.length_append, List.length_singleton] at e
      rw [sumP_app, ← mix_reads (k := k) (sp := L) (by omega)]
      rw [sumQ_ext (g := fun i => addQ (shr ms) L i * W i + shr ms p i * W i) fun i _ => by rw [addQ_snoc, Rat.add_mul], sumQ_add]
      show _ + rdQ ms W p = _ + (rdQ ms W p + 0)
      rw [Rat.add_zero]
theorem sumL_mul {f W : Nat → Rat} (nn : ∀ i, 0 ≤ f i) : ∀ {n : Nat}, sumL (fun i => f i * W i) ((List.range n).filter fun i => decide (0 < f i)) = sumQ (fun i => f i * W i) n
  | 0 => rfl
  | n + 1 => by
    rw [List.range_succ, List.filter_append, sumL_app, sumL_mul nn]
    show sumQ _ n + _ = sumQ _ n + f n * W n
    by_cases c : 0 < f n
    · rw [List.filter_cons_of_pos (by rw [decide_eq_true c])]
      show _ + (f n * W n + 0) = _
      rw [Rat.add_zero]
    · rw [List.filter_cons_of_neg (by rw [decide_eq_false c]; exact Bool.false_ne_true)]
      have : f n = 0 := by have := nn n; grind
      rw [this, Rat.zero_mul]; rfl
end DL
/-! Data layer, part 25: a sign in a text, texts compared, dict displays with written keys, repr of a flat dict. -/
namespace DL
open PySem PySem.Spec PyProof.Rows L2
variable [Cl] [Lk]
/-! ### a sign in a text -/
def dInT (neg : Bool) : F2
  | .str x, .str z, m, q => ∃ c, x = ⟨#[c]⟩ ∧ q (.bl (if neg then !decide (c ∈ z.cps.toList) else decide (c ∈ z.cps.toList))) m
  | _, _, _, _ => False
def rInT (neg : Bool) : R2 := fun x y H Q => ∃ (c : Nat) (z : Str), x = .str ⟨#[c]⟩ ∧ y = .str z ∧ Q (.bl (if neg then !decide (c ∈ z.cps.toList) else decide (c ∈ z.cps.toList))) H
theorem o_inT {K : PySem.W.Frag} {neg : Bool} : Op2 K (dInT neg) (rInT neg) := by
  intro W F H m x y d e q Q rel rx ry h k
  unfold dInT at h
  split at h
  · obtain ⟨c, rfl, h⟩ := h
    cases rx; cases ry
    exact ⟨c, _, rfl, rfl, k _ _ _ _ _ (.refl _) rel (.bl _) h⟩
  · exact h.elim
section
variable {X : Cx} {a b : Expr} {ta tb : DE} {pos : Pos}
theorem je_inT (ha : JE X a ta) (hb : JE X b tb) (hm : behindInMarks .In b = false := by rfl) : JE X (.Compare a [.In] [b] pos) (dBin (dInT false) ta tb) := je_cmp (rr := rInT false) op_in_sign o_inT ha hb hm
theorem je_notinT (ha : JE X a ta) (hb : JE X b tb) (hm : behindInMarks .NotIn b = false := by rfl) : JE X (.Compare a [.NotIn] [b] pos) (dBin (dInT true) ta tb) := je_cmp (rr := rInT true) op_notIn_sign o_inT ha hb hm
theorem jt_inT (ha : JE X a ta) (hb : JE X b tb) (hm : behindInMarks .In b = false := by rfl) : JT X (.Compare a [.In] [b] pos) (dTest (dBin (dInT false) ta tb)) := jt_cmp (rr := rInT false) op_in_sign o_inT ha hb hm
theorem jt_notinT (ha : JE X a ta) (hb : JE X b tb) (hm : behindInMarks .NotIn b = false := by rfl) : JT X (.Compare a [.NotIn] [b] pos) (dTest (dBin (dInT true) ta tb)) := jt_cmp (rr := rInT true) op_notIn_sign o_inT ha hb hm
end
/-! ### texts and numbers compared -/
def dGtA : F2
  | .int i, .int j, m, q => q (.bl (decide (j < i))) m
  | .str i, .str j, m, q => q (.bl (decide (j.cps.toList < i.cps.toList))) m
  | _, _, _, _ => False
def rrGtA : R2 := fun x y H Q => (rI0 fun i j => .bl (decide (j < i))) x y H Q ∨ (fun x y H Q => ∃ i j, x = .str i ∧ y = .str j ∧ Q (.bl (decide (j.cps.toList < i.cps.toList))) H) x y H Q
theorem o_gtA {K : PySem.W.Frag} : Op2 K dGtA rrGtA := by
  intro W F H m x y d e q Q rel rx ry h k
  unfold dGtA at h
  split at h
  · cases rx; cases ry
    exact .inl ⟨_, _, rfl, rfl, k _ _ _ _ _ (.refl _) rel (.bl _) h⟩
  · cases rx; cases ry
    exact .inr ⟨_, _, rfl, rfl, k _ _ _ _ _ (.refl _) rel (.bl _) h⟩
  · exact h.elim
section
variable {X : Cx} {a b : Expr} {ta tb : DE} {pos : Pos} {k : Nat}
theorem je_gtA (hr : Room k X.A) (ha : JE X a ta) (hb : JE X b tb) : JE X (.Compare a [.Gt] [b] pos) (dBin dGtA ta tb) := je_cmp (op_gt.or op_gt_str) o_gtA ha hb (nobehind _ (by decide) (by decide))
theorem jt_gtA (hr : Room k X.A) (ha : JE X a ta) (hb : JE X b tb) : JT X (.Compare a [.Gt] [b] pos) (dTest (dBin dGtA ta tb)) := jt_cmp (op_gt.or op_gt_str) o_gtA ha hb (nobehind _ (by decide) (by decide))
end
/-! ### {k: v, ..} with written keys -/
abbrev DPs := List (L2.Key × DE)
def dPairs : DPs → DSt → Sto → (List (L2.Key × D) → Sto → Prop) → Prop
  | [], _, m, q => q [] m
  | (k, t) :: r, s, m, q => t s m fun v m1 => dPairs r s m1 fun ps m2 => q ((k, v) :: ps) m2
def dDisp (ts : DPs) : DE := fun r m q => dPairs ts r m fun ps m1 => q (.dic ps) m1
def dDispP (ts : DPs) : DE := fun r m q => dPairs ts r m fun ps m1 => q (.ptr m1.length) (m1 ++ [.dic ps])
inductive JPs (X : Cx) (pos : Pos) : List (Option Expr) → List Expr → DPs → Prop
  | nil : JPs X pos [] [] []
  | cons {k v : Expr} {ks : List (Option Expr)} {vs : List Expr} {kk : L2.Key} {t : DE} {ts : DPs} : PE X k (tC (kV kk)) → JE X v t → JPs X pos ks vs ts → JPs X pos (some k :: ks) (v :: vs) ((kk, t) :: ts)
def trOf (K : PySem.W.Frag) : DPs → List (TE × TE)
  | [] => []
  | (k, t) :: r => (tC (kV k), liftE K t) :: trOf K r
theorem JPs.pps {X : Cx} {pos : Pos} : ∀ {ks : List (Option Expr)} {vs : List Expr} {ts : DPs}, JPs X pos ks vs ts → PPs X pos ks vs (trOf X.K ts)
  | _, _, _, .nil => pps_nil
  | _, _, _, .cons a b r => pps_cons a b r.pps
theorem JPs.all {X : Cx} {pos : Pos} : ∀ {ks : List (Option Expr)} {vs : List Expr} {ts : DPs}, JPs X pos ks vs ts → ks.all (·.isSome) = true ∧ ks.length = vs.length ∧ ks.length = ts.length
  | _, _, _, .nil => ⟨rfl, rfl, rfl⟩
  | _, _, _, .cons a b r => ⟨by rw [List.all_cons]; simp [r.all.1], by rw [List.length_cons, List.length_cons, r.all.2.1], by rw [List.length_cons, List.length_cons, r.all.2.2]⟩
theorem pairs_wk {K : PySem.W.Frag} : ∀ {ts : DPs} {W : Wd} {F H : Hp} {m : Sto} {s : L2.St} {r : DSt} {q : List (L2.Key × D) → Sto → Prop} {Q : List (V × V) → Hp → Prop}, Rel K W F H m → RSt K W s r → dPairs ts r m q →
    (∀ W' H' m' xs ps, W.Le W' → Rel K W' F H' m' → RD K W' xs ps → xs.map (·.1) = ts.map (·.1) → q ps m' → Q (xs.map fun kv => (kV kv.1, kv.2)) H') → tPairs (trOf K ts) s H Q
  | [], W, F, H, m, s, r, q, Q, rel, rs, h, k => k W H m [] [] (.refl _) rel .nil rfl h
  | (kk, t) :: ts, W, F, H, m, s, r, q, Q, rel, rs, h, k => by
    show liftE K t s H fun y H2 => tPairs (trOf K ts) s H2 fun ps H3 => Q ((kV kk, y) :: ps) H3
    refine ⟨W, F, m, r, _, rel, rs, h, fun W1 H1 m1 v d l1 rel1 rv hq => ?_⟩
    refine pairs_wk rel1 (rs.mono l1) hq fun W2 H2 m2 xs ps l2 rel2 rd ek hq2 => ?_
    exact k W2 H2 m2 ((kk, v) :: xs) ((kk, d) :: ps) (l1.trans l2) rel2 (.cons (rv.mono l2) rd) (by rw [List.map_cons, List.map_cons, ek]) hq2
theorem putK_new {kvs : List (L2.Key × V)} {k : L2.Key} {v : V} (h : k ∉ kvs.map (·.1)) : putK kvs k v = kvs ++ [(k, v)] := by
  unfold putK
  rw [if_neg]
  intro z
  obtain ⟨kv, h1, h2⟩ := List.any_eq_true.mp z
  exact h (List.mem_map.mpr ⟨kv, h1, of_decide_eq_true h2⟩)
theorem mergeK_app : ∀ (more kvs : List (L2.Key × V)), ((kvs ++ more).map (·.1)).Nodup → mergeK kvs more = kvs ++ more
  | [], kvs, _ => by rw [List.append_nil]; rfl
  | p :: r, kvs, h => by
    have h1 : p.1 ∉ kvs.map (·.1) := fun z => by
      rw [List.map_append, List.nodup_append] at h
      exact h.2.2 _ z _ (List.mem_map.mpr ⟨p, List.mem_cons_self, rfl⟩) rfl
    show mergeK (putK kvs p.1 p.2) r = _
    rw [putK_new h1, mergeK_app r (kvs ++ [(p.1, p.2)]) (by rw [List.append_assoc]; exact h), List.append_assoc]; rfl
theorem disp_wk {K : PySem.W.Frag} {ts : DPs} {s : L2.St} {H : Hp} {Q : VK} {W : Wd} {F : Hp} {m : Sto} {r : DSt} {q : List (L2.Key × D) → Sto → Prop} (nd : (ts.map (·.1)).Nodup) (few : ts.length ≤ 15) (rel : Rel K W F H m) (rs : RSt K W s r) (h : dPairs ts r m q)
    (k : ∀ W' H' m' xs ps p, W.Le W' → F p = none → Rel K W' (upd F p (.dK [])) H' m' → RD K W' xs ps → q ps m' → Q (.ref p) (upd H' p (.dK xs))) : tDisp (trOf K ts) s H Q := by
  intro p hp
  refine pairs_wk (rel.framed hp) rs h fun W1 H1 m1 xs ps l1 rel1 rd ek hq => ⟨rel1.frm _ _ upd_same, xs, rfl, ?_, ?_⟩
  · have := congrArg List.length ek
    rw [List.length_map, List.length_map] at this
    omega
  · have : mergeK [] xs = xs := by rw [mergeK_app xs [] (by rw [List.nil_append, ek]; exact nd)]; rfl
    rw [this]
    exact k W1 H1 m1 xs ps p l1 (rel.toRel0.fF hp) rel1 rd hq
section
variable {X : Cx} {pos : Pos} {keys : List (Option Expr)} {values : List Expr} {ts : DPs}
theorem je_disp (h : JPs X pos keys values ts) (nd : (ts.map (·.1)).Nodup := by decide +kernel) (few : ts.length ≤ 15 := by decide) (h0 : keys ≠ [] := by simp) : JE X (.Dict keys values pos) (dDisp ts) :=
  pe_wk (pe_disp h.pps h.all.1 h.all.2.1 h0 (by rw [h.all.2.2]; exact few)) fun s H Q ⟨W, F, m, r, q, rel, rs, z, k⟩ => disp_wk nd few rel rs z fun W1 H1 m1 xs ps p l1 hF rel1 rd hq => by
    have r2 := rel1.reframe (o' := .dK xs) hF rel.lf
    obtain ⟨r3, l3⟩ := r2.thaw hF rel.lf
    exact k _ _ m1 (.ref p) (.dic ps) (l1.trans l3) r3 (.dic upd_same (rd.mono l3)) hq
theorem je_dispP (h : JPs X pos keys values ts) (nd : (ts.map (·.1)).Nodup := by decide +kernel) (few : ts.length ≤ 15 := by decide) (h0 : keys ≠ [] := by simp) : JE X (.Dict keys values pos) (dDispP ts) :=
  pe_wk (pe_disp h.pps h.all.1 h.all.2.1 h0 (by rw [h.all.2.2]; exact few)) fun s H Q ⟨W, F, m, r, q, rel, rs, z, k⟩ => disp_wk nd few rel rs z fun W1 H1 m1 xs ps p l1 hF rel1 rd hq => by
    have r2 := rel1.reframe (o' := .dK xs) hF rel.lf
    have r3 := r2.cellOf (c := .dic ps) hF rel.lf ⟨xs, upd_same, rd⟩ (by simp)
    exact k _ _ _ (.ref p) (.ptr m1.length) (l1.trans hot_le) r3 (.ptr (hot_at r2.toRel0)) hq
end
/-! ### repr of a dict of texts and numbers -/
def flatKV : List (L2.Key × D) → Option (List (PyData × PyData))
  | [] => some []
  | (.inr x, .int i) :: r => (flatKV r).map fun l => (.str x, .int i) :: l
  | _ => none
def dReprF : FN
  | [.dic ds], m, q => onS (flatKV ds) fun l => ((PyData.dict l).showable = true ∧ (PyData.dict l).depth ≤ 60 ∧ (PyData.dict l).shown.length ≤ sizeLine) ∧ q (.str (PyData.dict l).shown) m
  | xs, m, q => dRepr xs m q
inductive FlatP : List (L2.Key × V) → List (PyData × PyData) → Prop
  | nil : FlatP [] []
  | cons {x : Str} {i : Int} {kvs : List (L2.Key × V)} {l : List (PyData × PyData)} : FlatP kvs l → FlatP ((.inr x, .int i) :: kvs) ((.str x, .int i) :: l)
theorem flatP_of {K : PySem.W.Frag} {W : Wd} : ∀ {xs : List (L2.Key × V)} {ds : List (L2.Key × D)} {l : List (PyData × PyData)}, RD K W xs ds → flatKV ds = some l → FlatP xs l
  | _, _, _, .nil, e => by cases e; exact .nil
  | _, _, l, @RD.cons _ _ _ k v vs d ds h r, e => by
    cases k with
    | inl i => cases e
    | inr x =>
      cases d with
      | int i =>
        simp only [flatKV, Option.map_eq_some_iff] at e
        obtain ⟨l', e, rfl⟩ := e
        cases h
        exact .cons (flatP_of r e)
      | _ => cases e
theorem flat_reads {P : Program} {w : World} {h : Heap} : ∀ {kvs : List (L2.Key × V)} {l : List (PyData × PyData)} {rs : List (L2.Key × Value)} {es : List DictEntry}, FlatP kvs l → KV kvs rs → Pairs (mixKind P w) es rs →
    ReadsAll h (es.map (·.key)) (l.map (·.1)) [] ∧ ReadsAll h (es.map (·.val)) (l.map (·.2)) []
  | _, _, _, es, .nil, r, p => by
    cases r
    cases p
    exact ⟨.nil, .nil⟩
  | _, _, _, es, .cons (x := x) (i := i) f, r, p => by
    cases r with
    | @cons a b as bs hh t =>
      cases p with
      | @cons e kv es' kvs' h1 h2 p' =>
        obtain ⟨g1, g2⟩ := flat_reads f t p'
        obtain ⟨b1, b2⟩ := b
        obtain ⟨e1, e2⟩ := hh
        simp only at e1 e2
        subst e1
        obtain ⟨t1, rfl⟩ := e2
        obtain ⟨t2, e3⟩ := Value.isStrOf_shape (show Value.isStrOf x e.key = true from h1)
        refine ⟨?_, ?_⟩
        · show ReadsAll h (e.key :: _) _ []
          rw [e3]
          exact .cons (.str x t2) g1
        · show ReadsAll h (e.val :: _) _ []
          rw [h2]
          exact .cons (.int i t1) g2
def rReprF : List V → Hp → VK → Prop := fun xs H Q => ∃ a l kvs, xs = [.ref a] ∧ H a = some (.dK kvs) ∧ FlatP kvs l ∧ ((PyData.dict l).showable = true ∧ (PyData.dict l).depth ≤ 60 ∧ (PyData.dict l).shown.length ≤ sizeLine) ∧ Q (.str (PyData.dict l).shown) H
theorem call_reprF {X : Cx} (gd : X.A.guards = some []) (hu : X.A.units + 65 < cLine) : CallR X (.builtin "repr") rReprF := by
  intro pins s σ H xs us Q I r h
  obtain ⟨a, l, kvs, rfl, ha, fp, ⟨s1, s2, s3⟩, q⟩ := h
  obtain ⟨u, rfl, rx⟩ := vals1 r
  cases rx
  obtain ⟨hz, hS, vs, rel, o, es, ep, ho, hx, hd, hk, hp, hn⟩ := (show kvs.length ≤ sizeLine ∧ (a == sysModules) = false ∧ ∃ vs, KV kvs vs ∧ s.heap.DictOf (mixKind X.prog X.w) a vs from I.hok a _ ha)
  obtain ⟨g1, g2⟩ := flat_reads (h := s.heap) fp rel hp
  have rd : Reads s.heap (.ref a) (.dict l) (a :: [] ++ []) := Reads.dict ho hx.1 hd g1 g2
  refine repr_of_reads' rd s1 (fun _ hm => ?_) gd (by omega) (fun _ _ e => e) (fun h' tk tk2 kk => ⟨.str _, H, I.kept kk, ⟨tk, rfl⟩, q⟩) s3
  have hm : sysModules ∈ [a] := hm
  rw [List.mem_singleton] at hm
  rw [← hm] at hS
  simp at hS
theorem o_reprF {K : PySem.W.Frag} : OpN K dReprF (fun xs H Q => rrRepr K xs H Q ∨ rReprF xs H Q) := by
  intro W F H m xs ds q Q rel ra h k
  unfold dReprF at h
  split at h
  · obtain ⟨v, rfl, rv⟩ := ra1 ra
    obtain ⟨l, e, s, h⟩ := onS_some h
    cases rv with
    | dic hh r => exact .inr ⟨_, l, _, rfl, rel.sub _ _ hh, flatP_of r e, s, k _ _ _ _ _ (.refl _) rel (.str _) h⟩
  · exact .inl (o_repr W F H m xs _ q Q rel ra h k)
theorem je_reprF {X : Cx} {a : Expr} {ta : DE} {p pos : Pos} {k : Nat} (hr : Room k X.A) (gd : X.A.guards = some []) (hg : Gl X "repr") (hm : X.mg "repr" = none) (ha : JE X a ta) (hs : starEach [a] X.env = (false, eval a X.env) :: starEach [] X.env := by rfl) (hp : (backTo pos (starEach [] X.env)).any (·.1) = false := by rfl) : JE X (.Call (.Name "repr" p) [a] [] pos) (dCallB dReprF (a1 ta)) :=
  je_callB (cr_or (call_reprD gd (by have := units65 hr; omega)) (call_reprF gd (units65 hr))) o_reprF hg hm (by decide +kernel) (ja_cons ha ja_nil hs) (by decide) (by decide) hs hp
/-! ### sorted(xs) into the store -/
def dSortedP : FN
  | [x], m, q => onS (seqL x m) fun ds => onS (intsOf ds) fun ns => ∀ ns' : List Int, ns'.Perm ns → ns'.Pairwise (· ≤ ·) → q (.ptr m.length) (m ++ [.lst (ns'.map D.int)])
  | _, _, _ => False
theorem o_sortedP {K : PySem.W.Frag} : OpN K dSortedP (fun xs H Q => rSortedI K xs H Q ∨ rSortedS K xs H Q) := by
  intro W F H m xs ds q Q rel ra h k
  unfold dSortedP at h
  split at h
  · obtain ⟨v, rfl, rv⟩ := ra1 ra
    obtain ⟨es, e1, h⟩ := onS_some h
    obtain ⟨ns, e2, h⟩ := onS_some h
    obtain ⟨a, ys, rfl, g, r⟩ := seqL_at rel rv e1
    rw [intsOf_eq e2] at r
    have := ra_ints_eq r
    subst this
    exact .inl ⟨a, ns, rfl, g, fun ns' p h1 h2 hp => hot_lst rel (ra_ints ns') (h ns' h1 h2) k hp⟩
  · exact h.elim
theorem je_sortedP {X : Cx} {a : Expr} {ta : DE} {p pos : Pos} (hg : Gl X "sorted") (hm : X.mg "sorted" = none) (ha : JE X a ta) (hs : starEach [a] X.env = (false, eval a X.env) :: starEach [] X.env := by rfl) (hp : (backTo pos (starEach [] X.env)).any (·.1) = false := by rfl) : JE X (.Call (.Name "sorted" p) [a] [] pos) (dCallB dSortedP (a1 ta)) :=
  je_callB (cr_or cr_sortedI cr_sortedS) o_sortedP hg hm (by decide +kernel) (ja_cons ha ja_nil hs) (by decide) (by decide) hs hp
/-! ### lists compared -/
theorem eqv_ints : ∀ (ns ms : List Int), PyData.eqvAll (ns.map PyData.int) (ms.map PyData.int) = decide (ns = ms)
  | [], [] => rfl
  | [], _ :: _ => rfl
  | _ :: _, [] => rfl
  | n :: ns, m :: ms => by
    show (PyData.eqv (.int n) (.int m) && PyData.eqvAll (ns.map PyData.int) (ms.map PyData.int)) = _
    rw [eqv_int, eqv_ints ns ms]
    by_cases h : n = m
    · subst h
      rw [decide_eq_true rfl, Bool.true_and, decide_eq_decide]
      simp
    · rw [decide_eq_false h, Bool.false_and, eq_comm, decide_eq_false_iff_not]
      intro z
      exact h (List.cons.inj z).1
theorem eqG_ints {x y : D} {ns ms : List Int} {m : Sto} {q : D → Sto → Prop} {neg : Bool} (hx : seqL x m = some (ns.map D.int)) (hy : seqL y m = some (ms.map D.int)) (h : q (.bl (if neg then !decide (ns = ms) else decide (ns = ms))) m) : dEqG neg x y m q := by
  unfold dEqG
  rw [py_seq hx, py_seq hy, py0A_ints, py0A_ints]
  refine ⟨shaped_ints ns, shaped_ints ms, ?_⟩
  have e : PyData.eqv (.list (ns.map PyData.int)) (.list (ms.map PyData.int)) = decide (ns = ms) := eqv_ints ns ms
  show q (.bl (if neg then !PyData.eqv (.list (ns.map PyData.int)) (.list (ms.map PyData.int)) else PyData.eqv (.list (ns.map PyData.int)) (.list (ms.map PyData.int)))) m
  rw [e]; exact h
theorem eqG_nil {x : D} {ds : List D} {k c : Nat} {m : Sto} {q : D → Sto → Prop} {neg : Bool} (hx : seqL x m = some ds) (hd : ∀ d ∈ ds, Gd k c d) (hk : k < 60) (h : q (.bl (if neg then !ds.isEmpty else ds.isEmpty)) m) : dEqG neg x (.lst []) m q := by
  obtain ⟨v, e, p⟩ := gd_lstP hd
  refine eqG_py (c := _) (c' := 2) ((py_seq hx).trans e) py_nil (p.mono (by omega) (Nat.le_refl _)) (pd_nil.mono (by decide) (Nat.le_refl _)) ?_
  have ev : PyData.eqv v (.list []) = ds.isEmpty := by
    cases ds with
    | nil => rw [nilA] at e; cases e; rfl
    | cons d es => exact eqv_nil (by simp) e
  rw [ev]; exact h
/-- what a spot is -/
theorem upD_is : ∀ {ds : List D} {l : Int}, upD l ds = true → ∃ ns : List Int, ds = ns.map D.int ∧ (l :: ns).Pairwise (· ≤ ·) ∧ ∀ i ∈ ns, 0 ≤ i ∧ i ≤ 1000
  | [], l, _ => ⟨[], rfl, List.pairwise_singleton _ _, fun _ z => nomatch z⟩
  | d :: ds, l, h => by
    cases d with
    | int i =>
      have h : (btw (.int i) 0 1000 && (decide (l ≤ i) && upD i ds)) = true := h
      obtain ⟨h1, h2⟩ := Bool.and_eq_true_iff.mp h
      obtain ⟨h2, h3⟩ := Bool.and_eq_true_iff.mp h2
      have h2 := of_decide_eq_true h2
      obtain ⟨j, e, j1, j2⟩ := btw_int h1
      cases e
      obtain ⟨ns, e, p, r⟩ := upD_is h3
      refine ⟨i :: ns, by rw [e]; rfl, ?_, fun k hk => ?_⟩
      · refine List.pairwise_cons.mpr ⟨fun k hk => ?_, p⟩
        rcases List.mem_cons.mp hk with z | z
        · omega
        · have := (List.pairwise_cons.mp p).1 k z; omega
      · rcases List.mem_cons.mp hk with z | z
        · omega
        · exact r k z
    | _ => cases h
theorem sorted_same {ns ms : List Int} (p : ms.Perm ns) (s : ms.Pairwise (· ≤ ·)) : ns = ms ↔ ns.Pairwise (· ≤ ·) := by
  constructor
  · intro e; rw [e]; exact s
  · intro h
    exact List.Perm.eq_of_pairwise (fun a b _ _ h1 h2 => Int.le_antisymm h1 h2) h s p.symm
end DL
/-! Data layer, part 26: data read through the store, with dicts in it; == and repr of such. -/
namespace DL
open PySem PySem.Spec PyProof.Rows L2
/-! ### what a heap shows, dicts apart from the modules' one -/
mutual
inductive RdN (h : Heap) : Value → PyData → Prop
  | non : RdN h .none .none
  | bl (b : Bool) : RdN h (.bool b) (.bool b)
  | int (i : Int) (t : Tok) : RdN h (.int i t) (.int i)
  | str (x : Str) (t : Tok) : RdN h (.str x t) (.str x)
  | lst {a : Addr} {o : Obj} {vs : Array Value} {n : Nat} {xs : List PyData} : h.get? a = some o → o.cls = .type "list" → o.data = .seq vs n → RdNA h vs.toList xs → RdN h (.ref a) (.list xs)
  | tup {a : Addr} {o : Obj} {vs : Array Value} {n : Nat} {xs : List PyData} : h.get? a = some o → o.cls = .type "tuple" → o.data = .seq vs n → RdNA h vs.toList xs → RdN h (.ref a) (.tuple xs)
  | dic {a : Addr} {o : Obj} {es : Array DictEntry} {n : Nat} {l : List (PyData × PyData)} : h.get? a = some o → o.cls = .type "dict" → o.data = .dict es n → (a == sysModules) = false → RdNA h (es.toList.map (·.key)) (l.map (·.1)) → RdNA h (es.toList.map (·.val)) (l.map (·.2)) → RdN h (.ref a) (.dict l)
inductive RdNA (h : Heap) : List Value → List PyData → Prop
  | nil : RdNA h [] []
  | cons {v : Value} {vs : List Value} {d : PyData} {ds : List PyData} : RdN h v d → RdNA h vs ds → RdNA h (v :: vs) (d :: ds)
end
section
variable {h : Heap}
mutual
theorem RdN.reads : ∀ {v : Value} {d : PyData}, RdN h v d → ∃ as, Reads h v d as
  | _, _, .non => ⟨_, .none⟩
  | _, _, .bl b => ⟨_, .bool b⟩
  | _, _, .int i t => ⟨_, .int i t⟩
  | _, _, .str x t => ⟨_, .str x t⟩
  | _, _, .lst h1 h2 h3 r => let ⟨_, q⟩ := r.reads; ⟨_, .list h1 h2 h3 q⟩
  | _, _, .tup h1 h2 h3 r => let ⟨_, q⟩ := r.reads; ⟨_, .tuple h1 h2 h3 q⟩
  | _, _, .dic h1 h2 h3 _ r s => let ⟨_, q⟩ := r.reads; let ⟨_, p⟩ := s.reads; ⟨_, .dict h1 h2 h3 q p⟩
theorem RdNA.reads : ∀ {vs : List Value} {ds : List PyData}, RdNA h vs ds → ∃ as, ReadsAll h vs ds as
  | _, _, .nil => ⟨_, .nil⟩
  | _, _, .cons r s => let ⟨_, q⟩ := r.reads; let ⟨_, p⟩ := s.reads; ⟨_, .cons q p⟩
end
mutual
theorem RdN.reprK {P : Program} {w : World} : ∀ {v : Value} {d : PyData}, RdN h v d → d.showable = true → d.shown.length ≤ sizeLine → ∃ bs, ReadAtMost h d.depth bs ∧ ReprK P w bs h d.depth v d.shown
  | _, _, .non, s, z => ReprK.of_reads .none s (fun e => nomatch e) z
  | _, _, .bl b, s, z => ReprK.of_reads (.bool b) s (fun e => nomatch e) z
  | _, _, .int i t, s, z => ReprK.of_reads (.int i t) s (fun e => nomatch e) z
  | _, _, .str x t, s, z => ReprK.of_reads (.str x t) s (fun e => nomatch e) z
  | _, _, .lst (a := a) (vs := vs) (xs := xs) h1 h2 h3 r, s, z => by
    have z1 : (listText (PyData.shownAll xs)).length ≤ sizeLine := by simpa only [PyData.shown] using z
    obtain ⟨bs, hb, hk⟩ := r.reprK (P := P) (w := w) (by simpa [PyData.showable] using s) fun t ht => Nat.le_trans (listText_mem_le ht) z1
    obtain ⟨as, q⟩ := r.reads
    have rr : Reads h (.ref a) (.list xs) _ := .list h1 h2 h3 q
    have no : a ∉ bs := not_mem_of_deeper rr (by simp only [PyData.depth]; omega) hb
    refine ⟨a :: bs, ReadAtMost.cons rr (by simp only [PyData.depth]; omega) hb, ?_⟩
    simp only [PyData.depth, PyData.shown]
    obtain ⟨l⟩ := vs
    cases l with
    | nil =>
      have r' : RdNA h [] xs := r
      cases r'
      simp only [PyData.shownAll, listText_nil]
      exact ReprK.listEmpty h1 h2 h3
    | cons x l => exact ReprK.list h1 h2 h3 no (by simpa using hk.length_eq) fun i y e => hk.item i y (by simpa using e)
  | _, _, .tup (a := a) (xs := xs) h1 h2 h3 r, s, z => by
    have z1 : (tupleText (PyData.shownAll xs)).length ≤ sizeLine := by simpa only [PyData.shown] using z
    obtain ⟨bs, hb, hk⟩ := r.reprK (P := P) (w := w) (by simpa [PyData.showable] using s) fun t ht => Nat.le_trans (tupleText_mem_le ht) z1
    obtain ⟨as, q⟩ := r.reads
    have rr : Reads h (.ref a) (.tuple xs) _ := .tuple h1 h2 h3 q
    have no : a ∉ bs := not_mem_of_deeper rr (by simp only [PyData.depth]; omega) hb
    refine ⟨a :: bs, ReadAtMost.cons rr (by simp only [PyData.depth]; omega) hb, ?_⟩
    simp only [PyData.depth, PyData.shown]
    exact ReprK.tuple h1 h2 h3 no hk
  | _, _, .dic (a := a) (es := es) (l := l) h1 h2 h3 sy r1 r2, s, z => by
    have z1 : (dictText (PyData.shownKv l)).length ≤ sizeLine := by simpa only [PyData.shown] using z
    obtain ⟨s1, s2⟩ := PyData.showableKv_split l (by simpa [PyData.showable] using s)
    obtain ⟨b1, hb1, k1⟩ := r1.reprK (P := P) (w := w) s1 fun t ht => let ⟨p, hp, hl⟩ := PyData.shownKv_key_le l t ht; Nat.le_trans hl (Nat.le_trans (dictText_mem_le hp) z1)
    obtain ⟨b2, hb2, k2⟩ := r2.reprK (P := P) (w := w) s2 fun t ht => let ⟨p, hp, hl⟩ := PyData.shownKv_val_le l t ht; Nat.le_trans hl (Nat.le_trans (dictText_mem_le hp) z1)
    obtain ⟨as, q1⟩ := r1.reads
    obtain ⟨as', q2⟩ := r2.reads
    have rr : Reads h (.ref a) (.dict l) _ := .dict h1 h2 h3 q1 q2
    have hb : ReadAtMost h (PyData.depthKv l) (b1 ++ b2) := (hb1.mono (PyData.depthAll_keys_le l)).append (hb2.mono (PyData.depthAll_vals_le l))
    have no : a ∉ b1 ++ b2 := not_mem_of_deeper rr (by simp only [PyData.depth]; omega) hb
    refine ⟨a :: (b1 ++ b2), ReadAtMost.cons rr (by simp only [PyData.depth]; omega) hb, ?_⟩
    simp only [PyData.depth, PyData.shown, PyData.shownKv_eq]
    refine ReprK.dict h1 h2 h3 sy no (ReprEntriesK.of_two es.toList _ _ ?_ ?_)
    · exact k1.more_le (fun b hb => List.mem_append_left _ hb) (PyData.depthAll_keys_le l)
    · exact k2.more_le (fun b hb => List.mem_append_right _ hb) (PyData.depthAll_vals_le l)
theorem RdNA.reprK {P : Program} {w : World} : ∀ {vs : List Value} {ds : List PyData}, RdNA h vs ds → PyData.showableAll ds = true → (∀ t ∈ PyData.shownAll ds, t.length ≤ sizeLine) → ∃ bs, ReadAtMost h (PyData.depthAll ds) bs ∧ ReprAllK P w bs h (PyData.depthAll ds) vs (PyData.shownAll ds)
  | _, _, .nil, _, _ => ⟨[], (fun _ h => nomatch h), by simp only [PyData.shownAll]; exact .nil⟩
  | _, _, .cons (d := d) (ds := ds) r rs, s, z => by
    have s' : d.showable = true ∧ PyData.showableAll ds = true := by simpa [PyData.showableAll] using s
    obtain ⟨b1, hb1, k1⟩ := r.reprK (P := P) (w := w) s'.1 (z _ (by simp only [PyData.shownAll]; exact List.mem_cons_self ..))
    obtain ⟨b2, hb2, k2⟩ := rs.reprK (P := P) (w := w) s'.2 fun t ht => z t (by simp only [PyData.shownAll]; exact List.mem_cons_of_mem _ ht)
    refine ⟨b1 ++ b2, fun b hm => ?_, ?_⟩
    · simp only [PyData.depthAll]
      rcases List.mem_append.mp hm with hm | hm
      · obtain ⟨d', as', r', hd'⟩ := hb1 b hm
        exact ⟨d', as', r', Nat.le_trans hd' (Nat.le_max_left ..)⟩
      · obtain ⟨d', as', r', hd'⟩ := hb2 b hm
        exact ⟨d', as', r', Nat.le_trans hd' (Nat.le_max_right ..)⟩
    · simp only [PyData.depthAll, PyData.shownAll]
      refine .cons ?_ (k2.more_le (fun b hb => List.mem_append_right _ hb) (Nat.le_max_right ..))
      exact (k1.more fun b hb => List.mem_append_left _ hb).level_le (Nat.le_max_left ..)
end
variable {P : Program} {w : World}
theorem RdN.repr {A : Around} {E : Value → Shared → Prop} {s : Shared} {a : Addr} {d : PyData} {Q : Value → Shared → Prop} (r : RdN s.heap (.ref a) d) (sh : d.showable = true) (z : d.shown.length ≤ sizeLine) (gd : A.guards = some []) (hu : A.units + (d.depth + 1) < cLine)
    (fin : ∀ h' u tk, (∀ b o, s.heap.get? b = some o → h'.get? b = some o) → Q (.str d.shown u) { s with heap := h', toks := tk }) : wpAny (model P w) A (call (.builtin "repr") [.ref a]) Q E s := by
  have use : ∀ {T idr : String}, SlotG T "__repr__" idr → s.TypeIs (.ref a) T → wpAny (model P w) A.in1 (call (.builtin idr) [.ref a]) (fun r s₁ => ∃ x t, r = .str x t ∧ Q r s₁) E s → wpAny (model P w) A (call (.builtin "repr") [.ref a]) Q E s :=
    fun sl ty c => call_repr_slot (by omega) ty sl c
  have g1 : A.in1.guards = some [] := gd
  cases r with
  | lst h1 h2 h3 r =>
    rename_i o vs n xs
    have z1 : (listText (PyData.shownAll xs)).length ≤ sizeLine := by simpa only [PyData.shown] using z
    obtain ⟨bs, hb, hk⟩ := r.reprK (P := P) (w := w) (by simpa [PyData.showable] using sh) fun t ht => Nat.le_trans (listText_mem_le ht) z1
    obtain ⟨as, q⟩ := r.reads
    have no : a ∉ bs := not_mem_of_deeper (.list h1 h2 h3 q) (by simp only [PyData.depth]; omega) hb
    refine use PySem.F.slot_list_repr.toG ⟨o, h1, h2⟩ ?_
    simp only [PyData.depth] at hu
    simp only [PyData.shown] at fin
    obtain ⟨l⟩ := vs
    cases l with
    | nil =>
      have r' : RdNA s.heap [] xs := r
      cases r'
      simp only [PyData.shownAll, listText_nil] at fin
      exact call_list_repr_empty ⟨o, h1, h2⟩ h1 h3 ⟨_, _, rfl, fin s.heap _ _ fun _ _ e => e⟩
    | cons x l =>
      exact call_list_reprK h1 h2 h3 no (by simpa using hk.length_eq) (fun i y e => hk.item i y (by simpa using e)) g1 (fun b _ => Clear.nil b) (by show A.units + 1 + _ < _; omega) (fun _ _ e => e) (fun h' u tk kk => ⟨_, _, rfl, fin h' u tk kk⟩) z1
  | tup h1 h2 h3 r =>
    rename_i o vs n xs
    have z1 : (tupleText (PyData.shownAll xs)).length ≤ sizeLine := by simpa only [PyData.shown] using z
    obtain ⟨bs, hb, hk⟩ := r.reprK (P := P) (w := w) (by simpa [PyData.showable] using sh) fun t ht => Nat.le_trans (tupleText_mem_le ht) z1
    obtain ⟨as, q⟩ := r.reads
    have no : a ∉ bs := not_mem_of_deeper (.tuple h1 h2 h3 q) (by simp only [PyData.depth]; omega) hb
    refine use PySem.F.slot_tuple_repr ⟨o, h1, h2⟩ ?_
    simp only [PyData.depth] at hu
    simp only [PyData.shown] at fin
    exact call_tuple_reprK h1 h2 h3 no hk g1 (fun b _ => Clear.nil b) (by show A.units + 1 + _ < _; omega) (fun _ _ e => e) (fun h' u tk kk => ⟨_, _, rfl, fin h' u tk kk⟩) z1
  | dic h1 h2 h3 sy r1 r2 =>
    rename_i o es n l
    have z1 : (dictText (PyData.shownKv l)).length ≤ sizeLine := by simpa only [PyData.shown] using z
    obtain ⟨s1, s2⟩ := PyData.showableKv_split l (by simpa [PyData.showable] using sh)
    obtain ⟨b1, hb1, k1⟩ := r1.reprK (P := P) (w := w) s1 fun t ht => let ⟨p, hp, hl⟩ := PyData.shownKv_key_le l t ht; Nat.le_trans hl (Nat.le_trans (dictText_mem_le hp) z1)
    obtain ⟨b2, hb2, k2⟩ := r2.reprK (P := P) (w := w) s2 fun t ht => let ⟨p, hp, hl⟩ := PyData.shownKv_val_le l t ht; Nat.le_trans hl (Nat.le_trans (dictText_mem_le hp) z1)
    obtain ⟨as, q1⟩ := r1.reads
    obtain ⟨as', q2⟩ := r2.reads
    have hb : ReadAtMost s.heap (PyData.depthKv l) (b1 ++ b2) := (hb1.mono (PyData.depthAll_keys_le l)).append (hb2.mono (PyData.depthAll_vals_le l))
    have no : a ∉ b1 ++ b2 := not_mem_of_deeper (.dict h1 h2 h3 q1 q2) (by simp only [PyData.depth]; omega) hb
    refine use PySem.F.slot_dict_repr ⟨o, h1, h2⟩ ?_
    simp only [PyData.depth] at hu
    simp only [PyData.shown, PyData.shownKv_eq] at fin
    refine call_dict_reprK (d := PyData.depthKv l) h1 h2 h3 sy no (ReprEntriesK.of_two es.toList _ _ ?_ ?_) g1 (fun b _ => Clear.nil b) (by show A.units + 1 + _ < _; omega) (fun _ _ e => e) (fun h' u tk kk => ⟨_, _, rfl, fin h' u tk kk⟩) (by rw [← PyData.shownKv_eq]; exact z1)
    · exact k1.more_le (fun b hb => List.mem_append_left _ hb) (PyData.depthAll_keys_le l)
    · exact k2.more_le (fun b hb => List.mem_append_right _ hb) (PyData.depthAll_vals_le l)
end
/-! ### data through the store -/
def keyP : L2.Key → PyData
  | .inl i => .int i
  | .inr x => .str x
mutual
inductive PyR (m : Sto) : D → PyData → Prop
  | non : PyR m .non .none
  | bl (b : Bool) : PyR m (.bl b) (.bool b)
  | int (i : Int) : PyR m (.int i) (.int i)
  | str (x : Str) : PyR m (.str x) (.str x)
  | tup {ds : List D} {ps : List PyData} : PyRA m ds ps → PyR m (.tup ds) (.tuple ps)
  | lst {ds : List D} {ps : List PyData} : PyRA m ds ps → PyR m (.lst ds) (.list ps)
  | fz {ds : List D} {ps : List PyData} : PyRA m ds ps → PyR m (.fz ds) (.list ps)
  | ptr {i : Nat} {ds : List D} {ps : List PyData} : m[i]? = some (.lst ds) → PyRA m ds ps → PyR m (.ptr i) (.list ps)
  | dic {kvs : List (L2.Key × D)} {l : List (PyData × PyData)} : PyRD m kvs l → PyR m (.dic kvs) (.dict l)
  | dptr {i : Nat} {kvs : List (L2.Key × D)} {l : List (PyData × PyData)} : m[i]? = some (.dic kvs) → PyRD m kvs l → PyR m (.ptr i) (.dict l)
inductive PyRA (m : Sto) : List D → List PyData → Prop
  | nil : PyRA m [] []
  | cons {d : D} {ds : List D} {p : PyData} {ps : List PyData} : PyR m d p → PyRA m ds ps → PyRA m (d :: ds) (p :: ps)
inductive PyRD (m : Sto) : List (L2.Key × D) → List (PyData × PyData) → Prop
  | nil : PyRD m [] []
  | cons {k : L2.Key} {d : D} {kvs : List (L2.Key × D)} {p : PyData} {l : List (PyData × PyData)} : PyR m d p → PyRD m kvs l → PyRD m ((k, d) :: kvs) ((keyP k, p) :: l)
end
variable [Cl] [Lk]
section
variable {X : Cx} {pins : List (Addr × Obj)} {σ : L2.St} {H : Hp} {s : Shared} {W : Wd} {F : Hp} {m : Sto}
theorem key_reads {P : Program} {w : World} {h : Heap} {k : L2.Key} {v : Value} (e : (mixKind P w).is k v = true) : RdN h v (keyP k) := by
  cases k with
  | inl i =>
    obtain ⟨t, rfl⟩ := Value.isInt_shape (show Value.isInt i v = true from e)
    exact .int i t
  | inr x =>
    obtain ⟨t, rfl⟩ := Value.isStrOf_shape (show Value.isStrOf x v = true from e)
    exact .str x t
mutual
theorem rdn_of (I : Inv X pins σ H s) (rel : Rel X.K W F H m) : ∀ {d : D} {p : PyData} {x : V} {u : Value}, PyR m d p → R X.K W x d → RelV x u → RdN s.heap u p
  | _, _, _, _, .non, r, ru => by cases r; cases ru; exact .non
  | _, _, _, _, .bl b, r, ru => by cases r; cases ru; exact .bl b
  | _, _, _, _, .int i, r, ru => by cases r; obtain ⟨t, rfl⟩ := ru; exact .int i t
  | _, _, _, _, .str x, r, ru => by cases r; obtain ⟨t, rfl⟩ := ru; exact .str x t
  | _, _, _, _, .tup q, r, ru => by
    cases r with
    | tup hs ra =>
      cases ru
      obtain ⟨its, rv, ⟨o, ho, hc, n, hd⟩, _⟩ := I.tuple (same_seqT rel.sub hs)
      exact .tup ho hc hd (rdnA_of I rel q ra rv)
  | _, _, _, _, .lst q, r, ru => by
    cases r with
    | lst hs ra =>
      cases ru
      obtain ⟨its, rv, ⟨o, n, ho, hc, _, hd⟩, _⟩ := I.list (SqL.of (rel.sub _ _ hs))
      exact .lst ho hc hd (rdnA_of I rel q ra rv)
  | _, _, _, _, .fz q, r, ru => by
    cases r with
    | fz hs ra =>
      cases ru
      obtain ⟨its, rv, ⟨o, n, ho, hc, _, hd⟩, _⟩ := I.list (same_seqL rel.sub hs)
      exact .lst ho hc hd (rdnA_of I rel q ra rv)
  | _, _, _, _, .ptr hm q, r, ru => by
    cases r with
    | ptr hb =>
      cases ru
      obtain ⟨b, h1, _, _, xs, h4, ra⟩ := rel.cell _ _ hm (fun z => by cases z)
      obtain rfl := Option.some.inj (h1.symm.trans hb)
      obtain ⟨its, rv, ⟨o, n, ho, hc, _, hd⟩, _⟩ := I.list (SqL.of h4)
      exact .lst ho hc hd (rdnA_of I rel q ra rv)
  | _, _, _, _, .dic q, r, ru => by
    cases r with
    | dic hs rd =>
      cases ru
      obtain ⟨hz, hS, vs, kv, o, es, ep, ho, hx, hd, hk, hp, hn⟩ := I.hok _ _ (rel.sub _ _ hs)
      obtain ⟨g1, g2⟩ := rdnD_of I rel q rd kv hp
      exact .dic ho hx.1 hd hS g1 g2
  | _, _, _, _, .dptr hm q, r, ru => by
    cases r with
    | ptr hb =>
      cases ru
      obtain ⟨b, h1, _, _, xs, h4, rd⟩ := rel.cell _ _ hm (fun z => by cases z)
      obtain rfl := Option.some.inj (h1.symm.trans hb)
      obtain ⟨hz, hS, vs, kv, o, es, ep, ho, hx, hd, hk, hp, hn⟩ := I.hok _ _ h4
      obtain ⟨g1, g2⟩ := rdnD_of I rel q rd kv hp
      exact .dic ho hx.1 hd hS g1 g2
theorem rdnA_of (I : Inv X pins σ H s) (rel : Rel X.K W F H m) : ∀ {ds : List D} {ps : List PyData} {xs : List V} {us : List Value}, PyRA m ds ps → RA X.K W xs ds → Vals xs us → RdNA s.heap us ps
  | _, _, _, _, .nil, r, ru => by cases r; cases ru; exact .nil
  | _, _, _, _, .cons q qs, r, ru => by
    cases r with
    | cons r1 r2 =>
      cases ru with
      | cons u1 u2 => exact .cons (rdn_of I rel q r1 u1) (rdnA_of I rel qs r2 u2)
theorem rdnD_of (I : Inv X pins σ H s) (rel : Rel X.K W F H m) : ∀ {ds : List (L2.Key × D)} {l : List (PyData × PyData)} {xs : List (L2.Key × V)} {vs : List (L2.Key × Value)} {es : List DictEntry}, PyRD m ds l → RD X.K W xs ds → KV xs vs → Pairs (mixKind X.prog X.w) es vs →
    RdNA s.heap (es.map (·.key)) (l.map (·.1)) ∧ RdNA s.heap (es.map (·.val)) (l.map (·.2))
  | _, _, _, _, _, .nil, r, kv, p => by cases r; cases kv; cases p; exact ⟨.nil, .nil⟩
  | _, _, _, _, es, .cons q qs, r, kv, p => by
    cases r with
    | @cons k v vs d ds r1 r2 =>
      cases kv with
      | @cons a b as bs hh t =>
        cases p with
        | @cons e kv' es' kvs' h1 h2 p' =>
          obtain ⟨g1, g2⟩ := rdnD_of I rel qs r2 t p'
          obtain ⟨b1, b2⟩ := b
          obtain ⟨e1, e2⟩ := hh
          simp only at e1 e2
          subst e1
          exact ⟨.cons (key_reads h1) g1, .cons (by show RdN s.heap e.val _; rw [h2]; exact rdn_of I rel q r1 e2) g2⟩
end
end
mutual
theorem dp_pyr {K : PySem.W.Frag} {W : Wd} {F H : Hp} {m : Sto} (rel : Rel K W F H m) : ∀ {d : D} {p : PyData} {x : V}, PyR m d p → p.hasDict = false → R K W x d → Dp K H x p
  | _, _, _, .non, _, r => by cases r; exact .non
  | _, _, _, .bl b, _, r => by cases r; exact .bl b
  | _, _, _, .int i, _, r => by cases r; exact .int i
  | _, _, _, .str x, _, r => by cases r; exact .str x
  | _, _, _, .tup q, n, r => by
    cases r with
    | tup hs ra => exact .tup (same_seqT rel.sub hs) (dpA_pyr rel q (by simpa only [PyData.hasDict] using n) ra)
  | _, _, _, .lst q, n, r => by
    cases r with
    | lst hs ra => exact .lst (SqL.of (rel.sub _ _ hs)) (dpA_pyr rel q (by simpa only [PyData.hasDict] using n) ra)
  | _, _, _, .fz q, n, r => by
    cases r with
    | fz hs ra => exact .lst (same_seqL rel.sub hs) (dpA_pyr rel q (by simpa only [PyData.hasDict] using n) ra)
  | _, _, _, .ptr hm q, n, r => by
    cases r with
    | ptr hb =>
      obtain ⟨b, h1, _, _, xs, h4, ra⟩ := rel.cell _ _ hm (fun z => by cases z)
      obtain rfl := Option.some.inj (h1.symm.trans hb)
      exact .lst (SqL.of h4) (dpA_pyr rel q (by simpa only [PyData.hasDict] using n) ra)
  | _, _, _, .dic q, n, r => by simp only [PyData.hasDict] at n; cases n
  | _, _, _, .dptr hm q, n, r => by simp only [PyData.hasDict] at n; cases n
theorem dpA_pyr {K : PySem.W.Frag} {W : Wd} {F H : Hp} {m : Sto} (rel : Rel K W F H m) : ∀ {ds : List D} {ps : List PyData} {xs : List V}, PyRA m ds ps → PyData.hasDictAll ps = false → RA K W xs ds → DpAll K H xs ps
  | _, _, _, .nil, _, r => by cases r; exact .nil
  | _, _, _, .cons q qs, n, r => by
    cases r with
    | cons r1 r2 =>
      rw [PyData.hasDictAll, Bool.or_eq_false_iff] at n
      have n' := n
      exact .cons (dp_pyr rel q n'.1 r1) (dpA_pyr rel qs n'.2 r2)
end
/-! ### == and repr -/
@[irreducible] def dEqS (neg : Bool) (x y : D) (m : Sto) (q : D → Sto → Prop) : Prop := ∃ a b, PyR m x a ∧ PyR m y b ∧ (a.hasDict = false ∧ SeqAt.shaped a = true) ∧ (b.hasDict = false ∧ SeqAt.shaped b = true) ∧ q (.bl (if neg then !PyData.eqv a b else PyData.eqv a b)) m
def dEqD : F2
  | .int i, .int j, m, q => q (.bl (decide (i = j))) m
  | .bl i, .bl j, m, q => q (.bl (decide (i = j))) m
  | .str i, .str j, m, q => q (.bl (decide (i = j))) m
  | x, y, m, q => dEqS false x y m q
def dNeD : F2
  | .int i, .int j, m, q => q (.bl (!decide (i = j))) m
  | .bl i, .bl j, m, q => q (.bl (!decide (i = j))) m
  | .str i, .str j, m, q => q (.bl (!decide (i = j))) m
  | x, y, m, q => dEqS true x y m q
theorem o_eqD {K : PySem.W.Frag} : Op2 K dEqD (rrEq K) := by
  intro W F H m x y d e q Q rel rx ry h k
  unfold dEqD at h
  split at h
  · cases rx; cases ry
    refine .inl ⟨rfl, ?_⟩
    rw [v_int]
    exact k _ _ _ _ _ (.refl _) rel (.bl _) h
  · cases rx; cases ry
    refine .inl ⟨rfl, ?_⟩
    rw [v_bl]
    exact k _ _ _ _ _ (.refl _) rel (.bl _) h
  · cases rx; cases ry
    refine .inl ⟨rfl, ?_⟩
    rw [v_str]
    exact k _ _ _ _ _ (.refl _) rel (.bl _) h
  · unfold dEqS at h
    obtain ⟨a, b, e1, e2, h1, h2, h⟩ := h
    exact .inr ⟨a, b, dp_pyr rel e1 h1.1 rx, dp_pyr rel e2 h2.1 ry, h1.2, h2.2, k _ _ _ _ _ (.refl _) rel (.bl _) h⟩
theorem o_neD {K : PySem.W.Frag} : Op2 K dNeD (rrNe K) := by
  intro W F H m x y d e q Q rel rx ry h k
  unfold dNeD at h
  split at h
  · cases rx; cases ry
    refine .inl ⟨rfl, ?_⟩
    rw [v_int]
    exact k _ _ _ _ _ (.refl _) rel (.bl _) h
  · cases rx; cases ry
    refine .inl ⟨rfl, ?_⟩
    rw [v_bl]
    exact k _ _ _ _ _ (.refl _) rel (.bl _) h
  · cases rx; cases ry
    refine .inl ⟨rfl, ?_⟩
    rw [v_str]
    exact k _ _ _ _ _ (.refl _) rel (.bl _) h
  · unfold dEqS at h
    obtain ⟨a, b, e1, e2, h1, h2, h⟩ := h
    exact .inr ⟨a, b, dp_pyr rel e1 h1.1 rx, dp_pyr rel e2 h2.1 ry, h1.2, h2.2, k _ _ _ _ _ (.refl _) rel (.bl _) h⟩
section
variable {X : Cx} {a b : Expr} {ta tb : DE} {p pos : Pos} {k : Nat}
theorem je_eqD (hr : Room k X.A) (ha : JE X a ta) (hb : JE X b tb) : JE X (.Compare a [.Eq] [b] pos) (dBin dEqD ta tb) := je_cmp (op_eqAll (units64 hr)) o_eqD ha hb (nobehind _ (by decide) (by decide))
theorem je_neD (hr : Room k X.A) (ha : JE X a ta) (hb : JE X b tb) : JE X (.Compare a [.NotEq] [b] pos) (dBin dNeD ta tb) := je_cmp (op_neAll (units64 hr)) o_neD ha hb (nobehind _ (by decide) (by decide))
theorem jt_eqD (hr : Room k X.A) (ha : JE X a ta) (hb : JE X b tb) : JT X (.Compare a [.Eq] [b] pos) (dTest (dBin dEqD ta tb)) := jt_cmp (op_eqAll (units64 hr)) o_eqD ha hb (nobehind _ (by decide) (by decide))
theorem jt_neD (hr : Room k X.A) (ha : JE X a ta) (hb : JE X b tb) : JT X (.Compare a [.NotEq] [b] pos) (dTest (dBin dNeD ta tb)) := jt_cmp (op_neAll (units64 hr)) o_neD ha hb (nobehind _ (by decide) (by decide))
/-- what can be shown -/
structure Sd (k c : Nat) (v : PyData) : Prop where
  dep : v.depth ≤ k
  sho : v.showable = true
  len : v.shown.length ≤ c
@[irreducible] def dReprSF (x : D) (m : Sto) (q : D → Sto → Prop) : Prop := ∃ v, PyR m x v ∧ Sd 60 sizeLine v ∧ q (.str v.shown) m
def dReprS : FN
  | [x], m, q => dReprSF x m q
  | _, _, _ => False
def rReprS (X : Cx) : List V → Hp → VK → Prop := fun xs H Q => ∃ x v, xs = [x] ∧ (∀ (pins : List (Addr × Obj)) (σ : L2.St) (s : Shared) (u : Value), Inv X pins σ H s → RelV x u → RdN s.heap u v) ∧ Sd 60 sizeLine v ∧ Q (.str v.shown) H
theorem call_reprS (gd : X.A.guards = some []) (hu : X.A.units + 65 < cLine) : CallR X (.builtin "repr") (rReprS X) := by
  intro pins s σ H xs us Q I r h
  obtain ⟨x, v, rfl, rd, sd, q⟩ := h
  obtain ⟨u, rfl, rx⟩ := vals1 r
  have rd := rd pins σ s u I rx
  have dp := sd.dep
  have fin : ∀ (h' : Heap) (tk : Tok) (tk2 : Nat), (∀ b o, s.heap.get? b = some o → h'.get? b = some o) → EP X pins σ Q (.str v.shown tk) { s with heap := h', toks := tk2 } := fun h' tk tk2 kk => ⟨.str v.shown, H, I.kept kk, ⟨tk, rfl⟩, q⟩
  have deep : ∀ {a : Addr}, RdN s.heap (.ref a) v → wpAny (model X.prog X.w) X.A (call (.builtin "repr") [.ref a]) (EP X pins σ Q) X.xe s := fun rd => rd.repr sd.sho sd.len gd (by omega) fun h' tk tk2 kk => fin h' tk tk2 kk
  have s1 := sd.sho
  have s2 := sd.len
  cases rd with
  | non => exact PySem.P.repr_of_none (fin s.heap _ _ fun _ _ e => e)
  | bl b => exact PySem.P.repr_of_bool (fin s.heap _ _ fun _ _ e => e)
  | int i t =>
    have hz : i.natAbs.log2 < 1920 := by simpa [PyData.showable] using s1
    exact PySem.P.repr_of_int hz (fin s.heap _ _ fun _ _ e => e)
  | str z t => exact PySem.P.repr_of_str (fin s.heap _ _ fun _ _ e => e) s2
  | lst h1 h2 h3 r' => exact deep (.lst h1 h2 h3 r')
  | tup h1 h2 h3 r' => exact deep (.tup h1 h2 h3 r')
  | dic h1 h2 h3 sy r1 r2 => exact deep (.dic h1 h2 h3 sy r1 r2)
theorem o_reprS : OpN X.K dReprS (rReprS X) := by
  intro W F H m xs ds q Q rel ra h k
  unfold dReprS at h
  split at h
  · unfold dReprSF at h
    obtain ⟨v, rfl, rv⟩ := ra1 ra
    obtain ⟨p, py, sd, h⟩ := h
    exact ⟨v, p, rfl, fun pins σ s u I ru => rdn_of I rel py rv ru, sd, k _ _ _ _ _ (.refl _) rel (.str _) h⟩
  · exact h.elim
theorem je_reprS (hr : Room k X.A) (gd : X.A.guards = some []) (hg : Gl X "repr") (hm : X.mg "repr" = none) (ha : JE X a ta) (hs : starEach [a] X.env = (false, eval a X.env) :: starEach [] X.env := by rfl) (hp : (backTo pos (starEach [] X.env)).any (·.1) = false := by rfl) : JE X (.Call (.Name "repr" p) [a] [] pos) (dCallB dReprS (a1 ta)) :=
  je_callB (call_reprS gd (units65 hr)) o_reprS hg hm (by decide +kernel) (ja_cons ha ja_nil hs) (by decide) (by decide) hs hp
end
/-! ### what is known of data -/
theorem Sd.mono {k c k' c' : Nat} {v : PyData} (h : Sd k c v) (hk : k ≤ k') (hc : c ≤ c') : Sd k' c' v := ⟨Nat.le_trans h.dep hk, h.sho, Nat.le_trans h.len hc⟩
theorem Pd.sd {k c : Nat} {v : PyData} (h : Pd k c v) : Sd k c v := ⟨h.dep, h.sho, h.len⟩
theorem sd_all {k c : Nat} : ∀ {vs : List PyData}, (∀ v ∈ vs, Sd k c v) → PyData.depthAll vs ≤ k ∧ PyData.showableAll vs = true ∧ ((PyData.shownAll vs).map (·.length)).sum ≤ c * vs.length ∧ (PyData.shownAll vs).length = vs.length
  | [], _ => ⟨Nat.zero_le _, rfl, Nat.le_refl _, rfl⟩
  | v :: vs, h => by
    have p := h v List.mem_cons_self
    obtain ⟨h2, h3, h4, h5⟩ := sd_all fun x hx => h x (List.mem_cons_of_mem _ hx)
    refine ⟨?_, ?_, ?_, ?_⟩
    · simp only [PyData.depthAll]; have := p.dep; omega
    · simp only [PyData.showableAll, p.sho, h3, Bool.and_self]
    · simp only [PyData.shownAll, List.map_cons, List.sum_cons, List.length_cons]
      have := p.len
      rw [Nat.mul_add]
      omega
    · simp only [PyData.shownAll, List.length_cons, h5]
theorem sd_tup {k c : Nat} {vs : List PyData} (h : ∀ v ∈ vs, Sd k c v) : Sd (k + 1) ((c + 2) * vs.length + 3) (.tuple vs) := by
  obtain ⟨h2, h3, h4, h5⟩ := sd_all h
  refine ⟨by simp only [PyData.depth]; omega, by simpa only [PyData.showable] using h3, ?_⟩
  have := tupleText_len_le (PyData.shownAll vs)
  simp only [PyData.shown]
  rw [Nat.add_mul]
  omega
theorem sd_lst {k c : Nat} {vs : List PyData} (h : ∀ v ∈ vs, Sd k c v) : Sd (k + 1) ((c + 2) * vs.length + 3) (.list vs) := by
  obtain ⟨h2, h3, h4, h5⟩ := sd_all h
  refine ⟨by simp only [PyData.depth]; omega, by simpa only [PyData.showable] using h3, ?_⟩
  have := listText_len_le (PyData.shownAll vs)
  simp only [PyData.shown]
  rw [Nat.add_mul]
  omega
/-- what may be shown, and what may be compared too -/
def Sh (m : Sto) (k c : Nat) (d : D) : Prop := ∃ v, PyR m d v ∧ Sd k c v
def Cm (m : Sto) (k c : Nat) (d : D) : Prop := ∃ v, PyR m d v ∧ Pd k c v
theorem Cm.sh {m : Sto} {k c : Nat} {d : D} (h : Cm m k c d) : Sh m k c d := let ⟨v, a, b⟩ := h; ⟨v, a, b.sd⟩
mutual
theorem pyr_py {m : Sto} : ∀ {d : D} {v : PyData}, py0 d = some v → PyR m d v
  | .non, _, e => by cases e; exact .non
  | .bl b, _, e => by cases e; exact .bl b
  | .int i, _, e => by cases e; exact .int i
  | .str x, _, e => by cases e; exact .str x
  | .tup ds, _, e => by
    simp only [py0, Option.map_eq_some_iff] at e
    obtain ⟨ps, e, rfl⟩ := e
    exact .tup (pyrA_py e)
  | .lst ds, _, e => by
    simp only [py0, Option.map_eq_some_iff] at e
    obtain ⟨ps, e, rfl⟩ := e
    exact .lst (pyrA_py e)
  | .fz ds, _, e => by
    simp only [py0, Option.map_eq_some_iff] at e
    obtain ⟨ps, e, rfl⟩ := e
    exact .fz (pyrA_py e)
  | .ptr _, _, e => by cases e
  | .ty _, _, e => by cases e
  | .dic _, _, e => by cases e
  | .adr _, _, e => by cases e
  | .gl _, _, e => by cases e
theorem pyrA_py {m : Sto} : ∀ {ds : List D} {ps : List PyData}, py0A ds = some ps → PyRA m ds ps
  | [], _, e => by cases e; exact .nil
  | d :: ds, ps, e => by
    unfold py0A at e
    cases e1 : py0 d with
    | none => rw [e1] at e; simp at e
    | some p =>
      cases e2 : py0A ds with
      | none => rw [e1, e2] at e; simp at e
      | some qs =>
        rw [e1, e2] at e
        cases e
        exact .cons (pyr_py e1) (pyrA_py e2)
end
theorem Gd.cm {m : Sto} {k c : Nat} {d : D} (h : Gd k c d) : Cm m k c d := let ⟨v, e, p⟩ := h; ⟨v, pyr_py e, p⟩
theorem pyrA_all {m : Sto} {P : PyData → Prop} : ∀ {ds : List D}, (∀ d ∈ ds, ∃ v, PyR m d v ∧ P v) → ∃ vs, PyRA m ds vs ∧ vs.length = ds.length ∧ ∀ v ∈ vs, P v
  | [], _ => ⟨[], .nil, rfl, fun _ z => nomatch z⟩
  | d :: ds, h => by
    obtain ⟨v, a, b⟩ := h d List.mem_cons_self
    obtain ⟨vs, c, l, e⟩ := pyrA_all fun x hx => h x (List.mem_cons_of_mem _ hx)
    refine ⟨v :: vs, .cons a c, by rw [List.length_cons, List.length_cons, l], fun u hu => ?_⟩
    rcases List.mem_cons.mp hu with z | z
    · rw [z]; exact b
    · exact e u z
theorem sh_tup {m : Sto} {k c : Nat} {ds : List D} (h : ∀ d ∈ ds, Sh m k c d) : Sh m (k + 1) ((c + 2) * ds.length + 3) (.tup ds) := by
  obtain ⟨vs, a, l, b⟩ := pyrA_all h
  exact ⟨_, .tup a, by rw [← l]; exact sd_tup b⟩
theorem sh_lst {m : Sto} {k c : Nat} {ds : List D} (h : ∀ d ∈ ds, Sh m k c d) : Sh m (k + 1) ((c + 2) * ds.length + 3) (.lst ds) := by
  obtain ⟨vs, a, l, b⟩ := pyrA_all h
  exact ⟨_, .lst a, by rw [← l]; exact sd_lst b⟩
theorem sh_ptr {m : Sto} {k c i : Nat} {ds : List D} (hm : m[i]? = some (.lst ds)) (h : ∀ d ∈ ds, Sh m k c d) : Sh m (k + 1) ((c + 2) * ds.length + 3) (.ptr i) := by
  obtain ⟨vs, a, l, b⟩ := pyrA_all h
  exact ⟨_, .ptr hm a, by rw [← l]; exact sd_lst b⟩
theorem Sh.mono {m : Sto} {k c k' c' : Nat} {d : D} (h : Sh m k c d) (hk : k ≤ k') (hc : c ≤ c') : Sh m k' c' d := let ⟨v, a, b⟩ := h; ⟨v, a, b.mono hk hc⟩
theorem Cm.mono {m : Sto} {k c k' c' : Nat} {d : D} (h : Cm m k c d) (hk : k ≤ k') (hc : c ≤ c') : Cm m k' c' d := let ⟨v, a, b⟩ := h; ⟨v, a, b.mono hk hc⟩
theorem reprS_i {x : D} {m : Sto} {v : PyData} {q : D → Sto → Prop} (hx : PyR m x v) (p : Sd 60 sizeLine v) (h : q (.str v.shown) m) : dReprSF x m q := by unfold dReprSF; exact ⟨v, hx, p, h⟩
theorem noDict {k c : Nat} {v : PyData} (p : Pd k c v) : v.hasDict = false := PyData.hasDict_of_canLay v p.lay
theorem eqS_py {x y : D} {m : Sto} {a b : PyData} {neg : Bool} {q : D → Sto → Prop} {c c' : Nat} (hx : PyR m x a) (hy : PyR m y b) (pa : Pd 60 c a) (pb : Pd 60 c' b) (h : q (.bl (if neg then !PyData.eqv a b else PyData.eqv a b)) m) : dEqS neg x y m q := by
  unfold dEqS
  exact ⟨a, b, hx, hy, ⟨noDict pa, pd_shaped pa⟩, ⟨noDict pb, pd_shaped pb⟩, h⟩
theorem eqD_py {x y : D} {m : Sto} {a b : PyData} {q : D → Sto → Prop} {c c' : Nat} (hx : PyR m x a) (hy : PyR m y b) (pa : Pd 60 c a) (pb : Pd 60 c' b) (h : q (.bl (PyData.eqv a b)) m) : dEqD x y m q := by
  unfold dEqD
  split
  · cases hx; cases hy; rw [eqv_int] at h; exact h
  · cases hx; cases hy; rw [eqv_bl] at h; exact h
  · cases hx; cases hy; rw [eqv_str] at h; exact h
  · exact eqS_py (neg := false) hx hy pa pb h
theorem neD_py {x y : D} {m : Sto} {a b : PyData} {q : D → Sto → Prop} {c c' : Nat} (hx : PyR m x a) (hy : PyR m y b) (pa : Pd 60 c a) (pb : Pd 60 c' b) (h : q (.bl (!PyData.eqv a b)) m) : dNeD x y m q := by
  unfold dNeD
  split
  · cases hx; cases hy; rw [eqv_int] at h; exact h
  · cases hx; cases hy; rw [eqv_bl] at h; exact h
  · cases hx; cases hy; rw [eqv_str] at h; exact h
  · exact eqS_py (neg := true) hx hy pa pb h
theorem eqD_same {x y : D} {m : Sto} {v : PyData} {q : D → Sto → Prop} {c : Nat} (hx : PyR m x v) (hy : PyR m y v) (p : Pd 60 c v) (h : q (.bl true) m) : dEqD x y m q := by
  refine eqD_py hx hy p p ?_
  rw [SeqAt.eqv_refl v p.lay]
  exact h
theorem eqS_same {x y : D} {m : Sto} {v : PyData} {q : D → Sto → Prop} {c : Nat} {neg : Bool} (hx : PyR m x v) (hy : PyR m y v) (p : Pd 60 c v) (h : q (.bl (!neg)) m) : dEqS neg x y m q := by
  refine eqS_py hx hy p p ?_
  rw [SeqAt.eqv_refl v p.lay]
  cases neg <;> exact h
end DL
/-! Data layer, part 27: isinstance(e, ValueError) of an own exception; xs + ys into the store. -/
namespace DL
open PySem PySem.Spec PyProof.Rows L2
section
variable [Cl] {K : PySem.W.Frag} {mg : Str → Option Value} {c : Str} {C : Addr}
theorem xisb_nil (a : mg "ValueError" = none) : XIs K mg [] "ValueError" := ⟨.type "ValueError", .inr ⟨"ValueError", a, by decide +kernel, rfl, by decide⟩, fun _ z => nomatch z⟩
theorem xisb_cons {cs : List Str} (a : mg "ValueError" = none) (ad : Cl.ad c = some C) (ef : exfB K C = true) (e : PySem.W.kitOne K (.ref C) (.type "ValueError") = some true) (r : XIs K mg cs "ValueError") : XIs K mg (c :: cs) "ValueError" := by
  obtain ⟨u, h2, r⟩ := r.ex
  have hu : u = .type "ValueError" := by
    rcases h2 with ⟨D, h2, rfl⟩ | ⟨n, h2, h3, _⟩
    · rw [h2] at a; cases a
    · have : bootBuiltins "ValueError" = some (.type "ValueError") := by decide +kernel
      rw [this] at h3; exact (Option.some.inj h3).symm
  subst hu
  refine ⟨.type "ValueError", h2, fun x hx D hD => ?_⟩
  rcases List.mem_cons.mp hx with z | z
  · subst z
    rw [ad] at hD; cases hD
    refine ⟨exfB_ok ef, ?_⟩
    rw [e]
    unfold isX
    rw [show (("ValueError" : Str) == ("ValueError" : Str)) = true from beq_self_eq_true _, Bool.or_true]
  · exact r x z D hD
end
section
variable [Cl] [Lk] {X : Cx} {a b : Expr} {ta tb : DE} {pos : Pos}
def dAddP : F2 := fun x y m q => onS (lstOf x m) fun a => onS (lstOf y m) fun b => a.length + b.length ≤ sizeLine ∧ q (.ptr m.length) (m ++ [.lst (a ++ b)])
theorem o_addP {K : PySem.W.Frag} : Op2 K dAddP (rrAdd K) := by
  intro W F H m x y d e q Q rel rx ry h k
  obtain ⟨a, e1, h⟩ := onS_some h
  obtain ⟨b, e2, hz, h⟩ := onS_some h
  obtain ⟨p1, xs, rfl, g1, r1⟩ := lstOf_at rel rx e1
  obtain ⟨p2, ys, rfl, g2, r2⟩ := lstOf_at rel ry e2
  refine .inr (.inr (.inr ⟨p1, p2, xs, ys, rfl, rfl, g1, g2, by rw [r1.len, r2.len]; exact hz, fun p hp => ?_⟩))
  exact hot_lst rel (r1.app r2) h k hp
theorem je_addP (ha : JE X a ta) (hb : JE X b tb) : JE X (.BinOp a .Add b pos) (dBin dAddP ta tb) := je_op op_addAll o_addP ha hb
end
end DL
/-! Data layer, part 28: (a, b, ..) = a list. -/
namespace DL
open PySem PySem.Spec PyProof.Rows L2
section
variable {prog : Program} {w : World} {A : Around} {E : Value → Shared → Prop} {s : Shared}
theorem draw_list {it t : Addr} {items : Array Value} (hne : t ≠ it) : ∀ (n i : Nat) (s : Shared) (Q : List Value → Shared → Prop), s.heap.IsListIter it t i → s.heap.IsList t items → i + n ≤ items.size →
    (∀ h', h'.IsListIter it t (i + n) → Heap.SameBut it s.heap h' → Q ((items.toList.drop i).take n) { s with heap := h' }) → wpAny (model prog w) A (draw (.ref it) n) Q E s
  | 0, i, s, Q, hit, _, _, hQ => by
    show wpAny _ _ (pure []) Q E s
    exact wpAny_pure (by simpa using hQ s.heap hit (Heap.SameBut.refl ..))
  | n + 1, i, s, Q, hit, ht, hle, hQ => by
    have hlt : i < items.size := by omega
    show wpAny _ _ (pyNext (.ref it) >>= _) Q E s
    refine wpAny_bind (wpAny_pyNext_list_item hit ht (x := items[i]) (by simp [hlt]) fun h₁ hit₁ hs₁ => ?_)
    refine wpAny_bind (wpAny_holding (draw_list hne n (i + 1) _ _ hit₁ (ht.extBut hs₁.extBut hne) (by omega) fun h₂ hit₂ hs₂ => wpAny_pure ?_))
    have hd : items.toList.drop i = items[i] :: items.toList.drop (i + 1) := by simp [List.drop_eq_getElem_cons, hlt]
    have := hQ h₂ (by rw [show i + (n + 1) = i + 1 + n by omega]; exact hit₂) (hs₁.trans hs₂)
    rw [hd, List.take_succ_cons] at this
    exact this
theorem unpackItems_list {t : Addr} {items : Array Value} {Q : List Value → Shared → Prop} (hh : A.handled = none) (ht : s.heap.IsList t items)
    (hQ : ∀ h', Heap.ExtBut s.heap.objs.size s.heap h' → Q items.toList { s with heap := h' }) : wpAny (model prog w) A (unpackItems (.ref t) items.size none) Q E s := by
  have hlt : t ≠ s.heap.objs.size := by obtain ⟨o, ho, _⟩ := ht; exact Nat.ne_of_lt (Heap.lt_size ho)
  unfold unpackItems
  refine wpAny_bind ?_
  · unfold notIterableAtAll
    refine wpAny_bind (wpAny_specialOf ht.typeIs slot_list_iter.lookup ?_)
    refine wpAny_pure ?_
    simp only [Bool.false_eq_true, if_false]
    refine wpAny_bind (wpAny_holding (wpAny_pyIter_list ht ?_))
    refine wpAny_bind (wpAny_holding (draw_list hlt items.size 0 _ _ ⟨_, Heap.get?_push_size _ rfl, rfl, rfl⟩ (ht.push _) (by omega) fun h₁ hit₁ hs₁ => ?_))
    have hall : List.take items.size (List.drop 0 items.toList) = items.toList := by
      rw [List.drop_zero]; exact List.take_of_length_le (by simp)
    rw [hall]
    rw [if_neg (by simp)]
    have ht₁ : h₁.IsList t items := (ht.push _).extBut hs₁.extBut hlt
    refine wpAny_bind (wpAny_holding (wpAny_pyNext_list_end hh hit₁ ht₁ (by simp) fun h₂ he₂ => ?_))
    simp only [Option.isSome_none, Bool.false_eq_true, if_false]
    refine wpAny_pure (hQ h₂ fun b o hb e => he₂ b o hb (hs₁.extBut b o hb (Heap.get?_push_of_some _ e)))
theorem unpack_list {t : Addr} {items : Array Value} {targets : List (Bool × (Value → Sem Unit))} {Q : Unit → Shared → Prop} (hh : A.handled = none) (ht : s.heap.IsList t items)
    (hn : targets.length = items.size) (hstar : targets.findIdx? (·.1) = none)
    (h : ∀ h', Heap.ExtBut s.heap.objs.size s.heap h' → wpAny (model prog w) A (assignInOrder (targets.map (·.2)) items.toList) Q E { s with heap := h' }) :
    wpAny (model prog w) A (unpack (.ref t) targets) Q E s := by
  unfold unpack
  rw [hn, hstar]
  exact wpAny_bind (wpAny_holding (unpackItems_list hh ht h))
end
/-- (a, b, ..) = a list of that length -/
def gLst (K : PySem.W.Frag) (n : Nat) (t : TGs) : TG := fun v σ H Q => ∃ a xs, v = .ref a ∧ H a = some (.lst xs) ∧ xs.length = n ∧ t xs σ H Q
theorem pg_lst {X : Cx} {es : List Expr} {k : Nat} {pos : Pos} {t : TGs} {n : Nat} (hc : X.calm = true) (h : PGs X es t)
    (hn : (assignEach es X.env).length = n := by rfl) (hst : (assignEach es X.env).findIdx? (·.1) = none := by rfl) : PG X (.Tuple es k pos) (gLst X.K n t) := by
  refine ⟨fun pins s σ H v u Q I r hw => ?_⟩
  obtain ⟨a, xs, e1, hq, hl, hw⟩ := hw
  subst e1
  cases r
  obtain ⟨its, rv, ht, hz⟩ := I.list (.inl (.inl hq))
  rw [assign_Tuple]
  refine wpAny_bind (wpAny_standAt (unpack_list (I.ok.hd hc) ht.isList (by simp [hn, ← hl, rv.length]) hst fun h' hx => ?_))
  have I1 : Inv X pins σ H { s with heap := h' } := I.kept (t' := s.toks) fun b o e => hx b o (Nat.ne_of_lt (Heap.lt_size e)) e
  exact h.run pins _ σ H xs _ Q I1 (by simpa using rv) hw
section
variable [Cl] [Lk] {X : Cx} {es : List Expr} {gs : DGs} {pos : Pos}
def gU (n : Nat) (gs : DGs) : DG := fun d r m q => onS (lstOf d m) fun ds => ds.length = n ∧ gs ds r m q
theorem jg_lst {kk n : Nat} (hc : X.calm = true) (h : JGs X es gs) (hn : (assignEach es X.env).length = n := by rfl) (hst : (assignEach es X.env).findIdx? (·.1) = none := by rfl) : JG X (.Tuple es kk pos) (gU n gs) :=
  pg_wk (pg_lst hc h hn hst) fun v s H Q ⟨W, F, m, r, d, q, rel, rs, rv, h, k⟩ => by
    obtain ⟨ds, e, h⟩ := onS_some h
    obtain ⟨a, xs, rfl, h1, h2⟩ := lstOf_at rel rv e
    exact ⟨a, xs, rfl, h1, h2.len.trans h.1, W, F, m, r, ds, q, rel, rs, h2, h.2, k⟩
end
/-! ### in and not in, within an except suite -/
section
variable [Cl] [Lk] {Y : Cx} {e1 : Addr} {pn : List (Addr × Obj)} {a b : Expr} {ta tb : DE} {pos : Pos} {k : Nat}
theorem units65s (hr : Room k Y.A) : (Y.suite e1 pn).A.units + 65 < cLine := by
  show (Y.A.mark (some (.ref e1))).units + 65 < cLine
  rw [Around.mark_units]
  exact units65 hr
theorem je_inGs (hr : Room k Y.A) (ha : JE (Y.suite e1 pn) a ta) (hb : JE (Y.suite e1 pn) b tb) (hm : behindInMarks .In b = false := by rfl) : JE (Y.suite e1 pn) (.Compare a [.In] [b] pos) (dBin (dInG false) ta tb) := by unfold dInG; exact je_cmp (op_inAll (units65s hr)) o_in ha hb hm
theorem je_notinGs (hr : Room k Y.A) (ha : JE (Y.suite e1 pn) a ta) (hb : JE (Y.suite e1 pn) b tb) (hm : behindInMarks .NotIn b = false := by rfl) : JE (Y.suite e1 pn) (.Compare a [.NotIn] [b] pos) (dBin (dInG true) ta tb) := by unfold dInG; exact je_cmp (op_notInAll (units65s hr)) o_in ha hb hm
theorem jt_inGs (hr : Room k Y.A) (ha : JE (Y.suite e1 pn) a ta) (hb : JE (Y.suite e1 pn) b tb) (hm : behindInMarks .In b = false := by rfl) : JT (Y.suite e1 pn) (.Compare a [.In] [b] pos) (dTest (dBin (dInG false) ta tb)) := by unfold dInG; exact jt_cmp (op_inAll (units65s hr)) o_in ha hb hm
theorem jt_notinGs (hr : Room k Y.A) (ha : JE (Y.suite e1 pn) a ta) (hb : JE (Y.suite e1 pn) b tb) (hm : behindInMarks .NotIn b = false := by rfl) : JT (Y.suite e1 pn) (.Compare a [.NotIn] [b] pos) (dTest (dBin (dInG true) ta tb)) := by unfold dInG; exact jt_cmp (op_notInAll (units65s hr)) o_in ha hb hm
end
end DL
/-! Data layer, part 29: an except clause with a name, and one more behind it. -/
namespace DL
open PySem PySem.Spec PyProof.Rows L2
section
variable {X : Cx} {x n x2 : Str} {c c2 : Value} {i : Nat} {body suite suite2 : List Stmt} {b₀ b₂ : Stmt} {np np2 pos pos' pos2 : Pos} {tb : WX → TS} {ts ts2 : Addr → Value → Option Addr → TS} {Wout : WX}
/-- what 'except x as n' and 'except x2' wish of an exception -/
def wTwo (K : PySem.W.Frag) (c c2 : Value) (i : Nat) (ts ts2 : Addr → Value → Option Addr → TS) (Wout : WX) (D : Ends) : WX :=
  wAs K c i ts (fun cls d σ H => ∃ b, PySem.W.exmOne K cls c2 = some b ∧ (b = true → ∀ a, H a = none → ts2 a cls d D σ H) ∧ (b = false → Wout cls d σ H)) D
theorem ps_try_two (hs : X.stack = X.env :: X.outer) (hf : X.env.frame = some X.env.locals) (hN : X.N.Nodup) (hi : X.N[i]? = some n) (hln : X.env.kindOf n = some .local) (hc : Names X x c) (hc2 : Names X x2 c2) (tk : Takes X Wout)
    (hb : ∀ (W : WX) (pn : List (Addr × Obj)) (xe : Value → Shared → Prop), Takes (X.tr pn xe) W → PassesOwn (model X.prog X.w) X.A X.env xe → PSs (X.tr pn xe) body (tb W))
    (hsu : ∀ (a : Addr) (oe : Obj) (cls : Value) (d : Option Addr) (pn : List (Addr × Obj)), Zc cls d oe → (∃ vs, oe.data = .fields vs) → PSs (X.suite a ((a, oe) :: pn)) (b₀ :: suite) (ts a cls d))
    (hsu2 : ∀ (a : Addr) (oe : Obj) (cls : Value) (d : Option Addr) (pn : List (Addr × Obj)), Zc cls d oe → (∃ vs, oe.data = .fields vs) → PSs (X.suite a ((a, oe) :: pn)) (b₂ :: suite2) (ts2 a cls d)) :
    PS X (.Try body [.ExceptHandler (some (.Name x np)) (some n) (b₀ :: suite) pos', .ExceptHandler (some (.Name x2 np2)) none (b₂ :: suite2) pos2] [] [] pos) (fun D σ H => tb (wTwo X.K c c2 i ts ts2 Wout D) D σ H) := by
  refine ⟨fun pins s σ H D I h => ?_⟩
  have ok := I.ok
  have hfr : X.A.frames = some (X.env :: X.outer) := by rw [ok.frames, hs]
  have hloc : Loc X.env.scope n := .inl hln
  refine wpAny_Try_except ?_
  refine wpAny_mono ((hb (wTwo X.K c c2 i ts ts2 Wout D) (X.pn ++ pins) (fun e s₁ => wpAny (model X.prog X.w) X.A (noteFrame e X.env) (fun _ s₂ => wpAny (model X.prog X.w) X.A (setFlight e none) (fun _ s₃ =>
    wpAny (model X.prog X.w) X.A (handleBy e X.env [.ExceptHandler (some (.Name x np)) (some n) (b₀ :: suite) pos', .ExceptHandler (some (.Name x2 np2)) none (b₂ :: suite2) pos2]) (SP X pins D) X.xe s₃) X.xe s₂) X.xe s₁) (fun u s' xx => ?_) PassesOwn.looking).run [] s σ H D (I.toTry _) h) (fun f s1 hsp => ?_) (fun e s1 he => he)
  · obtain ⟨a, B, sI, pins', σ', H', cls, d, rfl, J', nb, up, sky, na, os, ag, b, hb1, hyes, hno⟩ := xx
    have J : Inv X pins σ' H' sI := J'.ofTry ok
    have sky' : Sky B (X.env :: X.outer) a (Zc cls d) X.env.locals s'.heap := by rw [← hs]; exact sky
    show wpAny (model X.prog X.w) X.A (noteFrame (.ref a) X.env) _ _ _
    refine Sky.land Zc.steady hfr hf sky' fun h3 fl3 up3 => ?_
    have J3 : Inv X pins σ' H' { s' with heap := h3 } := J.landed nb fl3.1 (up.trans up3) os ag
    obtain ⟨oe3, vs3, he3, hz3, hd3⟩ := fl3.there
    have notFr : ∀ {h : Heap} {o : Obj} {vs : Array Value}, h.FunFrames B (X.env :: X.outer) → h.get? a = some o → o.data = .fields vs → a ∉ frs (X.env :: X.outer) := fun {h o vs} ff e dd hm => by
      obtain ⟨_, o', e', hnf⟩ := ff.mem hm
      rw [e] at e'; cases e'
      exact hnf _ dd
    have nfr := notFr fl3.2.2.1 he3 hd3
    have nL : a ≠ X.env.locals := fun z => nfr (List.mem_filterMap.mpr ⟨X.env, List.mem_cons_self, by rw [hf, z]⟩)
    have nF : a ∉ X.fs := fun hm => by
      obtain ⟨e, he, q⟩ := List.mem_filterMap.mp hm
      exact nfr (List.mem_filterMap.mpr ⟨e, List.mem_cons_of_mem _ he, q⟩)
    have S3 := J3.suite he3 hd3 na nL nF
    have LT : PySem.W.Looks (model X.prog X.w) h3 (typeOf (.ref a)) cls := fun A Q E s k q => wpAny_typeOf_ref (k _ _ he3) (by rw [hz3.1]; exact q)
    have test : ∀ {y : Str} {v : Value} {p : Pos} {Q : Value → Shared → Prop} {E : Value → Shared → Prop}, Names X y v → Q v { s' with heap := h3 } → wpAny (model X.prog X.w) (X.A.mark (some (.ref a))) (eval (.Name y p) X.env) Q E { s' with heap := h3 } := fun {y v p Q E} hc q => by
      obtain ⟨hg, hdbg, hm | ⟨hm, hv, hnn⟩⟩ := hc
      · exact ld_glob (X := X.suite a ((a, oe3) :: (X.pn ++ pins))) S3 hg hm q hdbg
      · exact ld_blt (X := X.suite a ((a, oe3) :: (X.pn ++ pins))) S3 hg hm hv q hnn hdbg
    refine wpAny_handleBy_cons (codeAny_handlers_test ?_) (by intro q; cases q)
    refine test hc ((PySem.W.exm_one (M := model X.prog X.w) (J3.kIn) LT hb1).here ?_)
    cases b with
    | true =>
      refine codeAny_handlers_suite_as ?_
      refine HandSPX.lands_againZ fl3 fun h4 fl4 up4 => ?_
      have J4 : Inv X pins σ' H' { s' with heap := h4 } := J.landed nb fl4.1 ((up.trans up3).trans up4) os ag
      obtain ⟨oe4, vs4, he4, hz4, hd4⟩ := fl4.there
      have S4 := J4.suite he4 hd4 na nL nF
      refine store_ok (X := X.suite a ((a, oe4) :: (X.pn ++ pins))) (v := .ref a) S4 hN hi hloc rfl (fun s5 S5 => ?_) (.inr hln)
      refine wpAny_mono ((hsu a oe4 cls d (X.pn ++ pins) hz4 ⟨_, hd4⟩).run [] s5 _ H' _ S5 (hyes rfl a na)) (fun f s6 hsp => ?_) (fun _ _ z => False.elim z)
      have end_ : ∀ {σ6 : L2.St} {H6 : Hp} {Q : Shared → Prop}, Inv (X.suite a ((a, oe4) :: (X.pn ++ pins))) [] σ6 H6 s6 → (∀ s7, Inv X pins (σ6.set i none) H6 s7 → Q s7) →
          wpAny (model X.prog X.w) X.A (do bindName X.env n .none; unbindBehindTheSuite X.env n pos') (fun _ s7 => Q s7) X.xe s6 := fun {σ6 H6 Q} S6 hq => gone_ok (S6.unsuite ok) hN hi hln hq
      cases f with
      | next => obtain ⟨σ6, H6, S6, q6⟩ := hsp; exact end_ S6 fun s7 J7 => ⟨_, _, J7, q6⟩
      | brk => obtain ⟨σ6, H6, S6, q6⟩ := hsp; exact end_ S6 fun s7 J7 => ⟨_, _, J7, q6⟩
      | cont => obtain ⟨σ6, H6, S6, q6⟩ := hsp; exact end_ S6 fun s7 J7 => ⟨_, _, J7, q6⟩
      | ret u => obtain ⟨v6, σ6, H6, S6, r6, q6⟩ := hsp; exact end_ S6 fun s7 J7 => ⟨_, _, _, J7, r6, q6⟩
    | false =>
      obtain ⟨b2, hb2, hyes2, hno2⟩ := hno rfl
      show wpAny _ X.A (handleBy (.ref a) X.env [.ExceptHandler (some (.Name x2 np2)) none (b₂ :: suite2) pos2]) _ _ _
      refine wpAny_handleBy_cons (codeAny_handlers_test ?_) (by intro q; cases q)
      refine test hc2 ((PySem.W.exm_one (M := model X.prog X.w) (J3.kIn) LT hb2).here ?_)
      cases b2 with
      | true =>
        refine codeAny_handlers_suite ?_
        refine HandSPX.lands_againZ fl3 fun h4 fl4 up4 => ?_
        have J4 : Inv X pins σ' H' { s' with heap := h4 } := J.landed nb fl4.1 ((up.trans up3).trans up4) os ag
        obtain ⟨oe4, vs4, he4, hz4, hd4⟩ := fl4.there
        have S4 := J4.suite he4 hd4 na nL nF
        refine wpAny_mono ((hsu2 a oe4 cls d (X.pn ++ pins) hz4 ⟨_, hd4⟩).run [] _ _ H' _ S4 (hyes2 rfl a na)) (fun f s6 hsp => ?_) (fun _ _ z => False.elim z)
        cases f with
        | next => obtain ⟨σ6, H6, S6, q6⟩ := hsp; exact ⟨_, _, S6.unsuite ok, q6⟩
        | brk => obtain ⟨σ6, H6, S6, q6⟩ := hsp; exact ⟨_, _, S6.unsuite ok, q6⟩
        | cont => obtain ⟨σ6, H6, S6, q6⟩ := hsp; exact ⟨_, _, S6.unsuite ok, q6⟩
        | ret u => obtain ⟨v6, σ6, H6, S6, r6, q6⟩ := hsp; exact ⟨_, _, _, S6.unsuite ok, r6, q6⟩
      | false =>
        show wpAny _ X.A (handleBy (.ref a) X.env []) _ _ _
        refine wpAny_handleBy_nil ?_
        obtain ⟨k1, k2, k3, oe, vs, T, oT, ts', he, hz, hd, h1, hr⟩ := id fl3
        unfold PySem.passOn
        refine wpAny_bind (wpAny_field he hd h1 ?_)
        rw [if_neg (show ¬ ((Value.ref T == Value.none) = true) from by simp)]
        have fin : wpAny (model X.prog X.w) X.A (setFlight (.ref a) X.env.frame) (fun _ s4 => wpAny (model X.prog X.w) X.A (throw (.ref a) : Sem Flow) (SP X pins D) X.xe s4) X.xe { s' with heap := h3 } := by
          rw [hf]
          refine HandSPX.setFlight_upZ fl3 fun h4 hh4 up4 => wpAny_throw (tk _ _ ?_)
          exact ⟨a, B, sI, pins, σ', H', cls, d, rfl, J, nb, (up.trans up3).trans up4, .inr (.inr (by rw [hs]; exact hh4)), na, os, ag, hno2 rfl⟩
        first
          | exact wpAny_bind (wpAny_pure (wpAny_bind fin))
          | exact wpAny_bind fin
  · cases f with
    | next => obtain ⟨σ', H', J', q⟩ := hsp; exact wpAny_execs_nil ⟨σ', H', J'.ofTry ok, q⟩
    | brk => obtain ⟨σ', H', J', q⟩ := hsp; exact ⟨σ', H', J'.ofTry ok, q⟩
    | cont => obtain ⟨σ', H', J', q⟩ := hsp; exact ⟨σ', H', J'.ofTry ok, q⟩
    | ret u => obtain ⟨v, σ', H', J', r, q⟩ := hsp; exact ⟨v, σ', H', J'.ofTry ok, r, q⟩
end
/-- try: body, except c1 as n (slot i): suite, except c2: suite2 -/
def dTryTwo (cs : List Str) (c1 : Str) (i : Nat) (c2 : Str) (tb : WD → DS) (hd1 : Exn → Addr → DS) (hd2 : Exn → DS) (w : WD) : DS := fun d r m =>
  tb (fun ex r1 m1 => ex.c ∈ cs ∧ (isX ex.c c1 = true → ∀ a, hd1 ex a (undS i d) (put r1 i (.adr a)) m1) ∧ (isX ex.c c1 = false → (isX ex.c c2 = true → hd2 ex d r1 m1) ∧ (isX ex.c c2 = false → w ex r1 m1))) d r m
section
variable [Cl] [Lk] {X : Cx} {c c2 n : Str} {cs : List Str} {i : Nat} {body suite suite2 : List Stmt} {b₀ b₂ : Stmt} {np np2 pos pos' pos2 : Pos} {tb : WD → DS} {w : WD}
theorem js_tryTwo {hd1 : Exn → Addr → DS} {hd2 : Exn → DS} (T : XSub X.K X.mg cs c) (T2 : XSub X.K X.mg cs c2) (hs : X.stack = X.env :: X.outer) (hf : X.env.frame = some X.env.locals) (hN : X.N.Nodup) (hi : X.N[i]? = some n) (hln : X.env.kindOf n = some .local) (hg : Gl X c) (hdb : (c == ("__debug__" : Str)) = false) (hg2 : Gl X c2) (hdb2 : (c2 == ("__debug__" : Str)) = false) (tk : TakesD X w)
    (hb : ∀ [Lk] (wd : WD) (pn : List (Addr × Obj)) (xe : Value → Shared → Prop), TakesD (X.tr pn xe) wd → PassesOwn (model X.prog X.w) X.A X.env xe → JSs (X.tr pn xe) body (tb wd))
    (hsu : ∀ [Lk] (ex : Exn) (a : Addr) (oe : Obj) (cls : Value) (d : Option Addr) (pn : List (Addr × Obj)), ex.c ∈ cs → Zc cls d oe → (∃ vs, oe.data = .fields vs) → RX X.K Lk.W0 cls d ex → JSs (X.suite a ((a, oe) :: pn)) (b₀ :: suite) (hd1 ex a))
    (hsu2 : ∀ [Lk] (ex : Exn) (a : Addr) (oe : Obj) (cls : Value) (d : Option Addr) (pn : List (Addr × Obj)), ex.c ∈ cs → Zc cls d oe → (∃ vs, oe.data = .fields vs) → RX X.K Lk.W0 cls d ex → JSs (X.suite a ((a, oe) :: pn)) (b₂ :: suite2) (hd2 ex)) :
    JS X (.Try body [.ExceptHandler (some (.Name c np)) (some n) (b₀ :: suite) pos', .ExceptHandler (some (.Name c2 np2)) none (b₂ :: suite2) pos2] [] [] pos) (dTryTwo cs c i c2 tb hd1 hd2 w) := by
  obtain ⟨C', hm, T⟩ := T.ex
  obtain ⟨C2, hm2, T2⟩ := T2.ex
  refine ps_wk (ps_try_two (i := i) (Wout := liftW X.K w) (ts := fun a cls d E σ H => ∃ (L : Lk) (ex : Exn), ex.c ∈ cs ∧ RX X.K L.W0 cls d ex ∧ @liftS _ L X.K (hd1 ex a) E σ H) (ts2 := fun a cls d E σ H => ∃ (L : Lk) (ex : Exn), ex.c ∈ cs ∧ RX X.K L.W0 cls d ex ∧ @liftS _ L X.K (hd2 ex) E σ H) hs hf hN hi hln ⟨hg, hdb, .inl hm⟩ ⟨hg2, hdb2, .inl hm2⟩ tk (body_wk hb)
    (fun a oe cls d pn hz hfl => ⟨fun p s σ H D I ⟨L, ex, hin, rx, h⟩ => (@hsu L ex a oe cls d pn hin hz hfl rx).run p s σ H D I h⟩)
    (fun a oe cls d pn hz hfl => ⟨fun p s σ H D I ⟨L, ex, hin, rx, h⟩ => (@hsu2 L ex a oe cls d pn hin hz hfl rx).run p s σ H D I h⟩)) ?_
  rintro E s H ⟨W, F, m, r, d, rel, rs, h, L⟩
  refine ⟨⟨W, F⟩, _, ?_, W, F, m, r, d, rel_new (to0 rel), rs, h, lift_on rel (.refl _) L⟩
  rintro cls dd σ H1 ⟨W1, m1, r1, ex, l1, rel1, rs1, rx, hin, hyes, hno⟩
  obtain ⟨C, ad, rfl, rxx⟩ := id rx
  have l1' : W.Le W1 := l1
  have rel1' : Rel0 X.K W1 F H1 m1 := rel1
  refine ⟨isX ex.c c, T _ hin C ad, fun q a na => ?_, fun q => ⟨isX ex.c c2, T2 _ hin C ad, fun q2 a na => ?_, fun q2 => ?_⟩⟩
  · exact ⟨⟨W1, F⟩, ex, hin, rx, W1, F, m1, _, undS i d, rel_new rel1', rs1.put (.adr a) i, hyes q a, lift_und (lift_on rel l1' L)⟩
  · exact ⟨⟨W1, F⟩, ex, hin, rx, W1, F, m1, r1, d, rel_new rel1', rs1, (hno q).1 q2, lift_on rel l1' L⟩
  · exact ⟨W1, m1, r1, ex, rel.lw.trans l1', rel1'.less rel.lf, rs1, rx, (hno q).2 q2⟩
end
end DL
/-! Data layer, part 30: a dict is no whole number. -/
namespace DL
open PySem PySem.Spec PyProof.Rows L2
section
variable {A : Around} {s : Shared}
theorem int_eq_declines_dict (b : Int) (u : Tok) (l : Addr) (o : Obj) (es : Array DictEntry) (ep : Nat) :
    Meets (Builtin.«int.__eq__» ⟨[.int b u, .ref l], []⟩) (fun _ R s => s.heap.get? l = some { cls := .type "dict", dict := o.dict, data := .dict es ep, slots := o.slots } ∧ R (.ok (.ret .notImplemented)) s) :=
  .of_wp fun prog w A R s h => by obtain ⟨hp, g, d, tk, os⟩ := s; obtain ⟨hl, h⟩ := h; wp_walk using SeqAt.AutoSeq1.wpAny_loadPart' hl, wpAny_load hl; exact ⟨_, rfl, h⟩
theorem rc_dict_int {l : Addr} {o : Obj} {es : Array DictEntry} {ep : Nat} (ho : s.heap.get? l = some { cls := .type "dict", dict := o.dict, data := .dict es ep, slots := o.slots }) (b : Int) (u : Tok) (hu : A.units < cLine) : SeqAt.RcAt A s (.ref l) (.int b u) false := fun prog w E Q h => by
  refine SeqAt.rc_eq_decline_or (k := false) ⟨_, ho, rfl⟩ (typeIs_int s b u) (by decide) PySem.F.sub_int_dict PySem.F.slot_dict_eq PySem.F.slot_int_eq_refl (fun Q hq => ?_) (fun Q hq => ?_)
    (fun _ hq => wpAny_of_eq (rfl : isSame (.ref l) (.int b u) = pure false) hq) (.inr hu) h
  · refine wpAny_call_entry PySem.F.slot_dict_eq ⟨_, ho, rfl⟩ PySem.F.entry_dict_eq ?_ (PySem.F.args_dict_eq_2 _ _)
    show wpAny _ _ (Builtin.Dict.dictSlotArgs "__eq__" ⟨[.ref l, .int b u], []⟩ >>= _) _ _ s
    refine wpAny_bind ?_
    unfold Builtin.Dict.dictSlotArgs
    refine wpAny_bind (wpAny_notOrdered_dict ⟨_, ho, rfl⟩ ?_)
    show wpAny _ _ (pure (Value.ref l, Value.int b u)) _ _ s
    refine wpAny_pure ?_
    refine wpAny_bind (wpAny_isInstance (T := "int") (typeIs_int s b u) PySem.F.sub_int_dict ?_)
    simp only [Bool.not_false, if_true]
    refine wpAny_bind (wpAny_rule ?_)
    exact wpAny_pure ⟨_, rfl, hq⟩
  · exact call_meets PySem.F.slot_int_eq_refl (typeIs_int s b u) PySem.F.entry_int_eq (PySem.F.args_int_eq_2 _ _) (int_eq_declines_dict b u l o es ep) ⟨ho, hq⟩
end
def rEqDi : R2 := fun x y H Q => ∃ a kvs i, x = .ref a ∧ y = .int i ∧ H a = some (.dK kvs) ∧ Q (.bl false) H
theorem op_eqDi {X : Cx} (hu : X.A.units + 64 < cLine) : OpR X (compareOp .Eq) rEqDi := by
  intro pins s σ H x y v u Q I rx ry h
  obtain ⟨a, kvs, i, rfl, rfl, ea, q⟩ := h
  obtain rfl : v = Value.ref a := rx
  obtain ⟨t, rfl⟩ : ∃ t, u = Value.int i t := ry
  obtain ⟨_, ya, va, ra, da⟩ := (show ObjOk X.prog X.w H s.heap a (.dK kvs) from I.hok a _ ea)
  obtain ⟨ob, es, ep, e, xd, hd, -⟩ := id da
  have hc : ob.cls = .type "dict" := xd.1
  have e' : s.heap.get? a = some { cls := .type "dict", dict := ob.dict, data := .dict es ep, slots := ob.slots } := by
    rw [e, ← hc, ← hd]
  exact rc_dict_int e' i t (by omega) X.prog X.w X.xe _ ⟨.bl false, H, I, rfl, q⟩
/-- x == y, where x may be a dict and y then is a whole number -/
def dEqX : F2
  | .dic _, .int _, m, q => q (.bl false) m
  | x, y, m, q => dEq x y m q
def rrEqX (K : PySem.W.Frag) : R2 := fun x y H Q => rrEq K x y H Q ∨ rEqDi x y H Q
theorem o_eqX [Cl] [Lk] {K : PySem.W.Frag} : Op2 K dEqX (rrEqX K) := by
  intro W F H m x y d e q Q rel rx ry h k
  unfold dEqX at h
  split at h
  · cases ry
    obtain ⟨a, xs, rfl, g, -⟩ := dicOf_at rel rx (m := m) rfl
    exact .inr ⟨a, xs, _, rfl, rfl, g, k _ _ _ _ _ (.refl _) rel (.bl _) h⟩
  · exact .inl (o_eq W F H m x y d e q Q rel rx ry h k)
section
variable [Cl] [Lk] {X : Cx} {a b : Expr} {ta tb : DE} {pos : Pos} {k : Nat}
theorem je_eqX (hr : Room k X.A) (ha : JE X a ta) (hb : JE X b tb) : JE X (.Compare a [.Eq] [b] pos) (dBin dEqX ta tb) := je_cmp ((op_eqAll (units64 hr)).or (op_eqDi (units64 hr))) o_eqX ha hb (nobehind _ (by decide) (by decide))
end
theorem eqX_gd {x : D} {i : Int} {k c : Nat} (g : Gd k c x) (hk : k ≤ 60) {m : Sto} {q : D → Sto → Prop} (h : ∀ b, q (.bl b) m) : dEqX x (.int i) m q := by
  obtain ⟨v, e, p⟩ := g
  have go : dEqG false x (.int i) m q := by
    unfold dEqG
    rw [py_of e]
    exact ⟨pd_shaped (p.mono hk (Nat.le_refl _)), rfl, h _⟩
  cases x <;> first | exact h _ | exact go
end DL
/-! Data layer, part 31: lists of other lengths are not alike, whatever they hold. -/
namespace DL
open PySem PySem.Spec PyProof.Rows L2
def rNeLen : R2 := fun x y H Q => ∃ a b xs ys, x = .ref a ∧ y = .ref b ∧ H a = some (.lst xs) ∧ H b = some (.lst ys) ∧ xs.length ≠ ys.length ∧ Q (.bl true) H
theorem op_neLen {X : Cx} (hu : X.A.units + 64 < cLine) : OpR X (compareOp .NotEq) rNeLen := by
  intro pins s σ H x y v u Q I rx ry h
  obtain ⟨a, b, xs, ys, rfl, rfl, ea, eb, hn, q⟩ := h
  obtain rfl : v = Value.ref a := rx
  obtain rfl : u = Value.ref b := ry
  obtain ⟨its, r1, p1, -⟩ := I.list (show SqL X.K H a xs from .inl (.inl ea))
  obtain ⟨its2, r2, p2, -⟩ := I.list (show SqL X.K H b ys from .inl (.inl eb))
  have l1 := r1.length
  have l2 := r2.length
  exact SeqAt.RcNeAt.lists_lengths p1.isList p2.isList (by simp only [List.size_toArray, bne_iff_ne, ne_eq]; omega) (by omega) X.prog X.w X.xe _ ⟨.bl true, H, I, rfl, q⟩
/-- xs != [] -/
@[irreducible] def dNeNilF (x y : D) (m : Sto) (q : D → Sto → Prop) : Prop := y = .lst [] ∧ onS (lstOf x m) fun ds => q (.bl !ds.isEmpty) m
def dNeNil : F2 := dNeNilF
def rrNeNil (K : PySem.W.Frag) : R2 := fun x y H Q => rrNe K x y H Q ∨ rNeLen x y H Q
theorem o_neNil [Cl] [Lk] {K : PySem.W.Frag} : Op2 K dNeNil (rrNeNil K) := by
  intro W F H m x y d e q Q rel rx ry h k
  unfold dNeNil dNeNilF at h
  obtain ⟨rfl, h⟩ := h
  obtain ⟨ds, e1, h⟩ := onS_some h
  cases ds with
  | nil =>
    have go : dNe d (.lst []) m q := by
      have z : dEqG true d (.lst []) m q := eqG_nil (k := 0) (c := 0) (show seqL d m = some [] by cases d <;> first | exact e1 | cases e1) (fun _ z => absurd z (List.not_mem_nil)) (by decide) h
      unfold dNe
      split <;> first | exact z | cases e1
    exact .inl (o_ne W F H m x y d _ q Q rel rx ry go k)
  | cons d0 ds =>
    obtain ⟨a, xs, rfl, g, ra⟩ := lstOf_at rel rx e1
    obtain ⟨b, ys, rfl, g2, rb⟩ := lstOf_at rel ry (ds := []) rfl
    exact .inr ⟨a, b, xs, ys, rfl, rfl, g, g2, by rw [ra.len, rb.len]; simp, k _ _ _ _ _ (.refl _) rel (.bl _) h⟩
section
variable [Cl] [Lk] {X : Cx} {a b : Expr} {ta tb : DE} {pos : Pos} {k : Nat}
theorem je_neNil (hr : Room k X.A) (ha : JE X a ta) (hb : JE X b tb) : JE X (.Compare a [.NotEq] [b] pos) (dBin dNeNil ta tb) := je_cmp ((op_neAll (units64 hr)).or (op_neLen (units64 hr))) o_neNil ha hb (nobehind _ (by decide) (by decide))
theorem jt_neNil (hr : Room k X.A) (ha : JE X a ta) (hb : JE X b tb) : JT X (.Compare a [.NotEq] [b] pos) (dTest (dBin dNeNil ta tb)) := jt_cmp ((op_neAll (units64 hr)).or (op_neLen (units64 hr))) o_neNil ha hb (nobehind _ (by decide) (by decide))
end
theorem neNil_i {x : D} {m : Sto} {ds : List D} {q : D → Sto → Prop} (e : lstOf x m = some ds) (h : q (.bl !ds.isEmpty) m) : dNeNil x (.lst []) m q := by
  unfold dNeNil dNeNilF
  rw [e]
  exact ⟨rfl, h⟩
end DL
/-! Data layer, part 32: xs == [] for lists of anything. -/
namespace DL
open PySem PySem.Spec PyProof.Rows L2
def rEqLen : R2 := fun x y H Q => ∃ a b xs ys, x = .ref a ∧ y = .ref b ∧ H a = some (.lst xs) ∧ H b = some (.lst ys) ∧ xs.length ≠ ys.length ∧ Q (.bl false) H
theorem op_eqLen {X : Cx} (hu : X.A.units + 64 < cLine) : OpR X (compareOp .Eq) rEqLen := by
  intro pins s σ H x y v u Q I rx ry h
  obtain ⟨a, b, xs, ys, rfl, rfl, ea, eb, hn, q⟩ := h
  obtain rfl : v = Value.ref a := rx
  obtain rfl : u = Value.ref b := ry
  obtain ⟨its, r1, p1, -⟩ := I.list (show SqL X.K H a xs from .inl (.inl ea))
  obtain ⟨its2, r2, p2, -⟩ := I.list (show SqL X.K H b ys from .inl (.inl eb))
  have l1 := r1.length
  have l2 := r2.length
  exact SeqAt.RcAt.lists_lengths p1.isList p2.isList (by simp only [List.size_toArray, bne_iff_ne, ne_eq]; omega) (by omega) X.prog X.w X.xe _ ⟨.bl false, H, I, rfl, q⟩
/-- xs == [] -/
@[irreducible] def dEqNilF (x y : D) (m : Sto) (q : D → Sto → Prop) : Prop := y = .lst [] ∧ onS (lstOf x m) fun ds => q (.bl ds.isEmpty) m
def dEqNil : F2 := dEqNilF
def rrEqNil (K : PySem.W.Frag) : R2 := fun x y H Q => rrEq K x y H Q ∨ rEqLen x y H Q
theorem o_eqNil [Cl] [Lk] {K : PySem.W.Frag} : Op2 K dEqNil (rrEqNil K) := by
  intro W F H m x y d e q Q rel rx ry h k
  unfold dEqNil dEqNilF at h
  obtain ⟨rfl, h⟩ := h
  obtain ⟨ds, e1, h⟩ := onS_some h
  cases ds with
  | nil =>
    have go : dEq d (.lst []) m q := by
      have z : dEqG false d (.lst []) m q := eqG_nil (k := 0) (c := 0) (show seqL d m = some [] by cases d <;> first | exact e1 | cases e1) (fun _ z => absurd z (List.not_mem_nil)) (by decide) h
      unfold dEq
      split <;> first | exact z | cases e1
    exact .inl (o_eq W F H m x y d _ q Q rel rx ry go k)
  | cons d0 ds =>
    obtain ⟨a, xs, rfl, g, ra⟩ := lstOf_at rel rx e1
    obtain ⟨b, ys, rfl, g2, rb⟩ := lstOf_at rel ry (ds := []) rfl
    exact .inr ⟨a, b, xs, ys, rfl, rfl, g, g2, by rw [ra.len, rb.len]; simp, k _ _ _ _ _ (.refl _) rel (.bl _) h⟩
section
variable [Cl] [Lk] {X : Cx} {a b : Expr} {ta tb : DE} {pos : Pos} {k : Nat}
theorem je_eqNil (hr : Room k X.A) (ha : JE X a ta) (hb : JE X b tb) : JE X (.Compare a [.Eq] [b] pos) (dBin dEqNil ta tb) := je_cmp ((op_eqAll (units64 hr)).or (op_eqLen (units64 hr))) o_eqNil ha hb (nobehind _ (by decide) (by decide))
end
theorem eqNil_i {x : D} {m : Sto} {ds : List D} {q : D → Sto → Prop} (e : lstOf x m = some ds) (h : q (.bl ds.isEmpty) m) : dEqNil x (.lst []) m q := by
  unfold dEqNil dEqNilF
  rw [e]
  exact ⟨rfl, h⟩
end DL
/-! Data layer, part 33: defs as values, called by a local name. -/
namespace DL
open PySem PySem.Spec PyProof.Rows L2
variable [Cl]
/-- the name of a def stands for what the class of names tells -/
structure GlK (mg : Str → Option Value) (x : Str) : Prop where
  ex : ∃ a, Cl.ad x = some a ∧ mg x = some (.ref a)
variable [Lk]
section
variable {X : Cx} {pos p : Pos}
theorem je_gl {x : Str} (h : GlK X.mg x) (hg : Gl X x) (hd : (x == ("__debug__" : Str)) = false := by decide) : JE X (.Name x pos) (dC (.gl x)) := by
  obtain ⟨a, h1, h2⟩ := h.ex
  exact je_glob (v := V.ref a) hg ⟨.ref a, h2, rfl⟩ (fun _ => .gl h1) hd
/-- a call of the def that stands in a slot -/
def dCallL (i : Nat) (tb : List (Str × FN)) (ta : DA) : DE := fun r m q => onS (slot r i) fun d => match d with
  | .gl x => onS (tb.lookup x) fun g => ta r m fun ds m' => g ds m' q
  | _ => False
theorem je_callL {x : Str} {e : Expr} {es : List Expr} {t : DA} {tb : List (Str × FN)} {k j : Nat} (i : Nat) (T : ∀ y g, tb.lookup y = some g → Kn X.prog X.w X.K X.mg X.base k y g ∧ GlK X.mg y) (hr : Room j X.A) (hk : k ≤ j) (gd : X.A.guards = some [])
    (ha : JA X (e :: es) t) (hN : X.N[i]? = some x := by rfl) (hv : Vis X.env.scope x := by first | exact .inl rfl | exact .inr (.inl rfl) | exact .inr (.inr rfl)) (hdb : (x == ("__debug__" : Str)) = false := by decide)
    (hcd : (x == ("__classdict__" : Str)) = false := by decide)
    (he : starEach (e :: es) X.env = (false, eval e X.env) :: starEach es X.env := by rfl) (hpl : (backTo pos (starEach es X.env)).any (·.1) = false := by rfl) : JE X (.Call (.Name x p) (e :: es) [] pos) (dCallL i tb t) := by
  refine ⟨fun pins s sg H Q I h => ?_⟩
  obtain ⟨W, F, m, r, q, rel, rs, h, k⟩ := h
  obtain ⟨d, e1, h⟩ := onS_some h
  cases d with
  | gl y =>
    obtain ⟨v, e2, rv⟩ := rs.get e1
    cases rv with
    | @gl a _ ad =>
      obtain ⟨g, e3, h⟩ := onS_some h
      obtain ⟨c, gk⟩ := T y g e3
      obtain ⟨n, fa, fd, ps, G, hm, kp, hb, har⟩ := c.ex
      obtain ⟨a', g1, g2⟩ := gk.ex
      obtain rfl : a' = a := Option.some.inj (g1.symm.trans ad)
      obtain rfl : a' = fa := by rw [hm] at g2; cases g2; rfl
      refine wpAny_Call_Name_kw ?_
      refine thn ((pe_var (X := X) (i := i) (pos := p) hN hv hdb hcd).run pins s sg H (fun v H1 => v = .ref a' ∧ H1 = H) I ⟨_, e2, rfl, rfl⟩) ?_
      rintro u s1 ⟨v, H1, I1, rv, rfl, rfl⟩
      cases rv
      have h' := call_wk (ta := t) (rr := fun vs H Q => spOf X.K n g vs H Q NoX) (fun W F' H' m xs ds q Q' rel ra hf kk => ⟨by rw [ra.len]; exact har _ _ _ hf, W, F', m, ds, q, rel.toRel0, ra, hf, kk.to0 rel⟩) sg H1 Q ⟨W, F, m, r, q, rel, rs, h, k⟩
      refine PySem.W.callWith_K (h₀ := X.base) I1.ok.mod.kin kp ?_ he hpl
      refine thn (ha.run pos pins s1 sg H1 _ I1 h') ?_
      intro us s2 ⟨vs, H2, I2, r2, q2⟩
      exact ⟨I2.kIn, run_g G (hr.mono hk) gd hb passF I2 r2 q2⟩
  | _ => exact h.elim
end
end DL
/-! Data layer, part 34: sets of tuples whose parts are keys of any plain kind; len(set(list of such)). -/
namespace DL
open PySem PySem.Spec PyProof.Rows L2
section
variable {P : Program} {w : World} {κ : Type} [DecidableEq κ] {N : KeyKind P w κ} {A : Around} {E : Value → Shared → Prop} {s : Shared}
/-- keys are read by scanning -/
abbrev Scan (N : KeyKind P w κ) : Prop := ∀ k v, N.is k v = true → v.scannable = true
theorem items_scan (sc : Scan N) {ks : List κ} {vs : List Value} (h : ItemsAre N ks vs) : ∀ v ∈ vs, v.scannable = true := by
  induction h with
  | nil => exact fun v z => nomatch z
  | cons h1 _ ih =>
    intro v hv
    rcases List.mem_cons.mp hv with e | hv
    · rw [e]; exact sc _ _ h1
    · exact ih v hv
theorem noClass_scan {n : Nat} {v : Value} (h : v.scannable = true) : ofAClassStatement n v = pure false := by
  cases v <;> first | (cases n <;> rfl) | cases h
theorem noClass_tup (sc : Scan N) {ks : List κ} {b : Addr} {Q : Bool → Shared → Prop} (tk : IsTupleKey N s.heap ks b) (h : Q false s) : wpAny (model P w) A (ofAClassStatement 8 (.ref b)) Q E s := by
  have ty := tk.typeIs
  obtain ⟨o, its, n, lk, _, dt, ia⟩ := tk
  unfold ofAClassStatement
  refine wpAny_bind (wpAny_typeOf ty ?_)
  dsimp only
  simp only [show (("tuple" : String) == "tuple") = true by decide, if_true, Bool.not_true, Bool.false_eq_true, if_false]
  try refine wpAny_bind (wpAny_pure ?_)
  try simp only [Bool.not_true, Bool.false_eq_true, if_false]
  show wpAny _ _ (seqItems? (.ref b) >>= _) _ _ s
  refine wpAny_bind (wpAny_seqItems lk dt ?_)
  dsimp only
  refine wpAny_bind ?_
  show wpAny _ _ (forIn its _ _) _ _ s
  rw [← Array.forIn_toList]
  refine wpAny_forIn_list _ (fun left r s1 => r.1 = none ∧ s1 = s ∧ ∀ v ∈ left, v.scannable = true) _ ?_ ?_ _ _ ⟨rfl, rfl, items_scan sc ia⟩
  · rintro v left r s1 ⟨e, rfl, all⟩
    rw [noClass_scan (all v List.mem_cons_self)]
    refine wpAny_bind (wpAny_pure ?_)
    simp only [Bool.false_eq_true, if_false]
    exact wpAny_pure ⟨rfl, rfl, fun u hu => all u (List.mem_cons_of_mem _ hu)⟩
  · rintro ⟨r1, r2⟩ s1 ⟨e, rfl, _⟩
    simp only at e
    subst e
    exact wpAny_pure h
theorem byValue_tup (sc : Scan N) {ks : List κ} {b : Addr} {Q : Bool → Shared → Prop} (tk : IsTupleKey N s.heap ks b) (h : ∀ v, Q v s) : wpAny (model P w) A (hashByValue 8 (.ref b)) Q E s := by
  have ty := tk.typeIs
  obtain ⟨o, its, n, lk, _, dt, ia⟩ := tk
  unfold hashByValue
  refine wpAny_bind (wpAny_specialOf ty F.slot_tuple_hash.lookup ?_)
  show wpAny _ _ (seqItems? (.ref b) >>= _) _ _ s
  refine wpAny_bind (wpAny_seqItems lk dt ?_)
  refine wpAny_bind ?_
  show wpAny _ _ (forIn its _ _) _ _ s
  rw [← Array.forIn_toList]
  refine wpAny_forIn_list _ (fun left r s1 => s1 = s ∧ r.1 = none ∧ ∀ v ∈ left, v.scannable = true) _ ?_ ?_ _ _ ⟨rfl, rfl, items_scan sc ia⟩
  · rintro v left r s1 ⟨rfl, e, all⟩
    rw [hashByValue_scannable _ (all v List.mem_cons_self)]
    refine wpAny_bind (wpAny_pure ?_)
    cases plainKind v with
    | true =>
      simp only [Bool.not_true, Bool.false_eq_true, if_false]
      exact wpAny_pure ⟨rfl, rfl, fun u hu => all u (List.mem_cons_of_mem _ hu)⟩
    | false =>
      simp only [Bool.not_false, if_true]
      exact wpAny_pure (wpAny_pure (h _))
  · rintro ⟨r1, r2⟩ s1 ⟨rfl, e, _⟩
    simp only at e
    subst e
    exact wpAny_pure (h _)
theorem unseen_tup (sc : Scan N) {ks : List κ} {b : Addr} {Q : Bool → Shared → Prop} (tk : IsTupleKey N s.heap ks b) {ys : List Value} (hy : ∀ y ∈ ys, ∃ k' c, y = Value.ref c ∧ IsTupleKey N s.heap k' c) (h : Q false s) :
    wpAny (model P w) A (searchCouldBeSeen (.ref b) ys) Q E s := by
  unfold searchCouldBeSeen
  refine wpAny_bind ?_
  refine wpAny_forIn_list _ (fun left r s1 => r.1 = none ∧ s1 = s ∧ ∀ y ∈ left, ∃ k' c, y = Value.ref c ∧ IsTupleKey N s.heap k' c) _ ?_ ?_ _ _ ⟨rfl, rfl, hy⟩
  · rintro v left r s1 ⟨e, rfl, all⟩
    obtain ⟨k', c, rfl, ck⟩ := all v List.mem_cons_self
    have more : ∀ y ∈ left, ∃ k' c, y = Value.ref c ∧ IsTupleKey N s1.heap k' c := fun u hu => all u (List.mem_cons_of_mem _ hu)
    dsimp only
    by_cases q : (b == c || (carriedByValue (.ref b) && carriedByValue (.ref c))) = true
    · exact wp_if_pos q (wpAny_pure ⟨rfl, rfl, more⟩)
    · refine wp_if_neg q ?_
      refine wpAny_bind (wpAny_eqIsQuiet_tuple tk ?_)
      simp only [Bool.not_true, Bool.false_eq_true, if_false]
      refine wpAny_bind (wpAny_eqIsQuiet_tuple ck ?_)
      simp only [Bool.not_true, Bool.false_eq_true, if_false]
      refine wpAny_bind (noClass_tup sc tk ?_)
      simp only [Bool.false_eq_true, if_false]
      refine wpAny_bind (noClass_tup sc ck ?_)
      simp only [Bool.false_eq_true, if_false]
      exact wpAny_pure ⟨rfl, rfl, more⟩
  · rintro ⟨r1, r2⟩ s1 ⟨e, rfl, _⟩
    simp only at e
    subst e
    exact wpAny_pure h
end
/-- what a set of tuples stores -/
abbrev stored {P : Program} {w : World} {κ : Type} [DecidableEq κ] (N : KeyKind P w κ) (L : List (Addr × List κ)) : List (Int × Value) := L.map fun p => (tupleKeyHash N p.2, Value.ref p.1)
abbrev hashes {P : Program} {w : World} {κ : Type} [DecidableEq κ] (N : KeyKind P w κ) (L : List (Addr × List κ)) : List Int := L.map fun p => tupleKeyHash N p.2
section
variable {P : Program} {w : World} {κ : Type} [DecidableEq κ]
structure Sits (N : KeyKind P w κ) (h : Heap) (L : List (Addr × List κ)) (es : Array (Int × Value)) (t : SetTable) : Prop where
  rows : es.toList = stored N L
  tab : TabOk t (hashes N L)
  nd : (L.map (·.2)).Nodup
  tup : ∀ p ∈ L, IsTupleKey N h p.2 p.1
  led : w.params.followText "set-order" = true ∨ t.led = true
  room : L.length * 5 < t.mask * 3
  few : L.length < 64
structure TSet (N : KeyKind P w κ) (h : Heap) (a : Addr) (L : List (Addr × List κ)) : Prop where
  ex : ∃ o es ep t, h.get? a = some o ∧ o.ExactSet ∧ o.data = .set es ep t ∧ Sits N h L es t
variable {N : KeyKind P w κ} {h h' : Heap} {a : Addr} {L : List (Addr × List κ)} {es : Array (Int × Value)} {t : SetTable}
theorem Sits.size (S : Sits N h L es t) : es.size = L.length := by
  rw [← Array.length_toList, S.rows, List.length_map]
theorem Sits.fits (S : Sits N h L es t) : t.fits es.size = true := by
  have a1 := S.tab.sz
  rw [List.length_map] at a1
  have a2 := S.size
  have a3 := S.room
  unfold SetTable.fits SetTable.fill
  rw [S.tab.dm, Bool.and_eq_true, beq_iff_eq, decide_eq_true_eq]
  refine ⟨?_, ?_⟩
  · omega
  · show t.place.size + 0 ≤ t.mask; omega
theorem Sits.at (S : Sits N h L es t) {i : Nat} {p : Addr × List κ} (e : L[i]? = some p) : es[i]? = some (tupleKeyHash N p.2, Value.ref p.1) := by
  rw [← Array.getElem?_toList, S.rows, List.getElem?_map, e]; rfl
theorem Sits.calm (S : Sits N h L es t) : ¬ t.gaveWay = true := by
  unfold SetTable.gaveWay
  rw [mask_odd S.tab.mok]
  decide
theorem Sits.keep (S : Sits N h L es t) (k : ∀ p ∈ L, IsTupleKey N h' p.2 p.1) : Sits N h' L es t := ⟨S.rows, S.tab, S.nd, k, S.led, S.room, S.few⟩
theorem TSet.keep (T : TSet N h a L) (ha : ∀ o, h.get? a = some o → h'.get? a = some o) (k : ∀ p ∈ L, IsTupleKey N h' p.2 p.1) : TSet N h' a L := by
  obtain ⟨o, es, ep, t, h1, h2, h3, S⟩ := T.ex
  exact ⟨o, es, ep, t, ha o h1, h2, h3, S.keep k⟩
theorem tk_keep {ks : List κ} {b : Addr} (x : IsTupleKey N h ks b) (k : ∀ c o, h.get? c = some o → h'.get? c = some o) : IsTupleKey N h' ks b := by
  obtain ⟨o, its, n, ho, r⟩ := x
  exact ⟨o, its, n, k b o ho, r⟩
theorem tk_but {ks : List κ} {b : Addr} {o : Obj} {ep : Nat} (x : IsTupleKey N h ks b) (ho : h.get? a = some o) (hd : o.data = .set es ep t) (sb : Heap.SameBut a h h') : IsTupleKey N h' ks b := by
  obtain ⟨o', its, n, h1, h2, h3, h4⟩ := x
  have ne : b ≠ a := fun e => by
    subst e
    rw [ho] at h1
    cases h1
    rw [hd] at h3
    cases h3
  exact ⟨o', its, n, (sb.2 b ne).trans h1, h2, h3, h4⟩
variable {A : Around} {E : Value → Shared → Prop} {s : Shared}
/-- where a search begins -/
abbrev strt (m : Nat) (hh : Int) : SetTable.Probe := runAt m (SetTable.bits hh % (m + 1)) (SetTable.bits hh)
theorem nth_clean (m : Nat) : ∀ (n : Nat) (p : SetTable.Probe), p.dummy = none → (nth m p n).dummy = none
  | 0, _, e => e
  | n + 1, p, e => nth_clean m n (adv m p) (by unfold adv; split <;> exact e)
/-- the search, from its c-th step on: kk is the step at which it would end at a free place -/
theorem seek (sc : Scan N) {o : Obj} {ep : Nat} (S : Sits N s.heap L es t) (ho : s.heap.get? a = some o) (hd : o.data = .set es ep t) {x : Addr} {ks : List κ} (hx : IsTupleKey N s.heap ks x) (hu : A.units < cLine) {kk : Nat} (few : kk < 10 * SetTable.turns t.mask)
    (fr : way t.mask (tupleKeyHash N ks) kk ∉ t.place.toList) (tk : ∀ c, c < kk → way t.mask (tupleKeyHash N ks) c ∈ t.place.toList) {Q : SetFound → Shared → Prop}
    (yes : ks ∈ L.map (·.2) → Q (.there none) s) (no : ks ∉ L.map (·.2) → Q (.free (way t.mask (tupleKeyHash N ks) kk) false) s) :
    ∀ (f c : Nat) (st : Option SetTable.Probe), st.getD (t.probeStart (tupleKeyHash N ks)) = nth t.mask (strt t.mask (tupleKeyHash N ks)) c → c ≤ kk → kk - c < f →
      (∀ (i : Nat) p, L[i]? = some p → p.2 = ks → ∃ c', c ≤ c' ∧ c' < kk ∧ t.place.toList[i]? = some (way t.mask (tupleKeyHash N ks) c')) →
      wpAny (model P w) A (setSearchFrom a (.ref x) (tupleKeyHash N ks) true f st) Q E s
  | 0, _, _, _, _, z, _ => absurd z (Nat.not_lt_zero _)
  | f + 1, c, st, est, cle, flt, ahead => by
    rw [setSearchFrom_succ]
    refine wpAny_bind (wpAny_setState_of ho hd S.fits ?_)
    dsimp only
    refine wp_if_neg S.calm ?_
    try refine wpAny_bind (wpAny_pure ?_)
    have shift : ∀ q, nth t.mask (nth t.mask (strt t.mask (tupleKeyHash N ks)) c) q = nth t.mask (strt t.mask (tupleKeyHash N ks)) (c + q) := fun q => (nth_add t.mask c _ q).symm
    have shj : ∀ q, (nth t.mask (nth t.mask (strt t.mask (tupleKeyHash N ks)) c) q).j = way t.mask (tupleKeyHash N ks) (c + q) := fun q => congrArg SetTable.Probe.j (shift q)
    have hat : ∀ (i : Nat) p, L[i]? = some p → (fun i => (es[i]?.map (·.1)).getD 0) i = tupleKeyHash N p.2 := fun i p hp => by
      show (es[i]?.map (·.1)).getD 0 = _
      rw [S.at hp]; rfl
    have ways := go_spec t S.tab.ris S.tab.dm (fun i => (es[i]?.map (·.1)).getD 0) (tupleKeyHash N ks) (10 * SetTable.turns t.mask) (kk - c) _ (nth_clean t.mask c (strt t.mask (tupleKeyHash N ks)) rfl) (by omega)
      (fun q hq => by rw [shj]; exact tk (c + q) (by omega)) (by rw [shj, show c + (kk - c) = kk by omega]; exact fr)
    rcases ways with ⟨q, i, hq, hi, hh, passed, pr⟩ | ⟨passed, pr⟩
    · have pr' : t.probe (fun i => (es[i]?.map (·.1)).getD 0) (tupleKeyHash N ks) (st.getD (t.probeStart (tupleKeyHash N ks))) = some (.candidate (way t.mask (tupleKeyHash N ks) (c + q)) i (nth t.mask (strt t.mask (tupleKeyHash N ks)) (c + (q + 1)))) := by
        rw [est, ← shj, ← shift]
        exact pr
      rw [pr']
      dsimp only
      rw [shj] at hi
      have lt : i < L.length := by
        have z1 : i < t.place.toList.length := (List.getElem?_eq_some_iff.mp hi).1
        have z2 := S.tab.sz
        rw [List.length_map] at z2
        rw [Array.length_toList] at z1
        omega
      obtain ⟨p, hp⟩ : ∃ p, L[i]? = some p := ⟨_, List.getElem?_eq_getElem lt⟩
      have pm : p ∈ L := List.mem_of_getElem? hp
      have go : wpAny (model P w) A (searchRest a (.ref x) (tupleKeyHash N ks) true f es t (way t.mask (tupleKeyHash N ks) (c + q)) i (nth t.mask (strt t.mask (tupleKeyHash N ks)) (c + (q + 1)))) Q E s := by
        unfold searchRest
        rw [S.at hp]
        dsimp only
        refine wpAny_bind (wpAny_holding (wpAny_eqBool_tuple hu (S.tup p pm) hx ?_))
        refine wpAny_bind (wpAny_setState_of ho hd S.fits ?_)
        dsimp only
        by_cases same : p.2 = ks
        · refine wp_if_pos (by simp [same]) ?_
          exact wpAny_pure (yes (List.mem_map.mpr ⟨p, pm, same⟩))
        · refine wp_if_neg (by simp [same]) ?_
          try refine wpAny_bind (wpAny_pure ?_)
          rw [sameMem]
          dsimp only
          have live : t.slot (way t.mask (tupleKeyHash N ks) (c + q)) = .live i := slot_live S.tab.ris hi
          simp only [if_true, live, S.at hp]
          refine wpAny_bind (wpAny_isSame_ref_self (wpAny_bind (wpAny_pure ?_)))
          simp only [if_true]
          refine wp_if_neg (by simp [same]) ?_
          refine seek sc S ho hd hx hu few fr tk yes no f (c + (q + 1)) _ rfl (by omega) (by omega) fun i0 p0 h0 e0 => ?_
          obtain ⟨c', b1, b2, b3⟩ := ahead i0 p0 h0 e0
          have apart : c' ≠ c + q := fun ec => by
            rw [ec] at b3
            have z := slot_live S.tab.ris b3
            rw [live] at z
            injection z with z
            rw [← z, hp] at h0
            exact same ((congrArg Prod.snd (Option.some.inj h0)).trans e0)
          have later : ¬ c' < c + q := fun z =>
            passed (c' - c) i0 (by omega) (by rw [shj, show c + (c' - c) = c' by omega]; exact b3) ((hat i0 p0 h0).trans (congrArg (tupleKeyHash N) e0))
          exact ⟨c', by omega, b2, b3⟩
      by_cases ledq : t.led = true
      · refine wp_if_neg (by simp [ledq]) ?_
        try refine wpAny_bind (wpAny_pure ?_)
        exact go
      · refine wp_if_pos (by simp [ledq]) ?_
        refine wpAny_bind (unseen_tup sc hx (fun y hy => ?_) ?_)
        · obtain ⟨e, he, rfl⟩ := List.mem_map.mp hy
          have m1 : e ∈ es ∧ e.1 = tupleKeyHash N ks := by simpa using he
          have m2 : e ∈ es.toList := by simpa using m1.1
          rw [S.rows] at m2
          obtain ⟨p2, hp2, rfl⟩ := List.mem_map.mp m2
          exact ⟨p2.2, p2.1, rfl, S.tup p2 hp2⟩
        · refine wp_if_neg (by decide) ?_
          try refine wpAny_bind (wpAny_pure ?_)
          exact go
    · have pr' : t.probe (fun i => (es[i]?.map (·.1)).getD 0) (tupleKeyHash N ks) (st.getD (t.probeStart (tupleKeyHash N ks))) = some (.empty (way t.mask (tupleKeyHash N ks) kk) none) := by
        have e2 : way t.mask (tupleKeyHash N ks) kk = (nth t.mask (nth t.mask (strt t.mask (tupleKeyHash N ks)) c) (kk - c)).j := by
          rw [shj, show c + (kk - c) = kk by omega]
        rw [est, e2]
        exact pr
      rw [pr']
      dsimp only
      refine wpAny_pure (no fun hm => ?_)
      obtain ⟨p0, m0, e0⟩ := List.mem_map.mp hm
      obtain ⟨i0, lt0, q0⟩ := List.getElem_of_mem m0
      have h0 : L[i0]? = some p0 := by rw [List.getElem?_eq_getElem lt0, q0]
      obtain ⟨c', b1, b2, b3⟩ := ahead i0 p0 h0 e0
      exact passed (c' - c) i0 (by omega) (by rw [shj, show c + (c' - c) = c' by omega]; exact b3) ((hat i0 p0 h0).trans (congrArg (tupleKeyHash N) e0))
theorem seek_add (sc : Scan N) {o : Obj} {ep : Nat} (S : Sits N s.heap L es t) (ho : s.heap.get? a = some o) (hd : o.data = .set es ep t) {x : Addr} {ks : List κ} (hx : IsTupleKey N s.heap ks x) (hu : A.units < cLine) {Q : SetFound → Shared → Prop}
    (yes : ks ∈ L.map (·.2) → Q (.there none) s)
    (no : ∀ kk, ks ∉ L.map (·.2) → way t.mask (tupleKeyHash N ks) kk ∉ t.place.toList → (∀ c, c < kk → way t.mask (tupleKeyHash N ks) c ∈ t.place.toList) → Q (.free (way t.mask (tupleKeyHash N ks) kk) false) s) :
    wpAny (model P w) A (setSearch a (.ref x) (tupleKeyHash N ks) true) Q E s := by
  have rm := S.room
  obtain ⟨kk, k1, k2, k3⟩ := S.tab.first (by rw [List.length_map]; omega) (tupleKeyHash N ks)
  have small : 10 * SetTable.turns t.mask ≤ 1420 := by
    unfold SetTable.turns
    rcases S.tab.mok with e | e | e <;> omega
  unfold setSearch
  refine seek sc S ho hd hx hu k1 k2 k3 yes (fun hn => no kk hn k2 k3) 100000 0 none rfl (Nat.zero_le _) (by omega) fun i p hp e => ?_
  have hi : (hashes N L)[i]? = some (tupleKeyHash N ks) := by rw [List.getElem?_map, hp, ← e]; rfl
  have lt : i < t.place.toList.length := by
    have z1 : i < L.length := (List.getElem?_eq_some_iff.mp hp).1
    have z2 := S.tab.sz
    rw [List.length_map] at z2
    rw [Array.length_toList]
    omega
  obtain ⟨c, hc, e2⟩ := S.tab.before k2 hi (List.getElem?_eq_getElem lt)
  exact ⟨c, Nat.zero_le _, hc, by rw [List.getElem?_eq_getElem lt, e2]⟩
end
/-! ### filling it -/
section
variable {P : Program} {w : World} {κ : Type} [DecidableEq κ] {N : KeyKind P w κ} {A : Around} {E : Value → Shared → Prop} {s : Shared} {a : Addr} {L : List (Addr × List κ)} {es : Array (Int × Value)} {ep : Nat} {t : SetTable}
theorem mid_perm {α : Type} (l : List α) (i : Nat) (x : α) : (l.take i ++ x :: l.drop i).Perm (x :: l) := by
  have z := List.perm_middle (a := x) (l₁ := l.take i) (l₂ := l.drop i)
  rwa [List.take_append_drop] at z
theorem range_pick {α : Type} (l : List α) : (List.range l.length).filterMap (fun i => l[i]?) = l := by
  have step : ∀ n, n ≤ l.length → (List.range n).filterMap (fun i => l[i]?) = l.take n := by
    intro n
    induction n with
    | zero => intro _; rfl
    | succ n ih =>
      intro hn
      rw [List.range_succ, List.filterMap_append, ih (Nat.le_of_lt hn), List.take_succ]
      rw [List.getElem?_eq_getElem hn, List.filterMap_cons_some (List.getElem?_eq_getElem hn)]; rfl
  rw [step l.length (Nat.le_refl _), List.take_length]
theorem picked (L : List (Addr × List κ)) (es : Array (Int × Value)) (ord : Array Nat) (hr : es.toList = stored N L) (hp : ord.toList.Perm (List.range L.length)) :
    ∃ L2, (ord.filterMap (es[·]?)).toList = stored N L2 ∧ L2.Perm L ∧ hashes N L2 = ord.toList.map fun i => (es.map (·.1)).getD i 0 := by
  have sz : es.size = L.length := by rw [← Array.length_toList, hr, List.length_map]
  have one : ∀ i (h : i < L.length), es[i]? = some (tupleKeyHash N (L[i]).2, Value.ref (L[i]).1) := fun i h => by
    rw [← Array.getElem?_toList, hr, List.getElem?_map, List.getElem?_eq_getElem h]; rfl
  have all : ∀ l : List Nat, (∀ i ∈ l, i < L.length) → ∃ L2 : List (Addr × List κ), l.filterMap (fun i => es[i]?) = stored N L2 ∧ L2 = l.filterMap (fun i => L[i]?) ∧ hashes N L2 = l.map fun i => (es.map (·.1)).getD i 0 := by
    intro l
    induction l with
    | nil => exact fun _ => ⟨[], rfl, rfl, rfl⟩
    | cons i l ih =>
      intro hl
      have hi := hl i List.mem_cons_self
      obtain ⟨L2, e1, e2, e3⟩ := ih fun j hj => hl j (List.mem_cons_of_mem _ hj)
      refine ⟨L[i] :: L2, ?_, ?_, ?_⟩
      · rw [List.filterMap_cons_some (one i hi), e1]; rfl
      · rw [List.filterMap_cons_some (List.getElem?_eq_getElem hi), e2]
      · have e5 : (es.map (·.1))[i]? = some (tupleKeyHash N (L[i]).2) := by rw [Array.getElem?_map, one i hi]; rfl
        have e4 : (es.map (·.1)).getD i 0 = tupleKeyHash N (L[i]).2 := by simp [Array.getD_eq_getD_getElem?, e5]
        show tupleKeyHash N (L[i]).2 :: hashes N L2 = _
        rw [List.map_cons, e3, e4]
  obtain ⟨L2, e1, e2, e3⟩ := all ord.toList fun i hi => List.mem_range.mp (hp.mem_iff.mp hi)
  refine ⟨L2, by first | (rw [Array.toList_filterMap]; exact e1) | simpa using e1, ?_, e3⟩
  rw [e2]
  have z := hp.filterMap fun i => L[i]?
  rwa [range_pick] at z
theorem relaid_set {o : Obj} (ho : s.heap.get? a = some o) (ex : o.ExactSet) (hd : o.data = .set es ep t) (rows : es.toList = stored N L) (sz : t.place.size = es.size) (dm : t.dummies = #[]) (fl : es.size ≤ t.mask)
    (nd : (L.map (·.2)).Nodup) (tup : ∀ p ∈ L, IsTupleKey N s.heap p.2 p.1) (ld : w.params.followText "set-order" = true ∨ t.led = true) (few : L.length < 64) {want M : Nat}
    (hw : SetTable.sizeAbove want - 1 = M) (hM : MaskOk M) (hw2 : SetTable.sizeAbove want ≤ 128) (hn : L.length * 5 < M * 3) {Q : Unit → Shared → Prop}
    (fin : ∀ h' L', Heap.SameBut a s.heap h' → TSet N h' a L' → L'.Perm L → Q () { s with heap := h' }) : wpAny (model P w) A (setRelay a want) Q E s := by
  have sl : es.size = L.length := by rw [← Array.length_toList, rows, List.length_map]
  have fits : t.fits es.size = true := by
    unfold SetTable.fits SetTable.fill
    rw [dm, Bool.and_eq_true, beq_iff_eq, decide_eq_true_eq]
    refine ⟨by omega, ?_⟩
    show t.place.size + 0 ≤ t.mask
    omega
  obtain ⟨t', ord, e, hp, T, em, el, _, _⟩ := relaid_ok t (hs := es.map (·.1)) (wanted := want) hw hM (by rw [Array.size_map, sl]; omega)
  rw [Array.size_map, sl] at hp
  obtain ⟨L2, r1, r2, r3⟩ := picked L es ord rows hp
  rw [← r3] at T
  have s2 : (ord.filterMap (es[·]?)).size = es.size := by rw [← Array.length_toList, r1, List.length_map, r2.length_eq, sl]
  rw [setRelay_eq]
  refine wpAny_bind (wpAny_setState_of ho hd fits ?_)
  dsimp only
  refine wp_if_neg (by rw [sizeLine_eq]; omega) ?_
  try refine wpAny_bind (wpAny_pure ?_)
  rw [e]
  dsimp only
  refine wpAny_bind ?_
  refine wp_if_neg (by rw [s2]; simp) ?_
  try refine wpAny_bind (wpAny_pure ?_)
  refine wpAny_pure ?_
  dsimp only
  refine wpAny_storeSet_of ho hd ?_ (by rw [s2, sl, sizeLine_eq]; omega)
  have sb : Heap.SameBut a s.heap (s.heap.update a (Obj.putSet (ord.filterMap (es[·]?)) t')) := Heap.SameBut.update ..
  refine fin _ L2 sb ⟨_, ord.filterMap (es[·]?), ep + 1, t', store_at ho hd, ⟨ex.1, ex.2.1, ex.2.2⟩, rfl, r1, T, ?_, fun p hpm => tk_but (tup p (r2.mem_iff.mp hpm)) ho hd sb, by rw [el]; exact ld, ?_, by rw [r2.length_eq]; exact few⟩ r2
  · exact (r2.map (·.2)).nodup_iff.mpr nd
  · rw [r2.length_eq, em]; exact hn
theorem tset_add (sc : Scan N) (T : TSet N s.heap a L) {x : Addr} {ks : List κ} (hx : IsTupleKey N s.heap ks x) (hu : A.units < cLine) (few : L.length + 1 < 64) {Q : Bool → Shared → Prop}
    (fin : ∀ b h' L', Heap.SameBut a s.heap h' → TSet N h' a L' → (ks ∈ L.map (·.2) → L' = L) → (ks ∉ L.map (·.2) → L'.Perm ((x, ks) :: L)) → Q b { s with heap := h' }) :
    wpAny (model P w) A (setAddHashed a (.ref x) (tupleKeyHash N ks)) Q E s := by
  obtain ⟨o, es, ep, t, ho, ex, hd, S⟩ := T.ex
  have sl := S.size
  have rm := S.room
  unfold setAddHashed
  refine wpAny_holding ?_
  rw [show (100000 : Nat) = 99999 + 1 from rfl, setAddHashedIn_succ]
  refine wpAny_bind (wpAny_setState_of ho hd S.fits ?_)
  dsimp only
  refine wp_if_neg (by simp [byScan, Value.scannable]) ?_
  try refine wpAny_bind (wpAny_pure ?_)
  refine wpAny_bind (seek_add sc S ho hd hx hu (fun hm => ?_) fun kk hm free taken => ?_)
  · dsimp only
    exact wpAny_pure (fin false s.heap L (Heap.SameBut.refl a s.heap) T (fun _ => rfl) fun z => absurd hm z)
  · dsimp only
    refine wpAny_bind (wpAny_setState_of ho hd S.fits ?_)
    dsimp only
    obtain ⟨q1, q2, q3, q4, q5, q6, q7, q8, q9⟩ := S.tab.put free taken
    clear q6 q7 q8
    generalize hpt : t.put (way t.mask (tupleKeyHash N ks) kk) = pt at q1 q3 q4 q5 q9 ⊢
    obtain ⟨t1, i⟩ := pt
    dsimp only at q1 q3 q4 q5 q9 ⊢
    subst q1
    -- whatever is told of the values: the table stands alike
    have rest : ∀ t2 : SetTable, t2.place = t1.place → t2.dummies = t1.dummies → t2.mask = t1.mask → t2.led = t1.led → wpAny (model P w) A (do
        storeSet a (SetTable.insertAt es (SetTable.below t.place (way t.mask (tupleKeyHash N ks) kk)) (tupleKeyHash N ks, Value.ref x)) t2
        if !false && t2.tooFull then setRelay a (SetTable.grown (es.size + 1))
        return true) Q E s := by
      intro t2 g1 g2 g3 g4
      have ins : (SetTable.insertAt es (SetTable.below t.place (way t.mask (tupleKeyHash N ks) kk)) (tupleKeyHash N ks, Value.ref x)).toList = stored N (L.take (SetTable.below t.place (way t.mask (tupleKeyHash N ks) kk)) ++ (x, ks) :: L.drop (SetTable.below t.place (way t.mask (tupleKeyHash N ks) kk))) := by
        rw [SetTable.toList_insertAt, S.rows]
        show _ = List.map _ _
        rw [List.map_append, List.map_cons, List.map_take, List.map_drop]
      generalize hpp : SetTable.below t.place (way t.mask (tupleKeyHash N ks) kk) = j at q2 q3 ins ⊢
      have pm := mid_perm L j (x, ks)
      have len : (L.take j ++ (x, ks) :: L.drop j).length = L.length + 1 := pm.length_eq
      have hh : hashes N (L.take j ++ (x, ks) :: L.drop j) = (hashes N L).take j ++ tupleKeyHash N ks :: (hashes N L).drop j := by
        show List.map _ _ = _
        rw [List.map_append, List.map_cons, List.map_take, List.map_drop]
      rw [← hh] at q3
      have nd1 : ((L.take j ++ (x, ks) :: L.drop j).map (·.2)).Nodup := by
        refine (pm.map (·.2)).nodup_iff.mpr ?_
        rw [List.map_cons]
        exact List.nodup_cons.mpr ⟨hm, S.nd⟩
      have es1s : (SetTable.insertAt es j (tupleKeyHash N ks, Value.ref x)).size = L.length + 1 := by
        rw [← Array.length_toList, ins, List.length_map, len]
      generalize SetTable.insertAt es j (tupleKeyHash N ks, Value.ref x) = es1 at ins es1s ⊢
      generalize L.take j ++ (x, ks) :: L.drop j = L1 at pm len q3 nd1 ins
      have tb : TabOk t2 (hashes N L1) := ⟨by rw [g1]; exact q3.ris, by rw [g2]; exact q3.dm, by rw [g1]; exact q3.sz, by rw [g3]; exact q3.mok, by rw [g1, g3]; exact q3.bd, by rw [g1, g3]; exact q3.reach⟩
      have full : t2.tooFull = t1.tooFull := by unfold SetTable.tooFull SetTable.fill; rw [g1, g2, g3]
      refine wpAny_bind (wpAny_storeSet_of ho hd ?_ (by rw [es1s, sizeLine_eq]; omega))
      have sb : Heap.SameBut a s.heap (s.heap.update a (Obj.putSet es1 t2)) := Heap.SameBut.update ..
      have ho1 := store_at (es' := es1) (t' := t2) ho hd
      generalize s.heap.update a (Obj.putSet es1 t2) = h1 at sb ho1 ⊢
      have tup1 : ∀ p ∈ L1, IsTupleKey N h1 p.2 p.1 := fun p hp => by
        rcases List.mem_cons.mp (pm.mem_iff.mp hp) with e | hp
        · rw [e]; exact tk_but hx ho hd sb
        · exact tk_but (S.tup p hp) ho hd sb
      have ld1 : w.params.followText "set-order" = true ∨ t2.led = true := by rw [g4, q5]; exact S.led
      by_cases ful : t1.tooFull = true
      · have ful2 : t2.tooFull = true := full.trans ful
        first
          | (refine wpAny_bind ?_; refine wp_if_pos (by simp [ful2]) ?_)
          | (refine wp_if_pos (by simp [ful2]) ?_; refine wpAny_bind ?_)
        have much : (L.length + 1) * 5 ≥ t1.mask * 3 := by
          have z := ful
          unfold SetTable.tooFull at z
          rw [decide_eq_true_eq, q9, List.length_map] at z
          exact z
        rw [sl]
        have sz1 : t2.place.size = es1.size := by
          have z := q3.sz
          rw [List.length_map, len] at z
          rw [g1, z, es1s]
        have two : (t.mask = 7 ∧ L.length = 4) ∨ (t.mask = 31 ∧ L.length = 18) := by
          rcases S.tab.mok with e | e | e
          · rw [q4, e] at much; rw [e] at rm; exact .inl ⟨e, by omega⟩
          · rw [q4, e] at much; rw [e] at rm; exact .inr ⟨e, by omega⟩
          · rw [q4, e] at much; omega
        have go : ∀ M, SetTable.sizeAbove (SetTable.grown (L.length + 1)) - 1 = M → MaskOk M → SetTable.sizeAbove (SetTable.grown (L.length + 1)) ≤ 128 → (L.length + 1) * 5 < M * 3 →
            wpAny (model P w) A (setRelay a (SetTable.grown (L.length + 1))) (fun _ s' => wpAny (model P w) A (pure true) Q E s') E { s with heap := h1 } := fun M z1 z2 z3 z4 => by
          refine relaid_set (s := { s with heap := h1 }) ho1 ⟨ex.1, ex.2.1, ex.2.2⟩ rfl ins sz1 (by rw [g2]; exact q3.dm) (by rw [es1s, g3, q4]; rcases two with ⟨e, e2⟩ | ⟨e, e2⟩ <;> omega) nd1 tup1 ld1 (by rw [len]; exact few) z1 z2 z3 (by rw [len]; exact z4) ?_
          intro h2 L2 sb2 T2 pm2
          exact wpAny_pure (fin true h2 L2 (sb.trans sb2) T2 (fun z => absurd z hm) fun _ => pm2.trans pm)
        rcases two with ⟨_, e2⟩ | ⟨_, e2⟩
        · exact go 31 (by rw [e2, size_20]) (.inr (.inl rfl)) (by rw [e2, size_20]; decide) (by omega)
        · exact go 127 (by rw [e2, size_76]) (.inr (.inr rfl)) (by rw [e2, size_76]; decide) (by omega)
      · have ful2 : ¬ t2.tooFull = true := by rw [full]; exact ful
        first
          | refine wp_if_neg (by simp [ful2]) ?_
          | (refine wpAny_bind ?_; refine wp_if_neg (by simp [ful2]) ?_; refine wpAny_pure ?_)
        refine wpAny_pure (fin true h1 L1 sb ⟨_, es1, ep + 1, t2, ho1, ⟨ex.1, ex.2.1, ex.2.2⟩, rfl, ins, tb, nd1, tup1, ld1, ?_, by rw [len]; exact few⟩ (fun z => absurd z hm) fun _ => pm)
        have z := ful
        unfold SetTable.tooFull at z
        rw [decide_eq_true_eq, q9, List.length_map] at z
        rw [len, g3]
        omega
    by_cases pl : t1.plain = true
    · first
        | (refine wpAny_bind ?_; refine wp_if_pos pl ?_; refine byValue_tup sc hx fun bv => ?_)
        | refine wp_if_pos pl (wpAny_bind (byValue_tup sc hx fun bv => ?_))
      cases bv with
      | true => exact rest t1 rfl rfl rfl rfl
      | false => exact rest { t1 with plain := false } rfl rfl rfl rfl
    · first
        | (refine wpAny_bind ?_; refine wp_if_neg pl ?_; refine wpAny_pure ?_)
        | refine wp_if_neg pl (wpAny_bind (wpAny_pure ?_))
      exact rest t1 rfl rfl rfl rfl
end
end DL
/-! Data layer, part 35: set(list of tuples of keys), its length. -/
namespace DL
open PySem PySem.Spec PyProof.Rows L2
section
variable {P : Program} {w : World} {κ : Type} [DecidableEq κ] {N : KeyKind P w κ} {A : Around} {E : Value → Shared → Prop} {s : Shared} {a : Addr} {L : List (Addr × List κ)}
theorem tset_bare {h : Heap} (z : h.get? a = some (bareSet w)) : TSet N h a [] := by
  refine ⟨_, #[], 0, _, z, ⟨rfl, rfl, rfl⟩, rfl, rfl, ⟨List.Pairwise.nil, rfl, rfl, .inl rfl, (fun x q => nomatch q), (fun i y j q => by simp at q)⟩, List.nodup_nil, (fun p q => nomatch q), ?_, by show 0 * 5 < 7 * 3; decide, by show 0 < 64; decide⟩
  show _ ∨ (!w.params.followText "set-order") = true
  cases w.params.followText "set-order"
  · exact .inr rfl
  · exact .inl rfl
/-- what a set has of the first i -/
structure Has (ks : List (Addr × List κ)) (i : Nat) (L : List (Addr × List κ)) : Prop where
  sub : ∀ p ∈ L, p ∈ ks.take i
  all : ∀ p ∈ ks.take i, p.2 ∈ L.map (·.2)
  len : L.length ≤ i
theorem Has.step {ks L' : List (Addr × List κ)} {i : Nat} {x : Addr × List κ} (g : Has ks i L) (e : ks[i]? = some x) (c1 : x.2 ∈ L.map (·.2) → L' = L) (c2 : x.2 ∉ L.map (·.2) → L'.Perm ((x.1, x.2) :: L)) : Has ks (i + 1) L' := by
  have tk : ks.take (i + 1) = ks.take i ++ [x] := by rw [List.take_succ, e]; rfl
  by_cases c : x.2 ∈ L.map (·.2)
  · obtain rfl := c1 c
    refine ⟨fun p hp => by rw [tk]; exact List.mem_append_left _ (g.sub p hp), fun p hp => ?_, Nat.le_succ_of_le g.len⟩
    rw [tk] at hp
    rcases List.mem_append.mp hp with z | z
    · exact g.all p z
    · rw [List.mem_singleton.mp z]; exact c
  · have pm := c2 c
    refine ⟨fun p hp => ?_, fun p hp => ?_, by rw [pm.length_eq]; exact Nat.succ_le_succ g.len⟩
    · rw [tk]
      rcases List.mem_cons.mp (pm.mem_iff.mp hp) with z | z
      · rw [z]; exact List.mem_append_right _ List.mem_cons_self
      · exact List.mem_append_left _ (g.sub p z)
    · rw [(pm.map (·.2)).mem_iff, List.map_cons]
      rw [tk] at hp
      rcases List.mem_append.mp hp with z | z
      · exact List.mem_cons_of_mem _ (g.all p z)
      · rw [List.mem_singleton.mp z]; exact List.mem_cons_self
theorem tset_fill (sc : Scan N) {I : Addr} {fp wr : List Addr} {G : Array GenState → Array GenState → Prop} {c : Nat} {Pv : Nat → Value → Prop} {St : Nat → Shared → Prop} {R : Result → Shared → Prop} (W : WalksS P w A.in1 I fp wr G c Pv St) (B : Addr) (out : B ∉ fp)
    (ks : List (Addr × List κ)) (hc : c = ks.length) (few : ks.length < 64) (val : ∀ i v, Pv i v → ∃ p, ks[i]? = some p ∧ v = .ref p.1) (h0 : Heap) (tk : ∀ p ∈ ks, IsTupleKey N h0 p.2 p.1) (h0B : h0.get? B = none) (h0w : ∀ b ∈ wr, h0.get? b = none) (hu : A.in1.units < cLine) :
    ∀ (j i : Nat) (s : Shared), c - i = j → i ≤ c → St i s → (∀ b o, h0.get? b = some o → s.heap.get? b = some o) → (∃ L, TSet N s.heap B L ∧ Has ks i L) →
    (∀ s' L, Moved (B :: wr) G s s' → TSet N s'.heap B L → Has ks c L → (∀ b o, h0.get? b = some o → s'.heap.get? b = some o) → R (.ok (.ret .none)) s') → codeAny (model P w) A (.builtin "set.update.loop" ⟨[.ref B, .ref I], []⟩) R s := by
  have out' : B ∉ wr := fun q => out (W.sub _ q)
  have more : ∀ b ∈ wr, b ∈ B :: wr := fun b hb => List.mem_cons_of_mem _ hb
  have on : ∀ {s s' : Shared}, Moved wr G s s' → (∀ b o, h0.get? b = some o → s.heap.get? b = some o) → ∀ b o, h0.get? b = some o → s'.heap.get? b = some o := fun mv kp b o e =>
    mv.heap b o (fun hb => by rw [h0w b hb] at e; cases e) (kp b o e)
  intro j
  induction j with
  | zero =>
    rintro i s hj hi st kp ⟨L, T, g⟩ fin
    obtain rfl : i = c := by omega
    refine codeAny_builtin F.entry_set_update_loop ?_
    rw [Around.under_plainId F.plain_set_update_loop _]; show wpAny _ A.in1 (pyNext (.ref I) >>= _) _ _ s
    refine wpAny_bind (W.done s _ _ st fun s1 mv => ?_)
    show wpAny _ A.in1 (ret Value.none) _ _ s1
    have kp1 := on mv kp
    exact wpAny_pure (fin s1 L (mv.mono more) (T.keep (fun o e => mv.heap B o out' e) fun p hp => tk_keep (tk p (List.mem_of_mem_take (g.sub p hp))) kp1) g kp1)
  | succ j ih =>
    rintro i s hj hi st kp ⟨L, T, g⟩ fin
    have lt : i < c := by omega
    refine codeAny_builtin F.entry_set_update_loop ?_
    rw [Around.under_plainId F.plain_set_update_loop _]; show wpAny _ A.in1 (pyNext (.ref I) >>= _) _ _ s
    refine wpAny_bind (W.item i s _ _ lt st fun v s1 pv st1 mv => ?_)
    obtain ⟨p, hp, rfl⟩ := val i v pv
    have kp1 := on mv kp
    have T1 : TSet N s1.heap B L := T.keep (fun o e => mv.heap B o out' e) fun q hq => tk_keep (tk q (List.mem_of_mem_take (g.sub q hq))) kp1
    have px : IsTupleKey N s1.heap p.2 p.1 := tk_keep (tk p (List.mem_of_getElem? hp)) kp1
    show wpAny _ A.in1 (holding [Value.ref p.1] (setAdd B (.ref p.1)) >>= _) _ _ s1
    refine wpAny_bind (wpAny_holding ?_)
    unfold setAdd
    refine wpAny_holding (wpAny_bind (wpAny_pyHash_tuple hu px ?_))
    refine tset_add (s := { s1 with toks := s1.toks + (p.2.length + 1) }) sc T1 px hu (by have := g.len; omega) fun b h' L' sb T2 c1 c2 => ?_
    have g2 : Has ks (i + 1) L' := g.step hp c1 c2
    have kp2 : ∀ b o, h0.get? b = some o → h'.get? b = some o := fun b o e => (sb.2 b fun z => by rw [z, h0B] at e; cases e).trans (kp1 b o e)
    refine wpAny_pure ⟨plainId_quiet F.plain_set_update_loop _, ih (i + 1) _ (by omega) lt (W.frame _ s1 _ _ st1 (Nat.le_add_right _ _) fun x hx o e => ?_) kp2 ⟨L', T2, g2⟩ fun s2 L2 mv2 T3 g3 kp3 => ?_⟩
    · rw [sb.2 x (fun q : x = B => out (q ▸ hx))]; exact e
    · refine fin s2 L2 (Moved.trans W.gtrans ((mv.mono more).then_heap (Nat.le_add_right _ _) fun x o hx e => ?_) mv2) T3 g3 kp3
      rw [sb.2 x (fun q : x = B => hx (q ▸ List.mem_cons_self))]; exact e
/-- set(l) of a list of tuples -/
theorem set_tups (sc : Scan N) {l : Addr} {items : Array Value} (ks : List (Addr × List κ)) {Q : Value → Shared → Prop} (calm : A.handled = none) (hl : s.heap.IsList l items) (len : items.size = ks.length) (few : ks.length < 64)
    (val : ∀ (i : Nat) (v : Value), items[i]? = some v → ∃ p, ks[i]? = some p ∧ v = .ref p.1) (tk : ∀ p ∈ ks, IsTupleKey N s.heap p.2 p.1) (hu : A.units + 3 < cLine)
    (fin : ∀ (h' : Heap) (tk : Nat) L, TSet N h' s.heap.objs.size L → Has ks ks.length L → (∀ b o, s.heap.get? b = some o → h'.get? b = some o) → Q (.ref s.heap.objs.size) { s with heap := h', toks := tk }) :
    wpAny (model P w) A (call (.type "set") [.ref l]) Q E s := by
  obtain ⟨cc, tl, mro⟩ := F.called_set.mro
  have made := F.called_set.made
  have sub := F.called_set.sub
  refine wpAny_call (codeAny_of_tree ?_)
  show wpAny _ _ (callAny (.type "set") _) _ _ _
  refine wpAny_pure ⟨Code.quiet_builtin _ (by decide +kernel), codeAny_builtin F.entry_type_call ?_⟩
  rw [Around.under_plain (weight_type_call_type "set" [.ref l] []) rfl]
  have f1 := F.called_set.notType
  have f2 := F.called_set.canCreate
  have f3 := F.typeCall_set_1 (.ref l)
  repeat any_goals (first | assumption | wp_step)
  refine codeAny_mono (code_set_led1 (.ref l) (E := E) (Q₁ := fun obj s₁ => obj = .ref s.heap.objs.size ∧ s₁ = { s with heap := s.heap.push (bareSet w) }) ⟨rfl, rfl⟩) fun r s₁ got => ?_
  match r, got with
  | .error e, got => exact got
  | .ok (.ret obj), got =>
    obtain ⟨rfl, rfl⟩ := got
    have zS : (s.heap.push (bareSet w)).get? s.heap.objs.size = some (bareSet w) := Heap.get?_push_size _ rfl
    have tS : Shared.TypeIs { s with heap := s.heap.push (bareSet w) } (.ref s.heap.objs.size) "set" := ⟨_, zS, rfl⟩
    have il := F.called_set.init.lookup
    have ib := F.called_set.init.bind (.ref s.heap.objs.size)
    repeat any_goals (first | assumption | wp_step)
    refine codeAny_mono (codeAny_call_builtin (R := wants (fun r s₂ => r = .none ∧ ∃ h' tk L, s₂ = { s with heap := h', toks := tk } ∧ TSet N h' s.heap.objs.size L ∧ Has ks ks.length L ∧ (∀ b o, s.heap.get? b = some o → h'.get? b = some o)) E) F.called_set.init.plain F.entry_set_init (check_set_init_1 tS ?_)) fun r₂ s₂ got₂ => ?_
    · obtain ⟨ol, hol, hcl, nl, hdl⟩ := hl
      obtain ⟨ocls, odict, odata, oslots⟩ := ol
      simp only at hcl hdl
      subst hcl hdl
      have hol1 : (s.heap.push (bareSet w)).get? l = some { cls := .type "list", dict := odict, data := .seq items nl, slots := oslots } := Heap.get?_push_of_some _ hol
      have n1 : (Value.type "list" == Value.type "dict") = false := by decide
      have hl1 : (s.heap.push (bareSet w)).IsList l items := ⟨_, hol1, rfl, nl, rfl⟩
      have g1 := F.sub_list_set
      have g2 := F.sub_list_frozenset
      unfold Builtin.«set.__init__» noKeywords Builtin.Frozenset.updateFrom
      generalize ePI : pyIter = PI
      wp_walk
      subst ePI
      refine wpAny_pyIter_list hl1 (wpAny_bind (wpAny_runValue ?_))
      have lS : l < s.heap.objs.size := Heap.lt_size hol
      have calm3 : A.in1.in1.in1.handled = none := by simp [calm]
      have sz1 : (s.heap.push (bareSet w)).objs.size = s.heap.objs.size + 1 := Heap.size_push ..
      have lI : l ≠ (s.heap.push (bareSet w)).objs.size := by rw [sz1]; exact Nat.ne_of_lt (Nat.lt_succ_of_lt lS)
      have outf : s.heap.objs.size ∉ [(s.heap.push (bareSet w)).objs.size, l] := by
        rw [sz1]
        intro q
        rcases List.mem_cons.mp q with q | q
        · exact absurd q (Nat.ne_of_lt (Nat.lt_succ_self _))
        · exact absurd (List.mem_singleton.mp q) (Nat.ne_of_gt lS)
      have nil_of : ∀ b, s.heap.objs.size ≤ b → s.heap.get? b = none := fun b hb => by
        cases q : s.heap.get? b with
        | none => rfl
        | some o => exact absurd (Nat.lt_of_lt_of_le (Heap.lt_size q) hb) (Nat.lt_irrefl _)
      refine tset_fill (N := N) sc ((Walks.list calm3 _ l lI items).toS) s.heap.objs.size outf ks len few val s.heap tk (nil_of _ (Nat.le_refl _)) (fun b hb => nil_of b (by rw [List.mem_singleton.mp hb, sz1]; exact Nat.le_succ _)) hu
        (items.size - 0) 0 _ (by omega) (Nat.zero_le _) ⟨⟨_, Heap.get?_push_size _ rfl, rfl, rfl⟩, (hl1.push _)⟩ (fun b o e => Heap.get?_push_of_some _ (Heap.get?_push_of_some _ e)) ?start ?last
      case start => exact ⟨[], tset_bare (Heap.get?_push_of_some _ zS), ⟨(fun p q => nomatch q), (fun p q => by simp at q), Nat.le_refl _⟩⟩
      case last =>
        intro s' L mv T g kp
        obtain ⟨h', gg, d', tk', os'⟩ := s'
        obtain rfl : gg = s.gens := mv.gens
        obtain rfl : d' = s.drawn := mv.drawn
        obtain rfl : os' = s.os := mv.os
        show wpAny _ _ _ _ _ _
        refine wpAny_pure ?_
        show wpAny _ _ (ret Value.none) _ _ _
        rw [len] at g
        exact wpAny_pure ⟨rfl, h', tk', L, rfl, T, g, kp⟩
    · match r₂, got₂ with
      | .error e, got₂ => exact got₂
      | .ok (.ret r), got₂ =>
        obtain ⟨rfl, h', tk, L, rfl, T, g, kk⟩ := got₂
        repeat any_goals (first | assumption | wp_step)
        exact fin _ _ _ T g kk
end
/-! ### len(set(xs)) over data -/
def keyOf : D → Option L2.Key
  | .int i => some (.inl i)
  | .str x => some (.inr x)
  | _ => none
def keysOf : List D → Option (List L2.Key)
  | [] => some []
  | d :: ds => match keyOf d, keysOf ds with
    | some k, some ks => some (k :: ks)
    | _, _ => none
def tupsKeys : List D → Option (List (List L2.Key))
  | [] => some []
  | .tup es :: ds => match keysOf es, tupsKeys ds with
    | some k, some ks => some (k :: ks)
    | _, _ => none
  | _ :: _ => none
theorem key_rel [Cl] {K : PySem.W.Frag} {W : Wd} {v : V} {d : D} {k : L2.Key} (r : R K W v d) (e : keyOf d = some k) : v = L2.kV k := by
  cases d <;> first | (cases e; cases r; rfl) | cases e
theorem keys_rel [Cl] {K : PySem.W.Frag} {W : Wd} : ∀ {vs : List V} {ds : List D} {ks : List L2.Key}, RA K W vs ds → keysOf ds = some ks → vs = ks.map L2.kV
  | _, _, _, .nil, e => by cases e; rfl
  | _, _, _, @RA.cons _ _ _ v vs d ds h r, e => by
    unfold keysOf at e
    cases e1 : keyOf d with
    | none => rw [e1] at e; simp at e
    | some k =>
      cases e2 : keysOf ds with
      | none => rw [e1, e2] at e; simp at e
      | some ks =>
        rw [e1, e2] at e
        cases e
        rw [key_rel h e1, keys_rel r e2]; rfl
theorem tups_rel [Cl] {K : PySem.W.Frag} {W : Wd} : ∀ {vs : List V} {ds : List D} {kss : List (List L2.Key)}, RA K W vs ds → tupsKeys ds = some kss → ∃ ks : List (Addr × List L2.Key), vs = ks.map (fun p => V.ref p.1) ∧ ks.map (·.2) = kss ∧ ∀ p ∈ ks, SqT K W.st p.1 (p.2.map L2.kV)
  | _, _, _, .nil, e => by cases e; exact ⟨[], rfl, rfl, fun p z => nomatch z⟩
  | _, _, kss, @RA.cons _ _ _ v vs d ds h r, e => by
    cases d with
    | tup es =>
      unfold tupsKeys at e
      cases e1 : keysOf es with
      | none => rw [e1] at e; simp at e
      | some k =>
        cases e2 : tupsKeys ds with
        | none => rw [e1, e2] at e; simp at e
        | some ks =>
          rw [e1, e2] at e
          cases e
          obtain ⟨ps, g1, g2, g3⟩ := tups_rel r e2
          cases h with
          | @tup a xs _ hs ra =>
            refine ⟨(a, k) :: ps, by rw [g1]; rfl, by rw [← g2]; rfl, fun p hp => ?_⟩
            rcases List.mem_cons.mp hp with z | z
            · rw [z]; show SqT K W.st a (k.map L2.kV); rw [← keys_rel ra e1]; exact hs
            · exact g3 p z
    | _ => cases e
/-- as many as there are unlike ones -/
def many {α : Type} [DecidableEq α] : List α → Nat
  | [] => 0
  | x :: xs => if x ∈ xs then many xs else many xs + 1
theorem many_same {α : Type} [DecidableEq α] : ∀ (L l : List α), L.Nodup → (∀ x, x ∈ L ↔ x ∈ l) → L.length = many l
  | L, [], _, h => by
    cases L with
    | nil => rfl
    | cons x L => exact absurd ((h x).1 List.mem_cons_self) (by simp)
  | L, x :: xs, nd, h => by
    unfold many
    by_cases e : x ∈ xs
    · rw [if_pos e]
      exact many_same L xs nd fun y => by
        rw [h y, List.mem_cons]
        exact ⟨fun z => z.elim (fun q => q ▸ e) id, .inr⟩
    · rw [if_neg e]
      have hx : x ∈ L := (h x).2 List.mem_cons_self
      have pl : (L.erase x).length + 1 = L.length := by
        have := List.length_erase_of_mem hx
        have p : 0 < L.length := List.length_pos_of_mem hx
        omega
      rw [← pl]
      congr 1
      refine many_same (L.erase x) xs (nd.erase x) fun y => ?_
      rw [nd.mem_erase_iff, h y, List.mem_cons]
      constructor
      · rintro ⟨h1, h2 | h2⟩
        · exact absurd h2 h1
        · exact h2
      · exact fun h2 => ⟨fun q => e (q ▸ h2), .inr h2⟩
def dLenSet (x : D) (m : Sto) (q : D → Sto → Prop) : Prop := onS (seqL x m) fun ds => onS (tupsKeys ds) fun ks => ks.length < 64 ∧ q (.int (many ks : Nat)) m
theorem mix_scan {P : Program} {w : World} : Scan (L2.mixKind P w) := fun k v h => by
  cases k with
  | inl i =>
    obtain ⟨t, rfl⟩ := Value.isInt_shape (show Value.isInt i v = true from h)
    rfl
  | inr x =>
    obtain ⟨t, rfl⟩ := Value.isStrOf_shape (show Value.isStrOf x v = true from h)
    rfl
section
variable [Cl] [Lk] {X : Cx} {p p2 q pos : Pos} {a : Expr} {ta : DE}
theorem tupkey_of {pins : List (Addr × Obj)} {σ : L2.St} {H : Hp} {s : Shared} {b : Addr} {k : List L2.Key} (I : Inv X pins σ H s) (h : SqT X.K H b (k.map L2.kV)) : IsTupleKey (L2.mixKind X.prog X.w) s.heap k b := by
  obtain ⟨its, r, ⟨o, ho, hc, n, hd⟩, _⟩ := I.tuple h
  exact ⟨o, its.toArray, n, ho, hc, hd, by simpa using L2.items_are r⟩
theorem refs_at : ∀ {ks : List (Addr × List L2.Key)} {us : List Value}, Vals (ks.map fun p => V.ref p.1) us → us = ks.map fun p => Value.ref p.1
  | [], _, .nil => rfl
  | p :: ks, _, .cons r t => by cases r; rw [refs_at t]; rfl
theorem je_lenSet {k : Nat} (hc : X.calm = true) (hr : Room k X.A) (hg : Gl X "len") (hm : X.mg "len" = none) (hg2 : Gl X "set") (hm2 : X.mg "set" = none) (ha : JE X a ta)
    (na : starEach [a] X.env = (false, eval a X.env) :: starEach [] X.env := by rfl) : JE X (.Call (.Name "len" p) [.Call (.Name "set" p2) [a] [] q] [] pos) (dUn dLenSet ta) := by
  refine ⟨fun pins s σ H Q I h => ?_⟩
  have hu := units64 hr
  obtain ⟨W, F, m, r, qq, rel, rs, h, kk⟩ := h
  refine Call_ (ld_blt I hg hm PySem.boot_len ?_)
  refine PyProof.Rows.callWith_builtin1 (PyProof.Rows.args_cons ?_ rfl) rfl rfl
  refine Call_ (ld_blt I hg2 hm2 PyProof.Rows.boot_set ?_)
  have h' : liftE X.K ta σ H fun x H1 => ∃ (l : Addr) (ks : List (Addr × List L2.Key)), x = V.ref l ∧ SqL X.K H1 l (ks.map fun p => V.ref p.1) ∧ (∀ p ∈ ks, SqT X.K H1 p.1 (p.2.map L2.kV)) ∧ ks.length < 64 ∧ Q (.int (many (ks.map (·.2)) : Nat)) H1 := by
    refine ⟨W, F, m, r, _, rel, rs, h, fun W1 H1 m1 v d l1 rel1 rv hq => ?_⟩
    obtain ⟨ds, e1, hq⟩ := onS_some hq
    obtain ⟨kss, e2, h64, hq⟩ := onS_some hq
    obtain ⟨l, xs, rfl, hs, ra⟩ := seqL_at rel1 rv e1
    obtain ⟨ks, rfl, rfl, hk⟩ := tups_rel ra e2
    rw [List.length_map] at h64
    exact ⟨l, ks, rfl, hs, fun p hp => same_seqT rel1.sub (hk p hp), h64, kk _ _ _ _ _ l1 rel1 (.int _) hq⟩
  refine PyProof.Rows.callWith_type1 (PyProof.Rows.args_cons (thn (ha.run pins s σ H _ I h') fun v s1 ⟨x, H1, I1, r1, q1⟩ => PyProof.Rows.args_nil ?_) na) na rfl
  obtain ⟨l, ks, rfl, hs, hk, h64, q1⟩ := q1
  cases r1
  obtain ⟨its, rv, pl, hz⟩ := I1.list hs
  have ei := refs_at rv
  subst ei
  refine set_tups (P := X.prog) (w := X.w) mix_scan ks (I1.ok.hd hc) pl.isList (by simp) h64 (fun i v e => ?_) (fun p hp => tupkey_of I1 (hk p hp)) (by omega) fun h' tk L T g k => ?_
  · rw [List.getElem?_toArray, List.getElem?_map] at e
    cases e1 : ks[i]? with
    | none => rw [e1] at e; cases e
    | some p => rw [e1] at e; cases e; exact ⟨p, rfl, rfl⟩
  · refine PyProof.Rows.args_nil ?_
    obtain ⟨o, es, ep, t, ho, hex, hd, S⟩ := T.ex
    have sz : es.size = many (ks.map (·.2)) := by
      rw [S.size, ← List.length_map (f := (·.2))]
      refine many_same _ _ S.nd fun x => ⟨fun hx => ?_, fun hx => ?_⟩
      · obtain ⟨p, hp, rfl⟩ := List.mem_map.mp hx
        exact List.mem_map.mpr ⟨p, List.mem_of_mem_take (g.sub p hp), rfl⟩
      · obtain ⟨p, hp, rfl⟩ := List.mem_map.mp hx
        exact g.all p (by rw [List.take_length]; exact hp)
    have I2 : Inv X pins σ H1 { s1 with heap := h', toks := tk } := I1.kept fun b o e => k b o e
    have few := S.few
    have sz2 := S.size
    refine call_len_set ho hex hd S.fits (by omega) ⟨.int (many (ks.map (·.2)) : Nat), H1, I2.tok _, ⟨_, by rw [sz]⟩, q1⟩
end
end DL
/-! Data layer, part 36: tables of defs that a local name may stand for. -/
namespace DL
open PySem PySem.Spec PyProof.Rows L2
variable [Cl]
section
variable {P : Program} {w : World} {K : PySem.W.Frag} {mg : Str → Option Value} {base : Heap}
theorem Kn.up {k k' : Nat} {x : Str} {g : FN} (c : Kn P w K mg base k x g) (h : k ≤ k') : Kn P w K mg base k' x g := by
  obtain ⟨n, fa, fd, ps, G, h1, h2, h3, h4⟩ := c.ex
  exact ⟨n, fa, fd, ps, ⟨G.len, fun A outer s H args us vs Q E hr gd e0 hb r z => G.run A outer s H args us vs Q E (hr.mono h) gd e0 hb r z⟩, h1, h2, h3, h4⟩
abbrev KnL (P : Program) (w : World) (K : PySem.W.Frag) (mg : Str → Option Value) (base : Heap) (k : Nat) (tb : List (Str × FN)) : Prop := ∀ y g, tb.lookup y = some g → Kn P w K mg base k y g ∧ GlK mg y
theorem knL_nil {k : Nat} : KnL P w K mg base k [] := fun _ _ e => nomatch e
theorem knL_cons {k k' : Nat} {x : Str} {g : FN} {tb : List (Str × FN)} (c : Kn P w K mg base k' x g) (h : k' ≤ k) (gl : GlK mg x) (t : KnL P w K mg base k tb) : KnL P w K mg base k ((x, g) :: tb) := fun y f e => by
  rw [List.lookup_cons] at e
  cases q : y == x with
  | true =>
    rw [q] at e
    cases e
    rw [eq_of_beq q]
    exact ⟨c.up h, gl⟩
  | false => rw [q] at e; exact t y f e
end
end DL
/-! Data layer, part 37: what the store shows of a thing; in over such; copies laid into the store. -/
namespace DL
open PySem PySem.Spec PyProof.Rows L2
/-! ### reading PyR -/
section
variable {m m' : Sto} {d : D} {v : PyData}
def kdP : PyData → Kd
  | .none => .non
  | .bool _ => .bl
  | .int _ => .int
  | .str _ => .str
  | .tuple _ => .tup
  | .list _ => .lst
  | .dict _ => .dic
theorem PyR.kd (h : PyR m d v) : DL.kd d m = some (kdP v) := by
  cases h with
  | ptr hm _ => simp only [DL.kd, hm, kdP]
  | dptr hm _ => simp only [DL.kd, hm, kdP]
  | _ => rfl
theorem PyR.kd0 (h : PyR m d v) : Kd0 d m := ⟨_, h.kd⟩
theorem PyRA.len : ∀ {ds : List D} {vs : List PyData}, PyRA m ds vs → ds.length = vs.length
  | _, _, .nil => rfl
  | _, _, .cons _ r => by rw [List.length_cons, List.length_cons, PyRA.len r]
theorem PyRA.get : ∀ {ds : List D} {vs : List PyData} {i : Nat} {v : PyData}, PyRA m ds vs → vs[i]? = some v → ∃ d, ds[i]? = some d ∧ PyR m d v
  | _, _, _, _, .nil, e => by simp at e
  | _, _, 0, _, .cons h _, e => by
    simp only [List.getElem?_cons_zero, Option.some.injEq] at e
    subst e
    exact ⟨_, rfl, h⟩
  | _, _, i + 1, _, .cons _ r, e => by
    rw [List.getElem?_cons_succ] at e ⊢
    exact PyRA.get r e
theorem PyRA.getD : ∀ {ds : List D} {vs : List PyData} {i : Nat} {d : D}, PyRA m ds vs → ds[i]? = some d → ∃ v, vs[i]? = some v ∧ PyR m d v
  | _, _, _, _, .nil, e => by simp at e
  | _, _, 0, _, .cons h _, e => by
    simp only [List.getElem?_cons_zero, Option.some.injEq] at e
    subst e
    exact ⟨_, rfl, h⟩
  | _, _, i + 1, _, .cons _ r, e => by
    rw [List.getElem?_cons_succ] at e ⊢
    exact PyRA.getD r e
theorem PyRA.all : ∀ {ds : List D} {vs : List PyData}, PyRA m ds vs → ∀ d ∈ ds, ∃ v, v ∈ vs ∧ PyR m d v
  | _, _, .nil, _, z => nomatch z
  | _, _, .cons h r, d, z => by
    rcases List.mem_cons.mp z with e | z
    · subst e; exact ⟨_, List.mem_cons_self, h⟩
    · obtain ⟨v, h1, h2⟩ := PyRA.all r d z
      exact ⟨v, List.mem_cons_of_mem _ h1, h2⟩
theorem PyRA.app : ∀ {ds es : List D} {vs us : List PyData}, PyRA m ds vs → PyRA m es us → PyRA m (ds ++ es) (vs ++ us)
  | _, _, _, _, .nil, s => s
  | _, _, _, _, .cons h r, s => .cons h (PyRA.app r s)
theorem PyR.int_eq {i : Int} (h : PyR m d (.int i)) : d = .int i := by cases h; rfl
theorem PyR.str_eq {x : Str} (h : PyR m d (.str x)) : d = .str x := by cases h; rfl
theorem PyR.bl_eq {b : Bool} (h : PyR m d (.bool b)) : d = .bl b := by cases h; rfl
theorem PyR.non_eq (h : PyR m d .none) : d = .non := by cases h; rfl
theorem PyR.tup_eq {vs : List PyData} (h : PyR m d (.tuple vs)) : ∃ ds, d = .tup ds ∧ PyRA m ds vs := by cases h with | tup r => exact ⟨_, rfl, r⟩
theorem PyR.seq {vs : List PyData} (h : PyR m d (.list vs)) : ∃ ds, seqL d m = some ds ∧ PyRA m ds vs := by
  cases h with
  | lst r => exact ⟨_, rfl, r⟩
  | fz r => exact ⟨_, rfl, r⟩
  | ptr hm r => exact ⟨_, lstOf_ptr hm, r⟩
theorem PyR.of_int {i : Int} (h : PyR m (.int i) v) : v = .int i := by cases h; rfl
theorem PyR.of_str {x : Str} (h : PyR m (.str x) v) : v = .str x := by cases h; rfl
theorem PyR.of_tup {ds : List D} (h : PyR m (.tup ds) v) : ∃ vs, v = .tuple vs ∧ PyRA m ds vs := by cases h with | tup r => exact ⟨_, rfl, r⟩
theorem PyR.noSeq (h : PyR m d v) (hn : kdP v ≠ .lst) : seqL d m = none := by
  cases h with
  | lst _ => exact absurd rfl hn
  | fz _ => exact absurd rfl hn
  | ptr _ _ => exact absurd rfl hn
  | dptr hm _ => simp only [seqL, lstOf, hm]
  | _ => rfl
theorem PyR.kds (h : PyR m d v) : Kds d m := by
  refine ⟨_, h.kd, ?_⟩
  by_cases e : kdP v = .lst
  · left
    cases v <;> first | (cases e; done) | skip
    obtain ⟨ds, h1, h2⟩ := h.seq
    exact ⟨rfl, ds, h1, fun x hx => let ⟨_, _, r⟩ := h2.all x hx; r.kd0⟩
  · exact .inr ⟨e, h.noSeq e⟩
def wholeP : PyData → Bool
  | .int _ => true
  | _ => false
theorem PyR.whole (h : PyR m d v) : isWhole d = wholeP v := by cases h <;> rfl
def btwP (v : PyData) (lo hi : Int) : Bool := match v with
  | .int i => decide (lo ≤ i) && decide (i ≤ hi)
  | _ => false
theorem PyR.btw (h : PyR m d v) (lo hi : Int) : DL.btw d lo hi = btwP v lo hi := by cases h <;> rfl
theorem btwP_int {v : PyData} {lo hi : Int} (h : btwP v lo hi = true) : ∃ i, v = .int i ∧ lo ≤ i ∧ i ≤ hi := by
  cases v <;> first | (cases h; done) | skip
  rename_i i
  obtain ⟨h1, h2⟩ := Bool.and_eq_true_iff.mp h
  exact ⟨i, rfl, of_decide_eq_true h1, of_decide_eq_true h2⟩
def upP : Int → List PyData → Bool
  | _, [] => true
  | l, .int i :: r => btwP (.int i) 0 1000 && (decide (l ≤ i) && upP i r)
  | _, _ => false
def spotP : PyData → Bool
  | .list vs => decide (1 ≤ vs.length ∧ vs.length ≤ 6) && upP 0 vs
  | _ => false
theorem PyRA.up : ∀ {ds : List D} {vs : List PyData} (l : Int), PyRA m ds vs → upD l ds = upP l vs
  | _, _, _, .nil => rfl
  | _, _, l, .cons (d := d) (p := p) h r => by
    cases h with
    | int i => show (_ && (_ && upD i _)) = (_ && (_ && upP i _)); rw [PyRA.up i r]; rfl
    | _ => rfl
theorem PyR.spot (h : PyR m d v) : spotD d m = spotP v := by
  unfold spotD
  by_cases e : kdP v = .lst
  · cases v <;> first | (cases e; done) | skip
    obtain ⟨ds, h1, h2⟩ := h.seq
    rw [h1]
    show (decide _ && upD 0 ds) = (decide _ && upP 0 _)
    rw [h2.up, h2.len]
  · rw [h.noSeq e]
    cases v <;> first | rfl | exact absurd rfl e
def intsP : List PyData → Option (List Int)
  | [] => some []
  | .int i :: vs => (intsP vs).map (i :: ·)
  | _ :: _ => none
theorem PyRA.ints : ∀ {ds : List D} {vs : List PyData}, PyRA m ds vs → intsOf ds = intsP vs
  | _, _, .nil => rfl
  | _, _, .cons h r => by
    cases h with
    | int i => show (intsOf _).map _ = (intsP _).map _; rw [PyRA.ints r]
    | _ => rfl
theorem intsP_map : ∀ {ns : List Int}, intsP (ns.map PyData.int) = some ns
  | [] => rfl
  | n :: ns => by show (intsP (ns.map PyData.int)).map (n :: ·) = _; rw [intsP_map]; rfl
theorem intsP_eq : ∀ {vs : List PyData} {ns : List Int}, intsP vs = some ns → vs = ns.map PyData.int
  | [], _, e => by cases e; rfl
  | v :: vs, ns, e => by
    cases v <;> first | (cases e; done) | skip
    obtain ⟨ms, h1, rfl⟩ := Option.map_eq_some_iff.mp (show (intsP vs).map _ = _ from e)
    rw [intsP_eq h1]; rfl
def marksP (v : PyData) (few : Int) : Bool := match v with
  | .list vs => decide (few ≤ (vs.length : Int) ∧ vs.length ≤ 8) && match intsP vs with
    | some ns => ns.all (fun i => decide (0 ≤ i) && decide (i ≤ 1000)) && rises ns
    | none => false
  | _ => false
theorem PyR.marks (h : PyR m d v) (few : Int) : marksD d few m = marksP v few := by
  unfold marksD
  by_cases e : kdP v = .lst
  · cases v <;> first | (cases e; done) | skip
    obtain ⟨ds, h1, h2⟩ := h.seq
    rw [h1]
    show (decide _ && _) = (decide _ && _)
    rw [h2.ints, h2.len]
    all_goals (cases intsP _ <;> rfl)
  · rw [h.noSeq e]
    cases v <;> first | rfl | exact absurd rfl e
end
/-! ### stores that grow, stores that are written -/
mutual
theorem PyR.grow {m : Sto} (c : Sto) : ∀ {d : D} {v : PyData}, PyR m d v → PyR (m ++ c) d v
  | _, _, .non => .non
  | _, _, .bl b => .bl b
  | _, _, .int i => .int i
  | _, _, .str x => .str x
  | _, _, .tup r => .tup (PyRA.grow c r)
  | _, _, .lst r => .lst (PyRA.grow c r)
  | _, _, .fz r => .fz (PyRA.grow c r)
  | _, _, .ptr hm r => .ptr (get_app hm) (PyRA.grow c r)
  | _, _, .dic r => .dic (PyRD.grow c r)
  | _, _, .dptr hm r => .dptr (get_app hm) (PyRD.grow c r)
theorem PyRA.grow {m : Sto} (c : Sto) : ∀ {ds : List D} {vs : List PyData}, PyRA m ds vs → PyRA (m ++ c) ds vs
  | _, _, .nil => .nil
  | _, _, .cons h r => .cons (PyR.grow c h) (PyRA.grow c r)
theorem PyRD.grow {m : Sto} (c : Sto) : ∀ {ds : List (L2.Key × D)} {vs : List (PyData × PyData)}, PyRD m ds vs → PyRD (m ++ c) ds vs
  | _, _, .nil => .nil
  | _, _, .cons h r => .cons (PyR.grow c h) (PyRD.grow c r)
end
mutual
/-- a thing that looks into the store within [lo, hi) alone -/
inductive PyIn (m : Sto) (lo hi : Nat) : D → PyData → Prop
  | non : PyIn m lo hi .non .none
  | bl (b : Bool) : PyIn m lo hi (.bl b) (.bool b)
  | int (i : Int) : PyIn m lo hi (.int i) (.int i)
  | str (x : Str) : PyIn m lo hi (.str x) (.str x)
  | tup {ds : List D} {vs : List PyData} : PyInA m lo hi ds vs → PyIn m lo hi (.tup ds) (.tuple vs)
  | lst {ds : List D} {vs : List PyData} : PyInA m lo hi ds vs → PyIn m lo hi (.lst ds) (.list vs)
  | fz {ds : List D} {vs : List PyData} : PyInA m lo hi ds vs → PyIn m lo hi (.fz ds) (.list vs)
  | ptr {i : Nat} {ds : List D} {vs : List PyData} : lo ≤ i → i < hi → m[i]? = some (.lst ds) → PyInA m lo hi ds vs → PyIn m lo hi (.ptr i) (.list vs)
inductive PyInA (m : Sto) (lo hi : Nat) : List D → List PyData → Prop
  | nil : PyInA m lo hi [] []
  | cons {d : D} {v : PyData} {ds : List D} {vs : List PyData} : PyIn m lo hi d v → PyInA m lo hi ds vs → PyInA m lo hi (d :: ds) (v :: vs)
end
mutual
theorem PyIn.r {m : Sto} {lo hi : Nat} : ∀ {d : D} {v : PyData}, PyIn m lo hi d v → PyR m d v
  | _, _, .non => .non
  | _, _, .bl b => .bl b
  | _, _, .int i => .int i
  | _, _, .str x => .str x
  | _, _, .tup r => .tup (PyInA.r r)
  | _, _, .lst r => .lst (PyInA.r r)
  | _, _, .fz r => .fz (PyInA.r r)
  | _, _, .ptr _ _ hm r => .ptr hm (PyInA.r r)
theorem PyInA.r {m : Sto} {lo hi : Nat} : ∀ {ds : List D} {vs : List PyData}, PyInA m lo hi ds vs → PyRA m ds vs
  | _, _, .nil => .nil
  | _, _, .cons h r => .cons (PyIn.r h) (PyInA.r r)
end
mutual
/-- in another store that is alike there -/
theorem PyIn.on {m m' : Sto} {lo hi lo' hi' : Nat} (hl : lo' ≤ lo) (hh : hi ≤ hi') (k : ∀ i c, lo ≤ i → i < hi → m[i]? = some c → m'[i]? = some c) : ∀ {d : D} {v : PyData}, PyIn m lo hi d v → PyIn m' lo' hi' d v
  | _, _, .non => .non
  | _, _, .bl b => .bl b
  | _, _, .int i => .int i
  | _, _, .str x => .str x
  | _, _, .tup r => .tup (PyInA.on hl hh k r)
  | _, _, .lst r => .lst (PyInA.on hl hh k r)
  | _, _, .fz r => .fz (PyInA.on hl hh k r)
  | _, _, .ptr h1 h2 hm r => .ptr (Nat.le_trans hl h1) (Nat.lt_of_lt_of_le h2 hh) (k _ _ h1 h2 hm) (PyInA.on hl hh k r)
theorem PyInA.on {m m' : Sto} {lo hi lo' hi' : Nat} (hl : lo' ≤ lo) (hh : hi ≤ hi') (k : ∀ i c, lo ≤ i → i < hi → m[i]? = some c → m'[i]? = some c) : ∀ {ds : List D} {vs : List PyData}, PyInA m lo hi ds vs → PyInA m' lo' hi' ds vs
  | _, _, .nil => .nil
  | _, _, .cons h r => .cons (PyIn.on hl hh k h) (PyInA.on hl hh k r)
end
theorem PyInA.len {m : Sto} {lo hi : Nat} {ds : List D} {vs : List PyData} (h : PyInA m lo hi ds vs) : ds.length = vs.length := h.r.len
theorem PyInA.get {m : Sto} {lo hi : Nat} : ∀ {ds : List D} {vs : List PyData} {i : Nat} {v : PyData}, PyInA m lo hi ds vs → vs[i]? = some v → ∃ d, ds[i]? = some d ∧ PyIn m lo hi d v
  | _, _, _, _, .nil, e => by simp at e
  | _, _, 0, _, .cons h _, e => by
    simp only [List.getElem?_cons_zero, Option.some.injEq] at e
    subst e
    exact ⟨_, rfl, h⟩
  | _, _, i + 1, _, .cons _ r, e => by
    rw [List.getElem?_cons_succ] at e ⊢
    exact PyInA.get r e
mutual
/-- frozen things look nowhere -/
theorem pyin_py {m : Sto} {lo hi : Nat} : ∀ {d : D} {v : PyData}, py0 d = some v → PyIn m lo hi d v
  | .non, _, e => by cases e; exact .non
  | .bl b, _, e => by cases e; exact .bl b
  | .int i, _, e => by cases e; exact .int i
  | .str x, _, e => by cases e; exact .str x
  | .tup ds, v, e => by
    simp only [py0, Option.map_eq_some_iff] at e
    obtain ⟨ps, e1, rfl⟩ := e
    exact .tup (pyinA_py e1)
  | .lst ds, v, e => by
    simp only [py0, Option.map_eq_some_iff] at e
    obtain ⟨ps, e1, rfl⟩ := e
    exact .lst (pyinA_py e1)
  | .fz ds, v, e => by
    simp only [py0, Option.map_eq_some_iff] at e
    obtain ⟨ps, e1, rfl⟩ := e
    exact .fz (pyinA_py e1)
  | .ty _, _, e => by cases e
  | .ptr _, _, e => by cases e
  | .dic _, _, e => by cases e
  | .adr _, _, e => by cases e
  | .gl _, _, e => by cases e
theorem pyinA_py {m : Sto} {lo hi : Nat} : ∀ {ds : List D} {ps : List PyData}, py0A ds = some ps → PyInA m lo hi ds ps
  | [], _, e => by cases e; exact .nil
  | d :: ds, ps, e => by
    unfold py0A at e
    cases e1 : py0 d with
    | none => rw [e1] at e; simp at e
    | some p =>
      cases e2 : py0A ds with
      | none => rw [e1, e2] at e; simp at e
      | some qs =>
        rw [e1, e2] at e
        cases e
        exact .cons (pyin_py e1) (pyinA_py e2)
end
/-! ### copies that are laid into the store: the parts first, then the list -/
mutual
def al : PyData → Nat → D × Sto
  | .list vs, k => (.ptr (k + (alA vs k).2.length), (alA vs k).2 ++ [.lst (alA vs k).1])
  | .tuple vs, k => (.tup (alA vs k).1, (alA vs k).2)
  | .int i, _ => (.int i, [])
  | .str x, _ => (.str x, [])
  | .bool b, _ => (.bl b, [])
  | .none, _ => (.non, [])
  | .dict _, _ => (.non, [])
def alA : List PyData → Nat → List D × Sto
  | [], _ => ([], [])
  | v :: vs, k => ((al v k).1 :: (alA vs (k + (al v k).2.length)).1, (al v k).2 ++ (alA vs (k + (al v k).2.length)).2)
end
mutual
/-- no dicts -/
def plainP : PyData → Bool
  | .list vs => plainA vs
  | .tuple vs => plainA vs
  | .int _ => true
  | .str _ => true
  | .bool _ => true
  | .none => true
  | .dict _ => false
def plainA : List PyData → Bool
  | [] => true
  | v :: vs => plainP v && plainA vs
end
mutual
theorem al_in {m : Sto} : ∀ {v : PyData} {pre : Sto} {k : Nat}, plainP v = true → k = m.length + pre.length → PyIn (m ++ pre ++ (al v k).2) k (k + (al v k).2.length) (al v k).1 v
  | .none, _, _, _, _ => by simp only [al]; exact .non
  | .bool b, _, _, _, _ => by simp only [al]; exact .bl b
  | .int i, _, _, _, _ => by simp only [al]; exact .int i
  | .str x, _, _, _, _ => by simp only [al]; exact .str x
  | .tuple vs, pre, k, h, e => by
    simp only [al]
    simp only [plainP] at h
    exact .tup (alA_in h e)
  | .list vs, pre, k, h, e => by
    simp only [al]
    simp only [plainP] at h
    have z := alA_in (m := m) h e
    refine .ptr (ds := (alA vs k).1) (Nat.le_add_right _ _) (by rw [List.length_append, List.length_singleton]; omega) ?_ (z.on (Nat.le_refl _) (by rw [List.length_append]; omega) fun i c _ _ hc => ?_)
    · rw [← List.append_assoc]
      have l : (m ++ pre ++ (alA vs k).2).length = k + (alA vs k).2.length := by rw [List.length_append, List.length_append]; omega
      rw [List.getElem?_append_right (by rw [l]; exact Nat.le_refl _), l, Nat.sub_self]; rfl
    · rw [← List.append_assoc]; exact get_app hc
  | .dict _, _, _, h, _ => by simp only [plainP] at h; cases h
theorem alA_in {m : Sto} : ∀ {vs : List PyData} {pre : Sto} {k : Nat}, plainA vs = true → k = m.length + pre.length → PyInA (m ++ pre ++ (alA vs k).2) k (k + (alA vs k).2.length) (alA vs k).1 vs
  | [], _, _, _, _ => by simp only [alA]; exact .nil
  | v :: vs, pre, k, h, e => by
    simp only [plainA, Bool.and_eq_true] at h
    simp only [alA]
    have z1 := al_in (m := m) (pre := pre) h.1 e
    have z2 := alA_in (m := m) (vs := vs) (pre := pre ++ (al v k).2) (k := k + (al v k).2.length) h.2 (by rw [List.length_append]; omega)
    refine .cons (z1.on (Nat.le_refl _) (by rw [List.length_append]; omega) fun i c _ _ hc => ?_) (z2.on (by omega) (by rw [List.length_append]; omega) fun i c _ _ hc => ?_)
    · rw [← List.append_assoc]; exact get_app hc
    · rw [← List.append_assoc, List.append_assoc m] ; rw [← List.append_assoc] at hc ⊢; simpa only [List.append_assoc] using hc
end
/-! ### in over what the store shows -/
@[irreducible] def dInS (neg : Bool) : F2 := fun x y m q => ∃ p ps, PyR m x p ∧ PyR m y (.list ps) ∧ (p.hasDict = false ∧ SeqAt.shaped p = true) ∧ (PyData.hasDictAll ps = false ∧ SeqAt.shaped (.list ps) = true) ∧ q (.bl (if neg then !ps.any (fun z => PyData.eqv z p) else ps.any fun z => PyData.eqv z p)) m
section
variable [Cl] [Lk]
theorem o_inS {K : PySem.W.Frag} {neg : Bool} : Op2 K (dInS neg) (rrIn K neg) := by
  intro W F H m x y d e q Q rel rx ry h k
  unfold dInS at h
  obtain ⟨p, ps, h1, h2, ⟨h3, h4⟩, ⟨h5, h6⟩, h⟩ := h
  have g1 := dp_pyr rel h1 h3 rx
  have g2 := dp_pyr rel h2 (by simpa only [PyData.hasDict] using h5) ry
  refine .inr ?_
  cases neg with
  | true => rw [if_pos rfl]; exact ⟨p, ps, g1, g2, h4, h6, k _ _ _ _ _ (.refl _) rel (.bl _) h⟩
  | false => rw [if_neg Bool.false_ne_true]; exact ⟨p, ps, g1, g2, h4, h6, k _ _ _ _ _ (.refl _) rel (.bl _) h⟩
variable {X : Cx} {a b : Expr} {ta tb : DE} {pos : Pos} {k : Nat}
theorem je_inS (hr : Room k X.A) (ha : JE X a ta) (hb : JE X b tb) (hm : behindInMarks .In b = false := by rfl) : JE X (.Compare a [.In] [b] pos) (dBin (dInS false) ta tb) := je_cmp (op_inAll (units65 hr)) o_inS ha hb hm
theorem je_notinS (hr : Room k X.A) (ha : JE X a ta) (hb : JE X b tb) (hm : behindInMarks .NotIn b = false := by rfl) : JE X (.Compare a [.NotIn] [b] pos) (dBin (dInS true) ta tb) := je_cmp (op_notInAll (units65 hr)) o_inS ha hb hm
theorem jt_inS (hr : Room k X.A) (ha : JE X a ta) (hb : JE X b tb) (hm : behindInMarks .In b = false := by rfl) : JT X (.Compare a [.In] [b] pos) (dTest (dBin (dInS false) ta tb)) := jt_cmp (op_inAll (units65 hr)) o_inS ha hb hm
theorem jt_notinS (hr : Room k X.A) (ha : JE X a ta) (hb : JE X b tb) (hm : behindInMarks .NotIn b = false := by rfl) : JT X (.Compare a [.NotIn] [b] pos) (dTest (dBin (dInS true) ta tb)) := jt_cmp (op_notInAll (units65 hr)) o_inS ha hb hm
end
end DL
/-! Data layer, part 38: what is wrong in a thing as a paper, in plain words. -/
namespace DL
open PySem PySem.Spec PyProof.Rows L2
/-- a name of one to k small letters -/
def nameB (k : Nat) (x : Str) : Bool := decide (1 ≤ x.length) && decide (x.length ≤ k) && x.cps.toList.all fun c => decide (97 ≤ c) && decide (c ≤ 122)
abbrev NameS (k : Nat) (x : Str) : Prop := nameB k x = true
theorem NameS.parts {k : Nat} {x : Str} (h : NameS k x) : 1 ≤ x.length ∧ x.length ≤ k ∧ ∀ c ∈ x.cps.toList, 97 ≤ c ∧ c ≤ 122 := by
  unfold NameS nameB at h
  simp only [Bool.and_eq_true, decide_eq_true_eq, List.all_eq_true] at h
  exact ⟨h.1.1, h.1.2, h.2⟩
theorem NameS.of {k : Nat} {x : Str} (h1 : 1 ≤ x.length) (h2 : x.length ≤ k) (h3 : ∀ c ∈ x.cps.toList, 97 ≤ c ∧ c ≤ 122) : NameS k x := by
  unfold NameS nameB
  simp only [Bool.and_eq_true, decide_eq_true_eq, List.all_eq_true]
  exact ⟨⟨h1, h2⟩, h3⟩
def nameD (x : D) : Bool := match x with | .str z => nameB 8 z | _ => false
theorem nameD_not {x : D} (h : ∀ z, x ≠ .str z) : nameD x = false := by cases x <;> first | rfl | exact absurd rfl (h _)
theorem nameB_no {z : Str} {k : Nat} (h : ¬ NameS k z) : nameB k z = false := by
  cases e : nameB k z with
  | false => rfl
  | true => exact absurd e h
theorem nameB_long {z : Str} (h : ¬ (1 ≤ z.length ∧ z.length ≤ 8)) : nameB 8 z = false := nameB_no fun w => h ⟨w.parts.1, w.parts.2.1⟩
theorem nameB_sign {z : Str} {c : Nat} (hc : c ∈ z.cps.toList) (h : ¬ (97 ≤ c ∧ c ≤ 122)) : nameB 8 z = false := nameB_no fun w => h (w.parts.2.2 c hc)
theorem letters_at : ∀ c ∈ ("abcdefghijklmnopqrstuvwxyz" : Str).cps.toList, 97 ≤ c ∧ c ≤ 122 := by decide +kernel
theorem letters_all : ∀ c ∈ List.range 123, 97 ≤ c → c ∈ ("abcdefghijklmnopqrstuvwxyz" : Str).cps.toList := by decide +kernel
theorem letters_iff {c : Nat} : c ∈ ("abcdefghijklmnopqrstuvwxyz" : Str).cps.toList ↔ 97 ≤ c ∧ c ≤ 122 := ⟨letters_at c, fun h => letters_all c (List.mem_range.mpr (by omega)) h.1⟩
theorem kd_notStr {d : D} {m : Sto} {k : Kd} (h : DL.kd d m = some k) (hn : ∀ z, d ≠ .str z) : isT .str k = false := by
  cases k <;> first | rfl | skip
  exfalso
  unfold DL.kd at h
  split at h <;> first | (cases h; done) | exact hn _ rfl | (split at h <;> cases h)
theorem gd_name {k : Nat} {x : Str} (h : NameS k x) : Gd 0 (10 * k + 2) (.str x) := by
  obtain ⟨h1, h2, h3⟩ := h.parts
  have ok : x.cps.all (fun c => decide (c < 0x110000)) = true := by
    rw [← Array.all_toList]
    exact List.all_eq_true.mpr fun c hc => decide_eq_true (by have := (h3 c hc).2; omega)
  refine ⟨.str x, rfl, ok, Nat.le_refl _, rfl, ?_⟩
  have e := PySem.StrLaws.reprText_len x fun c hc => by have := (h3 c hc).2; omega
  show (PySem.reprText x).length ≤ _
  omega
theorem py_strs : ∀ {ss : List Str}, py0A (ss.map D.str) = some (ss.map PyData.str)
  | [] => rfl
  | s :: ss => by
    show py0A (.str s :: ss.map D.str) = _
    simp only [py0A, py0, py_strs, List.map_cons]
def nameP : PyData → Bool
  | .str x => nameB 8 x
  | _ => false
theorem PyR.name {m : Sto} {d : D} {v : PyData} (h : PyR m d v) : nameD d = nameP v := by cases h <;> rfl
/-- the text of a part, if it is one -/
def fracP : PyData → Bool
  | .tuple [.int t, .int b] => decide (0 < b ∧ Int.gcd t b = 1)
  | _ => false
def smallP : PyData → Bool
  | .tuple [.int t, .int b] => decide (0 < b ∧ Int.gcd t b = 1) && (decide (-1000000000000 ≤ t ∧ t ≤ 1000000000000) && decide (b ≤ 1000))
  | _ => false
def freeP : PyData → Bool
  | .tuple [.int t, .int b] => smallP (.tuple [.int t, .int b]) && decide (0 ≤ t)
  | _ => false
def leP : PyData → PyData → Bool
  | .tuple [.int t, .int b], .tuple [.int u, .int c] => decide (t * c ≤ u * b)
  | _, _ => false
def toldP : List PyData → Bool
  | [_, a, b] => smallP a && (smallP b && leP a b)
  | _ => false
def heldP : List PyData → Bool
  | [_, s, a, b] => spotP s && (smallP a && freeP b)
  | _ => false
def madeP : List PyData → Bool
  | [_, x, p] => nameP x && btwP p 0 1000
  | _ => false
def rowP (good : List PyData → Bool) : PyData → Bool
  | .tuple (k :: r) => btwP k 0 1000 && good (k :: r)
  | _ => false
def frontsP : List PyData → Option (List Int)
  | [] => some []
  | .tuple (.int i :: _) :: vs => (frontsP vs).map (i :: ·)
  | _ :: _ => none
def risesP (o : Option (List Int)) : Bool := match o with
  | some ns => rises ns
  | none => false
def rowsP (good : List PyData → Bool) : PyData → Bool
  | .list rs => decide (1 ≤ rs.length ∧ rs.length ≤ 8) && (rs.all (rowP good) && risesP (frontsP rs))
  | _ => false
def piecesP : List PyData → List (Str × Int)
  | .tuple [_, .str x, .int p] :: vs => (x, p) :: piecesP vs
  | _ => []
def isStrP (x : Str) : PyData → Bool
  | .str y => decide (x = y)
  | _ => false
def madeRowsP (name : PyData) : PyData → Bool
  | .list rs => rowsP madeP (.list rs) && ((!(piecesP rs).any fun p => isStrP p.1 name) && decide (piecesP rs).Nodup)
  | _ => false
def KS : List (Str × Nat) := [("thing", 8), ("told", 6), ("held", 7), ("made", 6), ("read", 5), ("off", 4), ("harmed", 4), ("mended", 4)]
def headP (k day x : PyData) : List Bool := [btwP k 1 1000000000, btwP day 0 1000000, true, nameP x]
def sortP : PyData → Bool
  | .str x => decide (x = "scale") || decide (x = "box")
  | _ => false
def fewP : PyData → Int
  | .str x => if x = "scale" then 2 else 1
  | _ => 1
def looksP (w : Str) : List PyData → List Bool
  | [k, day, _, x, sort, lev, rate, marks] => headP k day x ++ [sortP sort, btwP lev 0 5, freeP rate, marksP marks (fewP sort)]
  | [k, day, _, x, y, term, rows] => headP k day x ++ [nameP y, btwP term 0 1000000, rowsP heldP rows]
  | [k, day, _, x, a, rows] => if w = "told" then headP k day x ++ [btwP a 0 1000000, rowsP toldP rows] else headP k day x ++ [freeP a, madeRowsP x rows]
  | [k, day, _, x, spot] => headP k day x ++ [spotP spot]
  | [k, day, _, x] => headP k day x
  | _ => []
def firstNo : List Bool → Nat → Option Nat
  | [], _ => none
  | b :: bs, i => if b then firstNo bs (i + 1) else some i
def faultP : PyData → Option Nat
  | .tuple (a :: b :: .str w :: r) => if KS.lookup w = some (r.length + 3) then firstNo (looksP w (a :: b :: .str w :: r)) 0 else some 2
  | _ => some 2
def natD : Option Nat → D
  | none => .non
  | some i => .int i
mutual
/-- no number, no text is too great to be asked -/
def Tame : PyData → Prop
  | .int i => Sm 8900 i
  | .str x => x.length ≤ 16777216
  | .tuple vs => TameA vs
  | .list vs => TameA vs
  | _ => True
def TameA : List PyData → Prop
  | [] => True
  | v :: vs => Tame v ∧ TameA vs
end
theorem TameA.mem : ∀ {vs : List PyData}, TameA vs → ∀ v ∈ vs, Tame v
  | _ :: _, h, v, hv => by
    simp only [TameA] at h
    rcases List.mem_cons.mp hv with e | e
    · rw [e]; exact h.1
    · exact TameA.mem h.2 v e
theorem TameA.of : ∀ {vs : List PyData}, (∀ v ∈ vs, Tame v) → TameA vs
  | [], _ => by simp only [TameA]
  | v :: vs, h => by
    simp only [TameA]
    exact ⟨h v List.mem_cons_self, TameA.of fun u hu => h u (List.mem_cons_of_mem _ hu)⟩
end DL
/-! Data layer, part 39: copies laid into the store, further. -/
namespace DL
open PySem PySem.Spec PyProof.Rows L2
mutual
/-- what a copying def of depth n copies: no dicts, no lists too long -/
def cplP : PyData → Nat → Bool
  | .list vs, n => decide (0 < n) && (decide (vs.length ≤ 1000000) && cplA vs (n - 1))
  | .tuple vs, n => decide (0 < n) && (decide (vs.length ≤ 1000000) && cplA vs (n - 1))
  | .dict _, _ => false
  | .int _, n => decide (0 < n)
  | .str _, n => decide (0 < n)
  | .bool _, n => decide (0 < n)
  | .none, n => decide (0 < n)
def cplA : List PyData → Nat → Bool
  | [], _ => true
  | v :: vs, n => cplP v n && cplA vs n
end
theorem cplP_pos {v : PyData} (h : cplP v 0 = true) : False := by
  cases v <;> first | (simp only [cplP] at h; cases h; done) | (simp only [cplP, Nat.lt_irrefl, decide_false, Bool.false_and] at h; cases h)
mutual
theorem cpl_plain : ∀ {v : PyData} {n : Nat}, cplP v n = true → plainP v = true
  | .list vs, n, h => by
    simp only [cplP, Bool.and_eq_true] at h
    simp only [plainP]
    exact cplA_plain h.2.2
  | .tuple vs, n, h => by
    simp only [cplP, Bool.and_eq_true] at h
    simp only [plainP]
    exact cplA_plain h.2.2
  | .dict _, _, h => by simp only [cplP] at h; cases h
  | .int _, _, _ => by simp only [plainP]
  | .str _, _, _ => by simp only [plainP]
  | .bool _, _, _ => by simp only [plainP]
  | .none, _, _ => by simp only [plainP]
theorem cplA_plain : ∀ {vs : List PyData} {n : Nat}, cplA vs n = true → plainA vs = true
  | [], _, _ => by simp only [plainA]
  | v :: vs, n, h => by
    simp only [cplA, Bool.and_eq_true] at h
    simp only [plainA, Bool.and_eq_true]
    exact ⟨cpl_plain h.1, cplA_plain h.2⟩
end
theorem cplA_of {n : Nat} : ∀ {vs : List PyData}, (∀ v ∈ vs, cplP v n = true) → cplA vs n = true
  | [], _ => by simp only [cplA]
  | v :: vs, h => by
    simp only [cplA, Bool.and_eq_true]
    exact ⟨h v List.mem_cons_self, cplA_of fun u hu => h u (List.mem_cons_of_mem _ hu)⟩
theorem cplA_mem {n : Nat} : ∀ {vs : List PyData}, cplA vs n = true → ∀ v ∈ vs, cplP v n = true
  | [], _, _, z => nomatch z
  | v :: vs, h, u, hu => by
    simp only [cplA, Bool.and_eq_true] at h
    rcases List.mem_cons.mp hu with e | e
    · rw [e]; exact h.1
    · exact cplA_mem h.2 u e
theorem alA_snoc (u : PyData) : ∀ (vs : List PyData) (k : Nat), alA (vs ++ [u]) k = ((alA vs k).1 ++ [(al u (k + (alA vs k).2.length)).1], (alA vs k).2 ++ (al u (k + (alA vs k).2.length)).2)
  | [], k => by simp only [List.nil_append, alA, List.length_nil, Nat.add_zero, List.append_nil]
  | v :: vs, k => by
    simp only [List.cons_append, alA, alA_snoc u vs]
    rw [List.length_append, ← Nat.add_assoc, List.append_assoc]
theorem okP_app {o : Own} {m : Sto} (c : Sto) (h : okP o m) : okP o (m ++ c) := by
  cases o with
  | none => trivial
  | some p => exact get_app h
/-- a comprehension that copies each part -/
theorem copy_lcs {n i : Nat} {r : DSt} {ok : Sto → Prop} {g : FN} {m : Sto} {q : List D → Sto → Prop} (hg : ∀ (d : D) (v : PyData) (m : Sto) (q : D → Sto → Prop), PyR m d v → cplP v n = true → q (al v m.length).1 (m ++ (al v m.length).2) → g [d] m q)
    (hr : ∀ x, slot (put r i x) i = some x) (hok : ∀ c, ok (m ++ c)) {ds : List D} {vs : List PyData} (ra : PyRA m ds vs) (hc : cplA vs n = true) (k : q (alA vs m.length).1 (m ++ (alA vs m.length).2)) :
    lcI i dYes (dCallB g (dCons (dVar i) dNil)) ok ds r [] m q := by
  refine lc_ind (fun xs acc m' => ∃ done left, vs = done ++ left ∧ PyRA m xs left ∧ acc = (alA done m.length).1 ∧ m' = m ++ (alA done m.length).2) ?_ ?_ ?_ _ _ _ ⟨[], vs, rfl, ra, by simp only [alA], by simp only [alA, List.append_nil]⟩
  · rintro x xs acc m' N ⟨done, left, hv, rl, rfl, rfl⟩ kk
    cases rl with
    | @cons _ _ u us p1 r1 =>
      show onS (slot (put r i x) i) _
      rw [hr]
      refine hg x u _ _ (p1.grow _) (cplA_mem hc u (by rw [hv]; exact List.mem_append_right _ List.mem_cons_self)) ?_
      rw [List.length_append]
      refine kk _ _ ⟨done ++ [u], us, by rw [hv, List.append_assoc]; rfl, r1, by rw [alA_snoc], by rw [alA_snoc, List.append_assoc]⟩
  · rintro xs acc m' ⟨done, left, _, _, _, rfl⟩
    exact hok _
  · rintro acc m' ⟨done, left, hv, rl, rfl, rfl⟩
    cases rl
    rw [List.append_nil] at hv
    subst hv
    exact k
mutual
/-- parts without lists lay nothing down -/
def flatP : PyData → Bool
  | .list _ => false
  | .tuple vs => flatA vs
  | .dict _ => false
  | _ => true
def flatA : List PyData → Bool
  | [] => true
  | v :: vs => flatP v && flatA vs
end
mutual
theorem al_flat : ∀ {v : PyData} (k : Nat), flatP v = true → (al v k).2 = []
  | .list _, _, h => by simp only [flatP] at h; cases h
  | .tuple vs, k, h => by
    simp only [flatP] at h
    simp only [al]
    exact alA_flat k h
  | .dict _, _, _ => by simp only [al]
  | .int _, _, _ => by simp only [al]
  | .str _, _, _ => by simp only [al]
  | .bool _, _, _ => by simp only [al]
  | .none, _, _ => by simp only [al]
theorem alA_flat : ∀ {vs : List PyData} (k : Nat), flatA vs = true → (alA vs k).2 = []
  | [], _, _ => by simp only [alA]
  | v :: vs, k, h => by
    simp only [flatA, Bool.and_eq_true] at h
    simp only [alA, al_flat k h.1, alA_flat _ h.2, List.append_nil]
end
mutual
/-- .. and look nowhere -/
theorem flat_in {m : Sto} {lo hi : Nat} : ∀ {v : PyData} (k : Nat), flatP v = true → PyIn m lo hi (al v k).1 v
  | .list _, _, h => by simp only [flatP] at h; cases h
  | .tuple vs, k, h => by
    simp only [flatP] at h
    simp only [al]
    exact .tup (flatA_in k h)
  | .dict _, _, h => by simp only [flatP] at h; cases h
  | .int _, _, _ => by simp only [al]; exact .int _
  | .str _, _, _ => by simp only [al]; exact .str _
  | .bool _, _, _ => by simp only [al]; exact .bl _
  | .none, _, _ => by simp only [al]; exact .non
theorem flatA_in {m : Sto} {lo hi : Nat} : ∀ {vs : List PyData} (k : Nat), flatA vs = true → PyInA m lo hi (alA vs k).1 vs
  | [], _, _ => by simp only [alA]; exact .nil
  | v :: vs, k, h => by
    simp only [flatA, Bool.and_eq_true] at h
    simp only [alA]
    exact .cons (flat_in k h.1) (flatA_in _ h.2)
end
theorem PyInA.app {m : Sto} {lo hi : Nat} : ∀ {ds es : List D} {vs us : List PyData}, PyInA m lo hi ds vs → PyInA m lo hi es us → PyInA m lo hi (ds ++ es) (vs ++ us)
  | _, _, _, _, .nil, s => s
  | _, _, _, _, .cons h r, s => .cons h (PyInA.app r s)
/-- a store is written at a place that is not looked at -/
theorem PyIn.set {m : Sto} {lo hi i : Nat} {c : Cell} {d : D} {v : PyData} (h : PyIn m lo hi d v) (hi' : i < lo ∨ hi ≤ i) : PyIn (m.set i c) lo hi d v := h.on (Nat.le_refl _) (Nat.le_refl _) fun j x h1 h2 e => by
  rw [List.getElem?_set_ne (by omega)]; exact e
theorem PyInA.set {m : Sto} {lo hi i : Nat} {c : Cell} {ds : List D} {vs : List PyData} (h : PyInA m lo hi ds vs) (hi' : i < lo ∨ hi ≤ i) : PyInA (m.set i c) lo hi ds vs := h.on (Nat.le_refl _) (Nat.le_refl _) fun j x h1 h2 e => by
  rw [List.getElem?_set_ne (by omega)]; exact e
theorem PyIn.app {m : Sto} {lo hi : Nat} {d : D} {v : PyData} (c : Sto) (h : PyIn m lo hi d v) : PyIn (m ++ c) lo hi d v := h.on (Nat.le_refl _) (Nat.le_refl _) fun _ _ _ _ e => get_app e
theorem PyInA.appS {m : Sto} {lo hi : Nat} {ds : List D} {vs : List PyData} (c : Sto) (h : PyInA m lo hi ds vs) : PyInA (m ++ c) lo hi ds vs := h.on (Nat.le_refl _) (Nat.le_refl _) fun _ _ _ _ e => get_app e
end DL
/-! Data layer, part 40: f-strings; copies that lie at a place of the store. -/
namespace DL
open PySem PySem.Spec PyProof.Rows L2
section
variable [Cl] [Lk] {X : Cx} {pos : Pos}
def dFmt : F1
  | .str y, m, q => y.length ≤ sizeLine ∧ q (.str y) m
  | .int i, m, q => i.natAbs.log2 < 1920 ∧ q (.str (toString i)) m
  | _, _, _ => False
theorem je_fmt {e : Expr} {te : DE} (he : JE X e te) : JE X (.FormattedValue e (-1) none pos) (dUn dFmt te) :=
  pe_wk (pe_fmt he) fun s H Q h => un_wk (f := dFmt) (rr := fun x H1 Q => (∃ y : Str, x = .str y ∧ y.length ≤ sizeLine ∧ Q (.str y) H1) ∨ ∃ i : Int, x = .int i ∧ i.natAbs.log2 < 1920 ∧ Q (.str (toString i)) H1) (by
    intro W F H m x d q Q rel rx h k
    unfold dFmt at h
    split at h
    · cases rx
      exact .inl ⟨_, rfl, h.1, k _ _ _ _ _ (.refl _) rel (.str _) h.2⟩
    · cases rx
      exact .inr ⟨_, rfl, h.1, k _ _ _ _ _ (.refl _) rel (.str _) h.2⟩
    · exact h.elim) s H Q h
def dJs : List DE → Str → DSt → Sto → (Str → Sto → Prop) → Prop
  | [], acc, _, m, q => q acc m
  | t :: ts, acc, r, m, q => t r m fun x m1 => match x with
    | .str y => (acc ++ y).length ≤ sizeLine ∧ dJs ts (acc ++ y) r m1 q
    | _ => False
def dFStr (ts : List DE) : DE := fun r m q => dJs ts Str.empty r m fun out m1 => q (.str out) m1
inductive JJ (X : Cx) : List Expr → List DE → Prop where
  | nil : JJ X [] []
  | cons {e : Expr} {t : DE} {es : List Expr} {ts : List DE} (h : JE X e t) (r : JJ X es ts) : JJ X (e :: es) (t :: ts)
theorem JJ.pj {es : List Expr} {ts : List DE} (h : JJ X es ts) : PJ X es (ts.map (liftE X.K)) := by
  induction h with
  | nil => exact .nil
  | cons h _ ih => exact .cons h ih
theorem js_lift {K : PySem.W.Frag} (s : L2.St) : ∀ (ts : List DE) (acc : Str) (H : Hp) (Q : Str → Hp → Prop) (W : Wd) (F : Hp) (m : Sto) (r : DSt) (q : Str → Sto → Prop), Rel K W F H m → RSt K W s r → dJs ts acc r m q → (∀ W' H' m' out, W.Le W' → Rel K W' F H' m' → q out m' → Q out H') → tJs (ts.map (liftE K)) acc s H Q
  | [], acc, H, Q, W, F, m, r, q, rel, rs, h, k => k W H m acc (.refl _) rel h
  | t :: ts, acc, H, Q, W, F, m, r, q, rel, rs, h, k => by
    refine ⟨W, F, m, r, _, rel, rs, h, fun W1 H1 m1 v d l1 rel1 rv hq => ?_⟩
    cases d with
    | str y =>
      cases rv
      exact ⟨y, rfl, hq.1, js_lift s ts (acc ++ y) H1 Q W1 F m1 r q rel1 (rs.mono l1) hq.2 fun W' H' m' out l => k W' H' m' out (l1.trans l)⟩
    | _ => exact hq.elim
theorem je_fstr {v1 v2 : Expr} {rest : List Expr} {ts : List DE} (h : JJ X (v1 :: v2 :: rest) ts) : JE X (.JoinedStr (v1 :: v2 :: rest) pos) (dFStr ts) :=
  pe_wk (pe_joined h.pj) fun s H Q ⟨W, F, m, r, q, rel, rs, h, k⟩ => js_lift s ts Str.empty H _ W F m r _ rel rs h fun W' H' m' out l rel' hq => k W' H' m' (.str out) (.str out) l rel' (.str _) hq
end
/-! ### copies at a place -/
/-- the cells of a copy of v lie from k on -/
def AlAt (m : Sto) (k : Nat) (v : PyData) : Prop := ∀ i c, (al v k).2[i]? = some c → m[k + i]? = some c
def AlAtA (m : Sto) (k : Nat) (vs : List PyData) : Prop := ∀ i c, (alA vs k).2[i]? = some c → m[k + i]? = some c
theorem AlAt.pyin {m : Sto} {k : Nat} {v : PyData} (h : AlAt m k v) (p : plainP v = true) : PyIn m k (k + (al v k).2.length) (al v k).1 v := by
  have z := al_in (m := List.replicate k Cell.dead) (v := v) (pre := []) (k := k) p (by simp)
  refine z.on (Nat.le_refl _) (Nat.le_refl _) fun i c h1 h2 e => ?_
  rw [List.append_nil, List.getElem?_append_right (by rw [List.length_replicate]; exact h1), List.length_replicate] at e
  have := h (i - k) c e
  rwa [show k + (i - k) = i by omega] at this
theorem AlAtA.cons {m : Sto} {k : Nat} {v : PyData} {vs : List PyData} (h : AlAtA m k (v :: vs)) : AlAt m k v ∧ AlAtA m (k + (al v k).2.length) vs := by
  constructor
  · intro i c e
    refine h i c ?_
    simp only [alA]
    exact get_app e
  · intro i c e
    have z := h ((al v k).2.length + i) c (by
      simp only [alA]
      rw [List.getElem?_append_right (Nat.le_add_right _ _), Nat.add_sub_cancel_left]; exact e)
    rwa [← Nat.add_assoc] at z
theorem AlAtA.new {m : Sto} {vs : List PyData} : AlAtA (m ++ (alA vs m.length).2) m.length vs := fun i c e => by
  rw [List.getElem?_append_right (Nat.le_add_right _ _), Nat.add_sub_cancel_left]; exact e
theorem AlAt.new {m : Sto} {v : PyData} : AlAt (m ++ (al v m.length).2) m.length v := fun i c e => by
  rw [List.getElem?_append_right (Nat.le_add_right _ _), Nat.add_sub_cancel_left]; exact e
theorem AlAtA.app {m : Sto} {k : Nat} {vs : List PyData} (c : Sto) (h : AlAtA m k vs) : AlAtA (m ++ c) k vs := fun i x e => get_app (h i x e)
theorem AlAt.app {m : Sto} {k : Nat} {v : PyData} (c : Sto) (h : AlAt m k v) : AlAt (m ++ c) k v := fun i x e => get_app (h i x e)
theorem AlAtA.set {m : Sto} {k j : Nat} {vs : List PyData} {x : Cell} (h : AlAtA m k vs) (hj : j < k ∨ k + (alA vs k).2.length ≤ j) : AlAtA (m.set j x) k vs := fun i c e => by
  have hi := (List.getElem?_eq_some_iff.mp e).1
  rw [List.getElem?_set_ne (by omega)]
  exact h i c e
theorem AlAt.set {m : Sto} {k j : Nat} {v : PyData} {x : Cell} (h : AlAt m k v) (hj : j < k ∨ k + (al v k).2.length ≤ j) : AlAt (m.set j x) k v := fun i c e => by
  have hi := (List.getElem?_eq_some_iff.mp e).1
  rw [List.getElem?_set_ne (by omega)]
  exact h i c e
theorem alA_get : ∀ {vs : List PyData} {k i : Nat} {v : PyData}, vs[i]? = some v → ∃ j, (alA vs k).1[i]? = some (al v j).1
  | [], _, _, _, e => by simp at e
  | u :: us, k, 0, v, e => by
    simp only [List.getElem?_cons_zero, Option.some.injEq] at e
    subst e
    exact ⟨k, by simp only [alA, List.getElem?_cons_zero]⟩
  | u :: us, k, i + 1, v, e => by
    rw [List.getElem?_cons_succ] at e
    obtain ⟨j, h⟩ := alA_get (k := k + (al u k).2.length) e
    exact ⟨j, by simp only [alA, List.getElem?_cons_succ, h]⟩
theorem alA_len : ∀ (vs : List PyData) (k : Nat), (alA vs k).1.length = vs.length
  | [], _ => by simp only [alA, List.length_nil]
  | v :: vs, k => by simp only [alA, List.length_cons, alA_len vs]
end DL
/-! Data layer, part 41: papers as words, in plain words. -/
namespace DL
open PySem PySem.Spec PyProof.Rows L2
def intS (i : Int) : Str := Str.ofString (toString i)
def showF (t b : Int) : Str := if b = 1 then intS t else intS t ++ "/" ++ intS b
def listS (ns : List Int) : Str := Str.join "," (ns.map intS)
def isRows : List PyData → Bool
  | .tuple _ :: _ => true
  | _ => false
def intsL (vs : List PyData) : List Int := (intsP vs).getD []
def fracW : List PyData → List Str
  | [.int t, .int b] => [showF t b]
  | _ => []
mutual
/-- the words of a part of a paper -/
def partW : PyData → List Str
  | .str x => [x]
  | .int i => [intS i]
  | .tuple vs => fracW vs
  | .list vs => if isRows vs then rowsW vs else [listS (intsL vs)]
  | _ => []
def rowsW : List PyData → List Str
  | [] => []
  | v :: vs => ":" :: (rowW v ++ rowsW vs)
def rowW : PyData → List Str
  | .tuple ws => partsW ws
  | _ => []
def partsW : List PyData → List Str
  | [] => []
  | v :: vs => partW v ++ partsW vs
end
def textW (vs : List PyData) : Str := Str.join " " (partsW vs)
/-- a word of a paper's text -/
structure Wrd (x : Str) : Prop where
  len : x.length ≤ 400
  cps : ∀ c ∈ x.cps.toList, c < 1114112
structure FrS (t b : Int) : Prop where
  pos : 0 < b
  cop : Int.gcd t b = 1
  st : Sm 41 t
  sb : Sm 41 b
/-- what can be written by a def of depth n -/
def OkW : Nat → PyData → Prop
  | 0, _ => False
  | n + 1, v => match v with
    | .str x => Wrd x
    | .int i => Sm 41 i
    | .tuple vs => ∃ t b, vs = [.int t, .int b] ∧ FrS t b
    | .list vs => 1 ≤ vs.length ∧ vs.length ≤ 8 ∧ ((∃ ns : List Int, vs = ns.map PyData.int ∧ ∀ i ∈ ns, Sm 41 i) ∨ ∀ r ∈ vs, ∃ ws, r = .tuple ws ∧ ws.length ≤ 4 ∧ ∀ u ∈ ws, OkW n u)
    | _ => False
theorem intS_len {n : Nat} {i : Int} (h : Sm n i) (hn : n ≤ 1900) : (intS i).length ≤ n + 3 := by
  have h1 := int_text_length_le (a := i) (k := n + 1) (by omega) (log2_lt h.lt (by omega) (by omega))
  show (Str.ofString (toString i)).length ≤ _
  rw [PySem.ofString_length]
  omega
theorem sm_log {i : Int} (h : Sm 41 i) : i.natAbs.log2 < 1920 := log2_lt h.lt (by decide) (by decide)
theorem intS_cps (i : Int) : ∀ c ∈ (intS i).cps.toList, c = 45 ∨ 48 ≤ c ∧ c ≤ 57 := fun c hc => by
  by_cases h : c = 45 ∨ 48 ≤ c ∧ c ≤ 57
  · exact h
  · exact absurd hc (int_text_free' c ⟨fun z => h (.inl z), by omega⟩ i)
theorem int_wrd {i : Int} (h : Sm 41 i) : Wrd (intS i) := ⟨Nat.le_trans (intS_len h (by decide)) (by decide), fun c hc => by have := intS_cps i c hc; omega⟩
theorem cps_app (x y : Str) : (x ++ y).cps.toList = x.cps.toList ++ y.cps.toList := by rw [PySem.Str.cps_append, Array.toList_append]
theorem str_size (x : Str) : x.length = x.cps.toList.length := by rw [Array.length_toList]; rfl
theorem len_app (x y : Str) : (x ++ y).length = x.length + y.length := by rw [str_size, str_size, str_size, cps_app, List.length_append]
theorem showF_wrd {t b : Int} (f : FrS t b) : Wrd (showF t b) := by
  unfold showF
  split
  · exact int_wrd f.st
  · refine ⟨?_, fun c hc => ?_⟩
    · rw [len_app, len_app]
      have h1 := intS_len f.st (by decide)
      have h2 := intS_len f.sb (by decide)
      show (intS t).length + 1 + (intS b).length ≤ 400
      omega
    · rw [cps_app, cps_app] at hc
      rcases List.mem_append.mp hc with z | z
      · rcases List.mem_append.mp z with z | z
        · exact (int_wrd f.st).cps c z
        · have : c ∈ [47] := z
          rw [List.mem_singleton] at this
          omega
      · exact (int_wrd f.sb).cps c z
/-- a text joined -/
theorem join_facts (sep : Str) {k : Nat} : ∀ {ys : List Str}, (∀ y ∈ ys, y.length ≤ k) → (Str.join sep ys).length ≤ (k + sep.length) * ys.length ∧ ∀ c ∈ (Str.join sep ys).cps.toList, c ∈ sep.cps.toList ∨ ∃ y ∈ ys, c ∈ y.cps.toList
  | [], _ => ⟨Nat.zero_le _, fun c hc => nomatch hc⟩
  | [y], h => by
    refine ⟨?_, fun c hc => .inr ⟨y, List.mem_cons_self, hc⟩⟩
    have := h y List.mem_cons_self
    show y.length ≤ (k + sep.length) * 1
    omega
  | y :: z :: ys, h => by
    obtain ⟨e1, e2⟩ := join_facts sep (k := k) (ys := z :: ys) fun u hu => h u (List.mem_cons_of_mem _ hu)
    have hy := h y List.mem_cons_self
    have e : (Str.join sep (y :: z :: ys)) = y ++ sep ++ Str.join sep (z :: ys) := rfl
    rw [e]
    constructor
    · rw [len_app, len_app]
      have : (k + sep.length) * (y :: z :: ys).length = (k + sep.length) + (k + sep.length) * (z :: ys).length := by rw [List.length_cons, Nat.mul_succ]; omega
      omega
    · intro c hc
      rw [cps_app, cps_app] at hc
      rcases List.mem_append.mp hc with q | q
      · rcases List.mem_append.mp q with q | q
        · exact .inr ⟨y, List.mem_cons_self, q⟩
        · exact .inl q
      · rcases e2 c q with q | ⟨u, hu, q⟩
        · exact .inl q
        · exact .inr ⟨u, List.mem_cons_of_mem _ hu, q⟩
theorem join_eq (sep : Str) (ys : List Str) : Txt.join sep ys = Str.join sep ys := PySem.StrLaws.glued_eq_join sep ys
theorem sum_le {k : Nat} : ∀ {ys : List Str}, (∀ y ∈ ys, y.length ≤ k) → (ys.map (·.length)).sum ≤ k * ys.length
  | [], _ => Nat.zero_le _
  | y :: ys, h => by
    have h1 := h y List.mem_cons_self
    have h2 := sum_le fun u hu => h u (List.mem_cons_of_mem (a := u) y hu)
    rw [List.map_cons, List.sum_cons, List.length_cons, Nat.mul_succ]
    omega
theorem listS_wrd {ns : List Int} (h : ∀ i ∈ ns, Sm 41 i) (hl : ns.length ≤ 8) : Wrd (listS ns) := by
  have hk : ∀ y ∈ ns.map intS, y.length ≤ 44 := fun y hy => by
    obtain ⟨i, hi, rfl⟩ := List.mem_map.mp hy
    exact intS_len (h i hi) (by decide)
  obtain ⟨h1, h2⟩ := join_facts "," hk
  refine ⟨?_, fun c hc => ?_⟩
  · refine Nat.le_trans h1 ?_
    rw [List.length_map]
    show (44 + 1) * ns.length ≤ 400
    omega
  · rcases h2 c hc with z | ⟨y, hy, z⟩
    · have : c ∈ [44] := z
      rw [List.mem_singleton] at this
      omega
    · obtain ⟨i, hi, rfl⟩ := List.mem_map.mp hy
      exact (int_wrd (h i hi)).cps c z
def cw : Nat → Nat
  | 0 => 0
  | n + 1 => 8 * (1 + 4 * cw n) + 1
theorem partsW_facts {k : Nat} {P : PyData → Prop} (one : ∀ v, P v → (∀ x ∈ partW v, Wrd x) ∧ (partW v).length ≤ k) : ∀ {vs : List PyData}, (∀ v ∈ vs, P v) → (∀ x ∈ partsW vs, Wrd x) ∧ (partsW vs).length ≤ k * vs.length
  | [], _ => ⟨(fun x z => by simp only [partsW] at z; cases z), by simp only [partsW]; exact Nat.zero_le _⟩
  | v :: vs, h => by
    obtain ⟨a1, a2⟩ := one v (h v List.mem_cons_self)
    obtain ⟨b1, b2⟩ := partsW_facts one fun u hu => h u (List.mem_cons_of_mem (a := u) v hu)
    simp only [partsW]
    refine ⟨fun x hx => ?_, ?_⟩
    · rcases List.mem_append.mp hx with z | z
      · exact a1 x z
      · exact b1 x z
    · rw [List.length_append, List.length_cons, Nat.mul_succ]; omega
theorem colon_wrd : Wrd ":" := ⟨by decide, by decide⟩
theorem rowsW_facts {k : Nat} : ∀ {rs : List PyData}, (∀ r ∈ rs, (∀ x ∈ rowW r, Wrd x) ∧ (rowW r).length ≤ k) → (∀ x ∈ rowsW rs, Wrd x) ∧ (rowsW rs).length ≤ (k + 1) * rs.length
  | [], _ => ⟨(fun x z => by simp only [rowsW] at z; cases z), by simp only [rowsW]; exact Nat.zero_le _⟩
  | v :: vs, h => by
    obtain ⟨a1, a2⟩ := h v List.mem_cons_self
    obtain ⟨b1, b2⟩ := rowsW_facts fun u hu => h u (List.mem_cons_of_mem (a := u) v hu)
    simp only [rowsW]
    refine ⟨fun x hx => ?_, ?_⟩
    · rcases List.mem_cons.mp hx with z | z
      · rw [z]; exact colon_wrd
      · rcases List.mem_append.mp z with z | z
        · exact a1 x z
        · exact b1 x z
    · rw [List.length_cons, List.length_append, List.length_cons, Nat.mul_succ]; omega
theorem isRows_ints (ns : List Int) : isRows (ns.map PyData.int) = false := by cases ns <;> rfl
theorem intsL_map (ns : List Int) : intsL (ns.map PyData.int) = ns := by unfold intsL; rw [intsP_map]; rfl
theorem partW_facts : ∀ (n : Nat) (v : PyData), OkW n v → (∀ x ∈ partW v, Wrd x) ∧ (partW v).length ≤ cw n
  | 0, _, h => h.elim
  | n + 1, v, h => by
    have c1 : 1 ≤ cw (n + 1) := by unfold cw; omega
    have one : ∀ {x : Str}, Wrd x → (∀ y ∈ [x], Wrd y) ∧ [x].length ≤ cw (n + 1) := fun w => ⟨fun y hy => by rw [List.mem_singleton.mp hy]; exact w, c1⟩
    cases v with
    | str x => simp only [partW]; exact one h
    | int i => simp only [partW]; exact one (int_wrd h)
    | tuple vs =>
      obtain ⟨t, b, rfl, f⟩ := h
      simp only [partW, fracW]
      exact one (showF_wrd f)
    | list vs =>
      obtain ⟨h1, h8, h⟩ := h
      simp only [partW]
      rcases h with ⟨ns, rfl, hn⟩ | h
      · rw [isRows_ints, intsL_map]
        rw [List.length_map] at h8
        exact one (listS_wrd hn h8)
      · cases vs with
        | nil => exact absurd h1 (by decide)
        | cons r rs =>
          obtain ⟨ws, rfl, _⟩ := h r List.mem_cons_self
          rw [if_pos (show isRows (.tuple ws :: rs) = true from rfl)]
          obtain ⟨g1, g2⟩ := rowsW_facts (k := 4 * cw n) (rs := .tuple ws :: rs) fun r hr => by
            obtain ⟨us, rfl, l4, hu⟩ := h r hr
            obtain ⟨f1, f2⟩ := partsW_facts (k := cw n) (partW_facts n) hu
            simp only [rowW]
            refine ⟨f1, Nat.le_trans f2 ?_⟩
            rw [Nat.mul_comm 4]
            exact Nat.mul_le_mul_left _ l4
          refine ⟨g1, Nat.le_trans g2 ?_⟩
          have z := Nat.mul_le_mul_left (4 * cw n + 1) h8
          show (4 * cw n + 1) * _ ≤ 8 * (1 + 4 * cw n) + 1
          omega
    | bool b => exact h.elim
    | none => exact h.elim
    | dict l => exact h.elim
/-- the text of what is written is not too long -/
theorem text_facts {vs : List PyData} (h : ∀ v ∈ vs, OkW 2 v) (hl : vs.length ≤ 8) : (∀ x ∈ partsW vs, x.length ≤ 400) ∧ (partsW vs).length ≤ 2376 ∧ Pd 60 16777216 (.str (textW vs)) := by
  obtain ⟨g1, g2⟩ := partsW_facts (k := cw 2) (partW_facts 2) h
  have c2 : cw 2 = 297 := rfl
  rw [c2] at g2
  have hk : ∀ x ∈ partsW vs, x.length ≤ 400 := fun x hx => (g1 x hx).len
  obtain ⟨j1, j2⟩ := join_facts " " hk
  have l2 : (partsW vs).length ≤ 2376 := by omega
  have cps : ∀ c ∈ (textW vs).cps.toList, c < 1114112 := fun c hc => by
    rcases j2 c hc with z | ⟨y, hy, z⟩
    · have : c ∈ [32] := z
      rw [List.mem_singleton] at this
      omega
    · exact (g1 y hy).cps c z
  have ok : (textW vs).cps.all (fun c => decide (c < 0x110000)) = true := by
    rw [← Array.all_toList]
    exact List.all_eq_true.mpr fun c hc => decide_eq_true (cps c hc)
  refine ⟨hk, l2, ok, Nat.zero_le _, rfl, ?_⟩
  have e := PySem.StrLaws.reprText_len (textW vs) fun c hc => by have := cps c hc; omega
  have l3 : (textW vs).length ≤ 401 * 2376 := Nat.le_trans j1 (Nat.mul_le_mul_left _ l2)
  show (PySem.reprText (textW vs)).length ≤ _
  omega
end DL
/-! Data layer, part 42: sorted(set(..)) into the store; sorted texts are unique. -/
namespace DL
open PySem PySem.Spec PyProof.Rows L2
theorem cps_irrefl : ∀ a : List Nat, ltCps a a = false
  | [] => rfl
  | a :: r => by show (decide (a < a) || (a == a && ltCps r r)) = false; rw [cps_irrefl r]; simp
theorem cps_anti : ∀ {a b : List Nat}, ltCps a b = false → ltCps b a = false → a = b
  | [], [], _, _ => rfl
  | [], _ :: _, h, _ => by cases h
  | _ :: _, [], _, h => by cases h
  | a :: r, b :: t, h1, h2 => by
    have g1 : (decide (a < b) || (a == b && ltCps r t)) = false := h1
    have g2 : (decide (b < a) || (b == a && ltCps t r)) = false := h2
    rw [Bool.or_eq_false_iff, decide_eq_false_iff_not] at g1 g2
    obtain rfl : a = b := by omega
    have f1 : ltCps r t = false := by simpa using g1.2
    have f2 : ltCps t r = false := by simpa using g2.2
    rw [cps_anti f1 f2]
theorem cps_trans : ∀ {a b c : List Nat}, ltCps b a = false → ltCps c b = false → ltCps c a = false
  | [], b, c, _, h2 => by
    cases c with
    | nil => rfl
    | cons c u => rfl
  | a :: r, [], c, h1, _ => by cases h1
  | a :: r, b :: t, [], _, h2 => by cases h2
  | a :: r, b :: t, c :: u, h1, h2 => by
    have g1 : (decide (b < a) || (b == a && ltCps t r)) = false := h1
    have g2 : (decide (c < b) || (c == b && ltCps u t)) = false := h2
    rw [Bool.or_eq_false_iff, decide_eq_false_iff_not] at g1 g2
    show (decide (c < a) || (c == a && ltCps u r)) = false
    rw [Bool.or_eq_false_iff, decide_eq_false_iff_not]
    refine ⟨by omega, ?_⟩
    by_cases e : c = a
    · obtain rfl : b = a := by omega
      subst e
      have f1 : ltCps t r = false := by simpa using g1.2
      have f2 : ltCps u t = false := by simpa using g2.2
      rw [cps_trans f1 f2]; simp
    · rw [show (c == a) = false by simpa using e]; rfl
abbrev leS (x y : Str) : Prop := ltCps y.cps.toList x.cps.toList = false
theorem rising_pw : ∀ {p : Str} {l : List Str}, risingS p l = true → (p :: l).Pairwise leS
  | p, [], _ => List.pairwise_singleton _ _
  | p, x :: r, h => by
    have h' : (!ltCps x.cps.toList p.cps.toList && risingS x r) = true := h
    rw [Bool.and_eq_true] at h'
    have le : leS p x := by simpa using h'.1
    have pw := rising_pw h'.2
    refine List.pairwise_cons.mpr ⟨fun y hy => ?_, pw⟩
    rcases List.mem_cons.mp hy with e | hy
    · rw [e]; exact le
    · exact cps_trans le ((List.pairwise_cons.mp pw).1 y hy)
theorem sorted_pw {l : List Str} (h : sortedS l = true) : l.Pairwise leS := by
  cases l with
  | nil => exact .nil
  | cons x r => exact rising_pw h
theorem str_eq_of_cps {x y : Str} (h : x.cps.toList = y.cps.toList) : x = y := by
  cases x with | mk a => cases y with | mk b => exact congrArg Str.mk (Array.toList_inj.mp h)
/-- ms are the texts of ns, sorted, each once -/
structure SrtOf (ns ms : List Str) : Prop where
  srt : sortedS ms = true
  nd : ms.Nodup
  mem : ∀ k, k ∈ ms ↔ k ∈ ns
theorem SrtOf.uniq {ns ms us : List Str} (h : SrtOf ns ms) (g : SrtOf ns us) : ms = us := by
  have p : ms.Perm us := (List.perm_ext_iff_of_nodup h.nd g.nd).mpr fun k => by rw [h.mem k, g.mem k]
  exact List.Perm.eq_of_pairwise (fun a b _ _ h1 h2 => str_eq_of_cps (cps_anti h2 h1)) (sorted_pw h.srt) (sorted_pw g.srt) p
def dSortSetP : FN
  | [x], m, q => onS (seqL x m) fun ds => ds.length < 64 ∧ ∃ ns, strsOf ds = some ns ∧ ∀ ms : List Str, SrtOf ns ms → ms.length ≤ ns.length → q (.ptr m.length) (m ++ [.lst (ms.map D.str)])
  | _, _, _ => False
section
variable [Cl] [Lk] {X : Cx}
theorem o_sortSetP : OpN X.K dSortSetP (rSortSet X) := by
  intro W F H m xs ds q Q rel ra h k
  unfold dSortSetP at h
  split at h
  · obtain ⟨v, rfl, rv⟩ := ra1 ra
    obtain ⟨es, e1, few, ns, e2, h⟩ := onS_some h
    obtain ⟨a, ys, rfl, g, r⟩ := seqL_at rel rv e1
    rw [strsOf_eq e2] at r few
    rw [List.length_map] at few
    have := ra_strs_eq r
    subst this
    refine .inr ⟨a, ns, rfl, g, by omega, fun p c hp hc => .inr ⟨p, _, c, rfl, upd_same, by omega, fun ms p' od nd me ln hp' => ?_⟩⟩
    have rel1 := rel.grow (o := SetHG (PySem.strKind X.prog X.w) p (fun j => decide (j ∈ ns)) c) hp
    have hq := h ms ⟨od, nd, fun k => by rw [me k, decide_eq_true_eq]⟩ (by omega)
    exact hot_lst rel1 (ra_strs ms) hq k hp'
  · exact h.elim
theorem je_sortSetP {a : Expr} {ta : DE} {p p2 pos qos : Pos} (calm : X.calm = true) (hg : Gl X "sorted") (hm : X.mg "sorted" = none) (hg2 : Gl X "set") (hm2 : X.mg "set" = none) (ha : JE X a ta) (hs : starEach [a] X.env = (false, eval a X.env) :: starEach [] X.env := by rfl) (hp : (backTo qos (starEach [] X.env)).any (·.1) = false := by rfl)
    (hs2 : starEach [.Call (.Name "set" p2) [a] [] qos] X.env = (false, eval (.Call (.Name "set" p2) [a] [] qos) X.env) :: starEach [] X.env := by rfl) (hp2 : (backTo pos (starEach [] X.env)).any (·.1) = false := by rfl) : JE X (.Call (.Name "sorted" p) [.Call (.Name "set" p2) [a] [] qos] [] pos) (dCallB dSortSetP (a1 ta)) :=
  pe_wk (pe_callB (e := .Call (.Name "set" p2) [a] [] qos) (cr_or (cr_sortSI calm) (cr_sortSS calm)) hg hm (by decide +kernel) (pa_cons (pe_callTy (cr_or (cr_setI calm) (cr_setS calm)) hg2 hm2 (by decide +kernel) (ja_cons ha ja_nil hs) (by decide) (by decide) hs hp) pa_nil hs2) (by decide) (by decide) hs2 hp2) fun s H Q h => call_wk o_sortSetP s H Q h
end
end DL
namespace K34
open PySem PySem.Spec PyProof.Rows L2 DL
def topS (i : Nat) : Stmt := PySem.Challenge.pw_truechain_k34_names_and_copies.main.body.getD i (.Pass ⟨0, 0, 0, 0⟩)
abbrev s_names_in : Stmt := topS 1
abbrev N_names_in : List Str := ["paper", "found", "row"]
theorem sc_names_in : FnScope N_names_in ["paper"] (defScope s_names_in) := ⟨rfl, rfl, rfl, by decide +kernel, rfl, by decide +kernel, by decide +kernel⟩
abbrev s_copy_part : Stmt := topS 2
abbrev N_copy_part : List Str := ["part", "one"]
theorem sc_copy_part : FnScope N_copy_part ["part"] (defScope s_copy_part) := ⟨rfl, rfl, rfl, by decide +kernel, rfl, by decide +kernel, by decide +kernel⟩
abbrev s_copy_of : Stmt := topS 3
abbrev N_copy_of : List Str := ["paper"]
theorem sc_copy_of : FnScope N_copy_of ["paper"] (defScope s_copy_of) := ⟨rfl, rfl, rfl, by decide +kernel, rfl, by decide +kernel, by decide +kernel⟩
abbrev s_law_bag : Stmt := topS 5
abbrev N_law_bag : List Str := ["_law_script", "_law_cell"]
theorem sc_law_bag : FnScope N_law_bag ["_law_script"] (defScope s_law_bag) := ⟨rfl, rfl, rfl, by decide +kernel, rfl, by decide +kernel, by decide +kernel⟩
abbrev s_law_take : Stmt := topS 6
abbrev N_law_take : List Str := ["_law_bag_here", "_law_many", "_law_cell", "_law_value", "_law_first", "_law_second"]
theorem sc_law_take : FnScope N_law_take ["_law_bag_here", "_law_many"] (defScope s_law_take) := ⟨rfl, rfl, rfl, by decide +kernel, rfl, by decide +kernel, by decide +kernel⟩
abbrev s_law_alike : Stmt := topS 7
abbrev N_law_alike : List Str := ["_law_found", "_law_due"]
theorem sc_law_alike : FnScope N_law_alike ["_law_found", "_law_due"] (defScope s_law_alike) := ⟨rfl, rfl, rfl, by decide +kernel, rfl, by decide +kernel, by decide +kernel⟩
abbrev s_law_copy : Stmt := topS 8
abbrev N_law_copy : List Str := ["_law_thing", "_law_one"]
theorem sc_law_copy : FnScope N_law_copy ["_law_thing"] (defScope s_law_copy) := ⟨rfl, rfl, rfl, by decide +kernel, rfl, by decide +kernel, by decide +kernel⟩
abbrev s_law_low : Stmt := topS 9
abbrev N_law_low : List Str := ["_law_top", "_law_bottom", "_law_one", "_law_other"]
theorem sc_law_low : FnScope N_law_low ["_law_top", "_law_bottom"] (defScope s_law_low) := ⟨rfl, rfl, rfl, by decide +kernel, rfl, by decide +kernel, by decide +kernel⟩
abbrev s_law_under : Stmt := topS 10
abbrev N_law_under : List Str := ["_law_one", "_law_other"]
theorem sc_law_under : FnScope N_law_under ["_law_one", "_law_other"] (defScope s_law_under) := ⟨rfl, rfl, rfl, by decide +kernel, rfl, by decide +kernel, by decide +kernel⟩
abbrev s_law_least : Stmt := topS 11
abbrev N_law_least : List Str := ["_law_some", "_law_found", "_law_one"]
theorem sc_law_least : FnScope N_law_least ["_law_some"] (defScope s_law_least) := ⟨rfl, rfl, rfl, by decide +kernel, rfl, by decide +kernel, by decide +kernel⟩
abbrev s_law_most : Stmt := topS 12
abbrev N_law_most : List Str := ["_law_some", "_law_found", "_law_one"]
theorem sc_law_most : FnScope N_law_most ["_law_some"] (defScope s_law_most) := ⟨rfl, rfl, rfl, by decide +kernel, rfl, by decide +kernel, by decide +kernel⟩
abbrev s_law_name : Stmt := topS 13
abbrev N_law_name : List Str := ["_law_bag_here", "_law_words", "_law_way", "_law_letters", "_law_k"]
theorem sc_law_name : FnScope N_law_name ["_law_bag_here"] (defScope s_law_name) := ⟨rfl, rfl, rfl, by decide +kernel, rfl, by decide +kernel, by decide +kernel⟩
abbrev s_law_small : Stmt := topS 14
abbrev N_law_small : List Str := ["_law_bag_here", "_law_way", "_law_bottom", "_law_top"]
theorem sc_law_small : FnScope N_law_small ["_law_bag_here"] (defScope s_law_small) := ⟨rfl, rfl, rfl, by decide +kernel, rfl, by decide +kernel, by decide +kernel⟩
abbrev s_law_free : Stmt := topS 15
abbrev N_law_free : List Str := ["_law_bag_here", "_law_top", "_law_bottom"]
theorem sc_law_free : FnScope N_law_free ["_law_bag_here"] (defScope s_law_free) := ⟨rfl, rfl, rfl, by decide +kernel, rfl, by decide +kernel, by decide +kernel⟩
abbrev s_law_rising : Stmt := topS 16
abbrev N_law_rising : List Str := ["_law_bag_here", "_law_many", "_law_step", "_law_last", "_law_found", "_law_k"]
theorem sc_law_rising : FnScope N_law_rising ["_law_bag_here", "_law_many"] (defScope s_law_rising) := ⟨rfl, rfl, rfl, by decide +kernel, rfl, by decide +kernel, by decide +kernel⟩
abbrev s_law_any_spot : Stmt := topS 17
abbrev N_law_any_spot : List Str := ["_law_bag_here", "_law_most_here", "_law_k"]
theorem sc_law_any_spot : FnScope N_law_any_spot ["_law_bag_here"] (defScope s_law_any_spot) := ⟨rfl, rfl, rfl, by decide +kernel, rfl, by decide +kernel, by decide +kernel⟩
abbrev s_law_any_rows : Stmt := topS 18
abbrev N_law_any_rows : List Str := ["_law_bag_here", "_law_kind", "_law_rows", "_law_mark", "_law_both", "_law_elder", "_law_row"]
theorem sc_law_any_rows : FnScope N_law_any_rows ["_law_bag_here", "_law_kind"] (defScope s_law_any_rows) := ⟨rfl, rfl, rfl, by decide +kernel, rfl, by decide +kernel, by decide +kernel⟩
abbrev s_law_any_paper : Stmt := topS 19
abbrev N_law_any_paper : List Str := ["_law_bag_here", "_law_kind", "_law_code", "_law_day", "_law_term", "_law_name_here", "_law_sort", "_law_marks", "_law_rows", "_law_row"]
theorem sc_law_any_paper : FnScope N_law_any_paper ["_law_bag_here"] (defScope s_law_any_paper) := ⟨rfl, rfl, rfl, by decide +kernel, rfl, by decide +kernel, by decide +kernel⟩
abbrev s_law_names_due : Stmt := topS 20
abbrev N_law_names_due : List Str := ["_law_paper", "_law_found", "_law_row"]
theorem sc_law_names_due : FnScope N_law_names_due ["_law_paper"] (defScope s_law_names_due) := ⟨rfl, rfl, rfl, by decide +kernel, rfl, by decide +kernel, by decide +kernel⟩
abbrev s_law_emptied : Stmt := topS 21
abbrev N_law_emptied : List Str := ["_law_at", "_law_paper", "_law_spot"]
theorem sc_law_emptied : FnScope N_law_emptied ["_law_at", "_law_paper"] (defScope s_law_emptied) := ⟨rfl, rfl, rfl, by decide +kernel, rfl, by decide +kernel, by decide +kernel⟩
abbrev s_law : Stmt := topS 22
abbrev N_law : List Str := ["_law_script", "_law_bag_here", "_law_k", "_law_paper", "_law_due", "_law_handed", "_law_told", "_law_one", "_law_two", "_law_at", "_law_mine"]
theorem sc_law : FnScope N_law ["_law_script"] (defScope s_law) := ⟨rfl, rfl, rfl, by decide +kernel, rfl, by decide +kernel, by decide +kernel⟩
abbrev t_law_bag : DS := DL.t_law_bag
abbrev g_law_bag : FN := DL.g_law_bag
theorem ar_law_bag : ∀ ds m q, g_law_bag ds m q → ds.length = 1 := DL.ar_law_bag
abbrev t_law_take : DS := DL.tk0
abbrev g_law_take : FN := DL.g_law_take
theorem ar_law_take : ∀ ds m q, g_law_take ds m q → ds.length = 2 := DL.ar_law_take
theorem sm_num {v : Int} (h1 : 0 ≤ v) (h2 : v ≤ 10 ^ 60) : Sm 220 v := by
  unfold Sm
  have : (10 ^ 60 : Int) = 1000000000000000000000000000000000000000000000000000000000000 := by decide
  have e : (2 : Nat) ^ 220 = 1684996666696914987166688442938726917102321526408785780068975640576 := by decide
  rw [e]
  omega
theorem sm_num2 {v : Int} (h1 : -(10 ^ 60) ≤ v) (h2 : v ≤ 10 ^ 60) : Sm 200 v := by
  unfold Sm
  have : (10 ^ 60 : Int) = 1000000000000000000000000000000000000000000000000000000000000 := by decide
  have e : (2 : Nat) ^ 200 = 1606938044258990275541962092341162602522202993782792835301376 := by decide
  rw [e]
  omega
theorem sign_at {v : Int} (h0 : 0 ≤ v) (h : v < 2) : ∃ s : Int, (s = 1 ∨ s = -1) ∧ atI [D.int 1, D.int (-1)] v = some (.int s) := by
  obtain rfl | rfl := draw2 h0 h
  · exact ⟨1, .inl rfl, rfl⟩
  · exact ⟨-1, .inr rfl, rfl⟩
theorem sm_sign {g x : Int} {n : Nat} (hg : g = 1 ∨ g = -1) (hx : Sm n x) : Sm n (x * g) := by
  obtain rfl | rfl := hg
  · rw [Int.mul_one]; exact hx
  · rw [Int.mul_neg, Int.mul_one]; exact hx.neg
theorem al0 {α : Type} {P : α → Prop} : ∀ d ∈ ([] : List α), P d := fun _ z => nomatch z
theorem al1 {α : Type} {P : α → Prop} {x : α} {L : List α} (h : P x) (t : ∀ d ∈ L, P d) : ∀ d ∈ x :: L, P d := fun d hd => by
  rcases List.mem_cons.mp hd with e | e
  · rw [e]; exact h
  · exact t d e
theorem onS_at {α : Type} {P K : α → Prop} {L : List α} {v : Int} (h : ∀ d ∈ L, P d) (h0 : 0 ≤ v) (h1 : v < L.length) (k : ∀ d, P d → K d) : onS (atI L v) K := by
  obtain ⟨j, rfl⟩ : ∃ j : Nat, v = j := ⟨v.toNat, by omega⟩
  have hj : j < L.length := by omega
  rw [atI_nat (List.getElem?_eq_getElem hj)]
  exact k _ (h _ (List.getElem_mem hj))
theorem ix_last {α : Type} {L : List α} {x : α} : ixN (L ++ [x]).length (-1) = some L.length := by
  unfold ixN
  rw [if_neg (by omega), List.length_append, List.length_singleton, if_pos (by omega)]
  congr 1
  omega
theorem at_last {α : Type} {L : List α} {x : α} : atI (L ++ [x]) (-1) = some x := by
  unfold atI
  rw [ix_last]
  simp
theorem set_last {α : Type} {L : List α} {x y : α} : (L ++ [x]).set L.length y = L ++ [y] := by simp
end K34
namespace K34
open PySem PySem.Spec PyProof.Rows L2 DL
theorem pyra_cons {m : Sto} {ds : List D} {v : PyData} {vs : List PyData} (h : PyRA m ds (v :: vs)) : ∃ x xs, ds = x :: xs ∧ PyR m x v ∧ PyRA m xs vs := by
  cases h with
  | cons p r => exact ⟨_, _, rfl, p, r⟩
theorem str_len (x : Str) : x.length = x.cps.toList.length := by rw [Array.length_toList]; rfl
theorem gd_name {k : Nat} {x : Str} (h : NameS k x) : Gd 0 (10 * k + 2) (.str x) := by
  obtain ⟨h1, h2, h3⟩ := h.parts
  have ok : x.cps.all (fun c => decide (c < 0x110000)) = true := by
    rw [← Array.all_toList]
    exact List.all_eq_true.mpr fun c hc => decide_eq_true (by have := (h3 c hc).2; omega)
  refine ⟨.str x, rfl, ok, Nat.le_refl _, rfl, ?_⟩
  have e := PySem.StrLaws.reprText_len x fun c hc => by have := (h3 c hc).2; omega
  show (PySem.reprText x).length ≤ _
  omega
/-- letters put together -/
theorem join_letters : ∀ {ys : List Str}, (∀ y ∈ ys, ∃ c, y = (⟨#[c]⟩ : Str) ∧ 97 ≤ c ∧ c ≤ 122) → (Str.join "" ys).length = ys.length ∧ ∀ c ∈ (Str.join "" ys).cps.toList, 97 ≤ c ∧ c ≤ 122
  | [], _ => ⟨rfl, fun c hc => nomatch hc⟩
  | [y], h => by
    obtain ⟨c, rfl, h1, h2⟩ := h y List.mem_cons_self
    refine ⟨rfl, fun d hd => ?_⟩
    have hd' : d ∈ [c] := hd
    rw [List.mem_singleton] at hd'
    rw [hd']; exact ⟨h1, h2⟩
  | y :: z :: ys, h => by
    obtain ⟨c, rfl, h1, h2⟩ := h y List.mem_cons_self
    obtain ⟨e1, e2⟩ := join_letters (ys := z :: ys) fun y hy => h y (List.mem_cons_of_mem _ hy)
    have e : (Str.join "" ((⟨#[c]⟩ : Str) :: z :: ys)).cps.toList = c :: (Str.join "" (z :: ys)).cps.toList := by
      show (((⟨#[c]⟩ : Str) ++ "" ++ Str.join "" (z :: ys)).cps).toList = _
      rw [PySem.Str.cps_append, PySem.Str.cps_append, Array.toList_append, Array.toList_append]
      rfl
    constructor
    · rw [str_len, e, List.length_cons, ← str_len, e1]; rfl
    · intro d hd
      rw [e] at hd
      rcases List.mem_cons.mp hd with q | q
      · rw [q]; exact ⟨h1, h2⟩
      · exact e2 d q
theorem letters_at : ∀ c ∈ ("abcdefghijklmnopqrstuvwxyz" : Str).cps.toList, 97 ≤ c ∧ c ≤ 122 := by decide +kernel
theorem sum_ones : ∀ {ys : List Str}, (∀ y ∈ ys, ∃ c, y = (⟨#[c]⟩ : Str) ∧ 97 ≤ c ∧ c ≤ 122) → (ys.map (·.length)).sum = ys.length
  | [], _ => rfl
  | y :: ys, h => by
    obtain ⟨c, rfl, _⟩ := h y List.mem_cons_self
    rw [List.map_cons, List.sum_cons, sum_ones fun y hy => h y (List.mem_cons_of_mem _ hy), List.length_cons]
    show 1 + ys.length = _
    omega
@[irreducible] def g_law_name : FN := fun dz m q => ∃ (c : Cell) (ms : Sto), dz = [.ptr 0] ∧ (m = c :: ms ∧ BagOk c ∧ ∀ x c', NameS 8 x → BagOk c' → q (.str x) (c' :: ms))
theorem ar_law_name : ∀ ds m q, g_law_name ds m q → ds.length = 1 := by
  unfold g_law_name
  rintro _ m q ⟨_, _, rfl, _⟩; rfl
theorem i_law_name {c : Cell} {ms : Sto} {m : Sto} {q : D → Sto → Prop} (h : m = c :: ms ∧ BagOk c ∧ ∀ x c', NameS 8 x → BagOk c' → q (.str x) (c' :: ms)) : g_law_name [.ptr 0] m q := by unfold g_law_name; exact ⟨c, ms, rfl, h⟩
def e_law_name_1 : DE :=
    (dBin dIx (dVar 3) (dCallB g_law_take (dCons (dVar 0) (dCons (dC (.int 26)) dNil))))
def t_law_name : DS :=
    (dSeq (dAsg (dLst (dCons (dC (.str "thing")) (dCons (dC (.str "held")) (dCons (dC (.str "read")) (dCons (dC (.str "off")) (dCons (dC (.str "scale")) (dCons (dC (.str "box")) (dCons (dC (.str "a")) (dCons (dC (.str "aa")) (dCons (dC (.str "ab")) (dCons (dC (.str "b")) dNil))))))))))) (gN 1))
    (dSeq (dAsg (dCallB g_law_take (dCons (dVar 0) (dCons (dC (.int 4)) dNil))) (gN 2))
    (dSeq (dIf (dTest (dBin dEq (dVar 2) (dC (.int 0)))) (dRet (dBin dIx (dVar 1) (dCallB g_law_take (dCons (dVar 0) (dCons (dC (.int 10)) dNil))))) dNext)
    (dSeq (dAsg (dC (.str "abcdefghijklmnopqrstuvwxyz")) (gN 3))
    (dRet (dJoin (dC (.str "")) (dLc 4 (dRange1 (dBin dAdd (dC (.int 1)) (dCallB g_law_take (dCons (dVar 0) (dCons (dBin dIx (dLst (dCons (dC (.int 2)) (dCons (dC (.int 8)) (dCons (dC (.int 1)) dNil)))) (dBin dSub (dVar 2) (dC (.int 1)))) dNil))))) dYes e_law_name_1)))))))
theorem r_law_name (dz : List D) (m : Sto) (q : D → Sto → Prop) (hl : dz.length = 1) (h : g_law_name dz m q) : t_law_name { nx := fun _ m' => q .non m', rt := q } (startD N_law_name dz) m := by
  unfold g_law_name at h
  obtain ⟨c, ms, rfl, h⟩ := h
  unfold t_law_name
  obtain ⟨rfl, hc, h⟩ := h
  ((conv => whnf); (repeat ((first | refine ⟨Nat.le_of_ble_eq_true rfl, ?_⟩ | refine bt ?_ | refine bf ?_); (conv => whnf))); (try (set_option simprocs false in dsimp only [])))
  refine take_at hc (by decide) (sm (k := 64) (by decide) (by decide)) fun v1 c1 lo_v1 up_v1 hc_v1 => ?_
  ((conv => whnf); (try (set_option simprocs false in dsimp only [])))
  refine br (fun e => ?_) (fun e => ?_)
  · ((conv => whnf); (try (set_option simprocs false in dsimp only [])))
    refine take_at hc_v1 (by decide) (sm (k := 64) (by decide) (by decide)) fun v2 c2 lo_v2 up_v2 hc_v2 => ?_
    ((conv => whnf); (try (set_option simprocs false in dsimp only [])))
    refine onS_at (P := fun d => ∃ x, d = .str x ∧ NameS 8 x) (al1 ⟨_, rfl, by decide +kernel⟩ (al1 ⟨_, rfl, by decide +kernel⟩ (al1 ⟨_, rfl, by decide +kernel⟩ (al1 ⟨_, rfl, by decide +kernel⟩ (al1 ⟨_, rfl, by decide +kernel⟩ (al1 ⟨_, rfl, by decide +kernel⟩ (al1 ⟨_, rfl, by decide +kernel⟩ (al1 ⟨_, rfl, by decide +kernel⟩ (al1 ⟨_, rfl, by decide +kernel⟩ (al1 ⟨_, rfl, by decide +kernel⟩ al0)))))))))) lo_v2 up_v2 fun d hd => ?_
    obtain ⟨x, rfl, hx⟩ := hd
    exact h x c2 hx hc_v2
  · ((conv => whnf); (try (set_option simprocs false in dsimp only [])))
    refine ⟨by decide, ?_⟩
    ((conv => whnf); (try (set_option simprocs false in dsimp only [])))
    refine onS_at (P := fun d => ∃ i : Int, d = .int i ∧ 1 ≤ i ∧ i ≤ 8) (al1 ⟨2, rfl, by decide, by decide⟩ (al1 ⟨8, rfl, by decide, by decide⟩ (al1 ⟨1, rfl, by decide, by decide⟩ al0))) (by omega) (show v1 - 1 < 3 by omega) fun d hd => ?_
    obtain ⟨i, rfl, i1, i2⟩ := hd
    ((conv => whnf); (try (set_option simprocs false in dsimp only [])))
    refine take_at hc_v1 (by omega) (sm_le 8 (by omega) (by omega) |>.mono (by decide)) fun v2 c2 lo_v2 up_v2 hc_v2 => ?_
    ((conv => whnf); (try (set_option simprocs false in dsimp only [])))
    refine ⟨⟨by omega, by omega⟩, ?_⟩
    ((conv => whnf); (try (set_option simprocs false in dsimp only [])))
    refine ⟨by rw [List.length_map, List.length_range]; omega, ?_⟩
    refine lc_ind (fun xs acc m' => ∃ c' ys, m' = c' :: ms ∧ BagOk c' ∧ acc = ys.map D.str ∧ ys.length + xs.length = (1 + v2).toNat ∧ ∀ y ∈ ys, ∃ c, y = (⟨#[c]⟩ : Str) ∧ 97 ≤ c ∧ c ≤ 122) ?_ (fun _ _ _ _ => trivial) ?_ _ _ _ ⟨c2, [], rfl, hc_v2, rfl, by rw [List.length_map, List.length_range]; simp, fun _ z => nomatch z⟩
    · rintro x xs acc m' N ⟨c', ys, rfl, hc', rfl, hl, hy⟩ k
      unfold e_law_name_1
      ((conv => whnf); (try (set_option simprocs false in dsimp only [])))
      refine take_at hc' (by decide) (sm (k := 64) (by decide) (by decide)) fun v3 c3 lo_v3 up_v3 hc_v3 => ?_
      ((conv => whnf); (try (set_option simprocs false in dsimp only [])))
      refine ⟨by decide +kernel, ?_⟩
      refine onS_at (P := fun c => 97 ≤ c ∧ c ≤ 122) letters_at lo_v3 (show v3 < (26 : Nat) from up_v3) fun cc hcc => ?_
      refine k _ _ ⟨c3, ys ++ [⟨#[cc]⟩], rfl, hc_v3, by simp, by simp at hl ⊢; omega, fun y hy2 => ?_⟩
      rcases List.mem_append.mp hy2 with z | z
      · exact hy y z
      · rw [List.mem_singleton] at z; exact ⟨cc, z, hcc⟩
    · rintro acc m' ⟨c', ys, rfl, hc', rfl, hl, hy⟩
      ((conv => whnf); (try (set_option simprocs false in dsimp only [])))
      rw [strsOf_map]
      ((conv => whnf); (try (set_option simprocs false in dsimp only [])))
      have e1 := sum_ones hy
      obtain ⟨g1, g2⟩ := join_letters hy
      simp only [List.length_nil, Nat.add_zero] at hl
      have hl8 : ys.length ≤ 8 := by omega
      refine ⟨by rw [e1]; show ys.length + ys.length * 0 ≤ _; omega, ?_⟩
      have ej : Txt.join "" ys = Str.join "" ys := PySem.StrLaws.glued_eq_join "" ys
      rw [ej]
      exact h _ c' (.of (by omega) (by omega) g2) hc'
end K34
namespace K34
open PySem PySem.Spec PyProof.Rows L2 DL
/-- a fraction below 2 ^ n -/
structure Fp (n : Nat) (t b : Int) : Prop where
  pos : 0 < b
  cop : Int.gcd t b = 1
  st : Sm n t
  sb : Sm n b
theorem Fp.mono {k n : Nat} {t b : Int} (h : Fp k t b) (hk : k ≤ n) : Fp n t b := ⟨h.pos, h.cop, h.st.mono hk, h.sb.mono hk⟩
theorem fp_low {n : Nat} {t b : Int} (hb : b ≠ 0) (st : Sm n t) (sb : Sm n b) : Fp n (lowT t b) (lowB t b) :=
  ⟨(low_ok t b hb).1, (low_ok t b hb).2.2, lowT_sm hb st, lowB_sm hb sb⟩
theorem lowT_pos {t b : Int} (hb : 0 < b) : lowT t b = t / (Int.gcd t b : Int) := by unfold lowT; rw [if_neg (by omega)]
theorem lowB_pos {t b : Int} (hb : 0 < b) : lowB t b = b / (Int.gcd t b : Int) := by unfold lowB; rw [if_neg (by omega)]
@[irreducible] def g_law_low : FN := fun dz m q => ∃ (t b : Int), dz = [.int t, .int b] ∧ (0 < b ∧ Sm 8900 b ∧ q (fr (lowT t b) (lowB t b)) m)
theorem ar_law_low : ∀ ds m q, g_law_low ds m q → ds.length = 2 := by
  unfold g_law_low
  rintro _ m q ⟨_, _, rfl, _⟩; rfl
theorem i_law_low {t b : Int} {m : Sto} {q : D → Sto → Prop} (h : 0 < b ∧ Sm 8900 b ∧ q (fr (lowT t b) (lowB t b)) m) : g_law_low [.int t, .int b] m q := by unfold g_law_low; exact ⟨t, b, rfl, h⟩
def t_law_low : DS :=
    (dSeq (dPar 2 3 (dCons (dCallB dAbs (a1 (dVar 0))) (dCons (dVar 1) dNil)))
    (dSeq (dWhile (dTest (dBin dGt (dVar 3) (dC (.int 0)))) (dPar 2 3 (dCons (dVar 3) (dCons (dBin dMod (dVar 2) (dVar 3)) dNil))))
    (dRet (dTup (dCons (dBin dDiv (dVar 0) (dVar 2)) (dCons (dBin dDiv (dVar 1) (dVar 2)) dNil))))))
theorem r_law_low (dz : List D) (m : Sto) (q : D → Sto → Prop) (hl : dz.length = 2) (h : g_law_low dz m q) : t_law_low { nx := fun _ m' => q .non m', rt := q } (startD N_law_low dz) m := by
  unfold g_law_low at h
  obtain ⟨t, b, rfl, h⟩ := h
  unfold t_law_low
  obtain ⟨hb, sb, h⟩ := h
  rw [lowT_pos hb, lowB_pos hb] at h
  have hd : ∀ x, CDivW x (Int.gcd t b : Int) := fun x => gcd_div_ok t b (by omega) sb
  ((conv => whnf); (try (set_option simprocs false in dsimp only [])))
  refine gcd_loop _ _ _ _ _ _ (by rw [abs_if]; omega) (by omega) ?_
  rw [abs_if, abs_gcd]
  ((conv => whnf); (try (set_option simprocs false in dsimp only [])))
  refine ⟨hd _, ?_⟩
  ((conv => whnf); (try (set_option simprocs false in dsimp only [])))
  refine ⟨hd _, ?_⟩
  ((conv => whnf); (repeat ((first | refine ⟨Nat.le_of_ble_eq_true rfl, ?_⟩ | refine bt ?_ | refine bf ?_); (conv => whnf))); (try (set_option simprocs false in dsimp only [])))
  exact h
/-- a small fraction -/
structure SmF (t b : Int) : Prop where
  fp : Fp 41 t b
  lo : -(10 ^ 12) ≤ t
  hi : t ≤ 10 ^ 12
  bo : b ≤ 1000
theorem smf_low {t b : Int} (h0 : 0 < b) (h1 : b ≤ 1000) (h2 : -(10 ^ 12) ≤ t) (h3 : t ≤ 10 ^ 12) : SmF (lowT t b) (lowB t b) := by
  have k := low_small t b (by omega)
  have ok := (low_ok t b (by omega)).1
  exact ⟨fp_low (by omega) (sm_le 41 (by omega) (by omega)) (sm_le 41 (by omega) (by omega)), by omega, by omega, by omega⟩
@[irreducible] def g_law_small : FN := fun dz m q => ∃ (c : Cell) (ms : Sto), dz = [.ptr 0] ∧ (m = c :: ms ∧ BagOk c ∧ ∀ t b c', SmF t b → BagOk c' → q (fr t b) (c' :: ms))
theorem ar_law_small : ∀ ds m q, g_law_small ds m q → ds.length = 1 := by
  unfold g_law_small
  rintro _ m q ⟨_, _, rfl, _⟩; rfl
theorem i_law_small {c : Cell} {ms : Sto} {m : Sto} {q : D → Sto → Prop} (h : m = c :: ms ∧ BagOk c ∧ ∀ t b c', SmF t b → BagOk c' → q (fr t b) (c' :: ms)) : g_law_small [.ptr 0] m q := by unfold g_law_small; exact ⟨c, ms, rfl, h⟩
def c_law_small_1 : DS :=
    (dRet (dCallB g_law_low (dCons (dVar 3) (dCons (dVar 2) dNil))))
def t_law_small : DS :=
    (dSeq (dAsg (dCallB g_law_take (dCons (dVar 0) (dCons (dC (.int 5)) dNil))) (gN 1))
    (dSeq (dAsg (dBin dIx (dLst (dCons (dC (.int 1)) (dCons (dC (.int 2)) (dCons (dC (.int 1000)) (dCons (dBin dAdd (dC (.int 1)) (dCallB g_law_take (dCons (dVar 0) (dCons (dC (.int 1000)) dNil)))) (dCons (dC (.int 7)) dNil)))))) (dVar 1)) (gN 2))
    (dSeq (dAsg (dBin dIx (dLst (dCons (dBin dSub (dCallB g_law_take (dCons (dVar 0) (dCons (dC (.int 7)) dNil))) (dC (.int 3))) (dCons (dBin dSub (dCallB g_law_take (dCons (dVar 0) (dCons (dC (.int 2001)) dNil))) (dC (.int 1000))) (dCons (dBin dSub (dBin dPow (dC (.int 10)) (dC (.int 12))) (dCallB g_law_take (dCons (dVar 0) (dCons (dC (.int 3)) dNil)))) dNil)))) (dBin dMod (dVar 1) (dC (.int 3)))) (gN 3))
    (dSeq (dIf (dTest (dBin dGt (dVar 1) (dC (.int 2)))) (dAsg (dBin dSub (dCallB g_law_take (dCons (dVar 0) (dCons (dBin dAdd (dBin dMul (dC (.int 2)) (dBin dPow (dC (.int 10)) (dC (.int 12)))) (dC (.int 1))) dNil))) (dBin dPow (dC (.int 10)) (dC (.int 12)))) (gN 3)) dNext)
    c_law_small_1))))
theorem r_law_small (dz : List D) (m : Sto) (q : D → Sto → Prop) (hl : dz.length = 1) (h : g_law_small dz m q) : t_law_small { nx := fun _ m' => q .non m', rt := q } (startD N_law_small dz) m := by
  unfold g_law_small at h
  obtain ⟨c, ms, rfl, h⟩ := h
  unfold t_law_small
  obtain ⟨rfl, hc, h⟩ := h
  ((conv => whnf); (try (set_option simprocs false in dsimp only [])))
  refine take_at hc (by decide) (sm (k := 64) (by decide) (by decide)) fun v1 c1 lo_v1 up_v1 hc_v1 => ?_
  ((conv => whnf); (repeat ((first | refine ⟨Nat.le_of_ble_eq_true rfl, ?_⟩ | refine bt ?_ | refine bf ?_); (conv => whnf))); (try (set_option simprocs false in dsimp only [])))
  refine take_at hc_v1 (by decide) (sm (k := 64) (by decide) (by decide)) fun v2 c2 lo_v2 up_v2 hc_v2 => ?_
  ((conv => whnf); (repeat ((first | refine ⟨Nat.le_of_ble_eq_true rfl, ?_⟩ | refine bt ?_ | refine bf ?_); (conv => whnf))); (try (set_option simprocs false in dsimp only [])))
  refine onS_at (P := fun d => ∃ i : Int, d = .int i ∧ 1 ≤ i ∧ i ≤ 1000) (al1 ⟨_, rfl, by decide, by decide⟩ (al1 ⟨_, rfl, by decide, by decide⟩ (al1 ⟨_, rfl, by decide, by decide⟩ (al1 ⟨_, rfl, by omega, by omega⟩ (al1 ⟨_, rfl, by decide, by decide⟩ al0))))) lo_v1 up_v1 fun d hd => ?_
  obtain ⟨b, rfl, b1, b2⟩ := hd
  ((conv => whnf); (try (set_option simprocs false in dsimp only [])))
  refine take_at hc_v2 (by decide) (sm (k := 64) (by decide) (by decide)) fun v3 c3 lo_v3 up_v3 hc_v3 => ?_
  ((conv => whnf); (try (set_option simprocs false in dsimp only [])))
  refine take_at hc_v3 (by decide) (sm (k := 64) (by decide) (by decide)) fun v4 c4 lo_v4 up_v4 hc_v4 => ?_
  ((conv => whnf); (try (set_option simprocs false in dsimp only [])))
  refine ⟨⟨by decide, by decide, by decide⟩, ?_⟩
  ((conv => whnf); (try (set_option simprocs false in dsimp only [])))
  refine take_at hc_v4 (by decide) (sm (k := 64) (by decide) (by decide)) fun v5 c5 lo_v5 up_v5 hc_v5 => ?_
  ((conv => whnf); (repeat ((first | refine ⟨Nat.le_of_ble_eq_true rfl, ?_⟩ | refine bt ?_ | refine bf ?_); (conv => whnf))); (try (set_option simprocs false in dsimp only [])))
  refine ⟨by decide, ?_⟩
  ((conv => whnf); (try (set_option simprocs false in dsimp only [])))
  have p12 : (10 : Int) ^ Int.toNat 12 = 10 ^ 12 := by decide
  refine onS_at (P := fun d => ∃ i : Int, d = .int i ∧ -(10 ^ 12) ≤ i ∧ i ≤ 10 ^ 12) (al1 ⟨_, rfl, by omega, by omega⟩ (al1 ⟨_, rfl, by omega, by omega⟩ (al1 ⟨_, rfl, by rw [p12]; omega, by rw [p12]; omega⟩ al0))) (by omega) (show v1 % 3 < 3 by omega) fun d hd => ?_
  obtain ⟨t, rfl, t1, t2⟩ := hd
  ((conv => whnf); (try (set_option simprocs false in dsimp only [])))
  have fin : ∀ (t : Int) c', -(10 ^ 12) ≤ t → t ≤ 10 ^ 12 → BagOk c' → c_law_small_1 { nx := fun _ m' => q .non m', rt := q } [some (.ptr 0), some (.int v1), some (.int b), some (.int t)] (c' :: ms) := fun t c' h1 h2 hc' => by
    unfold c_law_small_1
    ((conv => whnf); (try (set_option simprocs false in dsimp only [])))
    refine i_law_low ⟨by omega, sm_le 10 (by omega) (by omega) |>.mono (by decide), ?_⟩
    exact h _ _ _ (smf_low (by omega) b2 h1 h2) hc'
  refine br (fun e => ?_) (fun e => ?_)
  · ((conv => whnf); (try (set_option simprocs false in dsimp only [])))
    refine ⟨⟨by decide, by decide, by decide⟩, ?_⟩
    ((conv => whnf); (try (set_option simprocs false in dsimp only [])))
    refine ⟨mulL (by decide) (by decide), ?_⟩
    ((conv => whnf); (try (set_option simprocs false in dsimp only [])))
    refine take_at hc_v5 (by decide) (sm (k := 64) (by decide) (by decide)) fun v6 c6 lo_v6 up_v6 hc_v6 => ?_
    ((conv => whnf); (try (set_option simprocs false in dsimp only [])))
    refine ⟨⟨by decide, by decide, by decide⟩, ?_⟩
    have u6 : v6 < 2 * 10 ^ Int.toNat 12 + 1 := up_v6
    exact fin (v6 - 10 ^ Int.toNat 12) c6 (by rw [p12] at *; omega) (by rw [p12] at *; omega) hc_v6
  · exact fin _ c5 t1 t2 hc_v5
@[irreducible] def g_law_free : FN := fun dz m q => ∃ (c : Cell) (ms : Sto), dz = [.ptr 0] ∧ (m = c :: ms ∧ BagOk c ∧ ∀ t b c', SmF t b → 0 ≤ t → BagOk c' → q (fr t b) (c' :: ms))
theorem ar_law_free : ∀ ds m q, g_law_free ds m q → ds.length = 1 := by
  unfold g_law_free
  rintro _ m q ⟨_, _, rfl, _⟩; rfl
theorem i_law_free {c : Cell} {ms : Sto} {m : Sto} {q : D → Sto → Prop} (h : m = c :: ms ∧ BagOk c ∧ ∀ t b c', SmF t b → 0 ≤ t → BagOk c' → q (fr t b) (c' :: ms)) : g_law_free [.ptr 0] m q := by unfold g_law_free; exact ⟨c, ms, rfl, h⟩
def t_law_free : DS :=
    (dSeq (dAsg (dCallB g_law_small (dCons (dVar 0) dNil)) (gT 2 (gsC (gN 1) (gsC (gN 2) gsN))))
    (dRet (dTup (dCons (dCallB dAbs (a1 (dVar 1))) (dCons (dVar 2) dNil)))))
theorem r_law_free (dz : List D) (m : Sto) (q : D → Sto → Prop) (hl : dz.length = 1) (h : g_law_free dz m q) : t_law_free { nx := fun _ m' => q .non m', rt := q } (startD N_law_free dz) m := by
  unfold g_law_free at h
  obtain ⟨c, ms, rfl, h⟩ := h
  unfold t_law_free
  obtain ⟨rfl, hc, h⟩ := h
  ((conv => whnf); (try (set_option simprocs false in dsimp only [])))
  refine i_law_small ⟨rfl, hc, fun t b c' f hc' => ?_⟩
  ((conv => whnf); (try (set_option simprocs false in dsimp only [])))
  refine ⟨rfl, ?_⟩
  ((conv => whnf); (repeat ((first | refine ⟨Nat.le_of_ble_eq_true rfl, ?_⟩ | refine bt ?_ | refine bf ?_); (conv => whnf))); (try (set_option simprocs false in dsimp only [])))
  have e : (if t < 0 then -t else t) = (t.natAbs : Int) := abs_if t
  rw [e]
  have lo := f.lo
  have hi := f.hi
  have g : Int.gcd (t.natAbs : Int) b = 1 := by rw [abs_gcd]; exact f.fp.cop
  exact h _ _ c' ⟨⟨f.fp.pos, g, sm_le 41 (by omega) (by omega), f.fp.sb⟩, by omega, by omega, f.bo⟩ (by omega) hc'
end K34
namespace K34
open PySem PySem.Spec PyProof.Rows L2 DL
/-- marks: ints from 0 to 1000, rising -/
structure Mks (ns : List Int) : Prop where
  up : ns.Pairwise (· < ·)
  lo : ∀ i ∈ ns, 0 ≤ i
  hi : ∀ i ∈ ns, i ≤ 1000
@[irreducible] def g_law_rising : FN := fun dz m q => ∃ (c : Cell) (ms : Sto) (n : Int), dz = [.ptr 0, .int n] ∧ (m = c :: ms ∧ BagOk c ∧ 1 ≤ n ∧ n ≤ 8 ∧ ∀ ns c' dn, Mks ns → (ns.length : Int) = n → BagOk c' → q (.lst (ns.map D.int)) (c' :: (ms ++ dn)))
theorem ar_law_rising : ∀ ds m q, g_law_rising ds m q → ds.length = 2 := by
  unfold g_law_rising
  rintro _ m q ⟨_, _, _, rfl, _⟩; rfl
theorem i_law_rising {c : Cell} {ms : Sto} {n : Int} {m : Sto} {q : D → Sto → Prop} (h : m = c :: ms ∧ BagOk c ∧ 1 ≤ n ∧ n ≤ 8 ∧ ∀ ns c' dn, Mks ns → (ns.length : Int) = n → BagOk c' → q (.lst (ns.map D.int)) (c' :: (ms ++ dn))) : g_law_rising [.ptr 0, .int n] m q := by unfold g_law_rising; exact ⟨c, ms, n, rfl, h⟩
def b_law_rising_1 : DS :=
    (dDrop (dApp (dVar 4) (dBin dAdd (dBin dAdd (dBin dIx (dVar 4) (dUn dNeg (dC (.int 1)))) (dC (.int 1))) (dCallB g_law_take (dCons (dVar 0) (dCons (dVar 2) dNil))))))
def t_law_rising : DS :=
    (dSeq (dAsg (dBin dIx (dLst (dCons (dC (.int 1)) (dCons (dC (.int 3)) (dCons (dC (.int 99)) dNil)))) (dCallB g_law_take (dCons (dVar 0) (dCons (dC (.int 3)) dNil)))) (gN 2))
    (dSeq (dAsg (dCallB g_law_take (dCons (dVar 0) (dCons (dC (.int 6)) dNil))) (gN 3))
    (dSeq (dAsg (dLstP (dCons (dCallB g_law_take (dCons (dVar 0) (dCons (dBin dIx (dLst (dCons (dC (.int 4)) (dCons (dC (.int 300)) dNil))) (dCallB g_law_take (dCons (dVar 0) (dCons (dC (.int 2)) dNil)))) dNil))) dNil)) (gN 4))
    (dSeq (dFor (dRange1 (dBin dSub (dVar 1) (dC (.int 1)))) (gN 5) b_law_rising_1)
    (dSeq (dIf (dTest (dBin dEq (dVar 3) (dC (.int 0)))) (dAsg (dC (.int 1000)) (gIx (dVar 4) (dUn dNeg (dC (.int 1))))) dNext)
    (dRet (dFrz (dVar 4))))))))
theorem r_law_rising (dz : List D) (m : Sto) (q : D → Sto → Prop) (hl : dz.length = 2) (h : g_law_rising dz m q) : t_law_rising { nx := fun _ m' => q .non m', rt := q } (startD N_law_rising dz) m := by
  unfold g_law_rising at h
  obtain ⟨c, ms, n, rfl, h⟩ := h
  unfold t_law_rising
  obtain ⟨rfl, hc, n1, n8, h⟩ := h
  ((conv => whnf); (repeat ((first | refine ⟨Nat.le_of_ble_eq_true rfl, ?_⟩ | refine bt ?_ | refine bf ?_); (conv => whnf))); (try (set_option simprocs false in dsimp only [])))
  refine take_at hc (by decide) (sm (k := 64) (by decide) (by decide)) fun v1 c1 lo_v1 up_v1 hc_v1 => ?_
  ((conv => whnf); (try (set_option simprocs false in dsimp only [])))
  refine onS_at (P := fun d => ∃ i : Int, d = .int i ∧ 1 ≤ i ∧ i ≤ 99) (al1 ⟨1, rfl, by decide, by decide⟩ (al1 ⟨3, rfl, by decide, by decide⟩ (al1 ⟨99, rfl, by decide, by decide⟩ al0))) lo_v1 up_v1 fun d hd => ?_
  obtain ⟨s, rfl, s1, s2⟩ := hd
  ((conv => whnf); (try (set_option simprocs false in dsimp only [])))
  refine take_at hc_v1 (by decide) (sm (k := 64) (by decide) (by decide)) fun v2 c2 lo_v2 up_v2 hc_v2 => ?_
  ((conv => whnf); (repeat ((first | refine ⟨Nat.le_of_ble_eq_true rfl, ?_⟩ | refine bt ?_ | refine bf ?_); (conv => whnf))); (try (set_option simprocs false in dsimp only [])))
  refine take_at hc_v2 (by decide) (sm (k := 64) (by decide) (by decide)) fun v3 c3 lo_v3 up_v3 hc_v3 => ?_
  ((conv => whnf); (try (set_option simprocs false in dsimp only [])))
  refine onS_at (P := fun d => ∃ i : Int, d = .int i ∧ 1 ≤ i ∧ i ≤ 300) (al1 ⟨4, rfl, by decide, by decide⟩ (al1 ⟨300, rfl, by decide, by decide⟩ al0)) lo_v3 up_v3 fun d hd => ?_
  obtain ⟨w, rfl, w1, w2⟩ := hd
  ((conv => whnf); (try (set_option simprocs false in dsimp only [])))
  refine take_at hc_v3 (by omega) (sm_le 10 (by omega) (by omega) |>.mono (by decide)) fun v4 c4 lo_v4 up_v4 hc_v4 => ?_
  ((conv => whnf); (repeat ((first | refine ⟨Nat.le_of_ble_eq_true rfl, ?_⟩ | refine bt ?_ | refine bf ?_); (conv => whnf))); (try (set_option simprocs false in dsimp only [])))
  refine ⟨⟨by omega, by omega⟩, ?_⟩
  ((conv => whnf); (try (set_option simprocs false in dsimp only [])))
  have mk1 : ∀ (ns : List Int) (a b : Int), Mks (ns ++ [a]) → a < b → b ≤ 1000 → Mks (ns ++ [a] ++ [b]) ∧ Mks (ns ++ [b]) := fun ns a b mk h1 h2 => by
    have up := mk.up
    rw [List.pairwise_append] at up
    obtain ⟨u1, u2, u3⟩ := up
    have la : ∀ i ∈ ns ++ [a], i < b := fun i hi => by
      rcases List.mem_append.mp hi with z | z
      · have := u3 i z a List.mem_cons_self; omega
      · rw [List.mem_singleton] at z; omega
    have b0 : 0 ≤ b := by have := mk.lo a (List.mem_append_right _ List.mem_cons_self); omega
    have mem : ∀ {L : List Int} {i : Int}, i ∈ L ++ [b] → i ∈ L ∨ i = b := fun {L i} hi => by
      rcases List.mem_append.mp hi with z | z
      · exact .inl z
      · rw [List.mem_singleton] at z; exact .inr z
    have sub : ∀ {i : Int}, i ∈ ns → i ∈ ns ++ [a] := fun {i} hi => List.mem_append_left _ hi
    refine ⟨⟨?_, fun i hi => ?_, fun i hi => ?_⟩, ⟨?_, fun i hi => ?_, fun i hi => ?_⟩⟩
    · rw [List.pairwise_append]
      exact ⟨mk.up, List.pairwise_singleton _ _, fun x hx y hy => by rw [List.mem_singleton] at hy; rw [hy]; exact la x hx⟩
    · rcases mem hi with z | z
      · exact mk.lo i z
      · omega
    · rcases mem hi with z | z
      · exact mk.hi i z
      · omega
    · rw [List.pairwise_append]
      exact ⟨u1, List.pairwise_singleton _ _, fun x hx y hy => by rw [List.mem_singleton] at hy; rw [hy]; exact la x (sub hx)⟩
    · rcases mem hi with z | z
      · exact mk.lo i (sub z)
      · omega
    · rcases mem hi with z | z
      · exact mk.hi i (sub z)
      · omega
  refine forD_ind (fun xs r m' => ∃ x5 ns a c', r = [some (.ptr 0), some (.int n), some (.int s), some (.int v2), some (.ptr (ms.length + 1)), x5] ∧ m' = c' :: (ms ++ [Cell.lst (ns.map D.int ++ [D.int a])]) ∧ BagOk c' ∧ Mks (ns ++ [a]) ∧ (ns.length : Int) + 1 + xs.length = n ∧ a ≤ 299 + 100 * (ns.length : Int)) ?_ (fun _ _ _ _ => trivial) ?_ _ _ _ ⟨none, [], v4, c4, rfl, rfl, hc_v4, ⟨List.pairwise_singleton _ _, fun i hi => by have hi' := List.mem_singleton.mp hi; omega, fun i hi => by have hi' := List.mem_singleton.mp hi; omega⟩, by rw [List.length_map, List.length_range]; simp; omega, by simp; omega⟩
  · rintro x xs r m' N ⟨x5, ns, a, c', rfl, rfl, hc', mk, hl, ha⟩ k
    unfold b_law_rising_1
    ((conv => whnf); (try (set_option simprocs false in dsimp only [])))
    (first | rw [lst_mid] | rw [seqL_ptr, lst_mid])
    ((conv => whnf); (try (set_option simprocs false in dsimp only [])))
    (first | rw [lst_mid] | rw [seqL_ptr, lst_mid])
    ((conv => whnf); (try (set_option simprocs false in dsimp only [])))
    rw [at_last]
    ((conv => whnf); (try (set_option simprocs false in dsimp only [])))
    refine take_at hc' (by omega) (sm_le 10 (by omega) (by omega) |>.mono (by decide)) fun v5 c5 lo_v5 up_v5 hc_v5 => ?_
    ((conv => whnf); (try (set_option simprocs false in dsimp only [])))
    (first | rw [lst_mid] | rw [seqL_ptr, lst_mid])
    simp only [List.length_cons] at hl
    ((conv => whnf); (try (set_option simprocs false in dsimp only [])))
    refine ⟨by rw [List.length_append, List.length_map]; simp; omega, ?_⟩
    ((conv => whnf); (try (set_option simprocs false in dsimp only [])))
    rw [mid_set]
    have b1 : a + 1 + v5 ≤ 299 + 100 * ((ns.length : Int) + 1) := by omega
    refine k _ _ ⟨some x, ns ++ [a], a + 1 + v5, c5, rfl, by simp, hc_v5, (mk1 ns a (a + 1 + v5) mk (by omega) (by omega)).1, by simp; omega, by simp; omega⟩
  · rintro r m' ⟨x5, ns, a, c', rfl, rfl, hc', mk, hl, ha⟩
    simp only [List.length_nil] at hl
    have ld : ∀ (ns : List Int) (a : Int), ns.map D.int ++ [D.int a] = (ns ++ [a]).map D.int := fun ns a => by simp
    ((conv => whnf); (try (set_option simprocs false in dsimp only [])))
    refine br (fun e => ?_) (fun e => ?_)
    · ((conv => whnf); (try (set_option simprocs false in dsimp only [])))
      (first | rw [lst_mid] | rw [seqL_ptr, lst_mid])
      ((conv => whnf); (try (set_option simprocs false in dsimp only [])))
      rw [ix_last]
      ((conv => whnf); (try (set_option simprocs false in dsimp only [])))
      rw [mid_set]
      (first | rw [lst_mid] | rw [seqL_ptr, lst_mid])
      ((conv => whnf); (try (set_option simprocs false in dsimp only [])))
      rw [mid_set, set_last, ld]
      exact h _ c' [.dead] (mk1 ns a 1000 mk (by omega) (by omega)).2 (by simp; omega) hc'
    · ((conv => whnf); (try (set_option simprocs false in dsimp only [])))
      (first | rw [lst_mid] | rw [seqL_ptr, lst_mid])
      ((conv => whnf); (try (set_option simprocs false in dsimp only [])))
      rw [mid_set, ld]
      exact h _ c' [.dead] mk (by simp; omega) hc'
end K34
namespace K34
open PySem PySem.Spec PyProof.Rows L2 DL
def FrL (n : Nat) (ds : List D) : Prop := ∀ d ∈ ds, ∃ t b, d = fr t b ∧ Fp n t b
theorem FrL.mono {k n : Nat} {ds : List D} (h : FrL k ds) (hk : k ≤ n) : FrL n ds := fun d hd => let ⟨t, b, e, f⟩ := h d hd; ⟨t, b, e, f.mono hk⟩
theorem FrL.cons {n : Nat} {d : D} {ds : List D} (h : ∃ t b, d = fr t b ∧ Fp n t b) (hs : FrL n ds) : FrL n (d :: ds) := fun x hx => by
  rcases List.mem_cons.mp hx with rfl | hx
  · exact h
  · exact hs x hx
theorem FrL.app {n : Nat} {ds es : List D} (h : FrL n ds) (hs : FrL n es) : FrL n (ds ++ es) := fun x hx => by
  rcases List.mem_append.mp hx with hx | hx
  · exact h x hx
  · exact hs x hx
theorem FrL.nil {n : Nat} : FrL n [] := fun x hx => by cases hx
theorem FrL.one {n : Nat} {t b : Int} (h : Fp n t b) : FrL n [fr t b] := .cons ⟨t, b, rfl, h⟩ .nil
theorem frl_gd {n : Nat} {ds : List D} (h : FrL n ds) (hn : n ≤ 1900) : ∀ d ∈ ds, Gd 1 (2 * n + 13) d := fun d hd => by
  obtain ⟨t, b, rfl, f⟩ := h d hd
  exact gd_fr f.st f.sb hn
def topD : D → Int
  | .tup [.int t, _] => t
  | _ => 0
def botD : D → Int
  | .tup [_, .int b] => b
  | _ => 0
/-- a pair with its second above none -/
structure Fz (n : Nat) (t b : Int) : Prop where
  pos : 0 < b
  st : Sm n t
  sb : Sm n b
theorem Fz.mono {k n : Nat} {t b : Int} (h : Fz k t b) (hk : k ≤ n) : Fz n t b := ⟨h.pos, h.st.mono hk, h.sb.mono hk⟩
theorem Fp.fz {n : Nat} {t b : Int} (h : Fp n t b) : Fz n t b := ⟨h.pos, h.st, h.sb⟩
theorem Fp.z {k n : Nat} {t b : Int} (h : Fp k t b) (hk : k ≤ n) : Fz n t b := h.fz.mono hk
theorem fz_plus {n : Nat} {a b c d : Int} (h1 : Fz n a b) (h2 : Fz n c d) : Fp (n + n + 1) (lowT (a * d + c * b) (b * d)) (lowB (a * d + c * b) (b * d)) :=
  fp_low (Int.mul_ne_zero (Int.ne_of_gt h1.pos) (Int.ne_of_gt h2.pos)) ((h1.st.mul h2.sb).add (h2.st.mul h1.sb)) ((h1.sb.mul h2.sb).mono (Nat.le_succ _))
theorem fz_less {n : Nat} {a b c d : Int} (h1 : Fz n a b) (h2 : Fz n c d) : Fp (n + n + 1) (lowT (a * d - c * b) (b * d)) (lowB (a * d - c * b) (b * d)) :=
  fp_low (Int.mul_ne_zero (Int.ne_of_gt h1.pos) (Int.ne_of_gt h2.pos)) ((h1.st.mul h2.sb).sub (h2.st.mul h1.sb)) ((h1.sb.mul h2.sb).mono (Nat.le_succ _))
theorem fz_times {n : Nat} {a b c d : Int} (h1 : Fz n a b) (h2 : Fz n c d) : Fp (n + n) (lowT (a * c) (b * d)) (lowB (a * c) (b * d)) :=
  fp_low (Int.mul_ne_zero (Int.ne_of_gt h1.pos) (Int.ne_of_gt h2.pos)) (h1.st.mul h2.st) (h1.sb.mul h2.sb)
@[irreducible] def g_law_under : FN := fun dz m q => ∃ (a b c d : Int), dz = [fr a b, fr c d] ∧ (Fz 4400 a b ∧ Fz 4400 c d ∧ q (.bl (decide (a * d < c * b))) m)
theorem ar_law_under : ∀ ds m q, g_law_under ds m q → ds.length = 2 := by
  unfold g_law_under
  rintro _ m q ⟨_, _, _, _, rfl, _⟩; rfl
theorem i_law_under {a b c d : Int} {m : Sto} {q : D → Sto → Prop} (h : Fz 4400 a b ∧ Fz 4400 c d ∧ q (.bl (decide (a * d < c * b))) m) : g_law_under [fr a b, fr c d] m q := by unfold g_law_under; exact ⟨a, b, c, d, rfl, h⟩
def t_law_under : DS :=
    (dRet (dBin dLt (dBin dMul (dBin dIx (dVar 0) (dC (.int 0))) (dBin dIx (dVar 1) (dC (.int 1)))) (dBin dMul (dBin dIx (dVar 1) (dC (.int 0))) (dBin dIx (dVar 0) (dC (.int 1))))))
theorem r_law_under (dz : List D) (m : Sto) (q : D → Sto → Prop) (hl : dz.length = 2) (h : g_law_under dz m q) : t_law_under { nx := fun _ m' => q .non m', rt := q } (startD N_law_under dz) m := by
  unfold g_law_under at h
  obtain ⟨a, b, c, d, rfl, h⟩ := h
  unfold t_law_under
  obtain ⟨f1, f2, h⟩ := h
  ((conv => whnf); (try (set_option simprocs false in dsimp only [])))
  refine ⟨mulS f1.st f2.sb (by decide) (by decide) (by decide), ?_⟩
  ((conv => whnf); (try (set_option simprocs false in dsimp only [])))
  refine ⟨mulS f2.st f1.sb (by decide) (by decide) (by decide), ?_⟩
  ((conv => whnf); (try (set_option simprocs false in dsimp only [])))
  exact h
def ltD (x y : D) : Bool := decide (topD x * botD y < topD y * botD x)
theorem ltD_fr {a b c d : Int} : ltD (fr a b) (fr c d) = decide (a * d < c * b) := rfl
def lowF (acc x : D) : D := if ltD x acc then x else acc
def highF (acc x : D) : D := if ltD acc x then x else acc
def leastD : List D → D
  | [] => .non
  | x :: xs => (x :: xs).foldl lowF x
def greatD : List D → D
  | [] => .non
  | x :: xs => (x :: xs).foldl highF x
theorem fold_in {f : D → D → D} (hf : ∀ a x, f a x = a ∨ f a x = x) : ∀ (xs : List D) (a : D), xs.foldl f a = a ∨ xs.foldl f a ∈ xs
  | [], a => .inl rfl
  | x :: xs, a => by
    rw [List.foldl_cons]
    rcases fold_in hf xs (f a x) with e | e
    · rw [e]
      rcases hf a x with e2 | e2
      · exact .inl e2
      · rw [e2]; exact .inr List.mem_cons_self
    · exact .inr (List.mem_cons_of_mem _ e)
theorem lowF_or (a x : D) : lowF a x = a ∨ lowF a x = x := by unfold lowF; split; exact .inr rfl; exact .inl rfl
theorem highF_or (a x : D) : highF a x = a ∨ highF a x = x := by unfold highF; split; exact .inr rfl; exact .inl rfl
theorem leastD_in {x : D} {xs : List D} : leastD (x :: xs) ∈ x :: xs := by
  rcases fold_in lowF_or (x :: xs) x with e | e
  · show (x :: xs).foldl lowF x ∈ _; rw [e]; exact List.mem_cons_self
  · exact e
theorem greatD_in {x : D} {xs : List D} : greatD (x :: xs) ∈ x :: xs := by
  rcases fold_in highF_or (x :: xs) x with e | e
  · show (x :: xs).foldl highF x ∈ _; rw [e]; exact List.mem_cons_self
  · exact e
@[irreducible] def g_law_least : FN := fun dz m q => ∃ (x0 : D) (ds : List D), dz = [.lst (x0 :: ds)] ∧ (FrL 4400 (x0 :: ds) ∧ q (leastD (x0 :: ds)) m)
theorem ar_law_least : ∀ ds m q, g_law_least ds m q → ds.length = 1 := by
  unfold g_law_least
  rintro _ m q ⟨_, _, rfl, _⟩; rfl
theorem i_law_least {x0 : D} {ds : List D} {m : Sto} {q : D → Sto → Prop} (h : FrL 4400 (x0 :: ds) ∧ q (leastD (x0 :: ds)) m) : g_law_least [.lst (x0 :: ds)] m q := by unfold g_law_least; exact ⟨x0, ds, rfl, h⟩
def b_law_least_1 : DS :=
    (dIf (dTest (dCallB g_law_under (dCons (dVar 2) (dCons (dVar 1) dNil)))) (dAsg (dVar 2) (gN 1)) dNext)
def t_law_least : DS :=
    (dSeq (dAsg (dBin dIx (dVar 0) (dC (.int 0))) (gN 1))
    (dSeq (dFor (dIter (dVar 0)) (gN 2) b_law_least_1)
    (dRet (dVar 1))))
theorem r_law_least (dz : List D) (m : Sto) (q : D → Sto → Prop) (hl : dz.length = 1) (h : g_law_least dz m q) : t_law_least { nx := fun _ m' => q .non m', rt := q } (startD N_law_least dz) m := by
  unfold g_law_least at h
  obtain ⟨x0, ds, rfl, h⟩ := h
  unfold t_law_least
  obtain ⟨hf, h⟩ := h
  ((conv => whnf); (try (set_option simprocs false in dsimp only [])))
  rw [atI_0]
  ((conv => whnf); (try (set_option simprocs false in dsimp only [])))
  refine forD_ind (fun xs r m' => ∃ y acc, r = [some (.lst (x0 :: ds)), some acc, y] ∧ m' = m ∧ FrL 4400 xs ∧ (∃ t b, acc = fr t b ∧ Fp 4400 t b) ∧ xs.foldl lowF acc = leastD (x0 :: ds)) ?_ (fun _ _ _ _ => trivial) ?_ _ _ _ ⟨_, _, rfl, rfl, hf, hf _ List.mem_cons_self, rfl⟩
  · rintro z xs r m' N ⟨y, _, rfl, rfl, hz, ⟨t, b, rfl, f⟩, e⟩ k
    obtain ⟨t', b', rfl, f'⟩ := hz z List.mem_cons_self
    have hz' : FrL 4400 xs := fun d hd => hz d (List.mem_cons_of_mem _ hd)
    rw [List.foldl_cons] at e
    unfold b_law_least_1
    ((conv => whnf); (try (set_option simprocs false in dsimp only [])))
    refine i_law_under ⟨f'.fz, f.fz, ?_⟩
    ((conv => whnf); (try (set_option simprocs false in dsimp only [])))
    refine br (fun c => ?_) (fun c => ?_)
    · refine k _ _ ⟨some (fr t' b'), fr t' b', rfl, rfl, hz', ⟨_, _, rfl, f'⟩, ?_⟩
      unfold lowF at e
      rw [ltD_fr, if_pos (decide_eq_true c)] at e
      exact e
    · refine k _ _ ⟨some (fr t' b'), fr t b, rfl, rfl, hz', ⟨_, _, rfl, f⟩, ?_⟩
      unfold lowF at e
      rw [ltD_fr, if_neg (by simpa using c)] at e
      exact e
  · rintro r m' ⟨y, acc, rfl, rfl, -, -, e⟩
    rw [List.foldl_nil] at e
    ((conv => whnf); (try (set_option simprocs false in dsimp only [])))
    rw [e]
    exact h
@[irreducible] def g_law_most : FN := fun dz m q => ∃ (x0 : D) (ds : List D), dz = [.lst (x0 :: ds)] ∧ (FrL 4400 (x0 :: ds) ∧ q (greatD (x0 :: ds)) m)
theorem ar_law_most : ∀ ds m q, g_law_most ds m q → ds.length = 1 := by
  unfold g_law_most
  rintro _ m q ⟨_, _, rfl, _⟩; rfl
theorem i_law_most {x0 : D} {ds : List D} {m : Sto} {q : D → Sto → Prop} (h : FrL 4400 (x0 :: ds) ∧ q (greatD (x0 :: ds)) m) : g_law_most [.lst (x0 :: ds)] m q := by unfold g_law_most; exact ⟨x0, ds, rfl, h⟩
def b_law_most_1 : DS :=
    (dIf (dTest (dCallB g_law_under (dCons (dVar 1) (dCons (dVar 2) dNil)))) (dAsg (dVar 2) (gN 1)) dNext)
def t_law_most : DS :=
    (dSeq (dAsg (dBin dIx (dVar 0) (dC (.int 0))) (gN 1))
    (dSeq (dFor (dIter (dVar 0)) (gN 2) b_law_most_1)
    (dRet (dVar 1))))
theorem r_law_most (dz : List D) (m : Sto) (q : D → Sto → Prop) (hl : dz.length = 1) (h : g_law_most dz m q) : t_law_most { nx := fun _ m' => q .non m', rt := q } (startD N_law_most dz) m := by
  unfold g_law_most at h
  obtain ⟨x0, ds, rfl, h⟩ := h
  unfold t_law_most
  obtain ⟨hf, h⟩ := h
  ((conv => whnf); (try (set_option simprocs false in dsimp only [])))
  rw [atI_0]
  ((conv => whnf); (try (set_option simprocs false in dsimp only [])))
  refine forD_ind (fun xs r m' => ∃ y acc, r = [some (.lst (x0 :: ds)), some acc, y] ∧ m' = m ∧ FrL 4400 xs ∧ (∃ t b, acc = fr t b ∧ Fp 4400 t b) ∧ xs.foldl highF acc = greatD (x0 :: ds)) ?_ (fun _ _ _ _ => trivial) ?_ _ _ _ ⟨_, _, rfl, rfl, hf, hf _ List.mem_cons_self, rfl⟩
  · rintro z xs r m' N ⟨y, _, rfl, rfl, hz, ⟨t, b, rfl, f⟩, e⟩ k
    obtain ⟨t', b', rfl, f'⟩ := hz z List.mem_cons_self
    have hz' : FrL 4400 xs := fun d hd => hz d (List.mem_cons_of_mem _ hd)
    rw [List.foldl_cons] at e
    unfold b_law_most_1
    ((conv => whnf); (try (set_option simprocs false in dsimp only [])))
    refine i_law_under ⟨f.fz, f'.fz, ?_⟩
    ((conv => whnf); (try (set_option simprocs false in dsimp only [])))
    refine br (fun c => ?_) (fun c => ?_)
    · refine k _ _ ⟨some (fr t' b'), fr t' b', rfl, rfl, hz', ⟨_, _, rfl, f'⟩, ?_⟩
      unfold highF at e
      rw [ltD_fr, if_pos (decide_eq_true c)] at e
      exact e
    · refine k _ _ ⟨some (fr t' b'), fr t b, rfl, rfl, hz', ⟨_, _, rfl, f⟩, ?_⟩
      unfold highF at e
      rw [ltD_fr, if_neg (by simpa using c)] at e
      exact e
  · rintro r m' ⟨y, acc, rfl, rfl, -, -, e⟩
    rw [List.foldl_nil] at e
    ((conv => whnf); (try (set_option simprocs false in dsimp only [])))
    rw [e]
    exact h
/-- a spot's points -/
structure Spt (ns : List Int) : Prop where
  ne : 1 ≤ ns.length
  le : ns.length ≤ 6
  up : ns.Pairwise (· ≤ ·)
  lo : ∀ i ∈ ns, 0 ≤ i
  hi : ∀ i ∈ ns, i ≤ 1000
@[irreducible] def g_law_any_spot : FN := fun dz m q => ∃ (c : Cell) (ms : Sto), dz = [.ptr 0] ∧ (m = c :: ms ∧ BagOk c ∧ ∀ ns c', Spt ns → BagOk c' → q (.lst (ns.map D.int)) (c' :: ms))
theorem ar_law_any_spot : ∀ ds m q, g_law_any_spot ds m q → ds.length = 1 := by
  unfold g_law_any_spot
  rintro _ m q ⟨_, _, rfl, _⟩; rfl
theorem i_law_any_spot {c : Cell} {ms : Sto} {m : Sto} {q : D → Sto → Prop} (h : m = c :: ms ∧ BagOk c ∧ ∀ ns c', Spt ns → BagOk c' → q (.lst (ns.map D.int)) (c' :: ms)) : g_law_any_spot [.ptr 0] m q := by unfold g_law_any_spot; exact ⟨c, ms, rfl, h⟩
def t_law_any_spot : DS :=
    (dSeq (dAsg (dBin dIx (dLst (dCons (dC (.int 3)) (dCons (dC (.int 20)) (dCons (dC (.int 1001)) dNil)))) (dCallB g_law_take (dCons (dVar 0) (dCons (dC (.int 3)) dNil)))) (gN 1))
    (dRet (dCallB dSorted (a1 (dLc 2 (dRange1 (dBin dAdd (dC (.int 1)) (dCallB g_law_take (dCons (dVar 0) (dCons (dC (.int 6)) dNil))))) dYes (dCallB g_law_take (dCons (dVar 0) (dCons (dVar 1) dNil))))))))
theorem r_law_any_spot (dz : List D) (m : Sto) (q : D → Sto → Prop) (hl : dz.length = 1) (h : g_law_any_spot dz m q) : t_law_any_spot { nx := fun _ m' => q .non m', rt := q } (startD N_law_any_spot dz) m := by
  unfold g_law_any_spot at h
  obtain ⟨c, ms, rfl, h⟩ := h
  unfold t_law_any_spot
  obtain ⟨rfl, hc, h⟩ := h
  ((conv => whnf); (repeat ((first | refine ⟨Nat.le_of_ble_eq_true rfl, ?_⟩ | refine bt ?_ | refine bf ?_); (conv => whnf))); (try (set_option simprocs false in dsimp only [])))
  refine take_at hc (by decide) (sm (k := 64) (by decide) (by decide)) fun v1 c1 lo_v1 up_v1 hc_v1 => ?_
  ((conv => whnf); (try (set_option simprocs false in dsimp only [])))
  refine onS_at (P := fun d => ∃ i : Int, d = .int i ∧ 1 ≤ i ∧ i ≤ 1001) (al1 ⟨3, rfl, by decide, by decide⟩ (al1 ⟨20, rfl, by decide, by decide⟩ (al1 ⟨1001, rfl, by decide, by decide⟩ al0))) lo_v1 up_v1 fun d hd => ?_
  obtain ⟨s, rfl, s1, s2⟩ := hd
  ((conv => whnf); (try (set_option simprocs false in dsimp only [])))
  refine take_at hc_v1 (by decide) (sm (k := 64) (by decide) (by decide)) fun v2 c2 lo_v2 up_v2 hc_v2 => ?_
  ((conv => whnf); (try (set_option simprocs false in dsimp only [])))
  refine ⟨⟨by omega, by omega⟩, ?_⟩
  ((conv => whnf); (try (set_option simprocs false in dsimp only [])))
  refine ⟨by rw [List.length_map, List.length_range]; omega, ?_⟩
  refine lc_ind (fun xs acc m' => ∃ c' ns, m' = c' :: ms ∧ BagOk c' ∧ acc = ns.map D.int ∧ ns.length + xs.length = (1 + v2).toNat ∧ ∀ i ∈ ns, 0 ≤ i ∧ i ≤ 1000) ?_ (fun _ _ _ _ => trivial) ?_ _ _ _ ⟨c2, [], rfl, hc_v2, rfl, by rw [List.length_map, List.length_range]; simp, fun _ z => nomatch z⟩
  · rintro x xs acc m' N ⟨c', ns, rfl, hc', rfl, hl, hy⟩ k
    ((conv => whnf); (try (set_option simprocs false in dsimp only [])))
    refine take_at hc' (by omega) (sm_le 10 (by omega) (by omega) |>.mono (by decide)) fun v3 c3 lo_v3 up_v3 hc_v3 => ?_
    refine k _ _ ⟨c3, ns ++ [v3], rfl, hc_v3, by simp, by simp at hl ⊢; omega, fun y hy2 => ?_⟩
    rcases List.mem_append.mp hy2 with z | z
    · exact hy y z
    · rw [List.mem_singleton] at z; omega
  · rintro acc m' ⟨c', ns, rfl, hc', rfl, hl, hy⟩
    ((conv => whnf); (try (set_option simprocs false in dsimp only [])))
    rw [intsOf_map]
    ((conv => whnf); (try (set_option simprocs false in dsimp only [])))
    intro ns' hp hs
    have hl' := hp.length_eq
    simp only [List.length_nil, Nat.add_zero] at hl
    exact h ns' c' ⟨by omega, by omega, hs, fun i hi => (hy i (hp.mem_iff.mp hi)).1, fun i hi => (hy i (hp.mem_iff.mp hi)).2⟩ hc'
end K34
namespace K34
open PySem PySem.Spec PyProof.Rows L2 DL
/-- rows of a told, a held, a made paper -/
def TRow (d : D) (i : Int) : Prop := ∃ a b c e, d = .tup [.int i, fr a b, fr c e] ∧ SmF a b ∧ SmF c e ∧ a * e ≤ c * b
def HRow (d : D) (i : Int) : Prop := ∃ ns a b c e, d = .tup [.int i, .lst (ns.map D.int), fr a b, fr c e] ∧ Spt ns ∧ SmF a b ∧ SmF c e ∧ 0 ≤ c
def MRow (d : D) (i : Int) : Prop := ∃ x p, d = .tup [.int i, .str x, .int p] ∧ NameS 8 x ∧ 0 ≤ p ∧ p ≤ i
inductive RowsP (P : D → Int → Prop) : List D → List Int → Prop
  | nil : RowsP P [] []
  | cons {d : D} {i : Int} {ds : List D} {ns : List Int} : P d i → RowsP P ds ns → RowsP P (d :: ds) (i :: ns)
theorem RowsP.snoc {P : D → Int → Prop} {d : D} {i : Int} (h : P d i) : ∀ {ds : List D} {ns : List Int}, RowsP P ds ns → RowsP P (ds ++ [d]) (ns ++ [i])
  | _, _, .nil => .cons h .nil
  | _, _, .cons q r => .cons q (r.snoc h)
theorem RowsP.len {P : D → Int → Prop} : ∀ {ds : List D} {ns : List Int}, RowsP P ds ns → ds.length = ns.length
  | _, _, .nil => rfl
  | _, _, .cons _ r => by rw [List.length_cons, List.length_cons, r.len]
theorem RowsP.all {P : D → Int → Prop} : ∀ {ds : List D} {ns : List Int}, RowsP P ds ns → ∀ d ∈ ds, ∃ i ∈ ns, P d i
  | _, _, .cons q r, d, hd => by
    rcases List.mem_cons.mp hd with e | e
    · rw [e]; exact ⟨_, List.mem_cons_self, q⟩
    · obtain ⟨i, hi, h⟩ := r.all d e
      exact ⟨i, List.mem_cons_of_mem _ hi, h⟩
theorem RowsP.mono {P Q : D → Int → Prop} (h : ∀ d i, P d i → Q d i) : ∀ {ds : List D} {ns : List Int}, RowsP P ds ns → RowsP Q ds ns
  | _, _, .nil => .nil
  | _, _, .cons q r => .cons (h _ _ q) (r.mono h)
/-- behind the mark -/
def tailD : D → D
  | .tup (_ :: ds) => .tup ds
  | d => d
def DisM (ds : List D) : Prop := ds.Pairwise fun r s => tailD r ≠ tailD s
def rowP (k : Str) : D → Int → Prop := if k = "told" then TRow else if k = "held" then HRow else MRow
theorem lt_self {t b : Int} : ltD (fr t b) (fr t b) = false := by rw [ltD_fr]; exact decide_eq_false (by omega)
theorem told_ends {a b c e : Int} (f : SmF a b) (g : SmF c e) (one : Bool) : ∃ t u v w, leastD (if one then [fr a b] else [fr a b, fr c e]) = fr t u ∧ greatD (if one then [fr a b] else [fr a b, fr c e]) = fr v w ∧ SmF t u ∧ SmF v w ∧ t * w ≤ v * u := by
  have l1 : lowF (fr a b) (fr a b) = fr a b := by unfold lowF; rw [lt_self]; rfl
  have h1 : highF (fr a b) (fr a b) = fr a b := by unfold highF; rw [lt_self]; rfl
  cases one with
  | true => exact ⟨a, b, a, b, by show lowF (fr a b) (fr a b) = _; exact l1, by show highF (fr a b) (fr a b) = _; exact h1, f, f, by omega⟩
  | false =>
    have el : leastD [fr a b, fr c e] = lowF (fr a b) (fr c e) := by show lowF (lowF (fr a b) (fr a b)) (fr c e) = _; rw [l1]
    have eh : greatD [fr a b, fr c e] = highF (fr a b) (fr c e) := by show highF (highF (fr a b) (fr a b)) (fr c e) = _; rw [h1]
    simp only [Bool.false_eq_true, if_false]
    rw [el, eh]
    unfold lowF highF
    rw [ltD_fr, ltD_fr]
    by_cases x : c * b < a * e
    · rw [if_pos (decide_eq_true x), if_neg (by simp; omega)]
      exact ⟨c, e, a, b, rfl, rfl, g, f, by omega⟩
    · rw [if_neg (by simpa using x)]
      by_cases y : a * e < c * b
      · rw [if_pos (decide_eq_true y)]
        exact ⟨a, b, c, e, rfl, rfl, f, g, by omega⟩
      · rw [if_neg (by simpa using y)]
        exact ⟨a, b, a, b, rfl, rfl, f, f, by omega⟩
theorem eqv_np {x y : Str} {i j : Int} : PyData.eqv (.tuple [.str x, .int i]) (.tuple [.str y, .int j]) = decide (x = y ∧ i = j) := by
  have h1 := eqv_str (i := x) (j := y)
  have h2 := eqv_int (i := i) (j := j)
  simp [PyData.eqv] at h1 h2 ⊢
  simp [PyData.eqvAll, PyData.eqv, h1, h2]
abbrev npD (p : Str × Int) : D := .tup [.str p.1, .int p.2]
abbrev npP (p : Str × Int) : PyData := .tuple [.str p.1, .int p.2]
theorem np_all : ∀ {ps : List (Str × Int)}, py0A (ps.map npD) = some (ps.map npP)
  | [] => rfl
  | p :: ps => by
    show py0A (npD p :: ps.map npD) = _
    have e : py0 (npD p) = some (npP p) := rfl
    simp only [py0A, e, np_all]
    rfl
theorem np_gd {p : Str × Int} (h : NameS 8 p.1) (h0 : 0 ≤ p.2) (h1 : p.2 ≤ 1000) : Gd 1 200 (npD p) :=
  (gd_tup (k := 0) (c := 82) (ds := [.str p.1, .int p.2]) (al1 (gd_name h) (al1 ((gd_int (sm_le 20 (by omega) (by omega)) (by decide)).mono (by decide) (by decide)) al0))).mono (by decide) (by show (82 + 2) * 2 + 3 ≤ 200; decide)
theorem in_np {x : Str} {i : Int} {ps : List (Str × Int)} {m : Sto} {q : D → Sto → Prop} (hx : NameS 8 x) (i0 : 0 ≤ i) (i1 : i ≤ 1000) (hp : ∀ p ∈ ps, NameS 8 p.1 ∧ 0 ≤ p.2 ∧ p.2 ≤ 1000) (h : q (.bl (decide ((x, i) ∈ ps))) m) : dIn (.tup [.str x, .int i]) (.lst (ps.map npD)) m q := by
  have g0 := np_gd (p := (x, i)) hx i0 i1
  have gl := gd_lst (k := 1) (c := 200) (ds := ps.map npD) fun d hd => by
    obtain ⟨p, hp', rfl⟩ := List.mem_map.mp hd
    obtain ⟨a, b, c⟩ := hp p hp'
    exact np_gd a b c
  obtain ⟨v, e0, p0⟩ := g0
  obtain ⟨w, e1, p1⟩ := gl
  have ev : v = npP (x, i) := by
    have z : py0 (npD (x, i)) = some (npP (x, i)) := rfl
    rw [z] at e0; cases e0; rfl
  have ew : w = .list (ps.map npP) := by
    have z : py0 (.lst (ps.map npD)) = (py0A (ps.map npD)).map PyData.list := by simp only [py0]
    rw [z, np_all] at e1; cases e1; rfl
  subst ev ew
  have q1 : py m (.tup [.str x, .int i]) = some (npP (x, i)) := py_of e0
  have q2 : py m (.lst (ps.map npD)) = some (.list (ps.map npP)) := py_of e1
  ((conv => whnf); (try (set_option simprocs false in dsimp only [])))
  rw [q2]
  ((conv => whnf); (try (set_option simprocs false in dsimp only [])))
  refine ⟨pd_shaped (p0.mono (by decide) (Nat.le_refl _)), pd_shaped (p1.mono (by decide) (Nat.le_refl _)), ?_⟩
  have e : (ps.map npP).any (fun z => PyData.eqv z (npP (x, i))) = decide ((x, i) ∈ ps) := by
    rw [Bool.eq_iff_iff, List.any_eq_true, decide_eq_true_eq]
    constructor
    · rintro ⟨z, hz, e⟩
      obtain ⟨⟨y, j⟩, hp', rfl⟩ := List.mem_map.mp hz
      rw [eqv_np, decide_eq_true_eq] at e
      obtain ⟨e1, e2⟩ := e
      cases e1; cases e2
      exact hp'
    · intro hm
      exact ⟨_, List.mem_map.mpr ⟨_, hm, rfl⟩, by rw [eqv_np]; simp⟩
  simp only [Bool.false_eq_true, if_false]
  rw [e]
  exact h
theorem str_app (x y : Str) : (x ++ y).cps.toList = x.cps.toList ++ y.cps.toList := by rw [PySem.Str.cps_append, Array.toList_append]
theorem nm_cut {x : Str} (h : NameS 8 x) : NameS 8 (cutS (x ++ "x") none (some 8)) := by
  obtain ⟨h1, h2, h3⟩ := h.parts
  have e : (cutS (x ++ "x") none (some 8)).cps.toList = (x ++ "x").cps.toList.take 8 := by
    have z := cut_to (x ++ "x").cps.toList 8
    unfold DL.cutD at z
    unfold cutS
    rw [str_len]
    exact z
  have ex : ("x" : Str).cps.toList = [120] := by decide +kernel
  rw [str_app, ex] at e
  have l : (cutS (x ++ "x") none (some 8)).length = min 8 (x.length + 1) := by
    rw [str_len, e, List.length_take, List.length_append, ← str_len]; rfl
  refine .of (by rw [l]; omega) (by rw [l]; omega) fun c hc => ?_
  rw [e] at hc
  rcases List.mem_append.mp (List.mem_of_mem_take hc) with z | z
  · exact h3 c z
  · rw [List.mem_singleton] at z; omega
theorem m_pairs : ∀ {ds : List D} {ns : List Int}, RowsP MRow ds ns → ∃ ps : List (Str × Int), ds.map tailD = ps.map npD ∧ ∀ p ∈ ps, NameS 8 p.1 ∧ 0 ≤ p.2 ∧ ∃ i ∈ ns, p.2 ≤ i
  | _, _, .nil => ⟨[], rfl, al0⟩
  | _, _, .cons (i := i) h r => by
    obtain ⟨ps, e, hp⟩ := m_pairs r
    obtain ⟨x, p, rfl, h1, h2, h3⟩ := h
    refine ⟨(x, p) :: ps, by rw [List.map_cons, List.map_cons, e]; rfl, al1 ⟨h1, h2, i, List.mem_cons_self, h3⟩ fun y hy => ?_⟩
    obtain ⟨a, b, j, hj, c⟩ := hp y hy
    exact ⟨a, b, j, List.mem_cons_of_mem _ hj, c⟩
@[irreducible] def g_law_any_rows : FN := fun dz m q => ∃ (c : Cell) (ms : Sto) (k : Str), dz = [.ptr 0, .str k] ∧ (m = c :: ms ∧ BagOk c ∧ ∀ ds ns c' dn, RowsP (rowP k) ds ns → Mks ns → 1 ≤ ds.length → ds.length ≤ 8 → (k ≠ "told" → k ≠ "held" → DisM ds) → BagOk c' → q (.lst ds) (c' :: (ms ++ dn)))
theorem ar_law_any_rows : ∀ ds m q, g_law_any_rows ds m q → ds.length = 2 := by
  unfold g_law_any_rows
  rintro _ m q ⟨_, _, _, rfl, _⟩; rfl
theorem i_law_any_rows {c : Cell} {ms : Sto} {k : Str} {m : Sto} {q : D → Sto → Prop} (h : m = c :: ms ∧ BagOk c ∧ ∀ ds ns c' dn, RowsP (rowP k) ds ns → Mks ns → 1 ≤ ds.length → ds.length ≤ 8 → (k ≠ "told" → k ≠ "held" → DisM ds) → BagOk c' → q (.lst ds) (c' :: (ms ++ dn))) : g_law_any_rows [.ptr 0, .str k] m q := by unfold g_law_any_rows; exact ⟨c, ms, k, rfl, h⟩
def c_law_any_rows_1 : DS :=
    (dDrop (dApp (dVar 2) (dTup (dCons (dVar 3) (dCons (dCallB g_law_least (dCons (dVar 4) dNil)) (dCons (dCallB g_law_most (dCons (dVar 4) dNil)) dNil))))))
def b_law_any_rows_2 : DS :=
    (dIf (dTest (dBin dEq (dVar 1) (dC (.str "told")))) (dSeq (dAsg (dLst (dCons (dCallB g_law_small (dCons (dVar 0) dNil)) (dCons (dCallB g_law_small (dCons (dVar 0) dNil)) dNil))) (gN 4))
    (dSeq (dIf (dTest (dBin dEq (dCallB g_law_take (dCons (dVar 0) (dCons (dC (.int 5)) dNil))) (dC (.int 0)))) (dAsg (dSlice dCut (dVar 4) dNoPart (dPart (dC (.int 1)))) (gN 4)) dNext)
    c_law_any_rows_1)) (dIf (dTest (dBin dEq (dVar 1) (dC (.str "held")))) (dDrop (dApp (dVar 2) (dTup (dCons (dVar 3) (dCons (dCallB g_law_any_spot (dCons (dVar 0) dNil)) (dCons (dCallB g_law_small (dCons (dVar 0) dNil)) (dCons (dCallB g_law_free (dCons (dVar 0) dNil)) dNil))))))) (dSeq (dAsg (dSlice dCut (dBin dIx (dLst (dCons (dC (.str "x")) (dCons (dBin dAdd (dCallB g_law_name (dCons (dVar 0) dNil)) (dC (.str "x"))) dNil))) (dCallB g_law_take (dCons (dVar 0) (dCons (dC (.int 2)) dNil)))) dNoPart (dPart (dC (.int 8)))) (gN 5))
    (dIf (dTest (dBin (dInG false) (dTup (dCons (dVar 5) (dCons (dBin dMod (dVar 3) (dC (.int 5))) dNil))) (dLc 6 (dIter (dVar 2)) dYes (dSlice dCut (dVar 6) (dPart (dC (.int 1))) dNoPart)))) (dDrop (dApp (dVar 2) (dTup (dCons (dVar 3) (dCons (dVar 5) (dCons (dVar 3) dNil)))))) (dDrop (dApp (dVar 2) (dTup (dCons (dVar 3) (dCons (dVar 5) (dCons (dBin dMod (dVar 3) (dC (.int 5))) dNil))))))))))
def t_law_any_rows : DS :=
    (dSeq (dAsg (dLstP dNil) (gN 2))
    (dSeq (dFor (dIter (dCallB g_law_rising (dCons (dVar 0) (dCons (dBin dIx (dLst (dCons (dC (.int 1)) (dCons (dBin dAdd (dC (.int 1)) (dCallB g_law_take (dCons (dVar 0) (dCons (dC (.int 3)) dNil)))) (dCons (dBin dAdd (dC (.int 1)) (dCallB g_law_take (dCons (dVar 0) (dCons (dC (.int 8)) dNil)))) (dCons (dC (.int 8)) dNil))))) (dCallB g_law_take (dCons (dVar 0) (dCons (dC (.int 4)) dNil)))) dNil)))) (gN 3) b_law_any_rows_2)
    (dRet (dFrz (dVar 2)))))
theorem r_law_any_rows (dz : List D) (m : Sto) (q : D → Sto → Prop) (hl : dz.length = 2) (h : g_law_any_rows dz m q) : t_law_any_rows { nx := fun _ m' => q .non m', rt := q } (startD N_law_any_rows dz) m := by
  unfold g_law_any_rows at h
  obtain ⟨c, ms, k, rfl, h⟩ := h
  unfold t_law_any_rows
  obtain ⟨rfl, hc, h⟩ := h
  ((conv => whnf); (repeat ((first | refine ⟨Nat.le_of_ble_eq_true rfl, ?_⟩ | refine bt ?_ | refine bf ?_); (conv => whnf))); (try (set_option simprocs false in dsimp only [])))
  refine take_at hc (by decide) (sm (k := 64) (by decide) (by decide)) fun v1 c1 lo_v1 up_v1 hc_v1 => ?_
  ((conv => whnf); (try (set_option simprocs false in dsimp only [])))
  refine take_at hc_v1 (by decide) (sm (k := 64) (by decide) (by decide)) fun v2 c2 lo_v2 up_v2 hc_v2 => ?_
  ((conv => whnf); (repeat ((first | refine ⟨Nat.le_of_ble_eq_true rfl, ?_⟩ | refine bt ?_ | refine bf ?_); (conv => whnf))); (try (set_option simprocs false in dsimp only [])))
  refine take_at hc_v2 (by decide) (sm (k := 64) (by decide) (by decide)) fun v3 c3 lo_v3 up_v3 hc_v3 => ?_
  ((conv => whnf); (try (set_option simprocs false in dsimp only [])))
  refine onS_at (P := fun d => ∃ i : Int, d = .int i ∧ 1 ≤ i ∧ i ≤ 8) (al1 ⟨1, rfl, by decide, by decide⟩ (al1 ⟨_, rfl, by omega, by omega⟩ (al1 ⟨_, rfl, by omega, by omega⟩ (al1 ⟨8, rfl, by decide, by decide⟩ al0)))) lo_v3 up_v3 fun d hd => ?_
  obtain ⟨n, rfl, n1, n8⟩ := hd
  ((conv => whnf); (try (set_option simprocs false in dsimp only [])))
  refine i_law_rising (ms := ms ++ [Cell.lst []]) ⟨rfl, hc_v3, n1, n8, fun ns c4 dn mk hl hc4 => ?_⟩
  rw [mid_app]
  ((conv => whnf); (try (set_option simprocs false in dsimp only [])))
  have len8 : ns.length ≤ 8 := by omega
  refine forD_ind (fun xs r m' => ∃ x3 x4 x5 x6 ds js ks c' dn, r = [some (.ptr 0), some (.str k), some (.ptr (ms.length + 1)), x3, x4, x5, x6] ∧ m' = c' :: (ms ++ Cell.lst ds :: dn) ∧ BagOk c' ∧ xs = ks.map D.int ∧ ns = js ++ ks ∧ RowsP (rowP k) ds js ∧ (k ≠ "told" → k ≠ "held" → DisM ds)) ?_ (fun _ _ _ _ => trivial) ?_ _ _ _ ⟨none, none, none, none, [], [], ns, c4, _, rfl, rfl, hc4, rfl, rfl, .nil, fun _ _ => .nil⟩
  · rintro x xs r m' N ⟨x3, x4, x5, x6, ds, js, ks, c', dn, rfl, rfl, hc', ek, en, hr, hd⟩ kk
    cases ks with
    | nil => cases ek
    | cons mk0 ks =>
    cases ek
    have lds := hr.len
    have ljs : js.length ≤ 8 := by rw [en, List.length_append] at len8; omega
    have m0 : 0 ≤ mk0 := mk.lo _ (by rw [en]; exact List.mem_append_right _ List.mem_cons_self)
    have m1 : mk0 ≤ 1000 := mk.hi _ (by rw [en]; exact List.mem_append_right _ List.mem_cons_self)
    have jlt : ∀ j ∈ js, j < mk0 := fun j hj => by
      have u := mk.up
      rw [en, List.pairwise_append] at u
      exact u.2.2 j hj _ List.mem_cons_self
    have en' : ns = (js ++ [mk0]) ++ ks := by rw [en]; simp
    unfold b_law_any_rows_2
    ((conv => whnf); (try (set_option simprocs false in dsimp only [])))
    refine br (fun e => ?_) (fun e => ?_)
    · have hk : rowP k = TRow := by unfold rowP; rw [if_pos e]
      rw [hk] at hr
      ((conv => whnf); (try (set_option simprocs false in dsimp only [])))
      refine i_law_small ⟨rfl, hc', fun a b c5 f5 hc5 => ?_⟩
      ((conv => whnf); (try (set_option simprocs false in dsimp only [])))
      refine i_law_small ⟨rfl, hc5, fun p q' c6 f6 hc6 => ?_⟩
      ((conv => whnf); (repeat ((first | refine ⟨Nat.le_of_ble_eq_true rfl, ?_⟩ | refine bt ?_ | refine bf ?_); (conv => whnf))); (try (set_option simprocs false in dsimp only [])))
      refine take_at hc6 (by decide) (sm (k := 64) (by decide) (by decide)) fun v7 c7 lo_v7 up_v7 hc_v7 => ?_
      ((conv => whnf); (try (set_option simprocs false in dsimp only [])))
      have f5' := f5.fp.mono (n := 4400) (by decide)
      have f6' := f6.fp.mono (n := 4400) (by decide)
      have fin : ∀ one : Bool, c_law_any_rows_1 { nx := N, rt := q, bk := dRet (dFrz (dVar 2)) { nx := fun _ m' => q .non m', rt := q }, ct := N } [some (.ptr 0), some (.str k), some (.ptr (ms.length + 1)), some (.int mk0), some (.lst (if one then [fr a b] else [fr a b, fr p q'])), x5, x6] (c7 :: (ms ++ Cell.lst ds :: dn)) := fun one => by
        obtain ⟨t, u, v, w, g1, g2, s1, s2, s3⟩ := told_ends f5 f6 one
        obtain ⟨d0, rest, el, fl⟩ : ∃ d0 rest, (if one then [fr a b] else [fr a b, fr p q']) = d0 :: rest ∧ FrL 4400 (d0 :: rest) := by
          cases one with
          | true => exact ⟨_, _, rfl, .one f5'⟩
          | false => exact ⟨_, _, rfl, .cons ⟨_, _, rfl, f5'⟩ (.one f6')⟩
        rw [el] at g1 g2 ⊢
        unfold c_law_any_rows_1
        ((conv => whnf); (try (set_option simprocs false in dsimp only [])))
        (first | rw [lst_mid] | rw [seqL_ptr, lst_mid])
        ((conv => whnf); (try (set_option simprocs false in dsimp only [])))
        refine i_law_least ⟨fl, ?_⟩
        rw [g1]
        ((conv => whnf); (try (set_option simprocs false in dsimp only [])))
        refine i_law_most ⟨fl, ?_⟩
        rw [g2]
        ((conv => whnf); (repeat ((first | refine ⟨Nat.le_of_ble_eq_true rfl, ?_⟩ | refine bt ?_ | refine bf ?_); (conv => whnf))); (try (set_option simprocs false in dsimp only [])))
        (first | rw [lst_mid] | rw [seqL_ptr, lst_mid])
        ((conv => whnf); (try (set_option simprocs false in dsimp only [])))
        refine ⟨by omega, ?_⟩
        ((conv => whnf); (try (set_option simprocs false in dsimp only [])))
        rw [mid_set]
        refine kk _ _ ⟨_, _, _, _, ds ++ [.tup [.int mk0, fr t u, fr v w]], js ++ [mk0], ks, c7, dn, rfl, rfl, hc_v7, rfl, en', ?_, fun z => absurd e z⟩
        rw [hk]
        exact hr.snoc ⟨t, u, v, w, rfl, s1, s2, s3⟩
      refine br (fun e2 => ?_) (fun e2 => ?_)
      · ((conv => whnf); (try (set_option simprocs false in dsimp only [])))
        rw [show cutD [fr a b, fr p q'] none (some 1) = [fr a b] from rfl]
        exact fin true
      · exact fin false
    · ((conv => whnf); (try (set_option simprocs false in dsimp only [])))
      refine br (fun e2 => ?_) (fun e2 => ?_)
      · have hk : rowP k = HRow := by unfold rowP; rw [if_neg e, if_pos e2]
        rw [hk] at hr
        ((conv => whnf); (try (set_option simprocs false in dsimp only [])))
        (first | rw [lst_mid] | rw [seqL_ptr, lst_mid])
        ((conv => whnf); (try (set_option simprocs false in dsimp only [])))
        refine i_law_any_spot ⟨rfl, hc', fun zs c5 hz hc5 => ?_⟩
        ((conv => whnf); (try (set_option simprocs false in dsimp only [])))
        refine i_law_small ⟨rfl, hc5, fun a b c6 f6 hc6 => ?_⟩
        ((conv => whnf); (try (set_option simprocs false in dsimp only [])))
        refine i_law_free ⟨rfl, hc6, fun p q' c7 f7 p0 hc7 => ?_⟩
        ((conv => whnf); (repeat ((first | refine ⟨Nat.le_of_ble_eq_true rfl, ?_⟩ | refine bt ?_ | refine bf ?_); (conv => whnf))); (try (set_option simprocs false in dsimp only [])))
        (first | rw [lst_mid] | rw [seqL_ptr, lst_mid])
        ((conv => whnf); (try (set_option simprocs false in dsimp only [])))
        refine ⟨by omega, ?_⟩
        ((conv => whnf); (try (set_option simprocs false in dsimp only [])))
        rw [mid_set]
        refine kk _ _ ⟨_, _, _, _, ds ++ [.tup [.int mk0, .lst (zs.map D.int), fr a b, fr p q']], js ++ [mk0], ks, c7, dn, rfl, rfl, hc7, rfl, en', ?_, fun _ z => absurd e2 z⟩
        rw [hk]
        exact hr.snoc ⟨zs, a, b, p, q', rfl, hz, f6, f7, p0⟩
      · have hk : rowP k = MRow := by unfold rowP; rw [if_neg e, if_neg e2]
        rw [hk] at hr
        have hd' := hd e e2
        ((conv => whnf); (try (set_option simprocs false in dsimp only [])))
        refine i_law_name ⟨rfl, hc', fun y c5 hy hc5 => ?_⟩
        ((conv => whnf); (try (set_option simprocs false in dsimp only [])))
        have ly : y.length ≤ 8 := hy.parts.2.1
        refine ⟨by show y.length + 1 ≤ sizeLine; exact small_len (by omega), ?_⟩
        ((conv => whnf); (repeat ((first | refine ⟨Nat.le_of_ble_eq_true rfl, ?_⟩ | refine bt ?_ | refine bf ?_); (conv => whnf))); (try (set_option simprocs false in dsimp only [])))
        refine take_at hc5 (by decide) (sm (k := 64) (by decide) (by decide)) fun v6 c6 lo_v6 up_v6 hc_v6 => ?_
        ((conv => whnf); (try (set_option simprocs false in dsimp only [])))
        refine onS_at (P := fun d => ∃ z, d = .str z ∧ z.length ≤ 9 ∧ NameS 8 (cutS z none (some 8))) (al1 ⟨"x", rfl, by decide +kernel, by decide +kernel⟩ (al1 ⟨_, rfl, by have := PySem.strLen_append y "x"; rw [this]; show y.length + 1 ≤ 9; omega, nm_cut hy⟩ al0)) lo_v6 up_v6 fun d hdz => ?_
        obtain ⟨z, rfl, z9, hz⟩ := hdz
        ((conv => whnf); (try (set_option simprocs false in dsimp only [])))
        refine ⟨small_len (by omega), ?_⟩
        ((conv => whnf); (try (set_option simprocs false in dsimp only [])))
        refine ⟨by decide, ?_⟩
        ((conv => whnf); (repeat ((first | refine ⟨Nat.le_of_ble_eq_true rfl, ?_⟩ | refine bt ?_ | refine bf ?_); (conv => whnf))); (try (set_option simprocs false in dsimp only [])))
        obtain ⟨ps, eps, hps⟩ := m_pairs hr
        have hps' : ∀ p ∈ ps, NameS 8 p.1 ∧ 0 ≤ p.2 ∧ p.2 ≤ 1000 := fun p hp => by
          obtain ⟨a, b, i, hi, c⟩ := hps p hp
          have := jlt i hi
          exact ⟨a, b, by omega⟩
        have e5 : 0 ≤ mk0 % 5 := by omega
        rw [items_ptr mid_get]
        ((conv => whnf); (try (set_option simprocs false in dsimp only [])))
        refine ⟨by omega, ?_⟩
        refine lc_map tailD (fun d hdd N' kn => ?_) mid_get ?_
        · obtain ⟨i, -, y, p, rfl, -⟩ := hr.all d hdd
          ((conv => whnf); (try (set_option simprocs false in dsimp only [])))
          exact kn
        rw [eps]
        have fin : ∀ p : Int, 0 ≤ p → p ≤ mk0 → (cutS z none (some 8), p) ∉ ps → N [some (.ptr 0), some (.str k), some (.ptr (ms.length + 1)), some (.int mk0), x4, some (.str (cutS z none (some 8))), x6] (c6 :: (ms ++ Cell.lst (ds ++ [.tup [.int mk0, .str (cutS z none (some 8)), .int p]]) :: dn)) := fun p p0 p1 pn => by
          refine kk _ _ ⟨_, _, _, _, ds ++ [.tup [.int mk0, .str (cutS z none (some 8)), .int p]], js ++ [mk0], ks, c6, dn, rfl, rfl, hc_v6, rfl, en', ?_, fun _ _ => ?_⟩
          · rw [hk]
            exact hr.snoc ⟨_, p, rfl, hz, p0, p1⟩
          · unfold DisM
            rw [List.pairwise_append]
            refine ⟨hd', List.pairwise_singleton _ _, fun a ha b hb => ?_⟩
            rw [List.mem_singleton] at hb
            subst hb
            intro ee
            have ma : tailD a ∈ ps.map npD := by rw [← eps]; exact List.mem_map.mpr ⟨a, ha, rfl⟩
            obtain ⟨⟨y1, p1'⟩, hp1, e1⟩ := List.mem_map.mp ma
            rw [ee] at e1
            have e1' : D.tup [.str y1, .int p1'] = .tup [.str (cutS z none (some 8)), .int p] := e1
            cases e1'
            exact pn hp1
        first | refine in_np hz e5 (by omega) hps' ?_ | (unfold dInG; refine in_np hz e5 (by omega) hps' ?_)
        ((conv => whnf); (try (set_option simprocs false in dsimp only [])))
        refine br (fun hin => ?_) (fun hin => ?_)
        · ((conv => whnf); (repeat ((first | refine ⟨Nat.le_of_ble_eq_true rfl, ?_⟩ | refine bt ?_ | refine bf ?_); (conv => whnf))); (try (set_option simprocs false in dsimp only [])))
          (first | rw [lst_mid] | rw [seqL_ptr, lst_mid])
          ((conv => whnf); (repeat ((first | refine ⟨Nat.le_of_ble_eq_true rfl, ?_⟩ | refine bt ?_ | refine bf ?_); (conv => whnf))); (try (set_option simprocs false in dsimp only [])))
          (first | rw [lst_mid] | rw [seqL_ptr, lst_mid])
          ((conv => whnf); (try (set_option simprocs false in dsimp only [])))
          refine ⟨by omega, ?_⟩
          ((conv => whnf); (try (set_option simprocs false in dsimp only [])))
          rw [mid_set]
          refine fin mk0 m0 (Int.le_refl _) fun hm => ?_
          obtain ⟨_, _, i, hi, c⟩ := hps _ hm
          have := jlt i hi
          have c' : mk0 ≤ i := c
          omega
        · ((conv => whnf); (repeat ((first | refine ⟨Nat.le_of_ble_eq_true rfl, ?_⟩ | refine bt ?_ | refine bf ?_); (conv => whnf))); (try (set_option simprocs false in dsimp only [])))
          (first | rw [lst_mid] | rw [seqL_ptr, lst_mid])
          ((conv => whnf); (try (set_option simprocs false in dsimp only [])))
          refine ⟨by decide, ?_⟩
          ((conv => whnf); (repeat ((first | refine ⟨Nat.le_of_ble_eq_true rfl, ?_⟩ | refine bt ?_ | refine bf ?_); (conv => whnf))); (try (set_option simprocs false in dsimp only [])))
          (first | rw [lst_mid] | rw [seqL_ptr, lst_mid])
          ((conv => whnf); (try (set_option simprocs false in dsimp only [])))
          refine ⟨by omega, ?_⟩
          ((conv => whnf); (try (set_option simprocs false in dsimp only [])))
          rw [mid_set]
          exact fin (mk0 % 5) e5 (by omega) hin
  · rintro r m' ⟨x3, x4, x5, x6, ds, js, ks, c', dn, rfl, rfl, hc', ek, en, hr, hd⟩
    have k0 : ks = [] := by cases ks with | nil => rfl | cons a b => cases ek
    subst k0
    rw [List.append_nil] at en
    subst en
    ((conv => whnf); (try (set_option simprocs false in dsimp only [])))
    (first | rw [lst_mid] | rw [seqL_ptr, lst_mid])
    ((conv => whnf); (try (set_option simprocs false in dsimp only [])))
    rw [mid_set]
    have lds := hr.len
    exact h ds ns c' _ hr mk (by omega) (by omega) hd hc'
end K34
namespace K34
open PySem PySem.Spec PyProof.Rows L2 DL
structure Mark8 (lo : Nat) (ns : List Int) : Prop where
  mks : Mks ns
  ge : lo ≤ ns.length
  le : ns.length ≤ 8
inductive RowsOk (P : D → Int → Prop) (ds : List D) : Prop
  | of (ns : List Int) : RowsP P ds ns → Mks ns → 1 ≤ ds.length → ds.length ≤ 8 → RowsOk P ds
/-- a row of a made paper of the name x -/
def MRowN (x : Str) (d : D) (i : Int) : Prop := MRow d i ∧ ∀ y p, d = .tup [.int i, .str y, .int p] → y ≠ x
inductive Paper : D → Prop
  | thing (k day lev t b : Int) (x sort : Str) (ns : List Int) : 1 ≤ k → k ≤ 10 ^ 9 → 0 ≤ day → day ≤ 10 ^ 6 → NameS 8 x → (sort = "scale" ∧ Mark8 2 ns ∨ sort = "box" ∧ Mark8 1 ns) → 0 ≤ lev → lev ≤ 5 → SmF t b → 0 ≤ t → Paper (.tup [.int k, .int day, .str "thing", .str x, .str sort, .int lev, fr t b, .lst (ns.map D.int)])
  | told (k day term : Int) (x : Str) (ds : List D) : 1 ≤ k → k ≤ 10 ^ 9 → 0 ≤ day → day ≤ 10 ^ 6 → NameS 8 x → 0 ≤ term → term ≤ 10 ^ 6 → RowsOk TRow ds → Paper (.tup [.int k, .int day, .str "told", .str x, .int term, .lst ds])
  | held (k day term : Int) (x y : Str) (ds : List D) : 1 ≤ k → k ≤ 10 ^ 9 → 0 ≤ day → day ≤ 10 ^ 6 → NameS 8 x → NameS 8 y → 0 ≤ term → term ≤ 10 ^ 6 → RowsOk HRow ds → Paper (.tup [.int k, .int day, .str "held", .str x, .str y, .int term, .lst ds])
  | made (k day t b : Int) (x : Str) (ds : List D) : 1 ≤ k → k ≤ 10 ^ 9 → 0 ≤ day → day ≤ 10 ^ 6 → NameS 8 x → SmF t b → 0 ≤ t → RowsOk (MRowN x) ds → DisM ds → Paper (.tup [.int k, .int day, .str "made", .str x, fr t b, .lst ds])
  | read (k day : Int) (x : Str) (ns : List Int) : 1 ≤ k → k ≤ 10 ^ 9 → 0 ≤ day → day ≤ 10 ^ 6 → NameS 8 x → Spt ns → Paper (.tup [.int k, .int day, .str "read", .str x, .lst (ns.map D.int)])
  | plain (k day : Int) (w x : Str) : 1 ≤ k → k ≤ 10 ^ 9 → 0 ≤ day → day ≤ 10 ^ 6 → (w = "off" ∨ w = "harmed" ∨ w = "mended") → NameS 8 x → Paper (.tup [.int k, .int day, .str w, .str x])
/-- rows with their marks, some left out -/
theorem Mks.tail {i : Int} {ns : List Int} (h : Mks (i :: ns)) : Mks ns := ⟨(List.pairwise_cons.mp h.up).2, fun j hj => h.lo j (List.mem_cons_of_mem _ hj), fun j hj => h.hi j (List.mem_cons_of_mem _ hj)⟩
theorem Mks.sub {ns ms : List Int} (h : Mks ns) (s : ms.Sublist ns) : Mks ms := ⟨h.up.sublist s, fun j hj => h.lo j (s.subset hj), fun j hj => h.hi j (s.subset hj)⟩
@[irreducible] def g_law_any_paper : FN := fun dz m q => ∃ (c : Cell) (ms : Sto), dz = [.ptr 0] ∧ (m = c :: ms ∧ BagOk c ∧ ∀ d c' dn, Paper d → BagOk c' → q d (c' :: (ms ++ dn)))
theorem ar_law_any_paper : ∀ ds m q, g_law_any_paper ds m q → ds.length = 1 := by
  unfold g_law_any_paper
  rintro _ m q ⟨_, _, rfl, _⟩; rfl
theorem i_law_any_paper {c : Cell} {ms : Sto} {m : Sto} {q : D → Sto → Prop} (h : m = c :: ms ∧ BagOk c ∧ ∀ d c' dn, Paper d → BagOk c' → q d (c' :: (ms ++ dn))) : g_law_any_paper [.ptr 0] m q := by unfold g_law_any_paper; exact ⟨c, ms, rfl, h⟩
def t_law_any_paper : DS :=
    (dSeq (dAsg (dBin dIx (dLst (dCons (dC (.str "thing")) (dCons (dC (.str "told")) (dCons (dC (.str "held")) (dCons (dC (.str "made")) (dCons (dC (.str "read")) (dCons (dC (.str "off")) (dCons (dC (.str "harmed")) (dCons (dC (.str "mended")) dNil))))))))) (dCallB g_law_take (dCons (dVar 0) (dCons (dC (.int 8)) dNil)))) (gN 1))
    (dSeq (dAsg (dBin dIx (dLst (dCons (dBin dAdd (dC (.int 1)) (dCallB g_law_take (dCons (dVar 0) (dCons (dBin dPow (dC (.int 10)) (dC (.int 9))) dNil)))) (dCons (dBin dAdd (dC (.int 1)) (dCallB g_law_take (dCons (dVar 0) (dCons (dC (.int 30)) dNil)))) (dCons (dC (.int 1)) (dCons (dBin dPow (dC (.int 10)) (dC (.int 9))) dNil))))) (dCallB g_law_take (dCons (dVar 0) (dCons (dC (.int 4)) dNil)))) (gN 2))
    (dSeq (dAsg (dBin dIx (dLst (dCons (dCallB g_law_take (dCons (dVar 0) (dCons (dBin dAdd (dBin dPow (dC (.int 10)) (dC (.int 6))) (dC (.int 1))) dNil))) (dCons (dCallB g_law_take (dCons (dVar 0) (dCons (dC (.int 30)) dNil))) (dCons (dC (.int 0)) (dCons (dBin dPow (dC (.int 10)) (dC (.int 6))) dNil))))) (dCallB g_law_take (dCons (dVar 0) (dCons (dC (.int 4)) dNil)))) (gN 3))
    (dSeq (dAsg (dBin dIx (dLst (dCons (dCallB g_law_take (dCons (dVar 0) (dCons (dBin dAdd (dBin dPow (dC (.int 10)) (dC (.int 6))) (dC (.int 1))) dNil))) (dCons (dCallB g_law_take (dCons (dVar 0) (dCons (dC (.int 30)) dNil))) (dCons (dC (.int 0)) (dCons (dBin dPow (dC (.int 10)) (dC (.int 6))) dNil))))) (dCallB g_law_take (dCons (dVar 0) (dCons (dC (.int 4)) dNil)))) (gN 4))
    (dSeq (dAsg (dCallB g_law_name (dCons (dVar 0) dNil)) (gN 5))
    (dSeq (dIf (dTest (dBin dEq (dVar 1) (dC (.str "thing")))) (dSeq (dAsg (dBin dIx (dLst (dCons (dC (.str "scale")) (dCons (dC (.str "box")) dNil))) (dCallB g_law_take (dCons (dVar 0) (dCons (dC (.int 2)) dNil)))) (gN 6))
    (dSeq (dAsg (dCallB g_law_rising (dCons (dVar 0) (dCons (dBin dIx (dLst (dCons (dBin dAdd (dC (.int 2)) (dCallB g_law_take (dCons (dVar 0) (dCons (dC (.int 7)) dNil)))) (dCons (dBin dAdd (dC (.int 1)) (dCallB g_law_take (dCons (dVar 0) (dCons (dC (.int 8)) dNil)))) dNil))) (dCallB dInt (a1 (dBin dEq (dVar 6) (dC (.str "box")))))) dNil))) (gN 7))
    (dRet (dTup (dCons (dVar 2) (dCons (dVar 3) (dCons (dVar 1) (dCons (dVar 5) (dCons (dVar 6) (dCons (dCallB g_law_take (dCons (dVar 0) (dCons (dC (.int 6)) dNil))) (dCons (dCallB g_law_free (dCons (dVar 0) dNil)) (dCons (dVar 7) dNil)))))))))))) dNext)
    (dSeq (dIf (dTest (dBin dEq (dVar 1) (dC (.str "told")))) (dRet (dTup (dCons (dVar 2) (dCons (dVar 3) (dCons (dVar 1) (dCons (dVar 5) (dCons (dVar 4) (dCons (dCallB g_law_any_rows (dCons (dVar 0) (dCons (dVar 1) dNil))) dNil)))))))) dNext)
    (dSeq (dIf (dTest (dBin dEq (dVar 1) (dC (.str "held")))) (dRet (dTup (dCons (dVar 2) (dCons (dVar 3) (dCons (dVar 1) (dCons (dVar 5) (dCons (dCallB g_law_name (dCons (dVar 0) dNil)) (dCons (dVar 4) (dCons (dCallB g_law_any_rows (dCons (dVar 0) (dCons (dVar 1) dNil))) dNil))))))))) dNext)
    (dSeq (dIf (dTest (dBin dEq (dVar 1) (dC (.str "made")))) (dSeq (dAsg (dLc 9 (dIter (dCallB g_law_any_rows (dCons (dVar 0) (dCons (dVar 1) dNil)))) (dTest (dBin dNe (dBin dIx (dVar 9) (dC (.int 1))) (dVar 5))) (dVar 9)) (gN 8))
    (dRet (dTup (dCons (dVar 2) (dCons (dVar 3) (dCons (dVar 1) (dCons (dVar 5) (dCons (dCallB g_law_free (dCons (dVar 0) dNil)) (dCons (dOrT (dVar 8) (dLst (dCons (dTup (dCons (dC (.int 0)) (dCons (dBin dIx (dLst (dCons (dC (.str "yy")) (dCons (dC (.str "yz")) dNil))) (dCallB dInt (a1 (dBin dEq (dVar 5) (dC (.str "yy")))))) (dCons (dC (.int 0)) dNil)))) dNil))) dNil))))))))) dNext)
    (dSeq (dIf (dTest (dBin dEq (dVar 1) (dC (.str "read")))) (dRet (dTup (dCons (dVar 2) (dCons (dVar 3) (dCons (dVar 1) (dCons (dVar 5) (dCons (dCallB g_law_any_spot (dCons (dVar 0) dNil)) dNil))))))) dNext)
    (dRet (dTup (dCons (dVar 2) (dCons (dVar 3) (dCons (dVar 1) (dCons (dVar 5) dNil))))))))))))))))
theorem r_law_any_paper (dz : List D) (m : Sto) (q : D → Sto → Prop) (hl : dz.length = 1) (h : g_law_any_paper dz m q) : t_law_any_paper { nx := fun _ m' => q .non m', rt := q } (startD N_law_any_paper dz) m := by
  unfold g_law_any_paper at h
  obtain ⟨c, ms, rfl, h⟩ := h
  unfold t_law_any_paper
  obtain ⟨rfl, hc, h⟩ := h
  have p9 : (10 : Int) ^ Int.toNat 9 = 10 ^ 9 := by decide
  have p6 : (10 : Int) ^ Int.toNat 6 = 10 ^ 6 := by decide
  ((conv => whnf); (repeat ((first | refine ⟨Nat.le_of_ble_eq_true rfl, ?_⟩ | refine bt ?_ | refine bf ?_); (conv => whnf))); (try (set_option simprocs false in dsimp only [])))
  refine take_at hc (by decide) (sm (k := 64) (by decide) (by decide)) fun v1 c1 lo_v1 up_v1 hc_v1 => ?_
  ((conv => whnf); (try (set_option simprocs false in dsimp only [])))
  refine onS_at (P := fun d => ∃ w : Str, d = .str w ∧ w ∈ (["thing", "told", "held", "made", "read", "off", "harmed", "mended"] : List Str)) (al1 ⟨_, rfl, by simp⟩ (al1 ⟨_, rfl, by simp⟩ (al1 ⟨_, rfl, by simp⟩ (al1 ⟨_, rfl, by simp⟩ (al1 ⟨_, rfl, by simp⟩ (al1 ⟨_, rfl, by simp⟩ (al1 ⟨_, rfl, by simp⟩ (al1 ⟨_, rfl, by simp⟩ al0)))))))) lo_v1 up_v1 fun d hd => ?_
  obtain ⟨w, rfl, hw⟩ := hd
  ((conv => whnf); (try (set_option simprocs false in dsimp only [])))
  refine ⟨⟨by decide, by decide, by decide⟩, ?_⟩
  ((conv => whnf); (try (set_option simprocs false in dsimp only [])))
  refine take_at hc_v1 (by decide) (sm (k := 64) (by decide) (by decide)) fun v2 c2 lo_v2 up_v2 hc_v2 => ?_
  ((conv => whnf); (try (set_option simprocs false in dsimp only [])))
  refine take_at hc_v2 (by decide) (sm (k := 64) (by decide) (by decide)) fun v3 c3 lo_v3 up_v3 hc_v3 => ?_
  ((conv => whnf); (try (set_option simprocs false in dsimp only [])))
  refine ⟨⟨by decide, by decide, by decide⟩, ?_⟩
  ((conv => whnf); (repeat ((first | refine ⟨Nat.le_of_ble_eq_true rfl, ?_⟩ | refine bt ?_ | refine bf ?_); (conv => whnf))); (try (set_option simprocs false in dsimp only [])))
  refine take_at hc_v3 (by decide) (sm (k := 64) (by decide) (by decide)) fun v4 c4 lo_v4 up_v4 hc_v4 => ?_
  ((conv => whnf); (try (set_option simprocs false in dsimp only [])))
  rw [p9] at up_v2
  refine onS_at (P := fun d => ∃ i : Int, d = .int i ∧ 1 ≤ i ∧ i ≤ 10 ^ 9) (al1 ⟨_, rfl, by omega, by omega⟩ (al1 ⟨_, rfl, by omega, by omega⟩ (al1 ⟨1, rfl, by decide, by decide⟩ (al1 ⟨_, rfl, by decide, by decide⟩ al0)))) lo_v4 up_v4 fun d hd => ?_
  obtain ⟨k, rfl, k1, k2⟩ := hd
  ((conv => whnf); (try (set_option simprocs false in dsimp only [])))
  refine ⟨⟨by decide, by decide, by decide⟩, ?_⟩
  ((conv => whnf); (try (set_option simprocs false in dsimp only [])))
  refine take_at hc_v4 (by decide) (sm (k := 64) (by decide) (by decide)) fun v5 c5 lo_v5 up_v5 hc_v5 => ?_
  ((conv => whnf); (try (set_option simprocs false in dsimp only [])))
  refine take_at hc_v5 (by decide) (sm (k := 64) (by decide) (by decide)) fun v6 c6 lo_v6 up_v6 hc_v6 => ?_
  ((conv => whnf); (try (set_option simprocs false in dsimp only [])))
  refine ⟨⟨by decide, by decide, by decide⟩, ?_⟩
  ((conv => whnf); (repeat ((first | refine ⟨Nat.le_of_ble_eq_true rfl, ?_⟩ | refine bt ?_ | refine bf ?_); (conv => whnf))); (try (set_option simprocs false in dsimp only [])))
  refine take_at hc_v6 (by decide) (sm (k := 64) (by decide) (by decide)) fun v7 c7 lo_v7 up_v7 hc_v7 => ?_
  ((conv => whnf); (try (set_option simprocs false in dsimp only [])))
  have up5 : v5 < 10 ^ 6 + 1 := by have z := up_v5; rw [p6] at z; exact z
  refine onS_at (P := fun d => ∃ i : Int, d = .int i ∧ 0 ≤ i ∧ i ≤ 10 ^ 6) (al1 ⟨_, rfl, by omega, by omega⟩ (al1 ⟨_, rfl, by omega, by omega⟩ (al1 ⟨0, rfl, by decide, by decide⟩ (al1 ⟨_, rfl, by decide, by decide⟩ al0)))) lo_v7 up_v7 fun d hd => ?_
  obtain ⟨day, rfl, d1, d2⟩ := hd
  ((conv => whnf); (try (set_option simprocs false in dsimp only [])))
  refine ⟨⟨by decide, by decide, by decide⟩, ?_⟩
  ((conv => whnf); (try (set_option simprocs false in dsimp only [])))
  refine take_at hc_v7 (by decide) (sm (k := 64) (by decide) (by decide)) fun v8 c8 lo_v8 up_v8 hc_v8 => ?_
  ((conv => whnf); (try (set_option simprocs false in dsimp only [])))
  refine take_at hc_v8 (by decide) (sm (k := 64) (by decide) (by decide)) fun v9 c9 lo_v9 up_v9 hc_v9 => ?_
  ((conv => whnf); (try (set_option simprocs false in dsimp only [])))
  refine ⟨⟨by decide, by decide, by decide⟩, ?_⟩
  ((conv => whnf); (repeat ((first | refine ⟨Nat.le_of_ble_eq_true rfl, ?_⟩ | refine bt ?_ | refine bf ?_); (conv => whnf))); (try (set_option simprocs false in dsimp only [])))
  refine take_at hc_v9 (by decide) (sm (k := 64) (by decide) (by decide)) fun v10 c10 lo_v10 up_v10 hc_v10 => ?_
  ((conv => whnf); (try (set_option simprocs false in dsimp only [])))
  have up8 : v8 < 10 ^ 6 + 1 := by have z := up_v8; rw [p6] at z; exact z
  refine onS_at (P := fun d => ∃ i : Int, d = .int i ∧ 0 ≤ i ∧ i ≤ 10 ^ 6) (al1 ⟨_, rfl, by omega, by omega⟩ (al1 ⟨_, rfl, by omega, by omega⟩ (al1 ⟨0, rfl, by decide, by decide⟩ (al1 ⟨_, rfl, by decide, by decide⟩ al0)))) lo_v10 up_v10 fun d hd => ?_
  obtain ⟨term, rfl, t1, t2⟩ := hd
  ((conv => whnf); (try (set_option simprocs false in dsimp only [])))
  refine i_law_name ⟨rfl, hc_v10, fun x c11 hx hc11 => ?_⟩
  ((conv => whnf); (try (set_option simprocs false in dsimp only [])))
  refine br (fun e => ?_) (fun e => ?_)
  · subst e
    ((conv => whnf); (repeat ((first | refine ⟨Nat.le_of_ble_eq_true rfl, ?_⟩ | refine bt ?_ | refine bf ?_); (conv => whnf))); (try (set_option simprocs false in dsimp only [])))
    refine take_at hc11 (by decide) (sm (k := 64) (by decide) (by decide)) fun v12 c12 lo_v12 up_v12 hc_v12 => ?_
    ((conv => whnf); (try (set_option simprocs false in dsimp only [])))
    refine onS_at (P := fun d => d = .str "scale" ∨ d = .str "box") (al1 (.inl rfl) (al1 (.inr rfl) al0)) lo_v12 up_v12 fun d hd => ?_
    have hs : ∃ sort : Str, d = .str sort ∧ (sort = "scale" ∨ sort = "box") := by
      rcases hd with rfl | rfl
      · exact ⟨_, rfl, .inl rfl⟩
      · exact ⟨_, rfl, .inr rfl⟩
    obtain ⟨sort, rfl, hs⟩ := hs
    ((conv => whnf); (try (set_option simprocs false in dsimp only [])))
    refine take_at hc_v12 (by decide) (sm (k := 64) (by decide) (by decide)) fun v13 c13 lo_v13 up_v13 hc_v13 => ?_
    ((conv => whnf); (try (set_option simprocs false in dsimp only [])))
    refine take_at hc_v13 (by decide) (sm (k := 64) (by decide) (by decide)) fun v14 c14 lo_v14 up_v14 hc_v14 => ?_
    ((conv => whnf); (repeat ((first | refine ⟨Nat.le_of_ble_eq_true rfl, ?_⟩ | refine bt ?_ | refine bf ?_); (conv => whnf))); (try (set_option simprocs false in dsimp only [])))
    obtain ⟨n, en, n1, n8, n2⟩ : ∃ n : Int, atI [D.int (2 + v13), D.int (1 + v14)] (if decide (sort = "box") = true then 1 else 0) = some (.int n) ∧ 1 ≤ n ∧ n ≤ 8 ∧ (sort = "scale" → 2 ≤ n) := by
      rcases hs with rfl | rfl
      · exact ⟨2 + v13, rfl, by omega, by omega, fun _ => by omega⟩
      · exact ⟨1 + v14, rfl, by omega, by omega, fun z => absurd z (by decide)⟩
    rw [en]
    ((conv => whnf); (try (set_option simprocs false in dsimp only [])))
    refine i_law_rising ⟨rfl, hc_v14, n1, n8, fun ns c15 dn mk hl hc15 => ?_⟩
    ((conv => whnf); (try (set_option simprocs false in dsimp only [])))
    refine take_at hc15 (by decide) (sm (k := 64) (by decide) (by decide)) fun v16 c16 lo_v16 up_v16 hc_v16 => ?_
    ((conv => whnf); (try (set_option simprocs false in dsimp only [])))
    refine i_law_free ⟨rfl, hc_v16, fun t b c17 f17 t0 hc17 => ?_⟩
    ((conv => whnf); (repeat ((first | refine ⟨Nat.le_of_ble_eq_true rfl, ?_⟩ | refine bt ?_ | refine bf ?_); (conv => whnf))); (try (set_option simprocs false in dsimp only [])))
    refine h _ c17 dn (.thing k day v16 t b x sort ns k1 k2 d1 d2 hx ?_ lo_v16 (by omega) f17 t0) hc17
    rcases hs with rfl | rfl
    · exact .inl ⟨rfl, mk, by have := n2 rfl; omega, by omega⟩
    · exact .inr ⟨rfl, mk, by omega, by omega⟩
  · ((conv => whnf); (try (set_option simprocs false in dsimp only [])))
    refine br (fun e2 => ?_) (fun e2 => ?_)
    · subst e2
      ((conv => whnf); (try (set_option simprocs false in dsimp only [])))
      refine i_law_any_rows ⟨rfl, hc11, fun ds ns c12 dn hr mk l1 l8 _ hc12 => ?_⟩
      ((conv => whnf); (repeat ((first | refine ⟨Nat.le_of_ble_eq_true rfl, ?_⟩ | refine bt ?_ | refine bf ?_); (conv => whnf))); (try (set_option simprocs false in dsimp only [])))
      exact h _ c12 dn (.told k day term x ds k1 k2 d1 d2 hx t1 t2 ⟨ns, hr, mk, l1, l8⟩) hc12
    · ((conv => whnf); (try (set_option simprocs false in dsimp only [])))
      refine br (fun e3 => ?_) (fun e3 => ?_)
      · subst e3
        ((conv => whnf); (try (set_option simprocs false in dsimp only [])))
        refine i_law_name ⟨rfl, hc11, fun y c12 hy hc12 => ?_⟩
        ((conv => whnf); (try (set_option simprocs false in dsimp only [])))
        refine i_law_any_rows ⟨rfl, hc12, fun ds ns c13 dn hr mk l1 l8 _ hc13 => ?_⟩
        ((conv => whnf); (repeat ((first | refine ⟨Nat.le_of_ble_eq_true rfl, ?_⟩ | refine bt ?_ | refine bf ?_); (conv => whnf))); (try (set_option simprocs false in dsimp only [])))
        exact h _ c13 dn (.held k day term x y ds k1 k2 d1 d2 hx hy t1 t2 ⟨ns, hr, mk, l1, l8⟩) hc13
      · ((conv => whnf); (try (set_option simprocs false in dsimp only [])))
        refine br (fun e4 => ?_) (fun e4 => ?_)
        · subst e4
          ((conv => whnf); (try (set_option simprocs false in dsimp only [])))
          refine i_law_any_rows ⟨rfl, hc11, fun ds ns c12 dn hr mk l1 l8 hd hc12 => ?_⟩
          have hd' := hd (by decide) (by decide)
          have hr' : RowsP MRow ds ns := hr
          ((conv => whnf); (try (set_option simprocs false in dsimp only [])))
          refine ⟨by omega, ?_⟩
          refine lc_indT (fun xs acc m' => m' = c12 :: (ms ++ dn) ∧ ∃ js ks ns1, RowsP MRow xs ks ∧ (ns1 ++ ks).Sublist ns ∧ RowsP (MRowN x) acc js ∧ js.Sublist ns1 ∧ (acc ++ xs).Sublist ds) ?_ (fun _ _ _ _ => trivial) ?_ _ _ _ ⟨rfl, [], ns, [], hr', List.Sublist.refl _, .nil, List.Sublist.refl _, List.Sublist.refl _⟩
          · rintro y xs acc m' N N0 ⟨rfl, js, ks, ns1, hrx, hs1, hra, hs2, hs3⟩ kk k0
            cases hrx with
            | cons hy hrx =>
            rename_i i ks
            obtain ⟨z, p, rfl, z1, z2, z3⟩ := id hy
            ((conv => whnf); (try (set_option simprocs false in dsimp only [])))
            have hs1' : ((ns1 ++ [i]) ++ ks).Sublist ns := by rw [List.append_assoc]; exact hs1
            refine nbr (fun e => ?_) (fun e => ?_)
            · ((conv => whnf); (try (set_option simprocs false in dsimp only [])))
              refine kk _ _ ⟨rfl, js ++ [i], ks, ns1 ++ [i], hrx, hs1', hra.snoc ⟨hy, fun y' p' ee => ?_⟩, List.Sublist.append hs2 (List.Sublist.refl _), by rw [List.append_assoc]; exact hs3⟩
              cases ee
              exact fun q => e q
            · refine k0 _ ⟨rfl, js, ks, ns1 ++ [i], hrx, hs1', hra, hs2.trans (List.sublist_append_left _ _), ?_⟩
              exact ((List.Sublist.refl acc).append (List.sublist_cons_self _ _)).trans hs3
          · rintro acc m' ⟨rfl, js, ks, ns1, hrx, hs1, hra, hs2, hs3⟩
            cases hrx
            rw [List.append_nil] at hs1 hs3
            have mk' := mk.sub (hs2.trans hs1)
            have dm' : DisM acc := hd'.sublist hs3
            have la : acc.length ≤ 8 := Nat.le_trans hs3.length_le l8
            ((conv => whnf); (try (set_option simprocs false in dsimp only [])))
            refine i_law_free ⟨rfl, hc12, fun t b c13 f13 t0 hc13 => ?_⟩
            cases acc with
            | cons a as =>
              ((conv => whnf); (repeat ((first | refine ⟨Nat.le_of_ble_eq_true rfl, ?_⟩ | refine bt ?_ | refine bf ?_); (conv => whnf))); (try (set_option simprocs false in dsimp only [])))
              exact h _ c13 dn (.made k day t b x (a :: as) k1 k2 d1 d2 hx f13 t0 ⟨js, hra, mk', by simp, la⟩ dm') hc13
            | nil =>
              ((conv => whnf); (repeat ((first | refine ⟨Nat.le_of_ble_eq_true rfl, ?_⟩ | refine bt ?_ | refine bf ?_); (conv => whnf))); (try (set_option simprocs false in dsimp only [])))
              obtain ⟨y, ey, hy, hyx⟩ : ∃ y : Str, atI [D.str "yy", D.str "yz"] (if decide (x = "yy") = true then 1 else 0) = some (.str y) ∧ NameS 8 y ∧ y ≠ x := by
                by_cases q : x = "yy"
                · rw [if_pos (decide_eq_true q)]
                  exact ⟨"yz", rfl, by decide +kernel, by rw [q]; decide⟩
                · rw [if_neg (by simpa using q)]
                  exact ⟨"yy", rfl, by decide +kernel, fun z => q z.symm⟩
              rw [ey]
              ((conv => whnf); (repeat ((first | refine ⟨Nat.le_of_ble_eq_true rfl, ?_⟩ | refine bt ?_ | refine bf ?_); (conv => whnf))); (try (set_option simprocs false in dsimp only [])))
              refine h _ c13 dn (.made k day t b x _ k1 k2 d1 d2 hx f13 t0 ⟨[0], .cons ⟨⟨y, 0, rfl, hy, by decide, by decide⟩, fun y' p' ee => ?_⟩ .nil, ⟨List.pairwise_singleton _ _, by simp, by simp⟩, by simp, by simp⟩ (List.pairwise_singleton _ _)) hc13
              cases ee
              exact hyx
        · ((conv => whnf); (try (set_option simprocs false in dsimp only [])))
          refine br (fun e5 => ?_) (fun e5 => ?_)
          · subst e5
            ((conv => whnf); (try (set_option simprocs false in dsimp only [])))
            refine i_law_any_spot ⟨rfl, hc11, fun ns c12 hz hc12 => ?_⟩
            ((conv => whnf); (repeat ((first | refine ⟨Nat.le_of_ble_eq_true rfl, ?_⟩ | refine bt ?_ | refine bf ?_); (conv => whnf))); (try (set_option simprocs false in dsimp only [])))
            have e0 : c12 :: ms = c12 :: (ms ++ []) := by rw [List.append_nil]
            rw [e0]
            exact h _ c12 [] (.read k day x ns k1 k2 d1 d2 hx hz) hc12
          · ((conv => whnf); (repeat ((first | refine ⟨Nat.le_of_ble_eq_true rfl, ?_⟩ | refine bt ?_ | refine bf ?_); (conv => whnf))); (try (set_option simprocs false in dsimp only [])))
            have e0 : c11 :: ms = c11 :: (ms ++ []) := by rw [List.append_nil]
            rw [e0]
            have hw' : w = "off" ∨ w = "harmed" ∨ w = "mended" := by
              simp only [List.mem_cons, List.not_mem_nil, or_false] at hw
              rcases hw with q | q | q | q | q | q
              · exact absurd q e
              · exact absurd q e2
              · exact absurd q e3
              · exact absurd q e4
              · exact absurd q e5
              · exact q
            exact h _ c11 [] (.plain k day w x k1 k2 d1 d2 hw' hx) hc11
end K34
namespace K34
open PySem PySem.Spec PyProof.Rows L2 DL
@[irreducible] def g_law_alike : FN := fun dz m q => ∃ (x y : D) (v : PyData), dz = [x, y] ∧ (PyR m x v ∧ PyR m y v ∧ Pd 60 16777216 v ∧ q (.bl true) m)
theorem ar_law_alike : ∀ ds m q, g_law_alike ds m q → ds.length = 2 := by
  unfold g_law_alike
  rintro _ m q ⟨_, _, _, rfl, _⟩; rfl
theorem i_law_alike {x y : D} {v : PyData} {m : Sto} {q : D → Sto → Prop} (h : PyR m x v ∧ PyR m y v ∧ Pd 60 16777216 v ∧ q (.bl true) m) : g_law_alike [x, y] m q := by unfold g_law_alike; exact ⟨x, y, v, rfl, h⟩
def t_law_alike : DS :=
    (dRet (dAnd (dBin dEqD (dVar 0) (dVar 1)) (dBin dEqD (dCallB dReprS (a1 (dVar 0))) (dCallB dReprS (a1 (dVar 1))))))
theorem r_law_alike (dz : List D) (m : Sto) (q : D → Sto → Prop) (hl : dz.length = 2) (h : g_law_alike dz m q) : t_law_alike { nx := fun _ m' => q .non m', rt := q } (startD N_law_alike dz) m := by
  unfold g_law_alike at h
  obtain ⟨x, y, v, rfl, h⟩ := h
  unfold t_law_alike
  obtain ⟨hx, hy, p, h⟩ := h
  have p' : Sd 60 sizeLine _ := (p.mono (Nat.le_refl _) (by rw [sizeLine_eq]; exact Nat.le_refl _)).sd
  ((conv => whnf); (try (set_option simprocs false in dsimp only [])))
  refine eqD_same hx hy p ?_
  ((conv => whnf); (try (set_option simprocs false in dsimp only [])))
  refine bt ?_
  ((conv => whnf); (try (set_option simprocs false in dsimp only [])))
  refine reprS_i hx p' ?_
  ((conv => whnf); (try (set_option simprocs false in dsimp only [])))
  refine reprS_i hy p' ?_
  ((conv => whnf); (try (set_option simprocs false in dsimp only [])))
  rw [decide_eq_true rfl]
  exact h
@[irreducible] def g_law_copy_rec (n : Nat) : FN := fun dz m q => ∃ d v, dz = [d] ∧ PyR m d v ∧ cplP v n = true ∧ q (al v m.length).1 (m ++ (al v m.length).2)
theorem i_law_copy_rec {n : Nat} {d : D} {v : PyData} {m : Sto} {q : D → Sto → Prop} (h : PyR m d v) (c : cplP v n = true) (k : q (al v m.length).1 (m ++ (al v m.length).2)) : g_law_copy_rec n [d] m q := by unfold g_law_copy_rec; exact ⟨d, v, rfl, h, c, k⟩
theorem ar_law_copy_rec (n : Nat) : ∀ ds m q, g_law_copy_rec n ds m q → ds.length = 1 := by
  unfold g_law_copy_rec
  rintro _ m q ⟨_, _, rfl, _⟩; rfl
theorem never_law_copy : ∀ ds m q, ¬ g_law_copy_rec 0 ds m q := by
  unfold g_law_copy_rec
  rintro _ m q ⟨d, v, rfl, _, c, _⟩
  exact cplP_pos c
abbrev g_law_copy : FN := g_law_copy_rec 6
def t_law_copy (gr : FN) : DS :=
    (dSeq (dIf (dTest (dIsi .list (dVar 0))) (dRet (dLcP 1 (dIter (dVar 0)) dYes (dCallB gr (dCons (dVar 1) dNil)))) dNext)
    (dSeq (dIf (dTest (dIsi .tuple (dVar 0))) (dRet (dCallB dTuple (a1 (dLc 1 (dIter (dVar 0)) dYes (dCallB gr (dCons (dVar 1) dNil)))))) dNext)
    (dRet (dVar 0))))
theorem r_law_copy (n : Nat) (dz : List D) (m : Sto) (q : D → Sto → Prop) (hl : dz.length = 1) (h : g_law_copy_rec (n + 1) dz m q) : t_law_copy (g_law_copy_rec n) { nx := fun _ m' => q .non m', rt := q } (startD N_law_copy dz) m := by
  unfold g_law_copy_rec at h
  obtain ⟨d, v, rfl, hv, c, k⟩ := h
  unfold t_law_copy
  have parts : ∀ {vs : List PyData}, (decide (0 < n + 1) && (decide (vs.length ≤ 1000000) && cplA vs n)) = true → vs.length ≤ 1000000 ∧ cplA vs n = true := fun h => by
    simp only [Bool.and_eq_true, decide_eq_true_eq] at h
    exact h.2
  cases v with
  | list vs =>
    simp only [cplP, Nat.add_sub_cancel] at c
    obtain ⟨c1, c2⟩ := parts c
    obtain ⟨ds, hs, ra⟩ := hv.seq
    obtain ⟨o, hi, ho⟩ := items_of_seq hs
    have hl := ra.len
    ((conv => whnf); (try (set_option simprocs false in dsimp only [])))
    rw [hv.kd]
    refine bt ?_
    ((conv => whnf); (try (set_option simprocs false in dsimp only [])))
    rw [hi]
    ((conv => whnf); (try (set_option simprocs false in dsimp only [])))
    refine ⟨by omega, ?_⟩
    refine copy_lcs (fun d v m q a b e => i_law_copy_rec a b e) (fun x => rfl) (fun c => okP_app c ho) ra c2 ?_
    simp only [al] at k
    rw [List.length_append, List.append_assoc]
    exact k
  | tuple vs =>
    simp only [cplP, Nat.add_sub_cancel] at c
    obtain ⟨c1, c2⟩ := parts c
    obtain ⟨ds, rfl, ra⟩ := hv.tup_eq
    have hl := ra.len
    ((conv => whnf); (repeat ((first | refine ⟨Nat.le_of_ble_eq_true rfl, ?_⟩ | refine bt ?_ | refine bf ?_); (conv => whnf))); (try (set_option simprocs false in dsimp only [])))
    refine ⟨by omega, copy_lcs (ok := fun _ => True) (fun d v m q a b e => i_law_copy_rec a b e) (fun x => rfl) (fun _ => trivial) ra c2 ?_⟩
    simp only [al] at k
    ((conv => whnf); (repeat ((first | refine ⟨Nat.le_of_ble_eq_true rfl, ?_⟩ | refine bt ?_ | refine bf ?_); (conv => whnf))); (try (set_option simprocs false in dsimp only [])))
    exact k
  | dict l => simp only [cplP] at c; cases c
  | int i => simp only [al, List.append_nil] at k; obtain rfl := hv.int_eq; ((conv => whnf); (repeat ((first | refine ⟨Nat.le_of_ble_eq_true rfl, ?_⟩ | refine bt ?_ | refine bf ?_); (conv => whnf))); (try (set_option simprocs false in dsimp only []))); exact k
  | str x => simp only [al, List.append_nil] at k; obtain rfl := hv.str_eq; ((conv => whnf); (repeat ((first | refine ⟨Nat.le_of_ble_eq_true rfl, ?_⟩ | refine bt ?_ | refine bf ?_); (conv => whnf))); (try (set_option simprocs false in dsimp only []))); exact k
  | bool b => simp only [al, List.append_nil] at k; obtain rfl := hv.bl_eq; ((conv => whnf); (repeat ((first | refine ⟨Nat.le_of_ble_eq_true rfl, ?_⟩ | refine bt ?_ | refine bf ?_); (conv => whnf))); (try (set_option simprocs false in dsimp only []))); exact k
  | none => simp only [al, List.append_nil] at k; obtain rfl := hv.non_eq; ((conv => whnf); (repeat ((first | refine ⟨Nat.le_of_ble_eq_true rfl, ?_⟩ | refine bt ?_ | refine bf ?_); (conv => whnf))); (try (set_option simprocs false in dsimp only []))); exact k
@[irreducible] def g_copy_part_rec (n : Nat) : FN := fun dz m q => ∃ d v, dz = [d] ∧ PyR m d v ∧ cplP v n = true ∧ q (al v m.length).1 (m ++ (al v m.length).2)
theorem i_copy_part_rec {n : Nat} {d : D} {v : PyData} {m : Sto} {q : D → Sto → Prop} (h : PyR m d v) (c : cplP v n = true) (k : q (al v m.length).1 (m ++ (al v m.length).2)) : g_copy_part_rec n [d] m q := by unfold g_copy_part_rec; exact ⟨d, v, rfl, h, c, k⟩
theorem ar_copy_part_rec (n : Nat) : ∀ ds m q, g_copy_part_rec n ds m q → ds.length = 1 := by
  unfold g_copy_part_rec
  rintro _ m q ⟨_, _, rfl, _⟩; rfl
theorem never_copy_part : ∀ ds m q, ¬ g_copy_part_rec 0 ds m q := by
  unfold g_copy_part_rec
  rintro _ m q ⟨d, v, rfl, _, c, _⟩
  exact cplP_pos c
abbrev g_copy_part : FN := g_copy_part_rec 6
def t_copy_part (gr : FN) : DS :=
    (dSeq (dIf (dTest (dIsi .list (dVar 0))) (dRet (dLcP 1 (dIter (dVar 0)) dYes (dCallB gr (dCons (dVar 1) dNil)))) dNext)
    (dSeq (dIf (dTest (dIsi .tuple (dVar 0))) (dRet (dCallB dTuple (a1 (dLc 1 (dIter (dVar 0)) dYes (dCallB gr (dCons (dVar 1) dNil)))))) dNext)
    (dRet (dVar 0))))
theorem r_copy_part (n : Nat) (dz : List D) (m : Sto) (q : D → Sto → Prop) (hl : dz.length = 1) (h : g_copy_part_rec (n + 1) dz m q) : t_copy_part (g_copy_part_rec n) { nx := fun _ m' => q .non m', rt := q } (startD N_copy_part dz) m := by
  unfold g_copy_part_rec at h
  obtain ⟨d, v, rfl, hv, c, k⟩ := h
  unfold t_copy_part
  have parts : ∀ {vs : List PyData}, (decide (0 < n + 1) && (decide (vs.length ≤ 1000000) && cplA vs n)) = true → vs.length ≤ 1000000 ∧ cplA vs n = true := fun h => by
    simp only [Bool.and_eq_true, decide_eq_true_eq] at h
    exact h.2
  cases v with
  | list vs =>
    simp only [cplP, Nat.add_sub_cancel] at c
    obtain ⟨c1, c2⟩ := parts c
    obtain ⟨ds, hs, ra⟩ := hv.seq
    obtain ⟨o, hi, ho⟩ := items_of_seq hs
    have hl := ra.len
    ((conv => whnf); (try (set_option simprocs false in dsimp only [])))
    rw [hv.kd]
    refine bt ?_
    ((conv => whnf); (try (set_option simprocs false in dsimp only [])))
    rw [hi]
    ((conv => whnf); (try (set_option simprocs false in dsimp only [])))
    refine ⟨by omega, ?_⟩
    refine copy_lcs (fun d v m q a b e => i_copy_part_rec a b e) (fun x => rfl) (fun c => okP_app c ho) ra c2 ?_
    simp only [al] at k
    rw [List.length_append, List.append_assoc]
    exact k
  | tuple vs =>
    simp only [cplP, Nat.add_sub_cancel] at c
    obtain ⟨c1, c2⟩ := parts c
    obtain ⟨ds, rfl, ra⟩ := hv.tup_eq
    have hl := ra.len
    ((conv => whnf); (repeat ((first | refine ⟨Nat.le_of_ble_eq_true rfl, ?_⟩ | refine bt ?_ | refine bf ?_); (conv => whnf))); (try (set_option simprocs false in dsimp only [])))
    refine ⟨by omega, copy_lcs (ok := fun _ => True) (fun d v m q a b e => i_copy_part_rec a b e) (fun x => rfl) (fun _ => trivial) ra c2 ?_⟩
    simp only [al] at k
    ((conv => whnf); (repeat ((first | refine ⟨Nat.le_of_ble_eq_true rfl, ?_⟩ | refine bt ?_ | refine bf ?_); (conv => whnf))); (try (set_option simprocs false in dsimp only [])))
    exact k
  | dict l => simp only [cplP] at c; cases c
  | int i => simp only [al, List.append_nil] at k; obtain rfl := hv.int_eq; ((conv => whnf); (repeat ((first | refine ⟨Nat.le_of_ble_eq_true rfl, ?_⟩ | refine bt ?_ | refine bf ?_); (conv => whnf))); (try (set_option simprocs false in dsimp only []))); exact k
  | str x => simp only [al, List.append_nil] at k; obtain rfl := hv.str_eq; ((conv => whnf); (repeat ((first | refine ⟨Nat.le_of_ble_eq_true rfl, ?_⟩ | refine bt ?_ | refine bf ?_); (conv => whnf))); (try (set_option simprocs false in dsimp only []))); exact k
  | bool b => simp only [al, List.append_nil] at k; obtain rfl := hv.bl_eq; ((conv => whnf); (repeat ((first | refine ⟨Nat.le_of_ble_eq_true rfl, ?_⟩ | refine bt ?_ | refine bf ?_); (conv => whnf))); (try (set_option simprocs false in dsimp only []))); exact k
  | none => simp only [al, List.append_nil] at k; obtain rfl := hv.non_eq; ((conv => whnf); (repeat ((first | refine ⟨Nat.le_of_ble_eq_true rfl, ?_⟩ | refine bt ?_ | refine bf ?_); (conv => whnf))); (try (set_option simprocs false in dsimp only []))); exact k
@[irreducible] def g_copy_of : FN := fun dz m q => ∃ (d : D) (v : PyData), dz = [d] ∧ (PyR m d v ∧ cplP v 6 = true ∧ q (al v m.length).1 (m ++ (al v m.length).2))
theorem ar_copy_of : ∀ ds m q, g_copy_of ds m q → ds.length = 1 := by
  unfold g_copy_of
  rintro _ m q ⟨_, _, rfl, _⟩; rfl
theorem i_copy_of {d : D} {v : PyData} {m : Sto} {q : D → Sto → Prop} (h : PyR m d v ∧ cplP v 6 = true ∧ q (al v m.length).1 (m ++ (al v m.length).2)) : g_copy_of [d] m q := by unfold g_copy_of; exact ⟨d, v, rfl, h⟩
def t_copy_of : DS :=
    (dRet (dCallB g_copy_part (dCons (dVar 0) dNil)))
theorem r_copy_of (dz : List D) (m : Sto) (q : D → Sto → Prop) (hl : dz.length = 1) (h : g_copy_of dz m q) : t_copy_of { nx := fun _ m' => q .non m', rt := q } (startD N_copy_of dz) m := by
  unfold g_copy_of at h
  obtain ⟨d, v, rfl, h⟩ := h
  unfold t_copy_of
  obtain ⟨hv, c, h⟩ := h
  ((conv => whnf); (try (set_option simprocs false in dsimp only [])))
  exact i_copy_part_rec hv c h
theorem rows_ok {P : D → Int → Prop} {ds : List D} (h : RowsOk P ds) : ds.length ≤ 8 ∧ ∀ d ∈ ds, ∃ i, 0 ≤ i ∧ i ≤ 1000 ∧ P d i := by
  obtain ⟨ns, hr, mk, h1, h2⟩ := h
  refine ⟨h2, fun d hd => ?_⟩
  obtain ⟨i, hi, h⟩ := hr.all d hd
  exact ⟨i, mk.lo i hi, mk.hi i hi, h⟩
theorem gi {i : Int} (h0 : -(10 ^ 12) ≤ i) (h1 : i ≤ 10 ^ 12) : Gd 0 90 (.int i) := (gd_int (sm_le 41 (by omega) (by omega)) (by decide)).mono (by decide) (by decide)
theorem gnm {x : Str} (h : NameS 8 x) : Gd 0 90 (.str x) := (gd_name h).mono (by decide) (by decide)
theorem gsf {a b : Int} (f : SmF a b) : Gd 1 95 (fr a b) := (gd_fr f.fp.st f.fp.sb (by decide)).mono (by decide) (by decide)
theorem g0 {d : D} (h : Gd 0 90 d) {k : Nat} : Gd k 95 d := h.mono (by omega) (by decide)
theorem len_le_mul {a n b : Nat} (h : n ≤ b) : a * n + 3 ≤ a * b + 3 := Nat.add_le_add_right (Nat.mul_le_mul_left _ h) _
theorem gd_ints {ns : List Int} (h : ∀ i ∈ ns, 0 ≤ i ∧ i ≤ 1000) (hl : ns.length ≤ 8) : Gd 1 800 (.lst (ns.map D.int)) :=
  (gd_lst (k := 0) (c := 90) fun d hd => by
    obtain ⟨i, hi, rfl⟩ := List.mem_map.mp hd
    have := h i hi
    exact gi (by omega) (by omega)).mono (by decide) (by rw [List.length_map]; exact Nat.le_trans (len_le_mul hl) (by decide))
theorem gd_row {ds : List D} (h : ∀ d ∈ ds, Gd 1 800 d) (hl : ds.length ≤ 4) : Gd 2 3300 (.tup ds) := (gd_tup h).mono (by decide) (Nat.le_trans (len_le_mul hl) (by decide))
theorem gd_rows {ds : List D} (h : ∀ d ∈ ds, Gd 2 3300 d) (hl : ds.length ≤ 8) : Gd 3 27000 (.lst ds) := (gd_lst h).mono (by decide) (Nat.le_trans (len_le_mul hl) (by decide))
theorem gd_paper0 {ds : List D} (h : ∀ d ∈ ds, Gd 3 27000 d) (hl : ds.length ≤ 8) : Gd 4 220000 (.tup ds) := (gd_tup h).mono (by decide) (Nat.le_trans (len_le_mul hl) (by decide))
theorem to3 {k c : Nat} {d : D} (h : Gd k c d) (hk : k ≤ 3) (hc : c ≤ 27000) : Gd 3 27000 d := h.mono hk hc
theorem gd_trows {ds : List D} (h : RowsOk TRow ds) : Gd 3 27000 (.lst ds) := gd_rows (fun d hd => by
  obtain ⟨i, i0, i1, a, b, c, e, rfl, f, g, _⟩ := (rows_ok h).2 d hd
  exact gd_row (al1 ((gi (by omega) (by omega)).mono (by decide) (by decide)) (al1 ((gsf f).mono (by decide) (by decide)) (al1 ((gsf g).mono (by decide) (by decide)) al0))) (by simp)) (rows_ok h).1
theorem Spt.bd {ns : List Int} (h : Spt ns) : ∀ i ∈ ns, 0 ≤ i ∧ i ≤ 1000 := fun i hi => ⟨h.lo i hi, h.hi i hi⟩
theorem Mks.bd {ns : List Int} (h : Mks ns) : ∀ i ∈ ns, 0 ≤ i ∧ i ≤ 1000 := fun i hi => ⟨h.lo i hi, h.hi i hi⟩
theorem gd_hrows {ds : List D} (h : RowsOk HRow ds) : Gd 3 27000 (.lst ds) := gd_rows (fun d hd => by
  obtain ⟨i, i0, i1, ns, a, b, c, e, rfl, s, f, g, _⟩ := (rows_ok h).2 d hd
  exact gd_row (al1 ((gi (by omega) (by omega)).mono (by decide) (by decide)) (al1 (gd_ints s.bd (by have := s.le; omega)) (al1 ((gsf f).mono (by decide) (by decide)) (al1 ((gsf g).mono (by decide) (by decide)) al0)))) (by simp)) (rows_ok h).1
theorem gd_mrows {x : Str} {ds : List D} (h : RowsOk (MRowN x) ds) : Gd 3 27000 (.lst ds) := gd_rows (fun d hd => by
  obtain ⟨i, i0, i1, ⟨y, p, rfl, hy, p0, p1⟩, _⟩ := (rows_ok h).2 d hd
  exact gd_row (al1 ((gi (by omega) (by omega)).mono (by decide) (by decide)) (al1 ((gnm hy).mono (by decide) (by decide)) (al1 ((gi (by omega) (by omega)).mono (by decide) (by decide)) al0))) (by simp)) (rows_ok h).1
theorem gd_word {w : Str} (h : w ∈ (["thing", "off", "harmed", "mended", "made", "told", "held", "read"] : List Str)) : NameS 8 w := by
  simp only [List.mem_cons, List.not_mem_nil, or_false] at h
  rcases h with rfl | rfl | rfl | rfl | rfl | rfl | rfl | rfl <;> decide +kernel
theorem gd_paper {d : D} (h : Paper d) : Gd 4 220000 d := by
  cases h with
  | thing k day lev t b x sort ns k1 k2 d1 d2 hx hs l0 l5 f t0 =>
    have hm : Mks ns ∧ ns.length ≤ 8 ∧ NameS 8 sort := by
      rcases hs with ⟨rfl, q⟩ | ⟨rfl, q⟩
      · exact ⟨q.mks, q.le, by decide +kernel⟩
      · exact ⟨q.mks, q.le, by decide +kernel⟩
    exact gd_paper0 (al1 (to3 (gi (by omega) (by omega)) (by decide) (by decide)) (al1 (to3 (gi (by omega) (by omega)) (by decide) (by decide)) (al1 (to3 (gnm (x := "thing") (by decide +kernel)) (by decide) (by decide)) (al1 (to3 (gnm hx) (by decide) (by decide)) (al1 (to3 (gnm hm.2.2) (by decide) (by decide)) (al1 (to3 (gi (by omega) (by omega)) (by decide) (by decide)) (al1 (to3 (gsf f) (by decide) (by decide)) (al1 (to3 (gd_ints hm.1.bd hm.2.1) (by decide) (by decide)) al0)))))))) (by simp)
  | told k day term x ds k1 k2 d1 d2 hx t1 t2 hr =>
    exact gd_paper0 (al1 (to3 (gi (by omega) (by omega)) (by decide) (by decide)) (al1 (to3 (gi (by omega) (by omega)) (by decide) (by decide)) (al1 (to3 (gnm (x := "told") (by decide +kernel)) (by decide) (by decide)) (al1 (to3 (gnm hx) (by decide) (by decide)) (al1 (to3 (gi (by omega) (by omega)) (by decide) (by decide)) (al1 (gd_trows hr) al0)))))) (by simp)
  | held k day term x y ds k1 k2 d1 d2 hx hy t1 t2 hr =>
    exact gd_paper0 (al1 (to3 (gi (by omega) (by omega)) (by decide) (by decide)) (al1 (to3 (gi (by omega) (by omega)) (by decide) (by decide)) (al1 (to3 (gnm (x := "held") (by decide +kernel)) (by decide) (by decide)) (al1 (to3 (gnm hx) (by decide) (by decide)) (al1 (to3 (gnm hy) (by decide) (by decide)) (al1 (to3 (gi (by omega) (by omega)) (by decide) (by decide)) (al1 (gd_hrows hr) al0))))))) (by simp)
  | made k day t b x ds k1 k2 d1 d2 hx f t0 hr hd =>
    exact gd_paper0 (al1 (to3 (gi (by omega) (by omega)) (by decide) (by decide)) (al1 (to3 (gi (by omega) (by omega)) (by decide) (by decide)) (al1 (to3 (gnm (x := "made") (by decide +kernel)) (by decide) (by decide)) (al1 (to3 (gnm hx) (by decide) (by decide)) (al1 (to3 (gsf f) (by decide) (by decide)) (al1 (gd_mrows hr) al0)))))) (by simp)
  | read k day x ns k1 k2 d1 d2 hx hs =>
    exact gd_paper0 (al1 (to3 (gi (by omega) (by omega)) (by decide) (by decide)) (al1 (to3 (gi (by omega) (by omega)) (by decide) (by decide)) (al1 (to3 (gnm (x := "read") (by decide +kernel)) (by decide) (by decide)) (al1 (to3 (gnm hx) (by decide) (by decide)) (al1 (to3 (gd_ints hs.bd (by have := hs.le; omega)) (by decide) (by decide)) al0))))) (by simp)
  | plain k day w x k1 k2 d1 d2 hw hx =>
    have hw' : NameS 8 w := by rcases hw with rfl | rfl | rfl <;> decide +kernel
    exact gd_paper0 (al1 (to3 (gi (by omega) (by omega)) (by decide) (by decide)) (al1 (to3 (gi (by omega) (by omega)) (by decide) (by decide)) (al1 (to3 (gnm hw') (by decide) (by decide)) (al1 (to3 (gnm hx) (by decide) (by decide)) al0)))) (by simp)
theorem gd_papers {ds : List D} (h : ∀ d ∈ ds, Paper d) (hl : ds.length ≤ 8) : Gd 5 1800000 (.lst ds) := (gd_lst fun d hd => gd_paper (h d hd)).mono (by decide) (Nat.le_trans (len_le_mul hl) (by decide))
end K34
namespace K34
open PySem PySem.Spec PyProof.Rows L2 DL
theorem name_wrd {x : Str} (h : NameS 8 x) : Wrd x := ⟨by have := h.parts.2.1; omega, fun c hc => by have := h.parts.2.2 c hc; omega⟩
theorem smf_frs {t b : Int} (f : SmF t b) : FrS t b := ⟨f.fp.pos, f.fp.cop, f.fp.st, f.fp.sb⟩
theorem okW_int {n : Nat} {i : Int} (h1 : -(10 ^ 12) ≤ i) (h2 : i ≤ 10 ^ 12) : OkW (n + 1) (.int i) := sm_le 41 (by omega) (by omega)
theorem okW_name {n : Nat} {x : Str} (h : NameS 8 x) : OkW (n + 1) (.str x) := name_wrd h
theorem okW_fr {n : Nat} {t b : Int} (f : SmF t b) : OkW (n + 1) (.tuple [.int t, .int b]) := ⟨t, b, rfl, smf_frs f⟩
theorem okW_ints {n : Nat} {ns : List Int} (h : ∀ i ∈ ns, 0 ≤ i ∧ i ≤ 1000) (h1 : 1 ≤ ns.length) (h8 : ns.length ≤ 8) : OkW (n + 1) (.list (ns.map PyData.int)) :=
  ⟨by rw [List.length_map]; exact h1, by rw [List.length_map]; exact h8, .inl ⟨ns, rfl, fun i hi => sm_le 41 (by have := h i hi; omega) (by have := h i hi; omega)⟩⟩
theorem al1P {P : PyData → Prop} {x : PyData} {L : List PyData} (h : P x) (t : ∀ d ∈ L, P d) : ∀ d ∈ x :: L, P d := al1 h t
theorem rows_okW {P : D → Int → Prop} (hrow : ∀ d i, P d i → 0 ≤ i → i ≤ 1000 → ∃ ws, py0 d = some (.tuple ws) ∧ ws.length ≤ 4 ∧ (∀ u ∈ ws, OkW 1 u) ∧ cplP (.tuple ws) 4 = true) :
    ∀ {ds : List D} {ns : List Int}, RowsP P ds ns → (∀ i ∈ ns, 0 ≤ i ∧ i ≤ 1000) → ∃ rs, py0A ds = some rs ∧ rs.length = ds.length ∧ (∀ r ∈ rs, ∃ ws, r = .tuple ws ∧ ws.length ≤ 4 ∧ ∀ u ∈ ws, OkW 1 u) ∧ cplA rs 4 = true
  | _, _, .nil, _ => ⟨[], rfl, rfl, (fun r z => nomatch z), rfl⟩
  | _, _, @RowsP.cons _ d i ds ns p r, hb => by
    obtain ⟨rs, h1, h2, h3, h4⟩ := rows_okW hrow r fun j hj => hb j (List.mem_cons_of_mem _ hj)
    have bi := hb i List.mem_cons_self
    obtain ⟨u, g1, g2, g3, g4⟩ := hrow d i p bi.1 bi.2
    refine ⟨.tuple u :: rs, by simp only [py0A, g1, h1], by rw [List.length_cons, List.length_cons, h2], fun x hx => ?_, by simp only [cplA, g4, h4, Bool.and_self]⟩
    rcases List.mem_cons.mp hx with z | z
    · exact ⟨u, z, g2, g3⟩
    · exact h3 x z
theorem rows_list {P : D → Int → Prop} (hrow : ∀ d i, P d i → 0 ≤ i → i ≤ 1000 → ∃ ws, py0 d = some (.tuple ws) ∧ ws.length ≤ 4 ∧ (∀ u ∈ ws, OkW 1 u) ∧ cplP (.tuple ws) 4 = true) {ds : List D} (h : RowsOk P ds) : ∃ rs, py0A ds = some rs ∧ OkW 2 (.list rs) ∧ cplP (.list rs) 5 = true ∧ rs.length = ds.length := by
  obtain ⟨ns, hr, mk, l1, l8⟩ := h
  obtain ⟨rs, h1, h2, h3, h4⟩ := rows_okW hrow hr mk.bd
  refine ⟨rs, h1, ⟨by omega, by omega, .inr h3⟩, ?_, h2⟩
  rw [cplP, h4, decide_eq_true (by omega : rs.length ≤ 1000000)]; rfl
theorem trow_okW (d : D) (i : Int) (h : TRow d i) (i0 : 0 ≤ i) (i1 : i ≤ 1000) : ∃ ws, py0 d = some (.tuple ws) ∧ ws.length ≤ 4 ∧ (∀ u ∈ ws, OkW 1 u) ∧ cplP (.tuple ws) 4 = true := by
  obtain ⟨a, b, c, e, rfl, f, g, _⟩ := h
  exact ⟨_, rfl, by simp, al1P (okW_int (by omega) (by omega)) (al1P (okW_fr f) (al1P (okW_fr g) al0)), rfl⟩
theorem py0_ints (ns : List Int) : py0 (.lst (ns.map D.int)) = some (.list (ns.map PyData.int)) := by simp only [py0, py0A_ints, Option.map_some]
theorem cpl_ints {n : Nat} {ns : List Int} : cplA (ns.map PyData.int) (n + 1) = true := cplA_of fun v hv => by
  obtain ⟨i, _, rfl⟩ := List.mem_map.mp hv
  simp [cplP]
theorem hrow_okW (d : D) (i : Int) (h : HRow d i) (i0 : 0 ≤ i) (i1 : i ≤ 1000) : ∃ ws, py0 d = some (.tuple ws) ∧ ws.length ≤ 4 ∧ (∀ u ∈ ws, OkW 1 u) ∧ cplP (.tuple ws) 4 = true := by
  obtain ⟨ns, a, b, c, e, rfl, s, f, g, _⟩ := h
  have := s.le
  refine ⟨[.int i, .list (ns.map PyData.int), .tuple [.int a, .int b], .tuple [.int c, .int e]], ?_, by simp, al1P (okW_int (by omega) (by omega)) (al1P (okW_ints s.bd s.ne (by omega)) (al1P (okW_fr f) (al1P (okW_fr g) al0))), ?_⟩
  · simp only [py0, py0A, py0A_ints, Option.map_some]
  · have z : cplA (ns.map PyData.int) 2 = true := cpl_ints
    simp only [cplP, cplA, z, List.length_map, decide_eq_true (show ns.length ≤ 1000000 by omega)]
    rfl
theorem mrow_okW {x : Str} (d : D) (i : Int) (h : MRowN x d i) (i0 : 0 ≤ i) (i1 : i ≤ 1000) : ∃ ws, py0 d = some (.tuple ws) ∧ ws.length ≤ 4 ∧ (∀ u ∈ ws, OkW 1 u) ∧ cplP (.tuple ws) 4 = true := by
  obtain ⟨⟨y, p, rfl, hy, p0, p1⟩, _⟩ := h
  exact ⟨_, rfl, by simp, al1P (okW_int (by omega) (by omega)) (al1P (okW_name hy) (al1P (okW_int (by omega) (by omega)) al0)), rfl⟩
/-- a paper with a list, as data that can be written -/
structure PV (hs es : List D) (init ws : List PyData) : Prop where
  hs : py0A hs = some init
  es : py0A es = some ws
  cpl : cplP (.tuple (init ++ [.list ws])) 6 = true
  flat : flatA init = true
  ok : ∀ v ∈ init ++ [.list ws], OkW 2 v
  len : (init ++ [PyData.list ws]).length ≤ 8
theorem cplA_app {n : Nat} {vs us : List PyData} (h1 : cplA vs n = true) (h2 : cplA us n = true) : cplA (vs ++ us) n = true := cplA_of fun v hv => by
  rcases List.mem_append.mp hv with z | z
  · exact cplA_mem h1 v z
  · exact cplA_mem h2 v z
theorem pv_of {hs es : List D} {init ws : List PyData} (e1 : py0A hs = some init) (e2 : py0A es = some ws) (c : cplA init 5 = true) (cw : cplP (.list ws) 5 = true) (fl : flatA init = true) (oi : ∀ v ∈ init, OkW 2 v) (ow : OkW 2 (.list ws)) (l : init.length ≤ 7) : PV hs es init ws where
  hs := e1
  es := e2
  cpl := by
    have z : cplA (init ++ [.list ws]) 5 = true := cplA_app c (by simp only [cplA, cw, Bool.and_self])
    rw [cplP, z, decide_eq_true (show (init ++ [PyData.list ws]).length ≤ 1000000 by rw [List.length_append, List.length_singleton]; omega)]
    rfl
  flat := fl
  ok := fun v hv => by
    rcases List.mem_append.mp hv with z | z
    · exact oi v z
    · rw [List.mem_singleton.mp z]; exact ow
  len := by rw [List.length_append, List.length_singleton]; omega
theorem cpl_ints5 {ns : List Int} (h : ns.length ≤ 8) : cplP (.list (ns.map PyData.int)) 5 = true := by
  have z : cplA (ns.map PyData.int) 4 = true := cpl_ints
  rw [cplP, z, List.length_map, decide_eq_true (show ns.length ≤ 1000000 by omega)]; rfl
theorem okW_word {n : Nat} {x : Str} (h1 : x.length ≤ 400) (h2 : ∀ c ∈ x.cps.toList, c < 1114112) : OkW (n + 1) (.str x) := ⟨h1, h2⟩
theorem paper_pv {d : D} (h : Paper d) : (∃ hs es init ws, d = .tup (hs ++ [.lst es]) ∧ PV hs es init ws) ∨ (∃ k day w x, d = .tup [.int k, .int day, .str w, .str x] ∧ ∀ v ∈ [PyData.int k, .int day, .str w, .str x], OkW 2 v) := by
  cases h with
  | thing k day lev t b x sort ns k1 k2 d1 d2 hx hs l0 l5 f t0 =>
    obtain ⟨hm, h8, h1, hsl, hsc⟩ : Mks ns ∧ ns.length ≤ 8 ∧ 1 ≤ ns.length ∧ sort.length ≤ 400 ∧ (∀ c ∈ sort.cps.toList, c < 1114112) := by
      rcases hs with ⟨rfl, q⟩ | ⟨rfl, q⟩
      · exact ⟨q.mks, q.le, by have := q.ge; omega, by decide, by decide⟩
      · exact ⟨q.mks, q.le, q.ge, by decide, by decide⟩
    exact .inl ⟨[.int k, .int day, .str "thing", .str x, .str sort, .int lev, fr t b], ns.map D.int, [.int k, .int day, .str "thing", .str x, .str sort, .int lev, .tuple [.int t, .int b]], ns.map PyData.int, rfl, pv_of rfl (py0A_ints ns) rfl (cpl_ints5 h8) rfl
      (al1P (okW_int (by omega) (by omega)) (al1P (okW_int (by omega) (by omega)) (al1P (okW_word (by decide) (by decide)) (al1P (okW_name hx) (al1P (okW_word hsl hsc) (al1P (okW_int (by omega) (by omega)) (al1P (okW_fr f) al0))))))) (okW_ints hm.bd h1 h8) (by simp)⟩
  | told k day term x ds k1 k2 d1 d2 hx t1 t2 hr =>
    obtain ⟨rs, e1, e2, e3, _⟩ := rows_list trow_okW hr
    exact .inl ⟨[.int k, .int day, .str "told", .str x, .int term], ds, [.int k, .int day, .str "told", .str x, .int term], rs, rfl, pv_of rfl e1 rfl e3 rfl
      (al1P (okW_int (by omega) (by omega)) (al1P (okW_int (by omega) (by omega)) (al1P (okW_word (by decide) (by decide)) (al1P (okW_name hx) (al1P (okW_int (by omega) (by omega)) al0))))) e2 (by simp)⟩
  | held k day term x y ds k1 k2 d1 d2 hx hy t1 t2 hr =>
    obtain ⟨rs, e1, e2, e3, _⟩ := rows_list hrow_okW hr
    exact .inl ⟨[.int k, .int day, .str "held", .str x, .str y, .int term], ds, [.int k, .int day, .str "held", .str x, .str y, .int term], rs, rfl, pv_of rfl e1 rfl e3 rfl
      (al1P (okW_int (by omega) (by omega)) (al1P (okW_int (by omega) (by omega)) (al1P (okW_word (by decide) (by decide)) (al1P (okW_name hx) (al1P (okW_name hy) (al1P (okW_int (by omega) (by omega)) al0)))))) e2 (by simp)⟩
  | made k day t b x ds k1 k2 d1 d2 hx f t0 hr hd =>
    obtain ⟨rs, e1, e2, e3, _⟩ := rows_list mrow_okW hr
    exact .inl ⟨[.int k, .int day, .str "made", .str x, fr t b], ds, [.int k, .int day, .str "made", .str x, .tuple [.int t, .int b]], rs, rfl, pv_of rfl e1 rfl e3 rfl
      (al1P (okW_int (by omega) (by omega)) (al1P (okW_int (by omega) (by omega)) (al1P (okW_word (by decide) (by decide)) (al1P (okW_name hx) (al1P (okW_fr f) al0))))) e2 (by simp)⟩
  | read k day x ns k1 k2 d1 d2 hx s =>
    have := s.le
    exact .inl ⟨[.int k, .int day, .str "read", .str x], ns.map D.int, [.int k, .int day, .str "read", .str x], ns.map PyData.int, rfl, pv_of rfl (py0A_ints ns) rfl (cpl_ints5 (by omega)) rfl
      (al1P (okW_int (by omega) (by omega)) (al1P (okW_int (by omega) (by omega)) (al1P (okW_word (by decide) (by decide)) (al1P (okW_name hx) al0)))) (okW_ints s.bd s.ne (by omega)) (by simp)⟩
  | plain k day w x k1 k2 d1 d2 hw hx =>
    refine .inr ⟨k, day, w, x, rfl, al1P (okW_int (by omega) (by omega)) (al1P (okW_int (by omega) (by omega)) (al1P (okW_word ?_ ?_) (al1P (okW_name hx) al0)))⟩
    · rcases hw with rfl | rfl | rfl <;> decide
    · rcases hw with rfl | rfl | rfl <;> decide
end K34
namespace K34
open PySem PySem.Spec PyProof.Rows L2 DL
theorem none_kept {i : Nat} {tt : DT} {te : DE} {ok : Sto → Prop} {r : DSt} {q : List D → Sto → Prop} {ds : List D} {m : Sto} (htt : ∀ x (N : Bool → Sto → Prop), N false m → tt (put r i x) m N) (hok : ok m) (k : q [] m) : lcI i tt te ok ds r [] m q := by
  refine lc_indT (fun xs acc m' => m' = m ∧ acc = []) ?_ ?_ ?_ _ _ _ ⟨rfl, rfl⟩
  · rintro x xs acc m' N N0 ⟨rfl, rfl⟩ h1 h2
    exact htt x _ ⟨fun z => (by cases z), fun _ => h2 _ ⟨rfl, rfl⟩⟩
  · rintro xs acc m' ⟨rfl, _⟩; exact hok
  · rintro acc m' ⟨rfl, rfl⟩; exact k
theorem all_kept {i : Nat} {tt : DT} {ok : Sto → Prop} {r : DSt} {q : List D → Sto → Prop} {ds : List D} {m : Sto} (htt : ∀ x (N : Bool → Sto → Prop), N true m → tt (put r i x) m N) (hr : ∀ x, slot (put r i x) i = some x) (hok : ok m) (k : q ds m) : lcI i tt (dVar i) ok ds r [] m q := by
  refine lc_indT (fun xs acc m' => m' = m ∧ acc ++ xs = ds) ?_ ?_ ?_ _ _ _ ⟨rfl, rfl⟩
  · rintro x xs acc m' N N0 ⟨rfl, e⟩ h1 h2
    refine htt x _ ⟨fun _ => ?_, fun z => (by cases z)⟩
    show onS (slot (put r i x) i) _
    rw [hr]
    exact h1 _ _ ⟨rfl, by rw [List.append_assoc]; exact e⟩
  · rintro xs acc m' ⟨rfl, _⟩; exact hok
  · rintro acc m' ⟨rfl, e⟩; rw [List.append_nil] at e; rw [e]; exact k
theorem py0A_cons {d : D} {ds : List D} {v : PyData} {vs : List PyData} (e : py0 d = some v) (h : py0A (d :: ds) = some vs) : ∃ us, vs = v :: us ∧ py0A ds = some us := by
  cases e2 : py0A ds with
  | none => simp only [py0A, e, e2] at h; cases h
  | some us =>
    simp only [py0A, e, e2, Option.some.injEq] at h
    exact ⟨us, h.symm, rfl⟩
theorem rows_isRows {P : D → Int → Prop} (hrow : ∀ d i, P d i → 0 ≤ i → i ≤ 1000 → ∃ ws, py0 d = some (.tuple ws) ∧ ws.length ≤ 4 ∧ (∀ u ∈ ws, OkW 1 u) ∧ cplP (.tuple ws) 4 = true) {ds : List D} {rs : List PyData} (h : RowsOk P ds) (e : py0A ds = some rs) : isRows rs = true := by
  obtain ⟨ns, hr, mk, l1, l8⟩ := h
  obtain ⟨us, h1, h2, h3, h4⟩ := rows_okW hrow hr mk.bd
  rw [e] at h1
  cases h1
  cases rs with
  | nil => exact absurd h2 (by intro z; rw [← z] at l1; exact absurd l1 (by decide))
  | cons r rs =>
    obtain ⟨ws, rfl, _⟩ := h3 r List.mem_cons_self
    rfl
theorem forD_nil {g : DG} {tb : DS} {d : DEnds} {ok : Sto → Prop} {r : DSt} {m : Sto} (o : ok m) (h : d.nx r m) : forD g tb d ok [] r m := by
  refine forD_ind (fun xs r' m' => xs = [] ∧ r' = r ∧ m' = m) ?_ ?_ ?_ _ _ _ ⟨rfl, rfl, rfl⟩
  · rintro _ _ _ _ _ ⟨e, _⟩; cases e
  · rintro _ _ _ ⟨_, _, rfl⟩; exact o
  · rintro _ _ ⟨_, rfl, rfl⟩; exact h
theorem new_lst (m : Sto) (ds : List D) : lstOf (.ptr m.length) (m ++ [Cell.lst ds]) = some ds := lstOf_ptr (by rw [List.getElem?_append_right (Nat.le_refl _), Nat.sub_self]; rfl)
theorem set_new (m : Sto) (x y : Cell) : (m ++ [x]).set m.length y = m ++ [y] := by simp
theorem new_at (m : Sto) (ds : List D) : seqL (.ptr m.length) (m ++ [Cell.lst ds]) = some ds := lstOf_ptr (by rw [List.getElem?_append_right (Nat.le_refl _), Nat.sub_self]; rfl)
theorem cut_init {α : Type} (xs : List α) (x : α) : DL.cutD (xs ++ [x]) none (some (-1)) = xs := by
  unfold DL.cutD
  have e : HT.sIx (xs ++ [x]).length (xs ++ [x]).length (some (-1)) = xs.length := by
    show (if (-1 : Int) < 0 then ((-1 : Int) + ((xs ++ [x]).length : Int)).toNat else min (-1 : Int).toNat (xs ++ [x]).length) = _
    rw [if_pos (by decide), List.length_append, List.length_singleton]
    omega
  rw [e]
  show ((xs ++ [x]).drop 0).take (xs.length - 0) = xs
  simp
theorem set_mid {α : Type} (a b : List α) (x y : α) : (a ++ (b ++ [x])).set (a.length + b.length) y = a ++ (b ++ [y]) := by
  rw [List.set_append_right _ _ (Nat.le_add_right _ _), Nat.add_sub_cancel_left, List.set_append_right _ _ (Nat.le_refl _), Nat.sub_self]; rfl
theorem get_mid {α : Type} (a b : List α) (x : α) : (a ++ (b ++ [x]))[a.length + b.length]? = some x := by
  rw [List.getElem?_append_right (Nat.le_add_right _ _), Nat.add_sub_cancel_left, List.getElem?_append_right (Nat.le_refl _), Nat.sub_self]; rfl
theorem py0A_app : ∀ {ds es : List D} {vs us : List PyData}, py0A ds = some vs → py0A es = some us → py0A (ds ++ es) = some (vs ++ us)
  | [], _, _, _, e, h => by cases e; exact h
  | d :: ds, es, vs, us, e, h => by
    cases e1 : py0 d with
    | none => simp only [py0A, e1] at e; cases e
    | some p =>
      cases e2 : py0A ds with
      | none => simp only [py0A, e1, e2] at e; cases e
      | some qs =>
        simp only [py0A, e1, e2, Option.some.injEq] at e
        subst e
        simp only [List.cons_append, py0A, e1, py0A_app e2 h]
theorem pv_py {hs es : List D} {init ws : List PyData} (V : PV hs es init ws) : py0 (.tup (hs ++ [.lst es])) = some (.tuple (init ++ [.list ws])) := by
  have z : py0A [D.lst es] = some [.list ws] := by simp only [py0A, py0, V.es, Option.map_some]
  simp only [py0, py0A_app V.hs z, Option.map_some]
theorem snoc_inj {α : Type} {a b : List α} {x y : α} (h : a ++ [x] = b ++ [y]) : a = b ∧ x = y := by
  obtain ⟨h1, h2⟩ := List.append_inj' h rfl
  exact ⟨h1, by injection h2⟩
theorem pv_at {hs es : List D} (h : Paper (.tup (hs ++ [.lst es]))) : ∃ init ws, PV hs es init ws := by
  rcases paper_pv h with ⟨hs', es', init, ws, e, V⟩ | ⟨k, day, w, x, e, _⟩
  · injection e with e
    obtain ⟨rfl, e2⟩ := snoc_inj e
    injection e2 with e2
    subst e2
    exact ⟨init, ws, V⟩
  · injection e with e
    have z : hs ++ [D.lst es] = [.int k, .int day, .str w] ++ [.str x] := e
    obtain ⟨_, e2⟩ := snoc_inj z
    cases e2
/-- papers as data -/
theorem papers_py : ∀ {ds : List D}, (∀ d ∈ ds, Paper d) → ∃ vs : List PyData, py0A ds = some vs ∧ vs.length = ds.length ∧ cplA vs 6 = true ∧ (∀ (i : Nat) (d : D), ds[i]? = some d → ∃ us : List PyData, vs[i]? = some (PyData.tuple us) ∧ py0 d = some (.tuple us) ∧ (∀ v ∈ us, OkW 2 v) ∧ us.length ≤ 8)
  | [], _ => ⟨[], rfl, rfl, rfl, fun i d e => by simp at e⟩
  | d :: ds, h => by
    obtain ⟨vs, e1, e2, e3, e4⟩ := papers_py fun x hx => h x (List.mem_cons_of_mem (a := x) d hx)
    obtain ⟨us, g1, g2, g3, g4⟩ : ∃ us, py0 d = some (.tuple us) ∧ (∀ v ∈ us, OkW 2 v) ∧ us.length ≤ 8 ∧ cplP (.tuple us) 6 = true := by
      rcases paper_pv (h d List.mem_cons_self) with ⟨hs, es, init, ws, rfl, V⟩ | ⟨k, day, w, x, rfl, ok⟩
      · exact ⟨_, pv_py V, V.ok, V.len, V.cpl⟩
      · exact ⟨_, rfl, ok, by simp, rfl⟩
    refine ⟨.tuple us :: vs, by simp only [py0A, g1, e1], by rw [List.length_cons, List.length_cons, e2], by simp only [cplA, g4, e3, Bool.and_self], fun i x e => ?_⟩
    cases i with
    | zero =>
      simp only [List.getElem?_cons_zero, Option.some.injEq] at e
      subst e
      exact ⟨us, rfl, g1, g2, g3⟩
    | succ i =>
      rw [List.getElem?_cons_succ] at e
      obtain ⟨us2, q1, q2⟩ := e4 i x e
      exact ⟨us2, by rw [List.getElem?_cons_succ]; exact q1, q2⟩
theorem al_at : ∀ {vs : List PyData} {m : Sto} {k i : Nat} {v : PyData}, AlAtA m k vs → plainA vs = true → vs[i]? = some v → ∃ x, (alA vs k).1[i]? = some x ∧ PyR m x v
  | [], _, _, _, _, _, _, e => by simp at e
  | u :: us, m, k, 0, v, h, p, e => by
    simp only [List.getElem?_cons_zero, Option.some.injEq] at e
    subst e
    simp only [plainA, Bool.and_eq_true] at p
    exact ⟨_, by simp only [alA, List.getElem?_cons_zero], (h.cons.1.pyin p.1).r⟩
  | u :: us, m, k, i + 1, v, h, p, e => by
    rw [List.getElem?_cons_succ] at e
    simp only [plainA, Bool.and_eq_true] at p
    obtain ⟨x, h1, h2⟩ := al_at h.cons.2 p.2 e
    exact ⟨x, by simp only [alA, List.getElem?_cons_succ, h1], h2⟩
theorem cpl_up : ∀ {v : PyData} {n : Nat}, cplP v n = true → cplP v (n + 1) = true := by
  have both : ∀ (n : Nat), (∀ v : PyData, cplP v n = true → cplP v (n + 1) = true) := by
    intro n
    induction n with
    | zero => intro v h; exact (cplP_pos h).elim
    | succ n ih =>
      intro v h
      cases v with
      | list vs =>
        simp only [cplP, Bool.and_eq_true, Nat.add_sub_cancel] at h ⊢
        exact ⟨by simp, h.2.1, cplA_of fun u hu => ih u (cplA_mem h.2.2 u hu)⟩
      | tuple vs =>
        simp only [cplP, Bool.and_eq_true, Nat.add_sub_cancel] at h ⊢
        exact ⟨by simp, h.2.1, cplA_of fun u hu => ih u (cplA_mem h.2.2 u hu)⟩
      | dict l => simp only [cplP] at h; cases h
      | int i => simp [cplP]
      | str x => simp [cplP]
      | bool b => simp [cplP]
      | none => simp [cplP]
  exact fun {v n} h => both n v h
theorem al_paper {init ws : List PyData} {L : Nat} (f : flatA init = true) : al (.tuple (init ++ [.list ws])) L = (.tup ((alA init L).1 ++ [.ptr (L + (alA ws L).2.length)]), (alA ws L).2 ++ [.lst (alA ws L).1]) := by
  simp only [al, alA_snoc, alA_flat L f, List.length_nil, Nat.add_zero, List.nil_append]
theorem pd_of {d : D} {v : PyData} (h : Paper d) (e : py0 d = some v) : Pd 60 16777216 v := by
  obtain ⟨u, e1, p⟩ := gd_paper h
  rw [e] at e1
  cases e1
  exact p.mono (by decide) (by decide)
end K34
namespace K34
open PySem PySem.Spec PyProof.Rows L2 DL
def at1 : D → D
  | .tup (_ :: y :: _) => y
  | _ => .non
/-- the names that a paper's parts name -/
inductive NamesOf : List PyData → List Str → Prop
  | one {vs : List PyData} {w x : Str} : vs[2]? = some (PyData.str w) → vs[3]? = some (PyData.str x) → w ≠ "held" → w ≠ "made" → NamesOf vs [x]
  | held {vs : List PyData} {x y : Str} : vs[2]? = some (PyData.str "held") → vs[3]? = some (PyData.str x) → vs[4]? = some (PyData.str y) → NamesOf vs [x, y]
  | made {vs rs : List PyData} {x : Str} {es : List Str} : vs[2]? = some (PyData.str "made") → vs[3]? = some (PyData.str x) → vs[5]? = some (PyData.list rs) → (∀ m ds, PyRA m ds rs → (∀ d ∈ ds, ∃ a b r, d = D.tup (a :: b :: r)) ∧ ds.map at1 = es.map D.str) → rs.length ≤ 8 → es.length = rs.length → NamesOf vs (x :: es)
theorem NamesOf.len {vs : List PyData} {ns : List Str} (h : NamesOf vs ns) : ns.length ≤ 9 := by
  cases h with
  | one => simp
  | held => simp
  | made _ _ _ _ h8 e => rw [List.length_cons]; omega
@[irreducible] def g_names_in : FN := fun dz m q => ∃ (d : D) (vs : List PyData) (ns : List Str), dz = [d] ∧ (PyR m d (.tuple vs) ∧ NamesOf vs ns ∧ ∀ ms c, SrtOf ns ms → ms.length ≤ ns.length → q (.ptr (m ++ c).length) (m ++ c ++ [Cell.lst (ms.map D.str)]))
theorem ar_names_in : ∀ ds m q, g_names_in ds m q → ds.length = 1 := by
  unfold g_names_in
  rintro _ m q ⟨_, _, _, rfl, _⟩; rfl
theorem i_names_in {d : D} {vs : List PyData} {ns : List Str} {m : Sto} {q : D → Sto → Prop} (h : PyR m d (.tuple vs) ∧ NamesOf vs ns ∧ ∀ ms c, SrtOf ns ms → ms.length ≤ ns.length → q (.ptr (m ++ c).length) (m ++ c ++ [Cell.lst (ms.map D.str)])) : g_names_in [d] m q := by unfold g_names_in; exact ⟨d, vs, ns, rfl, h⟩
def c_names_in_1 : DS :=
    (dSeq (dIf (dTest (dBin dEq (dBin dIx (dVar 0) (dC (.int 2))) (dC (.str "made")))) (dAsg (dBin dAddP (dVar 1) (dLc 2 (dIter (dBin dIx (dVar 0) (dC (.int 5)))) dYes (dBin dIx (dVar 2) (dC (.int 1))))) (gN 1)) dNext)
    (dRet (dCallB dSortSetP (a1 (dVar 1)))))
def t_names_in : DS :=
    (dSeq (dAsg (dLstP (dCons (dBin dIx (dVar 0) (dC (.int 3))) dNil)) (gN 1))
    (dSeq (dIf (dTest (dBin dEq (dBin dIx (dVar 0) (dC (.int 2))) (dC (.str "held")))) (dDrop (dApp (dVar 1) (dBin dIx (dVar 0) (dC (.int 4))))) dNext)
    c_names_in_1))
theorem r_names_in (dz : List D) (m : Sto) (q : D → Sto → Prop) (hl : dz.length = 1) (h : g_names_in dz m q) : t_names_in { nx := fun _ m' => q .non m', rt := q } (startD N_names_in dz) m := by
  unfold g_names_in at h
  obtain ⟨d, vs, ns, rfl, h⟩ := h
  unfold t_names_in
  obtain ⟨hv, hn, h⟩ := h
  obtain ⟨ds, rfl, ra⟩ := hv.tup_eq
  have part : ∀ {i : Nat} {v : PyData}, vs[i]? = some v → ∃ x, atI ds (i : Int) = some x ∧ PyR m x v := fun {i v} e => by
    obtain ⟨x, h1, h2⟩ := ra.get e
    exact ⟨x, atI_nat h1, h2⟩
  have fin : ∀ (j : Nat) (M : Sto) (r : DSt), slot r 1 = some (.ptr j) → (∃ c, M = m ++ c) → seqL (.ptr j) M = some (ns.map D.str) → dRet (dCallB dSortSetP (a1 (dVar 1))) { nx := fun _ m' => q .non m', rt := q } r M := fun j M r hr ⟨c, e⟩ hl => by
    subst e
    have l9 := hn.len
    ((conv => whnf); (try (set_option simprocs false in dsimp only [])))
    rw [hr]
    ((conv => whnf); (try (set_option simprocs false in dsimp only [])))
    rw [hl]
    ((conv => whnf); (try (set_option simprocs false in dsimp only [])))
    rw [List.length_map]
    refine ⟨by omega, ns, by rw [strsOf_map], fun ms hs h9 => ?_⟩
    exact h ms c hs h9
  cases hn with
  | @one w x h2 h3 n1 n2 =>
    obtain ⟨d2, a2, p2⟩ := part h2
    obtain ⟨d3, a3, p3⟩ := part h3
    obtain rfl := p2.str_eq
    obtain rfl := p3.str_eq
    ((conv => whnf); (try (set_option simprocs false in dsimp only [])))
    rw [show atI ds (3 : Int) = _ from a3]
    ((conv => whnf); (repeat ((first | refine ⟨Nat.le_of_ble_eq_true rfl, ?_⟩ | refine bt ?_ | refine bf ?_); (conv => whnf))); (try (set_option simprocs false in dsimp only [])))
    rw [show atI ds (2 : Int) = _ from a2]
    ((conv => whnf); (try (set_option simprocs false in dsimp only [])))
    rw [decide_eq_false n1]
    refine bf ?_
    unfold c_names_in_1
    ((conv => whnf); (try (set_option simprocs false in dsimp only [])))
    rw [show atI ds (2 : Int) = _ from a2]
    ((conv => whnf); (try (set_option simprocs false in dsimp only [])))
    rw [decide_eq_false n2]
    refine bf ?_
    dsimp only [dNext]
    exact fin m.length _ _ rfl ⟨_, rfl⟩ (lstOf_ptr (by rw [List.getElem?_append_right (Nat.le_refl _), Nat.sub_self]; rfl))
  | @held x y h2 h3 h4 =>
    obtain ⟨d2, a2, p2⟩ := part h2
    obtain ⟨d3, a3, p3⟩ := part h3
    obtain ⟨d4, a4, p4⟩ := part h4
    obtain rfl := p2.str_eq
    obtain rfl := p3.str_eq
    obtain rfl := p4.str_eq
    ((conv => whnf); (try (set_option simprocs false in dsimp only [])))
    rw [show atI ds (3 : Int) = _ from a3]
    ((conv => whnf); (repeat ((first | refine ⟨Nat.le_of_ble_eq_true rfl, ?_⟩ | refine bt ?_ | refine bf ?_); (conv => whnf))); (try (set_option simprocs false in dsimp only [])))
    rw [show atI ds (2 : Int) = _ from a2]
    ((conv => whnf); (repeat ((first | refine ⟨Nat.le_of_ble_eq_true rfl, ?_⟩ | refine bt ?_ | refine bf ?_); (conv => whnf))); (try (set_option simprocs false in dsimp only [])))
    rw [new_lst]
    ((conv => whnf); (try (set_option simprocs false in dsimp only [])))
    rw [show atI ds (4 : Int) = _ from a4]
    ((conv => whnf); (try (set_option simprocs false in dsimp only [])))
    rw [new_lst]
    ((conv => whnf); (try (set_option simprocs false in dsimp only [])))
    refine ⟨Nat.le_of_ble_eq_true rfl, ?_⟩
    rw [set_new]
    unfold c_names_in_1
    ((conv => whnf); (try (set_option simprocs false in dsimp only [])))
    rw [show atI ds (2 : Int) = _ from a2]
    ((conv => whnf); (try (set_option simprocs false in dsimp only [])))
    refine bf ?_
    dsimp only [dNext]
    exact fin m.length _ _ rfl ⟨_, rfl⟩ (lstOf_ptr (by rw [List.getElem?_append_right (Nat.le_refl _), Nat.sub_self]; rfl))
  | @made rs x es h2 h3 h5 hr h8 he =>
    obtain ⟨d2, a2, p2⟩ := part h2
    obtain ⟨d3, a3, p3⟩ := part h3
    obtain ⟨d5, a5, p5⟩ := part h5
    obtain rfl := p2.str_eq
    obtain rfl := p3.str_eq
    obtain ⟨rd, hs, rr⟩ := p5.seq
    obtain ⟨g1, g2⟩ := hr m rd rr
    have hs2 : seqL d5 (m ++ [Cell.lst [D.str x]]) = some rd := seqL_app hs
    obtain ⟨o, hi, ho⟩ := items_of_seq hs2
    have hl := rr.len
    ((conv => whnf); (try (set_option simprocs false in dsimp only [])))
    rw [show atI ds (3 : Int) = _ from a3]
    ((conv => whnf); (repeat ((first | refine ⟨Nat.le_of_ble_eq_true rfl, ?_⟩ | refine bt ?_ | refine bf ?_); (conv => whnf))); (try (set_option simprocs false in dsimp only [])))
    rw [show atI ds (2 : Int) = _ from a2]
    ((conv => whnf); (try (set_option simprocs false in dsimp only [])))
    refine bf ?_
    unfold c_names_in_1
    ((conv => whnf); (try (set_option simprocs false in dsimp only [])))
    rw [show atI ds (2 : Int) = _ from a2]
    ((conv => whnf); (try (set_option simprocs false in dsimp only [])))
    refine bt ?_
    ((conv => whnf); (try (set_option simprocs false in dsimp only [])))
    rw [show atI ds (5 : Int) = _ from a5]
    ((conv => whnf); (try (set_option simprocs false in dsimp only [])))
    rw [hi]
    ((conv => whnf); (try (set_option simprocs false in dsimp only [])))
    refine ⟨by omega, ?_⟩
    refine lc_map at1 (fun y hy N hN => ?_) ho ?_
    · obtain ⟨a, b, r, rfl⟩ := g1 y hy
      ((conv => whnf); (try (set_option simprocs false in dsimp only [])))
      rw [atI_1]
      exact hN
    · ((conv => whnf); (try (set_option simprocs false in dsimp only [])))
      rw [new_lst]
      ((conv => whnf); (try (set_option simprocs false in dsimp only [])))
      have l2 : (rd.map at1).length = es.length := by rw [g2, List.length_map]
      refine ⟨by rw [sizeLine_eq, l2]; show 1 + _ ≤ _; omega, ?_⟩
      ((conv => whnf); (try (set_option simprocs false in dsimp only [])))
      rw [g2]
      rw [show seqL (D.ptr (m ++ [Cell.lst [D.str x]]).length) (m ++ [Cell.lst [D.str x]] ++ [Cell.lst ([D.str x] ++ es.map D.str)]) = some ([D.str x] ++ es.map D.str) from new_at _ _]
      ((conv => whnf); (try (set_option simprocs false in dsimp only [])))
      have l9 := (NamesOf.made h2 h3 h5 hr h8 he).len
      refine ⟨by simp only [List.length_append, List.length_map, List.length_cons, List.length_nil] at l9 ⊢; omega, x :: es, by rw [show [D.str x] ++ es.map D.str = (x :: es).map D.str from rfl, strsOf_map], fun ms hs h9 => ?_⟩
      rw [List.append_assoc m]
      exact h ms _ hs h9
end K34
namespace K34
open PySem PySem.Spec PyProof.Rows L2 DL
@[irreducible] def g_law_names_due : FN := fun dz m q => ∃ (d : D) (vs : List PyData) (ns : List Str), dz = [d] ∧ (PyR m d (.tuple vs) ∧ NamesOf vs ns ∧ ∀ ms c, SrtOf ns ms → ms.length ≤ ns.length → q (.lst (ms.map D.str)) (m ++ c))
theorem ar_law_names_due : ∀ ds m q, g_law_names_due ds m q → ds.length = 1 := by
  unfold g_law_names_due
  rintro _ m q ⟨_, _, _, rfl, _⟩; rfl
theorem i_law_names_due {d : D} {vs : List PyData} {ns : List Str} {m : Sto} {q : D → Sto → Prop} (h : PyR m d (.tuple vs) ∧ NamesOf vs ns ∧ ∀ ms c, SrtOf ns ms → ms.length ≤ ns.length → q (.lst (ms.map D.str)) (m ++ c)) : g_law_names_due [d] m q := by unfold g_law_names_due; exact ⟨d, vs, ns, rfl, h⟩
def c_law_names_due_1 : DS :=
    (dSeq (dIf (dTest (dBin dEq (dBin dIx (dVar 0) (dC (.int 2))) (dC (.str "made")))) (dAsg (dBin dAddP (dVar 1) (dLc 2 (dIter (dBin dIx (dVar 0) (dC (.int 5)))) dYes (dBin dIx (dVar 2) (dC (.int 1))))) (gN 1)) dNext)
    (dRet (dCallB dSortSet (a1 (dVar 1)))))
def t_law_names_due : DS :=
    (dSeq (dAsg (dLstP (dCons (dBin dIx (dVar 0) (dC (.int 3))) dNil)) (gN 1))
    (dSeq (dIf (dTest (dBin dEq (dBin dIx (dVar 0) (dC (.int 2))) (dC (.str "held")))) (dDrop (dApp (dVar 1) (dBin dIx (dVar 0) (dC (.int 4))))) dNext)
    c_law_names_due_1))
theorem r_law_names_due (dz : List D) (m : Sto) (q : D → Sto → Prop) (hl : dz.length = 1) (h : g_law_names_due dz m q) : t_law_names_due { nx := fun _ m' => q .non m', rt := q } (startD N_law_names_due dz) m := by
  unfold g_law_names_due at h
  obtain ⟨d, vs, ns, rfl, h⟩ := h
  unfold t_law_names_due
  obtain ⟨hv, hn, h⟩ := h
  obtain ⟨ds, rfl, ra⟩ := hv.tup_eq
  have part : ∀ {i : Nat} {v : PyData}, vs[i]? = some v → ∃ x, atI ds (i : Int) = some x ∧ PyR m x v := fun {i v} e => by
    obtain ⟨x, h1, h2⟩ := ra.get e
    exact ⟨x, atI_nat h1, h2⟩
  have fin : ∀ (j : Nat) (M : Sto) (r : DSt), slot r 1 = some (.ptr j) → (∃ c, M = m ++ c) → seqL (.ptr j) M = some (ns.map D.str) → dRet (dCallB dSortSet (a1 (dVar 1))) { nx := fun _ m' => q .non m', rt := q } r M := fun j M r hr ⟨c, e⟩ hl => by
    subst e
    have l9 := hn.len
    ((conv => whnf); (try (set_option simprocs false in dsimp only [])))
    rw [hr]
    ((conv => whnf); (try (set_option simprocs false in dsimp only [])))
    rw [hl]
    ((conv => whnf); (try (set_option simprocs false in dsimp only [])))
    rw [List.length_map]
    refine ⟨by omega, .inr ⟨ns, by rw [strsOf_map], fun ms s1 s2 s3 h9 => ?_⟩⟩
    exact h ms c ⟨s1, s2, s3⟩ h9
  cases hn with
  | @one w x h2 h3 n1 n2 =>
    obtain ⟨d2, a2, p2⟩ := part h2
    obtain ⟨d3, a3, p3⟩ := part h3
    obtain rfl := p2.str_eq
    obtain rfl := p3.str_eq
    ((conv => whnf); (try (set_option simprocs false in dsimp only [])))
    rw [show atI ds (3 : Int) = _ from a3]
    ((conv => whnf); (repeat ((first | refine ⟨Nat.le_of_ble_eq_true rfl, ?_⟩ | refine bt ?_ | refine bf ?_); (conv => whnf))); (try (set_option simprocs false in dsimp only [])))
    rw [show atI ds (2 : Int) = _ from a2]
    ((conv => whnf); (try (set_option simprocs false in dsimp only [])))
    rw [decide_eq_false n1]
    refine bf ?_
    unfold c_law_names_due_1
    ((conv => whnf); (try (set_option simprocs false in dsimp only [])))
    rw [show atI ds (2 : Int) = _ from a2]
    ((conv => whnf); (try (set_option simprocs false in dsimp only [])))
    rw [decide_eq_false n2]
    refine bf ?_
    dsimp only [dNext]
    exact fin m.length _ _ rfl ⟨_, rfl⟩ (lstOf_ptr (by rw [List.getElem?_append_right (Nat.le_refl _), Nat.sub_self]; rfl))
  | @held x y h2 h3 h4 =>
    obtain ⟨d2, a2, p2⟩ := part h2
    obtain ⟨d3, a3, p3⟩ := part h3
    obtain ⟨d4, a4, p4⟩ := part h4
    obtain rfl := p2.str_eq
    obtain rfl := p3.str_eq
    obtain rfl := p4.str_eq
    ((conv => whnf); (try (set_option simprocs false in dsimp only [])))
    rw [show atI ds (3 : Int) = _ from a3]
    ((conv => whnf); (repeat ((first | refine ⟨Nat.le_of_ble_eq_true rfl, ?_⟩ | refine bt ?_ | refine bf ?_); (conv => whnf))); (try (set_option simprocs false in dsimp only [])))
    rw [show atI ds (2 : Int) = _ from a2]
    ((conv => whnf); (repeat ((first | refine ⟨Nat.le_of_ble_eq_true rfl, ?_⟩ | refine bt ?_ | refine bf ?_); (conv => whnf))); (try (set_option simprocs false in dsimp only [])))
    rw [new_lst]
    ((conv => whnf); (try (set_option simprocs false in dsimp only [])))
    rw [show atI ds (4 : Int) = _ from a4]
    ((conv => whnf); (try (set_option simprocs false in dsimp only [])))
    rw [new_lst]
    ((conv => whnf); (try (set_option simprocs false in dsimp only [])))
    refine ⟨Nat.le_of_ble_eq_true rfl, ?_⟩
    rw [set_new]
    unfold c_law_names_due_1
    ((conv => whnf); (try (set_option simprocs false in dsimp only [])))
    rw [show atI ds (2 : Int) = _ from a2]
    ((conv => whnf); (try (set_option simprocs false in dsimp only [])))
    refine bf ?_
    dsimp only [dNext]
    exact fin m.length _ _ rfl ⟨_, rfl⟩ (lstOf_ptr (by rw [List.getElem?_append_right (Nat.le_refl _), Nat.sub_self]; rfl))
  | @made rs x es h2 h3 h5 hr h8 he =>
    obtain ⟨d2, a2, p2⟩ := part h2
    obtain ⟨d3, a3, p3⟩ := part h3
    obtain ⟨d5, a5, p5⟩ := part h5
    obtain rfl := p2.str_eq
    obtain rfl := p3.str_eq
    obtain ⟨rd, hs, rr⟩ := p5.seq
    obtain ⟨g1, g2⟩ := hr m rd rr
    have hs2 : seqL d5 (m ++ [Cell.lst [D.str x]]) = some rd := seqL_app hs
    obtain ⟨o, hi, ho⟩ := items_of_seq hs2
    have hl := rr.len
    ((conv => whnf); (try (set_option simprocs false in dsimp only [])))
    rw [show atI ds (3 : Int) = _ from a3]
    ((conv => whnf); (repeat ((first | refine ⟨Nat.le_of_ble_eq_true rfl, ?_⟩ | refine bt ?_ | refine bf ?_); (conv => whnf))); (try (set_option simprocs false in dsimp only [])))
    rw [show atI ds (2 : Int) = _ from a2]
    ((conv => whnf); (try (set_option simprocs false in dsimp only [])))
    refine bf ?_
    unfold c_law_names_due_1
    ((conv => whnf); (try (set_option simprocs false in dsimp only [])))
    rw [show atI ds (2 : Int) = _ from a2]
    ((conv => whnf); (try (set_option simprocs false in dsimp only [])))
    refine bt ?_
    ((conv => whnf); (try (set_option simprocs false in dsimp only [])))
    rw [show atI ds (5 : Int) = _ from a5]
    ((conv => whnf); (try (set_option simprocs false in dsimp only [])))
    rw [hi]
    ((conv => whnf); (try (set_option simprocs false in dsimp only [])))
    refine ⟨by omega, ?_⟩
    refine lc_map at1 (fun y hy N hN => ?_) ho ?_
    · obtain ⟨a, b, r, rfl⟩ := g1 y hy
      ((conv => whnf); (try (set_option simprocs false in dsimp only [])))
      rw [atI_1]
      exact hN
    · ((conv => whnf); (try (set_option simprocs false in dsimp only [])))
      rw [new_lst]
      ((conv => whnf); (try (set_option simprocs false in dsimp only [])))
      have l2 : (rd.map at1).length = es.length := by rw [g2, List.length_map]
      refine ⟨by rw [sizeLine_eq, l2]; show 1 + _ ≤ _; omega, ?_⟩
      ((conv => whnf); (try (set_option simprocs false in dsimp only [])))
      rw [g2]
      rw [show seqL (D.ptr (m ++ [Cell.lst [D.str x]]).length) (m ++ [Cell.lst [D.str x]] ++ [Cell.lst ([D.str x] ++ es.map D.str)]) = some ([D.str x] ++ es.map D.str) from new_at _ _]
      ((conv => whnf); (try (set_option simprocs false in dsimp only [])))
      have l9 := (NamesOf.made h2 h3 h5 hr h8 he).len
      refine ⟨by simp only [List.length_append, List.length_map, List.length_cons, List.length_nil] at l9 ⊢; omega, .inr ⟨x :: es, by rw [show [D.str x] ++ es.map D.str = (x :: es).map D.str from rfl, strsOf_map], fun ms s1 s2 s3 h9 => ?_⟩⟩
      rw [List.append_assoc m]
      exact h ms _ ⟨s1, s2, s3⟩ h9
end K34
namespace K34
open PySem PySem.Spec PyProof.Rows L2 DL
/-! ### parts of copies -/
theorem alA_app : ∀ (as bs : List PyData) (k : Nat), alA (as ++ bs) k = ((alA as k).1 ++ (alA bs (k + (alA as k).2.length)).1, (alA as k).2 ++ (alA bs (k + (alA as k).2.length)).2)
  | [], bs, k => by simp only [alA, List.nil_append, List.length_nil, Nat.add_zero]
  | a :: as, bs, k => by simp only [List.cons_append, alA, alA_app as, List.append_assoc, List.length_append, Nat.add_assoc]
theorem alAt_split {m : Sto} {k : Nat} {as bs : List PyData} (h : AlAtA m k (as ++ bs)) : AlAtA m k as ∧ AlAtA m (k + (alA as k).2.length) bs := by
  constructor
  · intro i c e
    refine h i c ?_
    rw [alA_app]
    exact get_app e
  · intro i c e
    have z := h ((alA as k).2.length + i) c (by
      rw [alA_app]
      show ((alA as k).2 ++ (alA bs (k + (alA as k).2.length)).2)[(alA as k).2.length + i]? = _
      rw [List.getElem?_append_right (Nat.le_add_right _ _), Nat.add_sub_cancel_left]; exact e)
    rwa [← Nat.add_assoc] at z
theorem alAtA_pyin {m : Sto} {k : Nat} {vs : List PyData} (h : AlAtA m k vs) (p : plainA vs = true) : PyInA m k (k + (alA vs k).2.length) (alA vs k).1 vs := by
  have z := alA_in (m := List.replicate k Cell.dead) (vs := vs) (pre := []) (k := k) p (by simp)
  refine z.on (Nat.le_refl _) (Nat.le_refl _) fun i c h1 h2 e => ?_
  rw [List.append_nil, List.getElem?_append_right (by rw [List.length_replicate]; exact h1), List.length_replicate] at e
  have := h (i - k) c e
  rwa [show k + (i - k) = i by omega] at this
theorem alA_ints (k : Nat) : ∀ (ns : List Int), alA (ns.map PyData.int) k = (ns.map D.int, [])
  | [] => by simp only [alA, List.map_nil]
  | n :: ns => by simp only [List.map_cons, alA, al, List.length_nil, Nat.add_zero, alA_ints k ns, List.nil_append]
theorem alAt_on {m m' : Sto} {k : Nat} {v : PyData} (h : AlAt m k v) (e : ∀ i, k ≤ i → i < k + (al v k).2.length → m'[i]? = m[i]?) : AlAt m' k v := fun i c z => by
  have hi := (List.getElem?_eq_some_iff.mp z).1
  rw [e _ (Nat.le_add_right _ _) (by omega)]
  exact h i c z
theorem pyinA_drop {m : Sto} {lo hi : Nat} : ∀ {ds : List D} {vs : List PyData}, PyInA m lo hi ds vs → PyInA m lo hi ds.dropLast vs.dropLast
  | _, _, .nil => .nil
  | _, _, .cons _ .nil => .nil
  | _, _, .cons h (.cons h2 r) => .cons h (pyinA_drop (.cons h2 r))
/-- a row's list within the copy of a list of rows -/
theorem row_in {as bs rest : List PyData} {mk : PyData} {ns : List Int} {m : Sto} {k : Nat} (h : AlAtA m k (as ++ .tuple (mk :: .list (ns.map PyData.int) :: rest) :: bs)) (f1 : flatP mk = true) (f2 : flatA rest = true) (p1 : plainA as = true) (p2 : plainA bs = true) :
    ∃ Ea dm dr Eb, ∃ p : Nat, (alA (as ++ .tuple (mk :: .list (ns.map PyData.int) :: rest) :: bs) k).1 = Ea ++ .tup (dm :: .ptr p :: dr) :: Eb ∧ Ea.length = as.length ∧ Eb.length = bs.length ∧ k ≤ p ∧ p < k + (alA (as ++ .tuple (mk :: .list (ns.map PyData.int) :: rest) :: bs) k).2.length ∧ m[p]? = some (.lst (ns.map D.int)) ∧
      ∀ ms : List Int, PyInA (m.set p (.lst (ms.map D.int))) k (k + (alA (as ++ .tuple (mk :: .list (ns.map PyData.int) :: rest) :: bs) k).2.length) (Ea ++ .tup (dm :: .ptr p :: dr) :: Eb) (as ++ .tuple (mk :: .list (ms.map PyData.int) :: rest) :: bs) := by
  obtain ⟨ha, hb⟩ := alAt_split h
  obtain ⟨hr, hc⟩ := hb.cons
  have la := alAtA_pyin ha p1
  have lc := alAtA_pyin hc p2
  have er : ∀ j, al (.tuple (mk :: .list (ns.map PyData.int) :: rest)) j = (.tup ((al mk j).1 :: .ptr j :: (alA rest (j + 1)).1), [Cell.lst (ns.map D.int)]) := fun j => by
    simp only [al, alA, al_flat _ f1, alA_ints, alA_flat _ f2, List.length_nil, List.nil_append, Nat.add_zero, List.append_nil, List.length_singleton]
  rw [alA_app]
  simp only [alA, er, List.length_append, List.length_singleton] at lc ⊢
  have cell : m[k + (alA as k).2.length]? = some (.lst (ns.map D.int)) := by
    have z := hr 0 (.lst (ns.map D.int)) (by rw [er]; rfl)
    rwa [Nat.add_zero] at z
  refine ⟨_, _, _, _, _, rfl, la.len.symm ▸ rfl, lc.len, Nat.le_add_right _ _, by omega, cell, fun ms => ?_⟩
  have lt := (List.getElem?_eq_some_iff.mp cell).1
  refine PyInA.app ((la.set (.inr (Nat.le_refl _))).on (Nat.le_refl _) (by omega) fun i c _ _ e => e) (.cons (.tup (.cons (flat_in _ f1) (.cons (.ptr (ds := ms.map D.int) (Nat.le_add_right _ _) (by omega) (by rw [List.getElem?_set_self lt]) (pyinA_py (py0A_ints ms))) (flatA_in _ f2)))) ((lc.set (.inl (by omega))).on (by omega) (by omega) fun i c _ _ e => e))
theorem plainA_app : ∀ {vs us : List PyData}, plainA (vs ++ us) = true → plainA vs = true ∧ plainA us = true
  | [], _, h => ⟨rfl, h⟩
  | v :: vs, us, h => by
    simp only [List.cons_append, plainA, Bool.and_eq_true] at h ⊢
    obtain ⟨h1, h2⟩ := plainA_app h.2
    exact ⟨⟨h.1, h1⟩, h2⟩
theorem paper_plain {init ws : List PyData} (h : plainP (.tuple (init ++ [.list ws])) = true) : plainA ws = true := by
  simp only [plainP] at h
  have z := (plainA_app h).2
  simp only [plainA, plainP, Bool.and_true] at z
  exact z
theorem paper_at {init ws : List PyData} {m : Sto} {k : Nat} (fi : flatA init = true) (h : AlAt m k (.tuple (init ++ [.list ws]))) : AlAtA m k ws ∧ m[k + (alA ws k).2.length]? = some (.lst (alA ws k).1) := by
  constructor
  · intro i c e
    refine h i c ?_
    rw [al_paper fi]
    exact get_app e
  · refine h (alA ws k).2.length (.lst (alA ws k).1) ?_
    rw [al_paper fi]
    show ((alA ws k).2 ++ [Cell.lst (alA ws k).1])[(alA ws k).2.length]? = _
    rw [List.getElem?_append_right (Nat.le_refl _), Nat.sub_self]; rfl
theorem init_at {I : List D} {init : List PyData} {m : Sto} {lo hi : Nat} {x : D} {w : Str} (h : PyInA m lo hi I init) (e : init[2]? = some (.str w)) : atI (I ++ [x]) (2 : Int) = some (.str w) := by
  obtain ⟨d, h1, h2⟩ := h.get e
  obtain rfl := h2.r.str_eq
  exact atI_nat (j := 2) (by rw [List.getElem?_append_left (List.getElem?_eq_some_iff.mp h1).1]; exact h1)
/-- what the law does to a copy's lists -/
inductive EmpR (n : Int) : List PyData → List PyData → Prop
  | plain (k day : Int) (w x : Str) : w ≠ "held" → EmpR n [.int k, .int day, .str w, .str x] [.int k, .int day, .str w, .str x]
  | lst (init rs : List PyData) (r : PyData) (w : Str) : flatA init = true → init[2]? = some (.str w) → w ≠ "held" → EmpR n (init ++ [.list (rs ++ [r])]) (init ++ [.list rs])
  | held (init as bs rest : List PyData) (mk : PyData) (y : Int) (ys : List Int) : flatA init = true → init.length = 6 → init[2]? = some (.str "held") → n % ((as.length + 1 + bs.length : Nat) : Int) = (as.length : Int) → flatP mk = true → flatA rest = true → ys.length ≤ 8 → plainA as = true → plainA bs = true → EmpR n (init ++ [.list (as ++ .tuple (mk :: .list ((y :: ys).map PyData.int) :: rest) :: bs)]) (init ++ [.list (as ++ .tuple (mk :: .list ((1 :: (ys ++ [7])).map PyData.int) :: rest) :: bs).dropLast])
@[irreducible] def g_law_emptied : FN := fun dz m q => ∃ (n : Int) (k : Nat) (vs us : List PyData) (d : D), dz = [.int n, d] ∧ (d = (al (.tuple vs) k).1 ∧ EmpR n vs us ∧ plainP (.tuple vs) = true ∧ AlAt m k (.tuple vs) ∧ ∀ m' : Sto, m'.length = m.length → (∀ i, i < k ∨ k + (al (.tuple vs) k).2.length ≤ i → m'[i]? = m[i]?) → PyIn m' k (k + (al (.tuple vs) k).2.length) d (.tuple us) → q .non m')
theorem ar_law_emptied : ∀ ds m q, g_law_emptied ds m q → ds.length = 2 := by
  unfold g_law_emptied
  rintro _ m q ⟨_, _, _, _, _, rfl, _⟩; rfl
theorem i_law_emptied {n : Int} {k : Nat} {vs us : List PyData} {d : D} {m : Sto} {q : D → Sto → Prop} (h : d = (al (.tuple vs) k).1 ∧ EmpR n vs us ∧ plainP (.tuple vs) = true ∧ AlAt m k (.tuple vs) ∧ ∀ m' : Sto, m'.length = m.length → (∀ i, i < k ∨ k + (al (.tuple vs) k).2.length ≤ i → m'[i]? = m[i]?) → PyIn m' k (k + (al (.tuple vs) k).2.length) d (.tuple us) → q .non m') : g_law_emptied [.int n, d] m q := by unfold g_law_emptied; exact ⟨n, k, vs, us, d, rfl, h⟩
def c_law_emptied_1 : DS :=
    (dIf (dTest (dIsi .list (dBin dIx (dVar 1) (dUn dNeg (dC (.int 1)))))) (dDrop (dPop (dBin dIx (dVar 1) (dUn dNeg (dC (.int 1)))))) dNext)
def t_law_emptied : DS :=
    (dSeq (dIf (dTest (dBin dEq (dBin dIx (dVar 1) (dC (.int 2))) (dC (.str "held")))) (dSeq (dAsg (dBin dIx (dBin dIx (dBin dIx (dVar 1) (dC (.int 6))) (dBin dMod (dVar 0) (dCallB dLen (a1 (dBin dIx (dVar 1) (dC (.int 6))))))) (dC (.int 1))) (gN 2))
    (dSeq (dDrop (dApp (dVar 2) (dC (.int 7))))
    (dAsg (dC (.int 1)) (gIx (dVar 2) (dC (.int 0)))))) dNext)
    c_law_emptied_1)
theorem r_law_emptied (dz : List D) (m : Sto) (q : D → Sto → Prop) (hl : dz.length = 2) (h : g_law_emptied dz m q) : t_law_emptied { nx := fun _ m' => q .non m', rt := q } (startD N_law_emptied dz) m := by
  unfold g_law_emptied at h
  obtain ⟨n, k, vs, us, d, rfl, h⟩ := h
  unfold t_law_emptied
  obtain ⟨rfl, he, pl, ha, h⟩ := h
  -- the last list is cut
  have cut : ∀ (I : List D) (P : Nat) (E : List D) (x : Option D) (M : Sto), E ≠ [] → M[P]? = some (.lst E) → q .non (M.set P (.lst E.dropLast)) → c_law_emptied_1 { nx := fun _ m' => q .non m', rt := q } [some (.int n), some (.tup (I ++ [.ptr P])), x] M := fun I P E x M hE hP k => by
    unfold c_law_emptied_1
    ((conv => whnf); (try (set_option simprocs false in dsimp only [])))
    rw [at_last]
    ((conv => whnf); (try (set_option simprocs false in dsimp only [])))
    rw [show kd (.ptr P) M = some .lst by simp only [kd, hP]]
    refine bt ?_
    ((conv => whnf); (try (set_option simprocs false in dsimp only [])))
    rw [at_last]
    ((conv => whnf); (try (set_option simprocs false in dsimp only [])))
    rw [lstOf_ptr hP]
    ((conv => whnf); (try (set_option simprocs false in dsimp only [])))
    obtain ⟨E', e, rfl⟩ : ∃ E' e, E = E' ++ [e] := ⟨_, _, (List.dropLast_concat_getLast hE).symm⟩
    rw [show (E' ++ [e])[(E' ++ [e]).length - 1]? = some e by simp]
    exact k
  cases he with
  | plain kd day w x hw =>
    have pin := ha.pyin pl
    simp only [al, alA, List.length_nil, Nat.add_zero] at pin h ⊢
    ((conv => whnf); (repeat ((first | refine ⟨Nat.le_of_ble_eq_true rfl, ?_⟩ | refine bt ?_ | refine bf ?_); (conv => whnf))); (try (set_option simprocs false in dsimp only [])))
    rw [decide_eq_false hw]
    refine bf ?_
    unfold c_law_emptied_1
    ((conv => whnf); (repeat ((first | refine ⟨Nat.le_of_ble_eq_true rfl, ?_⟩ | refine bt ?_ | refine bf ?_); (conv => whnf))); (try (set_option simprocs false in dsimp only [])))
    exact h m rfl (fun _ _ => rfl) pin
  | lst init rs r w fi h2 hw =>
    obtain ⟨ha1, cell⟩ := paper_at fi ha
    have pr := paper_plain pl
    have pin := alAtA_pyin ha1 pr
    rw [al_paper fi] at h ⊢
    simp only [List.length_append, List.length_singleton] at h ⊢
    have fI := fun M : Sto => flatA_in (m := M) (lo := k) (hi := k) k fi
    have a2 := init_at (x := .ptr (k + (alA (rs ++ [r]) k).2.length)) (fI m) h2
    generalize (alA init k).1 = I at h a2 fI ⊢
    generalize (alA (rs ++ [r]) k).2.length = A at h cell pin a2 ⊢
    generalize (alA (rs ++ [r]) k).1 = E at cell pin
    have lt := (List.getElem?_eq_some_iff.mp cell).1
    ((conv => whnf); (repeat ((first | refine ⟨Nat.le_of_ble_eq_true rfl, ?_⟩ | refine bt ?_ | refine bf ?_); (conv => whnf))); (try (set_option simprocs false in dsimp only [])))
    rw [a2]
    ((conv => whnf); (try (set_option simprocs false in dsimp only [])))
    rw [decide_eq_false hw]
    refine bf ?_
    refine cut I _ E _ m (fun z => by subst z; have z := pin.len; simp at z) cell ?_
    refine h _ List.length_set (fun i hi => List.getElem?_set_ne (by omega)) ?_
    refine .tup (((fI _).on (Nat.le_refl _) (by omega) fun i c _ _ e => e).app (.cons (.ptr (ds := E.dropLast) (by omega) (by omega) (by rw [List.getElem?_set_self lt]) ?_) .nil))
    have z := pyinA_drop pin
    rw [List.dropLast_concat] at z
    exact (z.set (.inr (Nat.le_refl _))).on (Nat.le_refl _) (by omega) fun i c _ _ e => e
  | held init as bs rest mk y ys fi l6 h2 hn f1 f2 l8 p1 p2 =>
    obtain ⟨ha1, cell⟩ := paper_at fi ha
    obtain ⟨Ea, dm, dr, Eb, p, e1, e2, e3, kp, pk, cp, rin⟩ := row_in (ns := y :: ys) ha1 f1 f2 p1 p2
    have rin := rin (1 :: (ys ++ [7]))
    rw [al_paper fi] at h ⊢
    rw [e1] at h cell ⊢
    simp only [List.length_append, List.length_singleton] at h ⊢
    have fI := fun M : Sto => flatA_in (m := M) (lo := k) (hi := k) k fi
    have a2 := fun u => init_at (x := u) (fI m) h2
    have lI : (alA init k).1.length = 6 := by rw [alA_len, l6]
    generalize (alA init k).1 = I at h a2 fI lI ⊢
    generalize (alA (as ++ .tuple (mk :: .list ((y :: ys).map PyData.int) :: rest) :: bs) k).2.length = A at h cell a2 pk rin ⊢
    have lt := (List.getElem?_eq_some_iff.mp cell).1
    have a6 : atI (I ++ [D.ptr (k + A)]) (6 : Int) = some (.ptr (k + A)) := atI_nat (j := 6) (by rw [← lI]; simp)
    ((conv => whnf); (repeat ((first | refine ⟨Nat.le_of_ble_eq_true rfl, ?_⟩ | refine bt ?_ | refine bf ?_); (conv => whnf))); (try (set_option simprocs false in dsimp only [])))
    rw [a2]
    ((conv => whnf); (try (set_option simprocs false in dsimp only [])))
    refine bt ?_
    ((conv => whnf); (try (set_option simprocs false in dsimp only [])))
    rw [a6]
    ((conv => whnf); (try (set_option simprocs false in dsimp only [])))
    rw [a6]
    ((conv => whnf); (try (set_option simprocs false in dsimp only [])))
    rw [show seqL (.ptr (k + A)) m = some _ from lstOf_ptr cell]
    ((conv => whnf); (try (set_option simprocs false in dsimp only [])))
    rw [show (n : Int) % ((Ea ++ D.tup (dm :: D.ptr p :: dr) :: Eb).length : Int) = (as.length : Int) from by rw [← hn, List.length_append, List.length_cons, e2, e3, Nat.add_right_comm, Nat.add_assoc]]
    ((conv => whnf); (try (set_option simprocs false in dsimp only [])))
    refine ⟨?_, ?_⟩
    · rw [List.length_append, List.length_cons]; omega
    ((conv => whnf); (try (set_option simprocs false in dsimp only [])))
    rw [show seqL (.ptr (k + A)) m = some _ from lstOf_ptr cell]
    ((conv => whnf); (try (set_option simprocs false in dsimp only [])))
    rw [show atI (Ea ++ D.tup (dm :: D.ptr p :: dr) :: Eb) (as.length : Int) = some (.tup (dm :: D.ptr p :: dr)) from atI_nat (by rw [← e2, List.getElem?_append_right (Nat.le_refl _), Nat.sub_self]; rfl)]
    ((conv => whnf); (try (set_option simprocs false in dsimp only [])))
    rw [atI_1]
    ((conv => whnf); (try (set_option simprocs false in dsimp only [])))
    rw [show lstOf (.ptr p) m = some _ from lstOf_ptr cp]
    ((conv => whnf); (try (set_option simprocs false in dsimp only [])))
    rw [show lstOf (.ptr p) m = some _ from lstOf_ptr cp]
    ((conv => whnf); (try (set_option simprocs false in dsimp only [])))
    refine ⟨?_, ?_⟩
    · rw [List.length_map, List.length_cons]; omega
    ((conv => whnf); (try (set_option simprocs false in dsimp only [])))
    have ltp := (List.getElem?_eq_some_iff.mp cp).1
    rw [lstOf_ptr (by rw [List.getElem?_set_self ltp])]
    ((conv => whnf); (try (set_option simprocs false in dsimp only [])))
    rw [show ixN (List.map D.int (y :: ys) ++ [D.int 7]).length 0 = some 0 from ixN_lit (j := 0) (by simp)]
    ((conv => whnf); (try (set_option simprocs false in dsimp only [])))
    rw [List.set_set]
    have e7 : (List.map D.int (y :: ys) ++ [D.int 7]).set 0 (D.int 1) = (1 :: (ys ++ [7])).map D.int := by simp
    rw [e7]
    generalize hM : m.set p (.lst ((1 :: (ys ++ [7])).map D.int)) = M at rin ⊢
    have lM : M.length = m.length := by rw [← hM, List.length_set]
    have cM : M[k + A]? = some (Cell.lst (Ea ++ D.tup (dm :: D.ptr p :: dr) :: Eb)) := by rw [← hM, List.getElem?_set_ne (by omega)]; exact cell
    refine cut I _ _ _ M (fun z => by simp at z) cM ?_
    refine h _ (List.length_set.trans lM) (fun i hi => by rw [List.getElem?_set_ne (by omega), ← hM, List.getElem?_set_ne (by omega)]) ?_
    refine .tup (((fI _).on (Nat.le_refl _) (by omega) fun i c _ _ e => e).app (.cons (.ptr (by omega) (by omega) (by rw [List.getElem?_set_self (by omega)]) ?_) .nil))
    exact ((pyinA_drop rin).set (.inr (Nat.le_refl _))).on (Nat.le_refl _) (by omega) fun i c _ _ e => e
end K34
namespace K34
open PySem PySem.Spec PyProof.Rows L2 DL
/-! ### papers: their names, and what is done to their lists -/
theorem made_names {x : Str} : ∀ {ds : List D} {ns : List Int}, RowsP (MRowN x) ds ns → ∃ (rs : List PyData) (es : List Str), py0A ds = some rs ∧ es.length = rs.length ∧ rs.length = ds.length ∧ (∀ y ∈ es, NameS 8 y) ∧ ∀ (m : Sto) (us : List D), PyRA m us rs → (∀ d ∈ us, ∃ a b r, d = D.tup (a :: b :: r)) ∧ us.map at1 = es.map D.str
  | _, _, .nil => ⟨[], [], rfl, rfl, rfl, (fun y z => by cases z), fun m us h => by cases h; exact ⟨(fun d z => by cases z), rfl⟩⟩
  | _, _, @RowsP.cons _ d i ds ns p r => by
    obtain ⟨rs, es, h1, h2, h3, h4, h5⟩ := made_names r
    obtain ⟨⟨y, q, rfl, hy, _⟩, _⟩ := p
    refine ⟨.tuple [.int i, .str y, .int q] :: rs, y :: es, by simp only [py0A, py0, h1, Option.map_some], by rw [List.length_cons, List.length_cons, h2], by rw [List.length_cons, List.length_cons, h3], fun z hz => ?_, fun m us h => ?_⟩
    · rcases List.mem_cons.mp hz with e | e
      · rw [e]; exact hy
      · exact h4 z e
    · obtain ⟨u, us', rfl, pu, ru⟩ := pyra_cons h
      obtain ⟨ws, rfl, rw'⟩ := pu.tup_eq
      obtain ⟨a, w1, rfl, _, r1⟩ := pyra_cons rw'
      obtain ⟨b, w2, rfl, pb, r2⟩ := pyra_cons r1
      obtain rfl := pb.str_eq
      obtain ⟨g1, g2⟩ := h5 m us' ru
      refine ⟨fun d hd => ?_, ?_⟩
      · rcases List.mem_cons.mp hd with e | e
        · exact ⟨_, _, _, e⟩
        · exact g1 d e
      · rw [List.map_cons, List.map_cons, g2]; rfl
theorem names_paper {d : D} {us : List PyData} (h : Paper d) (e : py0 d = some (.tuple us)) : ∃ ns, NamesOf us ns ∧ ∀ x ∈ ns, NameS 8 x := by
  have one : ∀ {x : Str}, NameS 8 x → ∀ y ∈ [x], NameS 8 y := fun hx y hy => by rw [List.mem_singleton.mp hy]; exact hx
  cases h with
  | thing k day lev t b x sort ns k1 k2 d1 d2 hx hs l0 l5 f t0 =>
    simp only [py0, py0A, py0A_ints, Option.map_some] at e
    cases e
    exact ⟨[x], .one (w := "thing") rfl rfl (by decide) (by decide), one hx⟩
  | told k day term x ds k1 k2 d1 d2 hx t1 t2 hr =>
    obtain ⟨rs, e1, _⟩ := rows_list trow_okW hr
    simp only [py0, py0A, e1, Option.map_some] at e
    cases e
    exact ⟨[x], .one (w := "told") rfl rfl (by decide) (by decide), one hx⟩
  | held k day term x y ds k1 k2 d1 d2 hx hy t1 t2 hr =>
    obtain ⟨rs, e1, _⟩ := rows_list hrow_okW hr
    simp only [py0, py0A, e1, Option.map_some] at e
    cases e
    exact ⟨[x, y], .held rfl rfl rfl, al1 hx (one hy)⟩
  | made k day t b x ds k1 k2 d1 d2 hx f t0 hr hd =>
    obtain ⟨ns, hr, mk, l1, l8⟩ := hr
    obtain ⟨rs, es, e1, h2, h3, h4, h5⟩ := made_names hr
    simp only [py0, py0A, e1, Option.map_some] at e
    cases e
    exact ⟨x :: es, .made rfl rfl rfl h5 (by omega) h2, al1 hx h4⟩
  | read k day x ns k1 k2 d1 d2 hx s =>
    simp only [py0, py0A, py0A_ints, Option.map_some] at e
    cases e
    exact ⟨[x], .one (w := "read") rfl rfl (by decide) (by decide), one hx⟩
  | plain k day w x k1 k2 d1 d2 hw hx =>
    cases e
    exact ⟨[x], .one (w := w) rfl rfl (by rcases hw with rfl | rfl | rfl <;> decide) (by rcases hw with rfl | rfl | rfl <;> decide), one hx⟩
theorem pd_names {ms ns : List Str} (s : SrtOf ns ms) (l : ms.length ≤ 9) (h : ∀ x ∈ ns, NameS 8 x) : Pd 60 16777216 (.list (ms.map PyData.str)) := by
  obtain ⟨v, e, p⟩ := gd_lst (k := 0) (c := 90) (ds := ms.map D.str) fun d hd => by
    obtain ⟨x, hx, rfl⟩ := List.mem_map.mp hd
    exact gnm (h x ((s.mem x).mp hx))
  simp only [py0, py_strs, Option.map_some, Option.some.injEq] at e
  subst e
  exact p.mono (by decide) (by rw [List.length_map]; exact Nat.le_trans (len_le_mul l) (by decide))
end K34
namespace K34
open PySem PySem.Spec PyProof.Rows L2 DL
theorem py0A_drop : ∀ {ds : List D} {vs : List PyData}, py0A ds = some vs → py0A ds.dropLast = some vs.dropLast
  | [], _, e => by cases e; rfl
  | [d], vs, e => by
    cases e1 : py0 d with
    | none => simp only [py0A, e1] at e; cases e
    | some p => simp only [py0A, e1] at e; cases e; rfl
  | d :: d2 :: ds, vs, e => by
    cases e1 : py0 d with
    | none => simp only [py0A, e1] at e; cases e
    | some p =>
      obtain ⟨us, rfl, e2⟩ := py0A_cons e1 e
      obtain ⟨q, us', rfl⟩ : ∃ q us', us = q :: us' := by
        cases us with
        | nil => have z := (pyrA_py (m := []) e2).len; simp at z
        | cons q us' => exact ⟨q, us', rfl⟩
      have z := py0A_drop e2
      show py0A (d :: (d2 :: ds).dropLast) = some (p :: (q :: us').dropLast)
      generalize (d2 :: ds).dropLast = B at z
      simp only [py0A, e1, z]
theorem py0A_split {d : D} {bs : List D} : ∀ {as : List D} {vs : List PyData}, py0A (as ++ d :: bs) = some vs → ∃ va v vb, vs = va ++ v :: vb ∧ py0A as = some va ∧ py0 d = some v ∧ py0A bs = some vb
  | [], vs, e => by
    cases e1 : py0 d with
    | none => simp only [List.nil_append, py0A, e1] at e; cases e
    | some p =>
      obtain ⟨us, rfl, e2⟩ := py0A_cons e1 e
      exact ⟨[], p, us, rfl, rfl, rfl, e2⟩
  | a :: as, vs, e => by
    cases e1 : py0 a with
    | none => simp only [List.cons_append, py0A, e1] at e; cases e
    | some p =>
      obtain ⟨us, rfl, e2⟩ := py0A_cons e1 e
      obtain ⟨va, v, vb, rfl, h1, h2, h3⟩ := py0A_split e2
      exact ⟨p :: va, v, vb, rfl, by simp only [py0A, e1, h1], h2, h3⟩
theorem pd_paper2 {hs es : List D} {init ws : List PyData} (e1 : py0A hs = some init) (e2 : py0A es = some ws) (gh : ∀ d ∈ hs, Gd 3 27000 d) (l7 : hs.length ≤ 7) (ge : ∀ d ∈ es, Gd 2 3300 d) (l8 : es.length ≤ 8) : Pd 60 16777216 (.tuple (init ++ [.list ws])) := by
  have z : Gd 4 220000 (.tup (hs ++ [.lst es])) := gd_paper0 (fun d hd => by
    rcases List.mem_append.mp hd with y | y
    · exact gh d y
    · rw [List.mem_singleton.mp y]; exact gd_rows ge l8) (by rw [List.length_append, List.length_singleton]; omega)
  obtain ⟨v, e, p⟩ := z
  have y : py0A [D.lst es] = some [.list ws] := by simp only [py0A, py0, e2, Option.map_some]
  simp only [py0, py0A_app e1 y, Option.map_some, Option.some.injEq] at e
  subst e
  exact p.mono (by decide) (by decide)
theorem emp_lst {n : Int} {hs es : List D} {init ws : List PyData} {w : Str} (e1 : py0A hs = some init) (e2 : py0A es = some ws) (h1 : 1 ≤ es.length) (f : flatA init = true) (h2 : init[2]? = some (.str w)) (hw : w ≠ "held") (gh : ∀ d ∈ hs, Gd 3 27000 d) (l7 : hs.length ≤ 7) (ge : ∀ d ∈ es, Gd 2 3300 d) (l8 : es.length ≤ 8) : ∃ us2, EmpR n (init ++ [.list ws]) us2 ∧ Pd 60 16777216 (.tuple us2) := by
  have lw := (pyrA_py (m := []) e2).len
  have hne : ws ≠ [] := fun z => by rw [z] at lw; simp at lw; rw [lw] at h1; exact absurd h1 (by decide)
  have ed := List.dropLast_concat_getLast hne
  refine ⟨_, ?_, pd_paper2 e1 (py0A_drop e2) gh l7 (fun d hd => ge d ((List.dropLast_subset _) hd)) (by rw [List.length_dropLast]; omega)⟩
  have z := EmpR.lst (n := n) init ws.dropLast (ws.getLast hne) w f h2 hw
  rwa [ed] at z
theorem g3i {i : Int} (h0 : -(10 ^ 12) ≤ i) (h1 : i ≤ 10 ^ 12) : Gd 3 27000 (.int i) := to3 (gi h0 h1) (by decide) (by decide)
theorem g3n {x : Str} (h : NameS 8 x) : Gd 3 27000 (.str x) := to3 (gnm h) (by decide) (by decide)
theorem g3f {a b : Int} (f : SmF a b) : Gd 3 27000 (fr a b) := to3 (gsf f) (by decide) (by decide)
theorem g2_ints {ns : List Int} (h : ∀ i ∈ ns, 0 ≤ i ∧ i ≤ 1000) : ∀ d ∈ ns.map D.int, Gd 2 3300 d := fun d hd => by
  obtain ⟨i, hi, rfl⟩ := List.mem_map.mp hd
  have := h i hi
  exact (gi (i := i) (by omega) (by omega)).mono (by decide) (by decide)
theorem g2_row {i a b c e : Int} {ns : List Int} (i0 : 0 ≤ i) (i1 : i ≤ 1000) (h : ∀ i ∈ ns, 0 ≤ i ∧ i ≤ 1000) (hl : ns.length ≤ 8) (f : SmF a b) (g : SmF c e) : Gd 2 3300 (.tup [.int i, .lst (ns.map D.int), fr a b, fr c e]) :=
  gd_row (al1 ((gi (by omega) (by omega)).mono (by decide) (by decide)) (al1 (gd_ints h hl) (al1 ((gsf f).mono (by decide) (by decide)) (al1 ((gsf g).mono (by decide) (by decide)) al0)))) (by simp)
theorem emp_paper {d : D} {us : List PyData} {n : Int} (h : Paper d) (e : py0 d = some (.tuple us)) (n0 : 0 ≤ n) : ∃ us2, EmpR n us us2 ∧ Pd 60 16777216 (.tuple us2) := by
  have pd0 := pd_of h e
  cases h with
  | thing k day lev t b x sort ns k1 k2 d1 d2 hx hs l0 l5 f t0 =>
    have hm : Mks ns ∧ ns.length ≤ 8 ∧ 1 ≤ ns.length ∧ NameS 8 sort := by
      rcases hs with ⟨rfl, q⟩ | ⟨rfl, q⟩
      · exact ⟨q.mks, q.le, by have := q.ge; omega, by decide +kernel⟩
      · exact ⟨q.mks, q.le, q.ge, by decide +kernel⟩
    simp only [py0, py0A, py0A_ints, Option.map_some] at e
    cases e
    exact emp_lst (hs := [.int k, .int day, .str "thing", .str x, .str sort, .int lev, fr t b]) (init := [.int k, .int day, .str "thing", .str x, .str sort, .int lev, .tuple [.int t, .int b]]) (w := "thing") rfl (py0A_ints ns) (by rw [List.length_map]; exact hm.2.2.1) rfl rfl (by decide)
      (al1 (g3i (by omega) (by omega)) (al1 (g3i (by omega) (by omega)) (al1 (g3n (by decide +kernel)) (al1 (g3n hx) (al1 (g3n hm.2.2.2) (al1 (g3i (by omega) (by omega)) (al1 (g3f f) al0))))))) (by simp) (g2_ints hm.1.bd) (by rw [List.length_map]; exact hm.2.1)
  | told k day term x ds k1 k2 d1 d2 hx t1 t2 hr =>
    obtain ⟨rs, e1, _⟩ := rows_list trow_okW hr
    obtain ⟨_, _, _, l1, l8⟩ := id hr
    simp only [py0, py0A, e1, Option.map_some] at e
    cases e
    exact emp_lst (hs := [.int k, .int day, .str "told", .str x, .int term]) (init := [.int k, .int day, .str "told", .str x, .int term]) (w := "told") rfl e1 l1 rfl rfl (by decide)
      (al1 (g3i (by omega) (by omega)) (al1 (g3i (by omega) (by omega)) (al1 (g3n (by decide +kernel)) (al1 (g3n hx) (al1 (g3i (by omega) (by omega)) al0))))) (by simp)
      (fun d hd => by
        obtain ⟨i, i0, i1, a, b, c, e, rfl, f, g, _⟩ := (rows_ok hr).2 d hd
        exact gd_row (al1 ((gi (by omega) (by omega)).mono (by decide) (by decide)) (al1 ((gsf f).mono (by decide) (by decide)) (al1 ((gsf g).mono (by decide) (by decide)) al0))) (by simp)) l8
  | held k day term x y ds k1 k2 d1 d2 hx hy t1 t2 hr =>
    obtain ⟨rs, e1, _, c5, _⟩ := rows_list hrow_okW hr
    obtain ⟨_, _, _, l1, l8⟩ := id hr
    simp only [py0, py0A, e1, Option.map_some] at e
    cases e
    have hlt : (n % (ds.length : Int)).toNat < ds.length := by
      have := Int.emod_nonneg n (show (ds.length : Int) ≠ 0 by omega)
      have := Int.emod_lt_of_pos n (show (0 : Int) < ds.length by omega)
      omega
    generalize hj : (n % (ds.length : Int)).toNat = j at hlt
    have hsp : ds = ds.take j ++ ds[j] :: ds.drop (j + 1) := by rw [← List.drop_eq_getElem_cons hlt, List.take_append_drop]
    have hrows := (rows_ok hr).2
    obtain ⟨i, i0, i1, ns, a, b, c, e, hrow, s, f, g, _⟩ := hrows _ (List.getElem_mem hlt)
    have g2 : ∀ d ∈ ds, Gd 2 3300 d := fun d hd => by
      obtain ⟨i, i0, i1, ns, a, b, c, e, rfl, s, f, g, _⟩ := hrows d hd
      exact g2_row i0 i1 s.bd (by have := s.le; omega) f g
    have la : (ds.take j).length = j := by rw [List.length_take]; omega
    have lb : (ds.drop (j + 1)).length = ds.length - (j + 1) := List.length_drop
    have hga : ∀ d ∈ ds.take j, Gd 2 3300 d := fun d hd => g2 d (List.mem_of_mem_take hd)
    have hgb : ∀ d ∈ ds.drop (j + 1), Gd 2 3300 d := fun d hd => g2 d (List.mem_of_mem_drop hd)
    obtain ⟨z0, zs, rfl⟩ : ∃ z0 zs, ns = z0 :: zs := by
      cases ns with
      | nil => exact absurd s.ne (by decide)
      | cons z0 zs => exact ⟨z0, zs, rfl⟩
    rw [hrow] at hsp
    rw [hsp] at e1
    obtain ⟨va, v, vb, rfl, ea, ev, eb⟩ := py0A_split e1
    have ev' : v = .tuple (.int i :: .list ((z0 :: zs).map PyData.int) :: [.tuple [.int a, .int b], .tuple [.int c, .int e]]) := by
      simp only [py0, py0A, py0A_ints, Option.map_some, Option.some.injEq] at ev
      exact ev.symm
    subst ev'
    have lva := (pyrA_py (m := []) ea).len
    have lvb := (pyrA_py (m := []) eb).len
    have lz : (1 :: (zs ++ [7])).length ≤ 8 := by have := s.le; simp only [List.length_cons, List.length_append, List.length_nil] at this ⊢; omega
    have bz : ∀ i ∈ (1 :: (zs ++ [7]) : List Int), 0 ≤ i ∧ i ≤ 1000 := fun i hi => by
      rcases List.mem_cons.mp hi with w | w
      · omega
      · rcases List.mem_append.mp w with w | w
        · exact s.bd i (List.mem_cons_of_mem _ w)
        · have := List.mem_singleton.mp w; omega
    have pw := cpl_plain c5
    simp only [plainP] at pw
    have pa := (plainA_app pw).1
    have pb := (plainA_app pw).2
    simp only [plainA, Bool.and_eq_true] at pb
    have pb := pb.2
    refine ⟨_, EmpR.held (n := n) [.int k, .int day, .str "held", .str x, .str y, .int term] va vb [.tuple [.int a, .int b], .tuple [.int c, .int e]] (.int i) z0 zs rfl rfl rfl ?_ rfl rfl ?_ pa pb, ?_⟩
    · rw [show va.length + 1 + vb.length = ds.length by omega]
      have := Int.emod_nonneg n (show (ds.length : Int) ≠ 0 by omega)
      omega
    · have := s.le; simp only [List.length_cons] at this; omega
    · have e2 : py0A (ds.take j ++ .tup [.int i, .lst ((1 :: (zs ++ [7])).map D.int), fr a b, fr c e] :: ds.drop (j + 1)) = some (va ++ .tuple (.int i :: .list ((1 :: (zs ++ [7])).map PyData.int) :: [.tuple [.int a, .int b], .tuple [.int c, .int e]]) :: vb) := by
        refine py0A_app ea ?_
        simp only [py0A, py0, py0A_ints, eb, Option.map_some]
      refine pd_paper2 (hs := [.int k, .int day, .str "held", .str x, .str y, .int term]) rfl (py0A_drop e2) (al1 (g3i (by omega) (by omega)) (al1 (g3i (by omega) (by omega)) (al1 (g3n (by decide +kernel)) (al1 (g3n hx) (al1 (g3n hy) (al1 (g3i (by omega) (by omega)) al0)))))) (by simp) (fun d hd => ?_) ?_
      · rcases List.mem_append.mp ((List.dropLast_subset _) hd) with w | w
        · exact hga d w
        · rcases List.mem_cons.mp w with w | w
          · rw [w]; exact g2_row i0 i1 bz lz f g
          · exact hgb d w
      · rw [List.length_dropLast, List.length_append, List.length_cons]; omega
  | made k day t b x ds k1 k2 d1 d2 hx f t0 hr hd =>
    obtain ⟨rs, e1, _⟩ := rows_list mrow_okW hr
    obtain ⟨_, _, _, l1, l8⟩ := id hr
    simp only [py0, py0A, e1, Option.map_some] at e
    cases e
    exact emp_lst (hs := [.int k, .int day, .str "made", .str x, fr t b]) (init := [.int k, .int day, .str "made", .str x, .tuple [.int t, .int b]]) (w := "made") rfl e1 l1 rfl rfl (by decide)
      (al1 (g3i (by omega) (by omega)) (al1 (g3i (by omega) (by omega)) (al1 (g3n (by decide +kernel)) (al1 (g3n hx) (al1 (g3f f) al0))))) (by simp)
      (fun d hd => by
        obtain ⟨i, i0, i1, ⟨y, p, rfl, hy, p0, p1⟩, _⟩ := (rows_ok hr).2 d hd
        exact gd_row (al1 ((gi (by omega) (by omega)).mono (by decide) (by decide)) (al1 ((gnm hy).mono (by decide) (by decide)) (al1 ((gi (by omega) (by omega)).mono (by decide) (by decide)) al0))) (by simp)) l8
  | read k day x ns k1 k2 d1 d2 hx s =>
    simp only [py0, py0A, py0A_ints, Option.map_some] at e
    cases e
    exact emp_lst (hs := [.int k, .int day, .str "read", .str x]) (init := [.int k, .int day, .str "read", .str x]) (w := "read") rfl (py0A_ints ns) (by rw [List.length_map]; exact s.ne) rfl rfl (by decide)
      (al1 (g3i (by omega) (by omega)) (al1 (g3i (by omega) (by omega)) (al1 (g3n (by decide +kernel)) (al1 (g3n hx) al0)))) (by simp) (g2_ints s.bd) (by rw [List.length_map]; have := s.le; omega)
  | plain k day w x k1 k2 d1 d2 hw hx =>
    cases e
    exact ⟨_, .plain k day w x (by rcases hw with rfl | rfl | rfl <;> decide), pd0⟩
end K34
namespace K34
open PySem PySem.Spec PyProof.Rows L2 DL
def c_law_1 : DS :=
    (dSeq (dAsg (dCallB g_law_names_due (dCons (dVar 3) dNil)) (gN 4))
    (dSeq (dAsg (dCallB g_law_copy (dCons (dVar 3) dNil)) (gN 5))
    (dSeq (dAsg (dCallB g_names_in (dCons (dVar 5) dNil)) (gN 6))
    (dSeq (dIf (dTOr (dTNot (dTest (dCallB g_law_alike (dCons (dVar 6) (dCons (dVar 4) dNil))))) (dTNot (dTest (dCallB g_law_alike (dCons (dVar 5) (dCons (dVar 3) dNil)))))) (dRet (dC (.bl false))) dNext)
    (dSeq (dDrop (dApp (dVar 6) (dC (.str "zz"))))
    (dSeq (dAsg (dC (.str "zy")) (gIx (dVar 6) (dC (.int 0))))
    (dSeq (dIf (dTOr (dTNot (dTest (dCallB g_law_alike (dCons (dCallB g_names_in (dCons (dVar 5) dNil)) (dCons (dVar 4) dNil))))) (dTNot (dTest (dCallB g_law_alike (dCons (dVar 5) (dCons (dVar 3) dNil)))))) (dRet (dC (.bl false))) dNext)
    (dSeq (dAsg (dCallB g_copy_of (dCons (dVar 5) dNil)) (gN 7))
    (dSeq (dAsg (dCallB g_copy_of (dCons (dVar 5) dNil)) (gN 8))
    (dSeq (dIf (dTOr (dTNot (dTest (dCallB g_law_alike (dCons (dVar 7) (dCons (dVar 3) dNil))))) (dTNot (dTest (dCallB g_law_alike (dCons (dVar 8) (dCons (dVar 3) dNil)))))) (dRet (dC (.bl false))) dNext)
    (dSeq (dPar 9 10 (dCons (dCallB g_law_take (dCons (dVar 1) (dCons (dC (.int 8)) dNil))) (dCons (dCallB g_law_copy (dCons (dVar 3) dNil)) dNil)))
    (dSeq (dDrop (dCallB g_law_emptied (dCons (dVar 9) (dCons (dVar 7) dNil))))
    (dSeq (dDrop (dCallB g_law_emptied (dCons (dVar 9) (dCons (dVar 10) dNil))))
    (dSeq (dIf (dTOr (dTNot (dTest (dCallB g_law_alike (dCons (dVar 5) (dCons (dVar 3) dNil))))) (dTOr (dTNot (dTest (dCallB g_law_alike (dCons (dVar 8) (dCons (dVar 3) dNil))))) (dTNot (dTest (dCallB g_law_alike (dCons (dVar 7) (dCons (dVar 10) dNil))))))) (dRet (dC (.bl false))) dNext)
    (dSeq (dDrop (dCallB g_law_emptied (dCons (dVar 9) (dCons (dVar 5) dNil))))
    (dIf (dTOr (dTNot (dTest (dCallB g_law_alike (dCons (dVar 8) (dCons (dVar 3) dNil))))) (dTNot (dTest (dCallB g_law_alike (dCons (dCallB g_copy_of (dCons (dVar 8) dNil)) (dCons (dVar 3) dNil)))))) (dRet (dC (.bl false))) dNext))))))))))))))))
def b_law_2 : DS :=
    (dSeq (dAsg (dCallB g_law_any_paper (dCons (dVar 1) dNil)) (gN 3))
    (dSeq (dIf (dTAnd (dTest (dBin dEq (dBin dIx (dVar 3) (dC (.int 2))) (dC (.str "held")))) (dTest (dBin dEq (dCallB g_law_take (dCons (dVar 1) (dCons (dC (.int 3)) dNil))) (dC (.int 0))))) (dAsg (dBin dAdd (dBin dAdd (dSlice dCut (dVar 3) dNoPart (dPart (dC (.int 4)))) (dTup (dCons (dBin dIx (dVar 3) (dC (.int 3))) dNil))) (dSlice dCut (dVar 3) (dPart (dC (.int 5))) dNoPart)) (gN 3)) dNext)
    c_law_1))
def t_law : DS :=
    (dSeq (dAsg (dCallB g_law_bag (dCons (dVar 0) dNil)) (gN 1))
    (dSeq (dFor (dRange1 (dBin dAdd (dC (.int 1)) (dCallB g_law_take (dCons (dVar 1) (dCons (dC (.int 5)) dNil))))) (gN 2) b_law_2)
    (dRet (dC (.bl true)))))
theorem law_body {e : DEnds} {s0 x2 x4 x5 x6 x7 x8 x9 x10 : Option D} {d : D} {c : Cell} {ms : Sto} (hp : Paper d) (hc : BagOk c) (kk : ∀ c' ms' y4 y5 y6 y7 y8 y9 y10, BagOk c' → e.nx [s0, some (.ptr 0), x2, some d, y4, y5, y6, y7, y8, y9, y10] (c' :: ms')) : c_law_1 e [s0, some (.ptr 0), x2, some d, x4, x5, x6, x7, x8, x9, x10] (c :: ms) := by
    obtain ⟨vs, ev, c6⟩ : ∃ vs, py0 d = some (.tuple vs) ∧ cplP (.tuple vs) 6 = true := by
      rcases paper_pv hp with ⟨hs, es, init, ws, rfl, V⟩ | ⟨k, day, w, x, rfl, ok⟩
      · exact ⟨_, pv_py V, V.cpl⟩
      · exact ⟨_, rfl, rfl⟩
    obtain ⟨ns, hn, hns⟩ := names_paper hp ev
    have pv := pd_of hp ev
    have pl := cpl_plain c6
    have paper : ∀ M : Sto, PyR M d (.tuple vs) := fun M => pyr_py ev
    unfold c_law_1
    ((conv => whnf); (try (set_option simprocs false in dsimp only [])))
    refine i_law_names_due ⟨paper _, hn, fun due c1 s1 l1 => ?_⟩
    have n9 := hn.len
    have pn := pd_names s1 (by omega) hns
    have dueR : ∀ M : Sto, PyR M (.lst (due.map D.str)) (.list (due.map PyData.str)) := fun M => .lst (pyrA_py py_strs)
    generalize hM1 : c :: ms ++ c1 = M1
    have b1 : M1[0]? = some c := by rw [← hM1]; rfl
    have L1 : 1 ≤ M1.length := by rw [← hM1]; simp
    ((conv => whnf); (try (set_option simprocs false in dsimp only [])))
    refine i_law_copy_rec (paper _) c6 ?_
    have H1 : AlAt (M1 ++ (al (.tuple vs) M1.length).2) M1.length (.tuple vs) := AlAt.new
    have b2 : (M1 ++ (al (.tuple vs) M1.length).2)[0]? = some c := get_app b1
    have z2 : (M1 ++ (al (.tuple vs) M1.length).2).length = M1.length + (al (.tuple vs) M1.length).2.length := List.length_append
    generalize M1.length = k1 at H1 L1 b2 z2 ⊢
    generalize M1 ++ (al (.tuple vs) k1).2 = M2 at H1 b2 z2 ⊢
    ((conv => whnf); (try (set_option simprocs false in dsimp only [])))
    refine i_names_in ⟨(H1.pyin pl).r, hn, fun told c2 s2 l2 => ?_⟩
    obtain rfl := s1.uniq s2
    ((conv => whnf); (try (set_option simprocs false in dsimp only [])))
    refine i_law_alike ⟨.ptr (by rw [List.getElem?_append_right (Nat.le_refl _), Nat.sub_self]; rfl) (pyrA_py py_strs), dueR _, pn, ?_⟩
    ((conv => whnf); (try (set_option simprocs false in dsimp only [])))
    refine bf ?_
    ((conv => whnf); (try (set_option simprocs false in dsimp only [])))
    refine i_law_alike ⟨(((H1.app c2).app _).pyin pl).r, paper _, pv, ?_⟩
    ((conv => whnf); (try (set_option simprocs false in dsimp only [])))
    refine bf ?_
    ((conv => whnf); (try (set_option simprocs false in dsimp only [])))
    rw [new_lst]
    ((conv => whnf); (try (set_option simprocs false in dsimp only [])))
    rw [new_lst]
    ((conv => whnf); (try (set_option simprocs false in dsimp only [])))
    refine ⟨by rw [List.length_map]; omega, ?_⟩
    rw [set_new]
    ((conv => whnf); (try (set_option simprocs false in dsimp only [])))
    rw [new_lst]
    ((conv => whnf); (try (set_option simprocs false in dsimp only [])))
    rw [show ixN (List.map D.str due ++ [D.str "zz"]).length 0 = some 0 from ixN_lit (j := 0) (by simp)]
    ((conv => whnf); (try (set_option simprocs false in dsimp only [])))
    rw [set_new]
    have H2 : AlAt (M2 ++ c2 ++ [Cell.lst ((List.map D.str due ++ [D.str "zz"]).set 0 (D.str "zy"))]) k1 (.tuple vs) := (H1.app c2).app _
    have b3 : (M2 ++ c2 ++ [Cell.lst ((List.map D.str due ++ [D.str "zz"]).set 0 (D.str "zy"))])[0]? = some c := get_app (get_app b2)
    have z3 : M2.length ≤ (M2 ++ c2 ++ [Cell.lst ((List.map D.str due ++ [D.str "zz"]).set 0 (D.str "zy"))]).length := by rw [List.length_append, List.length_append]; omega
    generalize M2 ++ c2 ++ [Cell.lst ((List.map D.str due ++ [D.str "zz"]).set 0 (D.str "zy"))] = M3 at H2 b3 z3 ⊢
    refine i_names_in ⟨(H2.pyin pl).r, hn, fun told c3 s3 l3 => ?_⟩
    obtain rfl := s1.uniq s3
    ((conv => whnf); (try (set_option simprocs false in dsimp only [])))
    refine i_law_alike ⟨.ptr (by rw [List.getElem?_append_right (Nat.le_refl _), Nat.sub_self]; rfl) (pyrA_py py_strs), dueR _, pn, ?_⟩
    ((conv => whnf); (try (set_option simprocs false in dsimp only [])))
    refine bf ?_
    ((conv => whnf); (try (set_option simprocs false in dsimp only [])))
    have H3 := (H2.app c3).app [Cell.lst (due.map D.str)]
    have b4 := get_app (dn := [Cell.lst (due.map D.str)]) (get_app (dn := c3) b3)
    have z4 : M3.length ≤ (M3 ++ c3 ++ [Cell.lst (due.map D.str)]).length := by rw [List.length_append, List.length_append]; omega
    generalize M3 ++ c3 ++ [Cell.lst (due.map D.str)] = M4 at H3 b4 z4 ⊢
    refine i_law_alike ⟨(H3.pyin pl).r, paper _, pv, ?_⟩
    ((conv => whnf); (try (set_option simprocs false in dsimp only [])))
    refine bf ?_
    ((conv => whnf); (try (set_option simprocs false in dsimp only [])))
    refine i_copy_of ⟨(H3.pyin pl).r, c6, ?_⟩
    have A2 : AlAt (M4 ++ (al (.tuple vs) M4.length).2) M4.length (.tuple vs) := AlAt.new
    have H4 := H3.app (al (.tuple vs) M4.length).2
    have b5 := get_app (dn := (al (.tuple vs) M4.length).2) b4
    have z5 : (M4 ++ (al (.tuple vs) M4.length).2).length = M4.length + (al (.tuple vs) M4.length).2.length := List.length_append
    generalize M4.length = k2 at A2 H4 b5 z4 z5 ⊢
    generalize M4 ++ (al (.tuple vs) k2).2 = M5 at A2 H4 b5 z5 ⊢
    ((conv => whnf); (try (set_option simprocs false in dsimp only [])))
    refine i_copy_of ⟨(H4.pyin pl).r, c6, ?_⟩
    have A3 : AlAt (M5 ++ (al (.tuple vs) M5.length).2) M5.length (.tuple vs) := AlAt.new
    have B2 := A2.app (al (.tuple vs) M5.length).2
    have H5 := H4.app (al (.tuple vs) M5.length).2
    have b6 := get_app (dn := (al (.tuple vs) M5.length).2) b5
    have z6 : (M5 ++ (al (.tuple vs) M5.length).2).length = M5.length + (al (.tuple vs) M5.length).2.length := List.length_append
    generalize M5.length = k3 at A3 B2 H5 b6 z5 z6 ⊢
    generalize M5 ++ (al (.tuple vs) k3).2 = M6 at A3 B2 H5 b6 z6 ⊢
    ((conv => whnf); (try (set_option simprocs false in dsimp only [])))
    refine i_law_alike ⟨(B2.pyin pl).r, paper _, pv, ?_⟩
    ((conv => whnf); (try (set_option simprocs false in dsimp only [])))
    refine bf ?_
    ((conv => whnf); (try (set_option simprocs false in dsimp only [])))
    refine i_law_alike ⟨(A3.pyin pl).r, paper _, pv, ?_⟩
    ((conv => whnf); (try (set_option simprocs false in dsimp only [])))
    refine bf ?_
    ((conv => whnf); (try (set_option simprocs false in dsimp only [])))
    obtain ⟨T, rfl⟩ : ∃ T, M6 = c :: T := by
      cases M6 with
      | nil => cases b6
      | cons c0 T => cases b6; exact ⟨T, rfl⟩
    refine take_at hc (by decide) (sm (k := 64) (by decide) (by decide)) fun v cc lo_v up_v hc_v => ?_
    have A3 : AlAt (cc :: T) k3 (.tuple vs) := A3.set (j := 0) (x := cc) (.inl (by omega))
    have B2 : AlAt (cc :: T) k2 (.tuple vs) := B2.set (j := 0) (x := cc) (.inl (by omega))
    have H5 : AlAt (cc :: T) k1 (.tuple vs) := H5.set (j := 0) (x := cc) (.inl (by omega))
    have b7 : (cc :: T)[0]? = some cc := rfl
    have z7 : (cc :: T).length = k3 + (al (.tuple vs) k3).2.length := z6
    generalize cc :: T = M7 at A3 B2 H5 b7 z7 ⊢
    clear z6 b6
    ((conv => whnf); (try (set_option simprocs false in dsimp only [])))
    refine i_law_copy_rec (paper _) c6 ?_
    have A4 : AlAt (M7 ++ (al (.tuple vs) M7.length).2) M7.length (.tuple vs) := AlAt.new
    have A3 := A3.app (al (.tuple vs) M7.length).2
    have B2 := B2.app (al (.tuple vs) M7.length).2
    have H5 := H5.app (al (.tuple vs) M7.length).2
    have b8 := get_app (dn := (al (.tuple vs) M7.length).2) b7
    generalize M7.length = k4 at A4 A3 B2 H5 b8 z7 ⊢
    generalize M7 ++ (al (.tuple vs) k4).2 = M8 at A4 A3 B2 H5 b8 ⊢
    ((conv => whnf); (try (set_option simprocs false in dsimp only [])))
    obtain ⟨us, he, pu⟩ := emp_paper hp ev lo_v
    refine i_law_emptied ⟨rfl, he, pl, B2, fun M9 l9 o9 p9 => ?_⟩
    have A4 := alAt_on A4 fun i h1 h2 => o9 i (by omega)
    have A3 := alAt_on A3 fun i h1 h2 => o9 i (by omega)
    have H5 := alAt_on H5 fun i h1 h2 => o9 i (by omega)
    have b9 := (o9 0 (by omega)).trans b8
    ((conv => whnf); (try (set_option simprocs false in dsimp only [])))
    refine i_law_emptied ⟨rfl, he, pl, A4, fun M10 l10 o10 p10 => ?_⟩
    have A3 := alAt_on A3 fun i h1 h2 => o10 i (by omega)
    have H5 := alAt_on H5 fun i h1 h2 => o10 i (by omega)
    have p9 := p9.on (m' := M10) (Nat.le_refl _) (Nat.le_refl _) fun i c h1 h2 e => (o10 i (by omega)).trans e
    have b10 := (o10 0 (by omega)).trans b9
    ((conv => whnf); (try (set_option simprocs false in dsimp only [])))
    refine i_law_alike ⟨(H5.pyin pl).r, paper _, pv, ?_⟩
    ((conv => whnf); (try (set_option simprocs false in dsimp only [])))
    refine bf ?_
    ((conv => whnf); (try (set_option simprocs false in dsimp only [])))
    refine i_law_alike ⟨(A3.pyin pl).r, paper _, pv, ?_⟩
    ((conv => whnf); (try (set_option simprocs false in dsimp only [])))
    refine bf ?_
    ((conv => whnf); (try (set_option simprocs false in dsimp only [])))
    refine i_law_alike ⟨p9.r, p10.r, pu, ?_⟩
    ((conv => whnf); (try (set_option simprocs false in dsimp only [])))
    refine bf ?_
    ((conv => whnf); (try (set_option simprocs false in dsimp only [])))
    refine i_law_emptied ⟨rfl, he, pl, H5, fun M11 l11 o11 p11 => ?_⟩
    have A3 := alAt_on A3 fun i h1 h2 => o11 i (by omega)
    have b11 := (o11 0 (by omega)).trans b10
    ((conv => whnf); (try (set_option simprocs false in dsimp only [])))
    refine i_law_alike ⟨(A3.pyin pl).r, paper _, pv, ?_⟩
    ((conv => whnf); (try (set_option simprocs false in dsimp only [])))
    refine bf ?_
    ((conv => whnf); (try (set_option simprocs false in dsimp only [])))
    refine i_copy_of ⟨(A3.pyin pl).r, c6, ?_⟩
    ((conv => whnf); (try (set_option simprocs false in dsimp only [])))
    refine i_law_alike ⟨(AlAt.new.pyin pl).r, paper _, pv, ?_⟩
    ((conv => whnf); (try (set_option simprocs false in dsimp only [])))
    refine bf ?_
    have b12 := get_app (dn := (al (.tuple vs) M11.length).2) b11
    generalize M11 ++ (al (.tuple vs) M11.length).2 = M12 at b12 ⊢
    obtain ⟨T2, rfl⟩ : ∃ T, M12 = cc :: T := by
      cases M12 with
      | nil => cases b12
      | cons c0 T => cases b12; exact ⟨T, rfl⟩
    exact kk _ _ _ _ _ _ _ _ _ hc_v
theorem held_or {d : D} (h : Paper d) : (∃ k day term : Int, ∃ x y : Str, ∃ ds, d = .tup [.int k, .int day, .str "held", .str x, .str y, .int term, .lst ds] ∧ Paper (.tup [.int k, .int day, .str "held", .str x, .str x, .int term, .lst ds])) ∨ ∃ ds w, d = .tup ds ∧ atI ds (2 : Int) = some (.str w) ∧ w ≠ "held" := by
  cases h with
  | thing k day lev t b x sort ns k1 k2 d1 d2 hx hs l0 l5 f t0 => exact .inr ⟨_, "thing", rfl, rfl, by decide⟩
  | told k day term x ds k1 k2 d1 d2 hx t1 t2 hr => exact .inr ⟨_, "told", rfl, rfl, by decide⟩
  | held k day term x y ds k1 k2 d1 d2 hx hy t1 t2 hr => exact .inl ⟨k, day, term, x, y, ds, rfl, .held k day term x x ds k1 k2 d1 d2 hx hx t1 t2 hr⟩
  | made k day t b x ds k1 k2 d1 d2 hx f t0 hr hd => exact .inr ⟨_, "made", rfl, rfl, by decide⟩
  | read k day x ns k1 k2 d1 d2 hx s => exact .inr ⟨_, "read", rfl, rfl, by decide⟩
  | plain k day w x k1 k2 d1 d2 hw hx => exact .inr ⟨_, w, rfl, rfl, by rcases hw with rfl | rfl | rfl <;> decide⟩
theorem r_law (ds : List D) (m : Sto) (q : D → Sto → Prop) (hl : ds.length = 1) (h : lawD ds m q) : t_law { nx := fun _ m' => q .non m', rt := q } (startD N_law ds) m := by
  obtain ⟨ns, rfl, hn, rfl, h⟩ := h
  unfold t_law
  ((conv => whnf); (try (set_option simprocs false in dsimp only [])))
  refine i_law_bag hn fun c hc => ?_
  ((conv => whnf); (repeat ((first | refine ⟨Nat.le_of_ble_eq_true rfl, ?_⟩ | refine bt ?_ | refine bf ?_); (conv => whnf))); (try (set_option simprocs false in dsimp only [])))
  refine take_at hc (by decide) (sm (k := 64) (by decide) (by decide)) fun v1 c1 lo_v1 up_v1 hc_v1 => ?_
  ((conv => whnf); (try (set_option simprocs false in dsimp only [])))
  refine ⟨⟨by omega, by omega⟩, ?_⟩
  refine forD_ind (fun xs r m2 => ∃ x2 x3 x4 x5 x6 x7 x8 x9 x10, ∃ c ms, r = [some (.fz (ns.map D.int)), some (.ptr 0), x2, x3, x4, x5, x6, x7, x8, x9, x10] ∧ m2 = c :: ms ∧ BagOk c) ?_ (fun _ _ _ _ => trivial) ?_ _ _ _ ⟨_, _, _, _, _, _, _, _, _, c1, [], rfl, rfl, hc_v1⟩
  · rintro x xs r m2 N ⟨x2, x3, x4, x5, x6, x7, x8, x9, x10, c, ms, rfl, rfl, hc⟩ kk
    unfold b_law_2
    ((conv => whnf); (try (set_option simprocs false in dsimp only [])))
    refine i_law_any_paper ⟨rfl, hc, fun d c2 dn hd hc2 => ?_⟩
    rcases held_or hd with ⟨k, day, term, x, y, ds, rfl, hd2⟩ | ⟨ds, w, rfl, hw, hne⟩
    · ((conv => whnf); (repeat ((first | refine ⟨Nat.le_of_ble_eq_true rfl, ?_⟩ | refine bt ?_ | refine bf ?_); (conv => whnf))); (try (set_option simprocs false in dsimp only [])))
      refine take_at hc2 (by decide) (sm (k := 64) (by decide) (by decide)) fun v3 c3 lo_v3 up_v3 hc_v3 => ?_
      ((conv => whnf); (try (set_option simprocs false in dsimp only [])))
      refine br (fun _ => ?_) (fun _ => ?_)
      · ((conv => whnf); (repeat ((first | refine ⟨Nat.le_of_ble_eq_true rfl, ?_⟩ | refine bt ?_ | refine bf ?_); (conv => whnf))); (try (set_option simprocs false in dsimp only [])))
        exact law_body hd2 hc_v3 fun cc ms' y4 y5 y6 y7 y8 y9 y10 hcc => kk _ _ ⟨_, _, _, _, _, _, _, _, _, cc, ms', rfl, rfl, hcc⟩
      · exact law_body hd hc_v3 fun cc ms' y4 y5 y6 y7 y8 y9 y10 hcc => kk _ _ ⟨_, _, _, _, _, _, _, _, _, cc, ms', rfl, rfl, hcc⟩
    · ((conv => whnf); (try (set_option simprocs false in dsimp only [])))
      rw [hw]
      ((conv => whnf); (try (set_option simprocs false in dsimp only [])))
      rw [decide_eq_false hne]
      refine bf ?_
      refine bf ?_
      refine law_body hd hc2 fun cc ms' y4 y5 y6 y7 y8 y9 y10 hcc => ?_
      exact kk _ _ ⟨_, _, _, _, _, _, _, _, _, cc, ms', rfl, rfl, hcc⟩
  · rintro r m2 ⟨x2, x3, x4, x5, x6, x7, x8, x9, x10, c, ms, rfl, rfl, hc⟩
    ((conv => whnf); (try (set_option simprocs false in dsimp only [])))
    exact h _
abbrev g_law : FN := lawD
end K34
namespace K34
open PySem PySem.Spec PyProof.Rows L2 DL
end K34
namespace K34
open PySem PySem.Spec PyProof.Rows L2 DL
theorem r_law_bag (ds : List D) (m : Sto) (q : D → Sto → Prop) (hl : ds.length = 1) (h : g_law_bag ds m q) : t_law_bag { nx := fun _ m' => q .non m', rt := q } (startD N_law_bag ds) m := DL.r_law_bag _ _ ds m q hl h
theorem r_law_take (ds : List D) (m : Sto) (q : D → Sto → Prop) (hl : ds.length = 2) (h : g_law_take ds m q) : t_law_take { nx := fun _ m' => q .non m', rt := q } (startD N_law_take ds) m := DL.take_all _ rfl ds m q h
section
variable {P : Program} {w : World} {K : PySem.W.Frag} {mg : Str → Option Value} {base : Heap}
theorem ok_names_in {fa : Addr} {fd : FuncData} (F : L2.Fun K "names_in" "names_in" s_names_in fa fd) (z_sorted : mg "sorted" = none) (z_set : mg "set" = none) : FnG P w K mg base 1 fa fd ["paper"] (spOf K 1 g_names_in) :=
  defG F sc_names_in rfl (t := t_names_in) (fun cdv A outer s H E hr gd =>
    (jss_cons (js_set 1 sc_names_in.nd (je_lstP (ja_cons (je_ix (je_var 0) je_int) ja_nil)))
    (jss_cons (js_if (jt_eq hr (je_ix (je_var 0) je_int) je_str) (jss_one (js_expr (je_append (je_var 1) (je_ix (je_var 0) je_int)))) jss_nil)
    (jss_cons (js_if (jt_eq hr (je_ix (je_var 0) je_int) je_str) (jss_one (js_set 1 sc_names_in.nd (je_addP (je_var 1) (je_lc 2 rfl sc_names_in.nd (ji_any (je_ix (je_var 0) je_int)) (blkOk_by (own := [("row", 2)]) (N := N_names_in) (sc := defScope s_names_in) (by decide +kernel)) (fun _ _ _ _ _ => (pg_name (i := 2) sc_names_in.nd rfl (Or.inl rfl))) (fun _ _ _ _ _ => jts_nil) (fun _ _ _ _ _ => (je_ix (je_var 2) je_int)))))) jss_nil)
    (jss_one (js_ret (je_sortSetP rfl rfl z_sorted rfl z_set (je_var 1)))))))) r_names_in
theorem ok_copy_part {gr g : FN} {k : Nat} (hk : 1 ≤ k) {fa : Addr} {fd : FuncData} (F : L2.Fun K "copy_part" "copy_part" s_copy_part fa fd) (z_isinstance : mg "isinstance" = none) (z_list : mg "list" = none) (z_tuple : mg "tuple" = none) (c_self : Kn P w K mg base k "copy_part" gr) (rd : ∀ ds m q, ds.length = 1 → g ds m q → t_copy_part gr { nx := fun _ m' => q .non m', rt := q } (startD N_copy_part ds) m) : FnG P w K mg base (k + 1) fa fd ["part"] (spOf K 1 g) :=
  defG F sc_copy_part rfl (t := t_copy_part gr) (fun cdv A outer s H E hr gd =>
    (jss_cons (js_if (jt_val (je_isi .list rfl z_isinstance (je_var 0) rfl z_list (by decide +kernel))) (jss_one (js_ret (je_lcP 1 rfl sc_copy_part.nd (ji_any (je_var 0)) (blkOk_by (own := [("one", 1)]) (N := N_copy_part) (sc := defScope s_copy_part) (by decide +kernel)) (fun _ _ _ _ _ => (pg_name (i := 1) sc_copy_part.nd rfl (Or.inl rfl))) (fun _ _ _ _ _ => jts_nil) (fun _ _ _ _ _ => (je_call c_self hr (Nat.le_refl _) gd rfl (ja_cons (je_var 1) ja_nil)))))) jss_nil)
    (jss_cons (js_if (jt_val (je_isi .tuple rfl z_isinstance (je_var 0) rfl z_tuple (by decide +kernel))) (jss_one (js_ret (je_tuple1 rfl z_tuple (je_lc 1 rfl sc_copy_part.nd (ji_any (je_var 0)) (blkOk_by (own := [("one", 1)]) (N := N_copy_part) (sc := defScope s_copy_part) (by decide +kernel)) (fun _ _ _ _ _ => (pg_name (i := 1) sc_copy_part.nd rfl (Or.inl rfl))) (fun _ _ _ _ _ => jts_nil) (fun _ _ _ _ _ => (je_call c_self hr (Nat.le_refl _) gd rfl (ja_cons (je_var 1) ja_nil))))))) jss_nil)
    (jss_one (js_ret (je_var 0)))))) rd
theorem ok_copy_of {fa : Addr} {fd : FuncData} (F : L2.Fun K "copy_of" "copy_of" s_copy_of fa fd) (c_copy_part : Kn P w K mg base 7 "copy_part" g_copy_part) : FnG P w K mg base 8 fa fd ["paper"] (spOf K 1 g_copy_of) :=
  defG F sc_copy_of rfl (t := t_copy_of) (fun cdv A outer s H E hr gd =>
    (jss_one (js_ret (je_call c_copy_part hr (by decide) gd rfl (ja_cons (je_var 0) ja_nil))))) r_copy_of
theorem ok_law_bag {fa : Addr} {fd : FuncData} (F : L2.Fun K "_law_bag" "_law_bag" s_law_bag fa fd) (z_abs : mg "abs" = none) : FnG P w K mg base 1 fa fd ["_law_script"] (spOf K 1 g_law_bag) :=
  defG F sc_law_bag rfl (t := t_law_bag) (fun cdv A outer s H E hr gd =>
    (jss_one (js_ret (je_lstP (ja_cons je_int (ja_cons je_int (ja_cons je_int (ja_cons (je_lc 1 rfl sc_law_bag.nd (ji_any (je_slice (je_var 0) jo_none (jo_some je_int))) (blkOk_by (own := [("_law_cell", 1)]) (N := N_law_bag) (sc := defScope s_law_bag) (by decide +kernel)) (fun _ _ _ _ _ => (pg_name (i := 1) sc_law_bag.nd rfl (Or.inl rfl))) (fun _ _ _ _ _ => jts_nil) (fun _ _ _ _ _ => (je_abs rfl z_abs (je_var 1)))) ja_nil)))))))) r_law_bag
theorem ok_law_take {fa : Addr} {fd : FuncData} (F : L2.Fun K "_law_take" "_law_take" s_law_take fa fd) (z_len : mg "len" = none) : FnG P w K mg base 1 fa fd ["_law_bag_here", "_law_many"] (spOf K 2 g_law_take) :=
  defG F sc_law_take rfl (t := t_law_take) (fun cdv A outer s H E hr gd =>
    (jss_cons (js_if (jt_eq hr (je_ix (je_var 0) je_int) je_int) (jss_cons (js_set 2 sc_law_take.nd je_int)
    (jss_cons (js_if (jt_lt (je_ix (je_var 0) je_int) (je_len rfl z_len (je_ix (je_var 0) je_int))) (jss_one (js_set 2 sc_law_take.nd (je_ix (je_ix (je_var 0) je_int) (je_ix (je_var 0) je_int)))) jss_nil)
    (jss_cons (js_augIx (je_var 0) je_int je_int pip_add)
    (jss_cons (js_if (jt_ge (je_var 2) je_int) (jss_one (js_asg (je_var 2) (jg_ix (je_var 0) je_int))) jss_nil)
    (jss_one (js_asg (je_mod (je_add (je_add (je_mul (je_ix (je_var 0) je_int) je_int) (je_mod (je_var 2) je_int)) (je_mul je_int (je_ix (je_var 0) je_int))) je_int) (jg_ix (je_var 0) je_int))))))) jss_nil)
    (jss_cons (js_if (jt_gt (je_ix (je_var 0) je_int) je_int) (jss_cons (js_set 3 sc_law_take.nd (je_mod (je_ix (je_var 0) je_int) (je_var 1)))
    (jss_cons (js_asg (je_div (je_ix (je_var 0) je_int) (je_var 1)) (jg_ix (je_var 0) je_int))
    (jss_one (js_ret (je_var 3))))) jss_nil)
    (jss_cons (js_set 4 sc_law_take.nd (je_mod (je_mul (je_add (je_ix (je_var 0) je_int) je_int) je_int) je_int))
    (jss_cons (js_set 5 sc_law_take.nd (je_mod (je_mul (je_mod (je_mul (je_var 4) (je_var 4)) je_int) je_int) je_int))
    (jss_cons (js_if (jt_gt (je_var 1) je_int) (jss_one (js_ret (je_mod (je_add (je_mul (je_var 5) je_int) (je_var 4)) (je_var 1)))) jss_nil)
    (jss_one (js_ret (je_mod (je_div (je_var 5) je_int) (je_var 1)))))))))) r_law_take
theorem ok_law_alike {fa : Addr} {fd : FuncData} (F : L2.Fun K "_law_alike" "_law_alike" s_law_alike fa fd) (z_repr : mg "repr" = none) : FnG P w K mg base 1 fa fd ["_law_found", "_law_due"] (spOf K 2 g_law_alike) :=
  defG F sc_law_alike rfl (t := t_law_alike) (fun cdv A outer s H E hr gd =>
    (jss_one (js_ret (je_and (je_eqD hr (je_var 0) (je_var 1)) (je_one (je_eqD hr (je_reprS hr gd rfl z_repr (je_var 0)) (je_reprS hr gd rfl z_repr (je_var 1)))))))) r_law_alike
theorem ok_law_copy {gr g : FN} {k : Nat} (hk : 1 ≤ k) {fa : Addr} {fd : FuncData} (F : L2.Fun K "_law_copy" "_law_copy" s_law_copy fa fd) (z_isinstance : mg "isinstance" = none) (z_list : mg "list" = none) (z_tuple : mg "tuple" = none) (c_self : Kn P w K mg base k "_law_copy" gr) (rd : ∀ ds m q, ds.length = 1 → g ds m q → t_law_copy gr { nx := fun _ m' => q .non m', rt := q } (startD N_law_copy ds) m) : FnG P w K mg base (k + 1) fa fd ["_law_thing"] (spOf K 1 g) :=
  defG F sc_law_copy rfl (t := t_law_copy gr) (fun cdv A outer s H E hr gd =>
    (jss_cons (js_if (jt_val (je_isi .list rfl z_isinstance (je_var 0) rfl z_list (by decide +kernel))) (jss_one (js_ret (je_lcP 1 rfl sc_law_copy.nd (ji_any (je_var 0)) (blkOk_by (own := [("_law_one", 1)]) (N := N_law_copy) (sc := defScope s_law_copy) (by decide +kernel)) (fun _ _ _ _ _ => (pg_name (i := 1) sc_law_copy.nd rfl (Or.inl rfl))) (fun _ _ _ _ _ => jts_nil) (fun _ _ _ _ _ => (je_call c_self hr (Nat.le_refl _) gd rfl (ja_cons (je_var 1) ja_nil)))))) jss_nil)
    (jss_cons (js_if (jt_val (je_isi .tuple rfl z_isinstance (je_var 0) rfl z_tuple (by decide +kernel))) (jss_one (js_ret (je_tuple1 rfl z_tuple (je_lc 1 rfl sc_law_copy.nd (ji_any (je_var 0)) (blkOk_by (own := [("_law_one", 1)]) (N := N_law_copy) (sc := defScope s_law_copy) (by decide +kernel)) (fun _ _ _ _ _ => (pg_name (i := 1) sc_law_copy.nd rfl (Or.inl rfl))) (fun _ _ _ _ _ => jts_nil) (fun _ _ _ _ _ => (je_call c_self hr (Nat.le_refl _) gd rfl (ja_cons (je_var 1) ja_nil))))))) jss_nil)
    (jss_one (js_ret (je_var 0)))))) rd
theorem ok_law_low {fa : Addr} {fd : FuncData} (F : L2.Fun K "_law_low" "_law_low" s_law_low fa fd) (z_abs : mg "abs" = none) : FnG P w K mg base 1 fa fd ["_law_top", "_law_bottom"] (spOf K 2 g_law_low) :=
  defG F sc_law_low rfl (t := t_law_low) (fun cdv A outer s H E hr gd =>
    (jss_cons (js_par 2 3 rfl sc_law_low.nd (ja_cons (je_abs rfl z_abs (je_var 0)) (ja_cons (je_var 1) ja_nil)) (by decide))
    (jss_cons (js_while PassesOwn.never (jt_gt (je_var 3) je_int) (jss_one (js_par 2 3 rfl sc_law_low.nd (ja_cons (je_var 3) (ja_cons (je_mod (je_var 2) (je_var 3)) ja_nil)) (by decide))))
    (jss_one (js_ret (je_tup (ja_cons (je_div (je_var 0) (je_var 2)) (ja_cons (je_div (je_var 1) (je_var 2)) ja_nil)))))))) r_law_low
theorem ok_law_under {fa : Addr} {fd : FuncData} (F : L2.Fun K "_law_under" "_law_under" s_law_under fa fd) : FnG P w K mg base 1 fa fd ["_law_one", "_law_other"] (spOf K 2 g_law_under) :=
  defG F sc_law_under rfl (t := t_law_under) (fun cdv A outer s H E hr gd =>
    (jss_one (js_ret (je_lt (je_mul (je_ix (je_var 0) je_int) (je_ix (je_var 1) je_int)) (je_mul (je_ix (je_var 1) je_int) (je_ix (je_var 0) je_int)))))) r_law_under
theorem ok_law_least {fa : Addr} {fd : FuncData} (F : L2.Fun K "_law_least" "_law_least" s_law_least fa fd) (c_law_under : Kn P w K mg base 1 "_law_under" g_law_under) : FnG P w K mg base 2 fa fd ["_law_some"] (spOf K 1 g_law_least) :=
  defG F sc_law_least rfl (t := t_law_least) (fun cdv A outer s H E hr gd =>
    (jss_cons (js_set 1 sc_law_least.nd (je_ix (je_var 0) je_int))
    (jss_cons (js_for PassesOwn.never rfl (ji_any (je_var 0)) (jg_name 2 sc_law_least.nd) (jss_one (js_if (jt_val (je_call c_law_under hr (by decide) gd rfl (ja_cons (je_var 2) (ja_cons (je_var 1) ja_nil)))) (jss_one (js_set 1 sc_law_least.nd (je_var 2))) jss_nil)))
    (jss_one (js_ret (je_var 1)))))) r_law_least
theorem ok_law_most {fa : Addr} {fd : FuncData} (F : L2.Fun K "_law_most" "_law_most" s_law_most fa fd) (c_law_under : Kn P w K mg base 1 "_law_under" g_law_under) : FnG P w K mg base 2 fa fd ["_law_some"] (spOf K 1 g_law_most) :=
  defG F sc_law_most rfl (t := t_law_most) (fun cdv A outer s H E hr gd =>
    (jss_cons (js_set 1 sc_law_most.nd (je_ix (je_var 0) je_int))
    (jss_cons (js_for PassesOwn.never rfl (ji_any (je_var 0)) (jg_name 2 sc_law_most.nd) (jss_one (js_if (jt_val (je_call c_law_under hr (by decide) gd rfl (ja_cons (je_var 1) (ja_cons (je_var 2) ja_nil)))) (jss_one (js_set 1 sc_law_most.nd (je_var 2))) jss_nil)))
    (jss_one (js_ret (je_var 1)))))) r_law_most
theorem ok_law_name {fa : Addr} {fd : FuncData} (F : L2.Fun K "_law_name" "_law_name" s_law_name fa fd) (z_range : mg "range" = none) (c_law_take : Kn P w K mg base 1 "_law_take" g_law_take) : FnG P w K mg base 2 fa fd ["_law_bag_here"] (spOf K 1 g_law_name) :=
  defG F sc_law_name rfl (t := t_law_name) (fun cdv A outer s H E hr gd =>
    (jss_cons (js_set 1 sc_law_name.nd (je_lst (ja_cons je_str (ja_cons je_str (ja_cons je_str (ja_cons je_str (ja_cons je_str (ja_cons je_str (ja_cons je_str (ja_cons je_str (ja_cons je_str (ja_cons je_str ja_nil))))))))))))
    (jss_cons (js_set 2 sc_law_name.nd (je_call c_law_take hr (by decide) gd rfl (ja_cons (je_var 0) (ja_cons je_int ja_nil))))
    (jss_cons (js_if (jt_eq hr (je_var 2) je_int) (jss_one (js_ret (je_ix (je_var 1) (je_call c_law_take hr (by decide) gd rfl (ja_cons (je_var 0) (ja_cons je_int ja_nil)))))) jss_nil)
    (jss_cons (js_set 3 sc_law_name.nd je_str)
    (jss_one (js_ret (je_join je_str (je_lc 4 rfl sc_law_name.nd (ji_range1 rfl z_range (je_add je_int (je_call c_law_take hr (by decide) gd rfl (ja_cons (je_var 0) (ja_cons (je_ix (je_lst (ja_cons je_int (ja_cons je_int (ja_cons je_int ja_nil)))) (je_sub (je_var 2) je_int)) ja_nil))))) (blkOk_by (own := [("_law_k", 4)]) (N := N_law_name) (sc := defScope s_law_name) (by decide +kernel)) (fun _ _ _ _ _ => (pg_name (i := 4) sc_law_name.nd rfl (Or.inl rfl))) (fun _ _ _ _ _ => jts_nil) (fun _ _ _ _ _ => (je_ix (je_var 3) (je_call c_law_take hr (by decide) gd rfl (ja_cons (je_var 0) (ja_cons je_int ja_nil)))))))))))))) r_law_name
theorem ok_law_small {fa : Addr} {fd : FuncData} (F : L2.Fun K "_law_small" "_law_small" s_law_small fa fd) (c_law_take : Kn P w K mg base 1 "_law_take" g_law_take) (c_law_low : Kn P w K mg base 1 "_law_low" g_law_low) : FnG P w K mg base 2 fa fd ["_law_bag_here"] (spOf K 1 g_law_small) :=
  defG F sc_law_small rfl (t := t_law_small) (fun cdv A outer s H E hr gd =>
    (jss_cons (js_set 1 sc_law_small.nd (je_call c_law_take hr (by decide) gd rfl (ja_cons (je_var 0) (ja_cons je_int ja_nil))))
    (jss_cons (js_set 2 sc_law_small.nd (je_ix (je_lst (ja_cons je_int (ja_cons je_int (ja_cons je_int (ja_cons (je_add je_int (je_call c_law_take hr (by decide) gd rfl (ja_cons (je_var 0) (ja_cons je_int ja_nil)))) (ja_cons je_int ja_nil)))))) (je_var 1)))
    (jss_cons (js_set 3 sc_law_small.nd (je_ix (je_lst (ja_cons (je_sub (je_call c_law_take hr (by decide) gd rfl (ja_cons (je_var 0) (ja_cons je_int ja_nil))) je_int) (ja_cons (je_sub (je_call c_law_take hr (by decide) gd rfl (ja_cons (je_var 0) (ja_cons je_int ja_nil))) je_int) (ja_cons (je_sub (je_pow je_int je_int) (je_call c_law_take hr (by decide) gd rfl (ja_cons (je_var 0) (ja_cons je_int ja_nil)))) ja_nil)))) (je_mod (je_var 1) je_int)))
    (jss_cons (js_if (jt_gt (je_var 1) je_int) (jss_one (js_set 3 sc_law_small.nd (je_sub (je_call c_law_take hr (by decide) gd rfl (ja_cons (je_var 0) (ja_cons (je_add (je_mul je_int (je_pow je_int je_int)) je_int) ja_nil))) (je_pow je_int je_int)))) jss_nil)
    (jss_one (js_ret (je_call c_law_low hr (by decide) gd rfl (ja_cons (je_var 3) (ja_cons (je_var 2) ja_nil)))))))))) r_law_small
theorem ok_law_free {fa : Addr} {fd : FuncData} (F : L2.Fun K "_law_free" "_law_free" s_law_free fa fd) (z_abs : mg "abs" = none) (c_law_small : Kn P w K mg base 2 "_law_small" g_law_small) : FnG P w K mg base 3 fa fd ["_law_bag_here"] (spOf K 1 g_law_free) :=
  defG F sc_law_free rfl (t := t_law_free) (fun cdv A outer s H E hr gd =>
    (jss_cons (js_asg (je_call c_law_small hr (by decide) gd rfl (ja_cons (je_var 0) ja_nil)) (jg_tup rfl (jgs_cons (jg_name 1 sc_law_free.nd) (jgs_cons (jg_name 2 sc_law_free.nd) jgs_nil))))
    (jss_one (js_ret (je_tup (ja_cons (je_abs rfl z_abs (je_var 1)) (ja_cons (je_var 2) ja_nil))))))) r_law_free
theorem ok_law_rising {fa : Addr} {fd : FuncData} (F : L2.Fun K "_law_rising" "_law_rising" s_law_rising fa fd) (z_range : mg "range" = none) (c_law_take : Kn P w K mg base 1 "_law_take" g_law_take) : FnG P w K mg base 2 fa fd ["_law_bag_here", "_law_many"] (spOf K 2 g_law_rising) :=
  defG F sc_law_rising rfl (t := t_law_rising) (fun cdv A outer s H E hr gd =>
    (jss_cons (js_set 2 sc_law_rising.nd (je_ix (je_lst (ja_cons je_int (ja_cons je_int (ja_cons je_int ja_nil)))) (je_call c_law_take hr (by decide) gd rfl (ja_cons (je_var 0) (ja_cons je_int ja_nil)))))
    (jss_cons (js_set 3 sc_law_rising.nd (je_call c_law_take hr (by decide) gd rfl (ja_cons (je_var 0) (ja_cons je_int ja_nil))))
    (jss_cons (js_set 4 sc_law_rising.nd (je_lstP (ja_cons (je_call c_law_take hr (by decide) gd rfl (ja_cons (je_var 0) (ja_cons (je_ix (je_lst (ja_cons je_int (ja_cons je_int ja_nil))) (je_call c_law_take hr (by decide) gd rfl (ja_cons (je_var 0) (ja_cons je_int ja_nil)))) ja_nil))) ja_nil)))
    (jss_cons (js_for PassesOwn.never rfl (ji_range1 rfl z_range (je_sub (je_var 1) je_int)) (jg_name 5 sc_law_rising.nd) (jss_one (js_expr (je_append (je_var 4) (je_add (je_add (je_ix (je_var 4) (je_neg je_int)) je_int) (je_call c_law_take hr (by decide) gd rfl (ja_cons (je_var 0) (ja_cons (je_var 2) ja_nil))))))))
    (jss_cons (js_if (jt_eq hr (je_var 3) je_int) (jss_one (js_asg je_int (jg_ix (je_var 4) (je_neg je_int)))) jss_nil)
    (jss_one (js_ret (je_frz (je_var 4)))))))))) r_law_rising
theorem ok_law_any_spot {fa : Addr} {fd : FuncData} (F : L2.Fun K "_law_any_spot" "_law_any_spot" s_law_any_spot fa fd) (z_sorted : mg "sorted" = none) (z_range : mg "range" = none) (c_law_take : Kn P w K mg base 1 "_law_take" g_law_take) : FnG P w K mg base 2 fa fd ["_law_bag_here"] (spOf K 1 g_law_any_spot) :=
  defG F sc_law_any_spot rfl (t := t_law_any_spot) (fun cdv A outer s H E hr gd =>
    (jss_cons (js_set 1 sc_law_any_spot.nd (je_ix (je_lst (ja_cons je_int (ja_cons je_int (ja_cons je_int ja_nil)))) (je_call c_law_take hr (by decide) gd rfl (ja_cons (je_var 0) (ja_cons je_int ja_nil)))))
    (jss_one (js_ret (je_sorted rfl z_sorted (je_lc 2 rfl sc_law_any_spot.nd (ji_range1 rfl z_range (je_add je_int (je_call c_law_take hr (by decide) gd rfl (ja_cons (je_var 0) (ja_cons je_int ja_nil))))) (blkOk_by (own := [("_law_k", 2)]) (N := N_law_any_spot) (sc := defScope s_law_any_spot) (by decide +kernel)) (fun _ _ _ _ _ => (pg_name (i := 2) sc_law_any_spot.nd rfl (Or.inl rfl))) (fun _ _ _ _ _ => jts_nil) (fun _ _ _ _ _ => (je_call c_law_take hr (by decide) gd rfl (ja_cons (je_var 0) (ja_cons (je_var 1) ja_nil)))))))))) r_law_any_spot
theorem ok_law_any_rows {fa : Addr} {fd : FuncData} (F : L2.Fun K "_law_any_rows" "_law_any_rows" s_law_any_rows fa fd) (c_law_take : Kn P w K mg base 1 "_law_take" g_law_take) (c_law_rising : Kn P w K mg base 2 "_law_rising" g_law_rising) (c_law_small : Kn P w K mg base 2 "_law_small" g_law_small) (c_law_most : Kn P w K mg base 2 "_law_most" g_law_most) (c_law_least : Kn P w K mg base 2 "_law_least" g_law_least) (c_law_free : Kn P w K mg base 3 "_law_free" g_law_free) (c_law_any_spot : Kn P w K mg base 2 "_law_any_spot" g_law_any_spot) (c_law_name : Kn P w K mg base 2 "_law_name" g_law_name) : FnG P w K mg base 4 fa fd ["_law_bag_here", "_law_kind"] (spOf K 2 g_law_any_rows) :=
  defG F sc_law_any_rows rfl (t := t_law_any_rows) (fun cdv A outer s H E hr gd =>
    (jss_cons (js_set 2 sc_law_any_rows.nd (je_lstP ja_nil))
    (jss_cons (js_for PassesOwn.never rfl (ji_any (je_call c_law_rising hr (by decide) gd rfl (ja_cons (je_var 0) (ja_cons (je_ix (je_lst (ja_cons je_int (ja_cons (je_add je_int (je_call c_law_take hr (by decide) gd rfl (ja_cons (je_var 0) (ja_cons je_int ja_nil)))) (ja_cons (je_add je_int (je_call c_law_take hr (by decide) gd rfl (ja_cons (je_var 0) (ja_cons je_int ja_nil)))) (ja_cons je_int ja_nil))))) (je_call c_law_take hr (by decide) gd rfl (ja_cons (je_var 0) (ja_cons je_int ja_nil)))) ja_nil)))) (jg_name 3 sc_law_any_rows.nd) (jss_one (js_if (jt_eq hr (je_var 1) je_str) (jss_cons (js_set 4 sc_law_any_rows.nd (je_lst (ja_cons (je_call c_law_small hr (by decide) gd rfl (ja_cons (je_var 0) ja_nil)) (ja_cons (je_call c_law_small hr (by decide) gd rfl (ja_cons (je_var 0) ja_nil)) ja_nil))))
    (jss_cons (js_if (jt_eq hr (je_call c_law_take hr (by decide) gd rfl (ja_cons (je_var 0) (ja_cons je_int ja_nil))) je_int) (jss_one (js_set 4 sc_law_any_rows.nd (je_slice (je_var 4) jo_none (jo_some je_int)))) jss_nil)
    (jss_one (js_expr (je_append (je_var 2) (je_tup (ja_cons (je_var 3) (ja_cons (je_call c_law_least hr (by decide) gd rfl (ja_cons (je_var 4) ja_nil)) (ja_cons (je_call c_law_most hr (by decide) gd rfl (ja_cons (je_var 4) ja_nil)) ja_nil))))))))) (jss_one (js_if (jt_eq hr (je_var 1) je_str) (jss_one (js_expr (je_append (je_var 2) (je_tup (ja_cons (je_var 3) (ja_cons (je_call c_law_any_spot hr (by decide) gd rfl (ja_cons (je_var 0) ja_nil)) (ja_cons (je_call c_law_small hr (by decide) gd rfl (ja_cons (je_var 0) ja_nil)) (ja_cons (je_call c_law_free hr (by decide) gd rfl (ja_cons (je_var 0) ja_nil)) ja_nil)))))))) (jss_cons (js_set 5 sc_law_any_rows.nd (je_slice (je_ix (je_lst (ja_cons je_str (ja_cons (je_add (je_call c_law_name hr (by decide) gd rfl (ja_cons (je_var 0) ja_nil)) je_str) ja_nil))) (je_call c_law_take hr (by decide) gd rfl (ja_cons (je_var 0) (ja_cons je_int ja_nil)))) jo_none (jo_some je_int)))
    (jss_one (js_if (jt_inG hr (je_tup (ja_cons (je_var 5) (ja_cons (je_mod (je_var 3) je_int) ja_nil))) (je_lc 6 rfl sc_law_any_rows.nd (ji_any (je_var 2)) (blkOk_by (own := [("_law_row", 6)]) (N := N_law_any_rows) (sc := defScope s_law_any_rows) (by decide +kernel)) (fun _ _ _ _ _ => (pg_name (i := 6) sc_law_any_rows.nd rfl (Or.inl rfl))) (fun _ _ _ _ _ => jts_nil) (fun _ _ _ _ _ => (je_slice (je_var 6) (jo_some je_int) jo_none)))) (jss_one (js_expr (je_append (je_var 2) (je_tup (ja_cons (je_var 3) (ja_cons (je_var 5) (ja_cons (je_var 3) ja_nil))))))) (jss_one (js_expr (je_append (je_var 2) (je_tup (ja_cons (je_var 3) (ja_cons (je_var 5) (ja_cons (je_mod (je_var 3) je_int) ja_nil)))))))))))))))
    (jss_one (js_ret (je_frz (je_var 2))))))) r_law_any_rows
theorem ok_law_any_paper {fa : Addr} {fd : FuncData} (F : L2.Fun K "_law_any_paper" "_law_any_paper" s_law_any_paper fa fd) (z_int : mg "int" = none) (c_law_take : Kn P w K mg base 1 "_law_take" g_law_take) (c_law_name : Kn P w K mg base 2 "_law_name" g_law_name) (c_law_rising : Kn P w K mg base 2 "_law_rising" g_law_rising) (c_law_free : Kn P w K mg base 3 "_law_free" g_law_free) (c_law_any_rows : Kn P w K mg base 4 "_law_any_rows" g_law_any_rows) (c_law_any_spot : Kn P w K mg base 2 "_law_any_spot" g_law_any_spot) : FnG P w K mg base 5 fa fd ["_law_bag_here"] (spOf K 1 g_law_any_paper) :=
  defG F sc_law_any_paper rfl (t := t_law_any_paper) (fun cdv A outer s H E hr gd =>
    (jss_cons (js_set 1 sc_law_any_paper.nd (je_ix (je_lst (ja_cons je_str (ja_cons je_str (ja_cons je_str (ja_cons je_str (ja_cons je_str (ja_cons je_str (ja_cons je_str (ja_cons je_str ja_nil))))))))) (je_call c_law_take hr (by decide) gd rfl (ja_cons (je_var 0) (ja_cons je_int ja_nil)))))
    (jss_cons (js_set 2 sc_law_any_paper.nd (je_ix (je_lst (ja_cons (je_add je_int (je_call c_law_take hr (by decide) gd rfl (ja_cons (je_var 0) (ja_cons (je_pow je_int je_int) ja_nil)))) (ja_cons (je_add je_int (je_call c_law_take hr (by decide) gd rfl (ja_cons (je_var 0) (ja_cons je_int ja_nil)))) (ja_cons je_int (ja_cons (je_pow je_int je_int) ja_nil))))) (je_call c_law_take hr (by decide) gd rfl (ja_cons (je_var 0) (ja_cons je_int ja_nil)))))
    (jss_cons (js_set 3 sc_law_any_paper.nd (je_ix (je_lst (ja_cons (je_call c_law_take hr (by decide) gd rfl (ja_cons (je_var 0) (ja_cons (je_add (je_pow je_int je_int) je_int) ja_nil))) (ja_cons (je_call c_law_take hr (by decide) gd rfl (ja_cons (je_var 0) (ja_cons je_int ja_nil))) (ja_cons je_int (ja_cons (je_pow je_int je_int) ja_nil))))) (je_call c_law_take hr (by decide) gd rfl (ja_cons (je_var 0) (ja_cons je_int ja_nil)))))
    (jss_cons (js_set 4 sc_law_any_paper.nd (je_ix (je_lst (ja_cons (je_call c_law_take hr (by decide) gd rfl (ja_cons (je_var 0) (ja_cons (je_add (je_pow je_int je_int) je_int) ja_nil))) (ja_cons (je_call c_law_take hr (by decide) gd rfl (ja_cons (je_var 0) (ja_cons je_int ja_nil))) (ja_cons je_int (ja_cons (je_pow je_int je_int) ja_nil))))) (je_call c_law_take hr (by decide) gd rfl (ja_cons (je_var 0) (ja_cons je_int ja_nil)))))
    (jss_cons (js_set 5 sc_law_any_paper.nd (je_call c_law_name hr (by decide) gd rfl (ja_cons (je_var 0) ja_nil)))
    (jss_cons (js_if (jt_eq hr (je_var 1) je_str) (jss_cons (js_set 6 sc_law_any_paper.nd (je_ix (je_lst (ja_cons je_str (ja_cons je_str ja_nil))) (je_call c_law_take hr (by decide) gd rfl (ja_cons (je_var 0) (ja_cons je_int ja_nil)))))
    (jss_cons (js_set 7 sc_law_any_paper.nd (je_call c_law_rising hr (by decide) gd rfl (ja_cons (je_var 0) (ja_cons (je_ix (je_lst (ja_cons (je_add je_int (je_call c_law_take hr (by decide) gd rfl (ja_cons (je_var 0) (ja_cons je_int ja_nil)))) (ja_cons (je_add je_int (je_call c_law_take hr (by decide) gd rfl (ja_cons (je_var 0) (ja_cons je_int ja_nil)))) ja_nil))) (je_int1 rfl z_int (je_eq hr (je_var 6) je_str))) ja_nil))))
    (jss_one (js_ret (je_tup (ja_cons (je_var 2) (ja_cons (je_var 3) (ja_cons (je_var 1) (ja_cons (je_var 5) (ja_cons (je_var 6) (ja_cons (je_call c_law_take hr (by decide) gd rfl (ja_cons (je_var 0) (ja_cons je_int ja_nil))) (ja_cons (je_call c_law_free hr (by decide) gd rfl (ja_cons (je_var 0) ja_nil)) (ja_cons (je_var 7) ja_nil))))))))))))) jss_nil)
    (jss_cons (js_if (jt_eq hr (je_var 1) je_str) (jss_one (js_ret (je_tup (ja_cons (je_var 2) (ja_cons (je_var 3) (ja_cons (je_var 1) (ja_cons (je_var 5) (ja_cons (je_var 4) (ja_cons (je_call c_law_any_rows hr (by decide) gd rfl (ja_cons (je_var 0) (ja_cons (je_var 1) ja_nil))) ja_nil))))))))) jss_nil)
    (jss_cons (js_if (jt_eq hr (je_var 1) je_str) (jss_one (js_ret (je_tup (ja_cons (je_var 2) (ja_cons (je_var 3) (ja_cons (je_var 1) (ja_cons (je_var 5) (ja_cons (je_call c_law_name hr (by decide) gd rfl (ja_cons (je_var 0) ja_nil)) (ja_cons (je_var 4) (ja_cons (je_call c_law_any_rows hr (by decide) gd rfl (ja_cons (je_var 0) (ja_cons (je_var 1) ja_nil))) ja_nil)))))))))) jss_nil)
    (jss_cons (js_if (jt_eq hr (je_var 1) je_str) (jss_cons (js_setLc 9 8 rfl sc_law_any_paper.nd (ji_any (je_call c_law_any_rows hr (by decide) gd rfl (ja_cons (je_var 0) (ja_cons (je_var 1) ja_nil)))) (blkOk_by (own := [("_law_row", 9)]) (N := N_law_any_paper) (sc := defScope s_law_any_paper) (by decide +kernel)) (fun _ _ _ _ _ => (pg_name (i := 9) sc_law_any_paper.nd rfl (Or.inl rfl))) (fun _ _ _ _ _ => jts_one (jt_ne hr (je_ix (je_var 9) je_int) (je_var 5))) (fun _ _ _ _ _ => (je_var 9)) (sw_true rfl rfl rfl (by decide +kernel)))
    (jss_one (js_ret (je_tup (ja_cons (je_var 2) (ja_cons (je_var 3) (ja_cons (je_var 1) (ja_cons (je_var 5) (ja_cons (je_call c_law_free hr (by decide) gd rfl (ja_cons (je_var 0) ja_nil)) (ja_cons (je_orT (je_var 8) (je_one (je_lst (ja_cons (je_tup (ja_cons je_int (ja_cons (je_ix (je_lst (ja_cons je_str (ja_cons je_str ja_nil))) (je_int1 rfl z_int (je_eq hr (je_var 5) je_str))) (ja_cons je_int ja_nil)))) ja_nil)))) ja_nil)))))))))) jss_nil)
    (jss_cons (js_if (jt_eq hr (je_var 1) je_str) (jss_one (js_ret (je_tup (ja_cons (je_var 2) (ja_cons (je_var 3) (ja_cons (je_var 1) (ja_cons (je_var 5) (ja_cons (je_call c_law_any_spot hr (by decide) gd rfl (ja_cons (je_var 0) ja_nil)) ja_nil)))))))) jss_nil)
    (jss_one (js_ret (je_tup (ja_cons (je_var 2) (ja_cons (je_var 3) (ja_cons (je_var 1) (ja_cons (je_var 5) ja_nil)))))))))))))))))) r_law_any_paper
theorem ok_law_names_due {fa : Addr} {fd : FuncData} (F : L2.Fun K "_law_names_due" "_law_names_due" s_law_names_due fa fd) (z_sorted : mg "sorted" = none) (z_set : mg "set" = none) : FnG P w K mg base 1 fa fd ["_law_paper"] (spOf K 1 g_law_names_due) :=
  defG F sc_law_names_due rfl (t := t_law_names_due) (fun cdv A outer s H E hr gd =>
    (jss_cons (js_set 1 sc_law_names_due.nd (je_lstP (ja_cons (je_ix (je_var 0) je_int) ja_nil)))
    (jss_cons (js_if (jt_eq hr (je_ix (je_var 0) je_int) je_str) (jss_one (js_expr (je_append (je_var 1) (je_ix (je_var 0) je_int)))) jss_nil)
    (jss_cons (js_if (jt_eq hr (je_ix (je_var 0) je_int) je_str) (jss_one (js_set 1 sc_law_names_due.nd (je_addP (je_var 1) (je_lc 2 rfl sc_law_names_due.nd (ji_any (je_ix (je_var 0) je_int)) (blkOk_by (own := [("_law_row", 2)]) (N := N_law_names_due) (sc := defScope s_law_names_due) (by decide +kernel)) (fun _ _ _ _ _ => (pg_name (i := 2) sc_law_names_due.nd rfl (Or.inl rfl))) (fun _ _ _ _ _ => jts_nil) (fun _ _ _ _ _ => (je_ix (je_var 2) je_int)))))) jss_nil)
    (jss_one (js_ret (je_sortSet rfl rfl z_sorted rfl z_set (je_var 1)))))))) r_law_names_due
theorem ok_law_emptied {fa : Addr} {fd : FuncData} (F : L2.Fun K "_law_emptied" "_law_emptied" s_law_emptied fa fd) (z_len : mg "len" = none) (z_isinstance : mg "isinstance" = none) (z_list : mg "list" = none) : FnG P w K mg base 1 fa fd ["_law_at", "_law_paper"] (spOf K 2 g_law_emptied) :=
  defG F sc_law_emptied rfl (t := t_law_emptied) (fun cdv A outer s H E hr gd =>
    (jss_cons (js_if (jt_eq hr (je_ix (je_var 1) je_int) je_str) (jss_cons (js_set 2 sc_law_emptied.nd (je_ix (je_ix (je_ix (je_var 1) je_int) (je_mod (je_var 0) (je_len rfl z_len (je_ix (je_var 1) je_int)))) je_int))
    (jss_cons (js_expr (je_append (je_var 2) je_int))
    (jss_one (js_asg je_int (jg_ix (je_var 2) je_int))))) jss_nil)
    (jss_one (js_if (jt_val (je_isi .list rfl z_isinstance (je_ix (je_var 1) (je_neg je_int)) rfl z_list (by decide +kernel))) (jss_one (js_expr (je_pop (je_ix (je_var 1) (je_neg je_int))))) jss_nil)))) r_law_emptied
theorem ok_law {fa : Addr} {fd : FuncData} (F : L2.Fun K "law" "law" s_law fa fd) (z_range : mg "range" = none) (c_law_bag : Kn P w K mg base 1 "_law_bag" g_law_bag) (c_law_take : Kn P w K mg base 1 "_law_take" g_law_take) (c_law_any_paper : Kn P w K mg base 5 "_law_any_paper" g_law_any_paper) (c_law_names_due : Kn P w K mg base 1 "_law_names_due" g_law_names_due) (c_law_copy : Kn P w K mg base 7 "_law_copy" g_law_copy) (c_names_in : Kn P w K mg base 1 "names_in" g_names_in) (c_law_alike : Kn P w K mg base 1 "_law_alike" g_law_alike) (c_copy_of : Kn P w K mg base 8 "copy_of" g_copy_of) (c_law_emptied : Kn P w K mg base 1 "_law_emptied" g_law_emptied) : FnG P w K mg base 9 fa fd ["_law_script"] (spOf K 1 g_law) :=
  defG F sc_law rfl (t := t_law) (fun cdv A outer s H E hr gd =>
    (jss_cons (js_set 1 sc_law.nd (je_call c_law_bag hr (by decide) gd rfl (ja_cons (je_var 0) ja_nil)))
    (jss_cons (js_for PassesOwn.never rfl (ji_range1 rfl z_range (je_add je_int (je_call c_law_take hr (by decide) gd rfl (ja_cons (je_var 1) (ja_cons je_int ja_nil))))) (jg_name 2 sc_law.nd) (jss_cons (js_set 3 sc_law.nd (je_call c_law_any_paper hr (by decide) gd rfl (ja_cons (je_var 1) ja_nil)))
    (jss_cons (js_if (PW.pt (jw_and (jt_eq hr (je_ix (je_var 3) je_int) je_str) (jw_and1 (jt_eq hr (je_call c_law_take hr (by decide) gd rfl (ja_cons (je_var 1) (ja_cons je_int ja_nil))) je_int)))) (jss_one (js_set 3 sc_law.nd (je_add (je_add (je_slice (je_var 3) jo_none (jo_some je_int)) (je_tup (ja_cons (je_ix (je_var 3) je_int) ja_nil))) (je_slice (je_var 3) (jo_some je_int) jo_none)))) jss_nil)
    (jss_cons (js_set 4 sc_law.nd (je_call c_law_names_due hr (by decide) gd rfl (ja_cons (je_var 3) ja_nil)))
    (jss_cons (js_set 5 sc_law.nd (je_call c_law_copy hr (by decide) gd rfl (ja_cons (je_var 3) ja_nil)))
    (jss_cons (js_set 6 sc_law.nd (je_call c_names_in hr (by decide) gd rfl (ja_cons (je_var 5) ja_nil)))
    (jss_cons (js_if (PW.pt (jw_or (jt_not (jt_val (je_call c_law_alike hr (by decide) gd rfl (ja_cons (je_var 6) (ja_cons (je_var 4) ja_nil))))) (jw_or1 (jt_not (jt_val (je_call c_law_alike hr (by decide) gd rfl (ja_cons (je_var 5) (ja_cons (je_var 3) ja_nil)))))))) (jss_one (js_ret je_bl)) jss_nil)
    (jss_cons (js_expr (je_append (je_var 6) je_str))
    (jss_cons (js_asg je_str (jg_ix (je_var 6) je_int))
    (jss_cons (js_if (PW.pt (jw_or (jt_not (jt_val (je_call c_law_alike hr (by decide) gd rfl (ja_cons (je_call c_names_in hr (by decide) gd rfl (ja_cons (je_var 5) ja_nil)) (ja_cons (je_var 4) ja_nil))))) (jw_or1 (jt_not (jt_val (je_call c_law_alike hr (by decide) gd rfl (ja_cons (je_var 5) (ja_cons (je_var 3) ja_nil)))))))) (jss_one (js_ret je_bl)) jss_nil)
    (jss_cons (js_set 7 sc_law.nd (je_call c_copy_of hr (by decide) gd rfl (ja_cons (je_var 5) ja_nil)))
    (jss_cons (js_set 8 sc_law.nd (je_call c_copy_of hr (by decide) gd rfl (ja_cons (je_var 5) ja_nil)))
    (jss_cons (js_if (PW.pt (jw_or (jt_not (jt_val (je_call c_law_alike hr (by decide) gd rfl (ja_cons (je_var 7) (ja_cons (je_var 3) ja_nil))))) (jw_or1 (jt_not (jt_val (je_call c_law_alike hr (by decide) gd rfl (ja_cons (je_var 8) (ja_cons (je_var 3) ja_nil)))))))) (jss_one (js_ret je_bl)) jss_nil)
    (jss_cons (js_par 9 10 rfl sc_law.nd (ja_cons (je_call c_law_take hr (by decide) gd rfl (ja_cons (je_var 1) (ja_cons je_int ja_nil))) (ja_cons (je_call c_law_copy hr (by decide) gd rfl (ja_cons (je_var 3) ja_nil)) ja_nil)) (by decide))
    (jss_cons (js_expr (je_call c_law_emptied hr (by decide) gd rfl (ja_cons (je_var 9) (ja_cons (je_var 7) ja_nil))))
    (jss_cons (js_expr (je_call c_law_emptied hr (by decide) gd rfl (ja_cons (je_var 9) (ja_cons (je_var 10) ja_nil))))
    (jss_cons (js_if (PW.pt (jw_or (jt_not (jt_val (je_call c_law_alike hr (by decide) gd rfl (ja_cons (je_var 5) (ja_cons (je_var 3) ja_nil))))) (jw_or (jt_not (jt_val (je_call c_law_alike hr (by decide) gd rfl (ja_cons (je_var 8) (ja_cons (je_var 3) ja_nil))))) (jw_or1 (jt_not (jt_val (je_call c_law_alike hr (by decide) gd rfl (ja_cons (je_var 7) (ja_cons (je_var 10) ja_nil))))))))) (jss_one (js_ret je_bl)) jss_nil)
    (jss_cons (js_expr (je_call c_law_emptied hr (by decide) gd rfl (ja_cons (je_var 9) (ja_cons (je_var 5) ja_nil))))
    (jss_one (js_if (PW.pt (jw_or (jt_not (jt_val (je_call c_law_alike hr (by decide) gd rfl (ja_cons (je_var 8) (ja_cons (je_var 3) ja_nil))))) (jw_or1 (jt_not (jt_val (je_call c_law_alike hr (by decide) gd rfl (ja_cons (je_call c_copy_of hr (by decide) gd rfl (ja_cons (je_var 8) ja_nil)) (ja_cons (je_var 3) ja_nil)))))))) (jss_one (js_ret je_bl)) jss_nil))))))))))))))))))))
    (jss_one (js_ret je_bl))))) r_law
end
theorem all_mk {l : PySem.W.OpenLaw} {w : World} {K : PySem.W.Frag} {h : Heap} {mg : Str → Option Value} {fa f0 f1 f2 f3 f4 f5 f6 f7 f8 f9 f10 f11 f12 f13 f14 f15 f16 f17 f18 f19 f20 : Addr} (X : K.In h) (G : h.Ns mainGlobals mg) (hfa : mg "law" = some (.ref fa))
    {od0 an0 od1 an1 od2 an2 od3 an3 od4 an4 od5 an5 od6 an6 od7 an7 od8 an8 od9 an9 od10 an10 od11 an11 od12 an12 od13 an13 od14 an14 od15 an15 od16 an16 od17 an17 od18 an18 od19 an19 od20 an20 : Option Addr} {sl0 sl1 sl2 sl3 sl4 sl5 sl6 sl7 sl8 sl9 sl10 sl11 sl12 sl13 sl14 sl15 sl16 sl17 sl18 sl19 sl20 : Array (Option Value)} {oc0 kV0 dc0 pm0 cd0 ct0 oc1 kV1 dc1 pm1 cd1 ct1 oc2 kV2 dc2 pm2 cd2 ct2 oc3 kV3 dc3 pm3 cd3 ct3 oc4 kV4 dc4 pm4 cd4 ct4 oc5 kV5 dc5 pm5 cd5 ct5 oc6 kV6 dc6 pm6 cd6 ct6 oc7 kV7 dc7 pm7 cd7 ct7 oc8 kV8 dc8 pm8 cd8 ct8 oc9 kV9 dc9 pm9 cd9 ct9 oc10 kV10 dc10 pm10 cd10 ct10 oc11 kV11 dc11 pm11 cd11 ct11 oc12 kV12 dc12 pm12 cd12 ct12 oc13 kV13 dc13 pm13 cd13 ct13 oc14 kV14 dc14 pm14 cd14 ct14 oc15 kV15 dc15 pm15 cd15 ct15 oc16 kV16 dc16 pm16 cd16 ct16 oc17 kV17 dc17 pm17 cd17 ct17 oc18 kV18 dc18 pm18 cd18 ct18 oc19 kV19 dc19 pm19 cd19 ct19 oc20 kV20 dc20 pm20 cd20 ct20 : Value}
    (a0 : PySem.W.nsIn K mainGlobals "names_in" = some (some (.ref f0)))
    (l0 : K.lookup f0 = some ⟨oc0, od0, .func (PySem.W.fnOf "names_in" "names_in" (defArgs s_names_in) (defBody s_names_in) (defScope s_names_in) .none kV0 dc0 pm0 an0 cd0 ct0), sl0⟩)
    (c0 : PySem.W.codeIn K cd0 "names_in" = true)
    (k0 : PySem.W.keepIn K (.ref f0) = true)
    (a1 : PySem.W.nsIn K mainGlobals "copy_part" = some (some (.ref f1)))
    (l1 : K.lookup f1 = some ⟨oc1, od1, .func (PySem.W.fnOf "copy_part" "copy_part" (defArgs s_copy_part) (defBody s_copy_part) (defScope s_copy_part) .none kV1 dc1 pm1 an1 cd1 ct1), sl1⟩)
    (c1 : PySem.W.codeIn K cd1 "copy_part" = true)
    (k1 : PySem.W.keepIn K (.ref f1) = true)
    (a2 : PySem.W.nsIn K mainGlobals "copy_of" = some (some (.ref f2)))
    (l2 : K.lookup f2 = some ⟨oc2, od2, .func (PySem.W.fnOf "copy_of" "copy_of" (defArgs s_copy_of) (defBody s_copy_of) (defScope s_copy_of) .none kV2 dc2 pm2 an2 cd2 ct2), sl2⟩)
    (c2 : PySem.W.codeIn K cd2 "copy_of" = true)
    (k2 : PySem.W.keepIn K (.ref f2) = true)
    (a3 : PySem.W.nsIn K mainGlobals "_law_bag" = some (some (.ref f3)))
    (l3 : K.lookup f3 = some ⟨oc3, od3, .func (PySem.W.fnOf "_law_bag" "_law_bag" (defArgs s_law_bag) (defBody s_law_bag) (defScope s_law_bag) .none kV3 dc3 pm3 an3 cd3 ct3), sl3⟩)
    (c3 : PySem.W.codeIn K cd3 "_law_bag" = true)
    (k3 : PySem.W.keepIn K (.ref f3) = true)
    (a4 : PySem.W.nsIn K mainGlobals "_law_take" = some (some (.ref f4)))
    (l4 : K.lookup f4 = some ⟨oc4, od4, .func (PySem.W.fnOf "_law_take" "_law_take" (defArgs s_law_take) (defBody s_law_take) (defScope s_law_take) .none kV4 dc4 pm4 an4 cd4 ct4), sl4⟩)
    (c4 : PySem.W.codeIn K cd4 "_law_take" = true)
    (k4 : PySem.W.keepIn K (.ref f4) = true)
    (a5 : PySem.W.nsIn K mainGlobals "_law_alike" = some (some (.ref f5)))
    (l5 : K.lookup f5 = some ⟨oc5, od5, .func (PySem.W.fnOf "_law_alike" "_law_alike" (defArgs s_law_alike) (defBody s_law_alike) (defScope s_law_alike) .none kV5 dc5 pm5 an5 cd5 ct5), sl5⟩)
    (c5 : PySem.W.codeIn K cd5 "_law_alike" = true)
    (k5 : PySem.W.keepIn K (.ref f5) = true)
    (a6 : PySem.W.nsIn K mainGlobals "_law_copy" = some (some (.ref f6)))
    (l6 : K.lookup f6 = some ⟨oc6, od6, .func (PySem.W.fnOf "_law_copy" "_law_copy" (defArgs s_law_copy) (defBody s_law_copy) (defScope s_law_copy) .none kV6 dc6 pm6 an6 cd6 ct6), sl6⟩)
    (c6 : PySem.W.codeIn K cd6 "_law_copy" = true)
    (k6 : PySem.W.keepIn K (.ref f6) = true)
    (a7 : PySem.W.nsIn K mainGlobals "_law_low" = some (some (.ref f7)))
    (l7 : K.lookup f7 = some ⟨oc7, od7, .func (PySem.W.fnOf "_law_low" "_law_low" (defArgs s_law_low) (defBody s_law_low) (defScope s_law_low) .none kV7 dc7 pm7 an7 cd7 ct7), sl7⟩)
    (c7 : PySem.W.codeIn K cd7 "_law_low" = true)
    (k7 : PySem.W.keepIn K (.ref f7) = true)
    (a8 : PySem.W.nsIn K mainGlobals "_law_under" = some (some (.ref f8)))
    (l8 : K.lookup f8 = some ⟨oc8, od8, .func (PySem.W.fnOf "_law_under" "_law_under" (defArgs s_law_under) (defBody s_law_under) (defScope s_law_under) .none kV8 dc8 pm8 an8 cd8 ct8), sl8⟩)
    (c8 : PySem.W.codeIn K cd8 "_law_under" = true)
    (k8 : PySem.W.keepIn K (.ref f8) = true)
    (a9 : PySem.W.nsIn K mainGlobals "_law_least" = some (some (.ref f9)))
    (l9 : K.lookup f9 = some ⟨oc9, od9, .func (PySem.W.fnOf "_law_least" "_law_least" (defArgs s_law_least) (defBody s_law_least) (defScope s_law_least) .none kV9 dc9 pm9 an9 cd9 ct9), sl9⟩)
    (c9 : PySem.W.codeIn K cd9 "_law_least" = true)
    (k9 : PySem.W.keepIn K (.ref f9) = true)
    (a10 : PySem.W.nsIn K mainGlobals "_law_most" = some (some (.ref f10)))
    (l10 : K.lookup f10 = some ⟨oc10, od10, .func (PySem.W.fnOf "_law_most" "_law_most" (defArgs s_law_most) (defBody s_law_most) (defScope s_law_most) .none kV10 dc10 pm10 an10 cd10 ct10), sl10⟩)
    (c10 : PySem.W.codeIn K cd10 "_law_most" = true)
    (k10 : PySem.W.keepIn K (.ref f10) = true)
    (a11 : PySem.W.nsIn K mainGlobals "_law_name" = some (some (.ref f11)))
    (l11 : K.lookup f11 = some ⟨oc11, od11, .func (PySem.W.fnOf "_law_name" "_law_name" (defArgs s_law_name) (defBody s_law_name) (defScope s_law_name) .none kV11 dc11 pm11 an11 cd11 ct11), sl11⟩)
    (c11 : PySem.W.codeIn K cd11 "_law_name" = true)
    (k11 : PySem.W.keepIn K (.ref f11) = true)
    (a12 : PySem.W.nsIn K mainGlobals "_law_small" = some (some (.ref f12)))
    (l12 : K.lookup f12 = some ⟨oc12, od12, .func (PySem.W.fnOf "_law_small" "_law_small" (defArgs s_law_small) (defBody s_law_small) (defScope s_law_small) .none kV12 dc12 pm12 an12 cd12 ct12), sl12⟩)
    (c12 : PySem.W.codeIn K cd12 "_law_small" = true)
    (k12 : PySem.W.keepIn K (.ref f12) = true)
    (a13 : PySem.W.nsIn K mainGlobals "_law_free" = some (some (.ref f13)))
    (l13 : K.lookup f13 = some ⟨oc13, od13, .func (PySem.W.fnOf "_law_free" "_law_free" (defArgs s_law_free) (defBody s_law_free) (defScope s_law_free) .none kV13 dc13 pm13 an13 cd13 ct13), sl13⟩)
    (c13 : PySem.W.codeIn K cd13 "_law_free" = true)
    (k13 : PySem.W.keepIn K (.ref f13) = true)
    (a14 : PySem.W.nsIn K mainGlobals "_law_rising" = some (some (.ref f14)))
    (l14 : K.lookup f14 = some ⟨oc14, od14, .func (PySem.W.fnOf "_law_rising" "_law_rising" (defArgs s_law_rising) (defBody s_law_rising) (defScope s_law_rising) .none kV14 dc14 pm14 an14 cd14 ct14), sl14⟩)
    (c14 : PySem.W.codeIn K cd14 "_law_rising" = true)
    (k14 : PySem.W.keepIn K (.ref f14) = true)
    (a15 : PySem.W.nsIn K mainGlobals "_law_any_spot" = some (some (.ref f15)))
    (l15 : K.lookup f15 = some ⟨oc15, od15, .func (PySem.W.fnOf "_law_any_spot" "_law_any_spot" (defArgs s_law_any_spot) (defBody s_law_any_spot) (defScope s_law_any_spot) .none kV15 dc15 pm15 an15 cd15 ct15), sl15⟩)
    (c15 : PySem.W.codeIn K cd15 "_law_any_spot" = true)
    (k15 : PySem.W.keepIn K (.ref f15) = true)
    (a16 : PySem.W.nsIn K mainGlobals "_law_any_rows" = some (some (.ref f16)))
    (l16 : K.lookup f16 = some ⟨oc16, od16, .func (PySem.W.fnOf "_law_any_rows" "_law_any_rows" (defArgs s_law_any_rows) (defBody s_law_any_rows) (defScope s_law_any_rows) .none kV16 dc16 pm16 an16 cd16 ct16), sl16⟩)
    (c16 : PySem.W.codeIn K cd16 "_law_any_rows" = true)
    (k16 : PySem.W.keepIn K (.ref f16) = true)
    (a17 : PySem.W.nsIn K mainGlobals "_law_any_paper" = some (some (.ref f17)))
    (l17 : K.lookup f17 = some ⟨oc17, od17, .func (PySem.W.fnOf "_law_any_paper" "_law_any_paper" (defArgs s_law_any_paper) (defBody s_law_any_paper) (defScope s_law_any_paper) .none kV17 dc17 pm17 an17 cd17 ct17), sl17⟩)
    (c17 : PySem.W.codeIn K cd17 "_law_any_paper" = true)
    (k17 : PySem.W.keepIn K (.ref f17) = true)
    (a18 : PySem.W.nsIn K mainGlobals "_law_names_due" = some (some (.ref f18)))
    (l18 : K.lookup f18 = some ⟨oc18, od18, .func (PySem.W.fnOf "_law_names_due" "_law_names_due" (defArgs s_law_names_due) (defBody s_law_names_due) (defScope s_law_names_due) .none kV18 dc18 pm18 an18 cd18 ct18), sl18⟩)
    (c18 : PySem.W.codeIn K cd18 "_law_names_due" = true)
    (k18 : PySem.W.keepIn K (.ref f18) = true)
    (a19 : PySem.W.nsIn K mainGlobals "_law_emptied" = some (some (.ref f19)))
    (l19 : K.lookup f19 = some ⟨oc19, od19, .func (PySem.W.fnOf "_law_emptied" "_law_emptied" (defArgs s_law_emptied) (defBody s_law_emptied) (defScope s_law_emptied) .none kV19 dc19 pm19 an19 cd19 ct19), sl19⟩)
    (c19 : PySem.W.codeIn K cd19 "_law_emptied" = true)
    (k19 : PySem.W.keepIn K (.ref f19) = true)
    (a20 : PySem.W.nsIn K mainGlobals "law" = some (some (.ref f20)))
    (l20 : K.lookup f20 = some ⟨oc20, od20, .func (PySem.W.fnOf "law" "law" (defArgs s_law) (defBody s_law) (defScope s_law) .none kV20 dc20 pm20 an20 cd20 ct20), sl20⟩)
    (c20 : PySem.W.codeIn K cd20 "law" = true)
    (k20 : PySem.W.keepIn K (.ref f20) = true)
    (z_sorted : PySem.W.nsIn K mainGlobals "sorted" = some none)
    (z_set : PySem.W.nsIn K mainGlobals "set" = some none)
    (z_isinstance : PySem.W.nsIn K mainGlobals "isinstance" = some none)
    (z_list : PySem.W.nsIn K mainGlobals "list" = some none)
    (z_tuple : PySem.W.nsIn K mainGlobals "tuple" = some none)
    (z_abs : PySem.W.nsIn K mainGlobals "abs" = some none)
    (z_len : PySem.W.nsIn K mainGlobals "len" = some none)
    (z_repr : PySem.W.nsIn K mainGlobals "repr" = some none)
    (z_range : PySem.W.nsIn K mainGlobals "range" = some none)
    (z_int : PySem.W.nsIn K mainGlobals "int" = some none) :
    ∃ fd : FuncData, (∀ (s : Shared) (v : Value), BindsTo s fd ⟨[v], []⟩ [("_law_script", v)]) ∧ ∀ base : Heap, K.In base → base.Ns mainGlobals mg → FnG l.prog w K mg base 9 fa fd ["_law_script"] (spOf K 1 lawD) := by
  have e := hfa.symm.trans (PySem.W.mg_of X G a20)
  cases e
  have F0 := fun_mk (st := s_names_in) l0 c0 k0
  have F1 := fun_mk (st := s_copy_part) l1 c1 k1
  have F2 := fun_mk (st := s_copy_of) l2 c2 k2
  have F3 := fun_mk (st := s_law_bag) l3 c3 k3
  have F4 := fun_mk (st := s_law_take) l4 c4 k4
  have F5 := fun_mk (st := s_law_alike) l5 c5 k5
  have F6 := fun_mk (st := s_law_copy) l6 c6 k6
  have F7 := fun_mk (st := s_law_low) l7 c7 k7
  have F8 := fun_mk (st := s_law_under) l8 c8 k8
  have F9 := fun_mk (st := s_law_least) l9 c9 k9
  have F10 := fun_mk (st := s_law_most) l10 c10 k10
  have F11 := fun_mk (st := s_law_name) l11 c11 k11
  have F12 := fun_mk (st := s_law_small) l12 c12 k12
  have F13 := fun_mk (st := s_law_free) l13 c13 k13
  have F14 := fun_mk (st := s_law_rising) l14 c14 k14
  have F15 := fun_mk (st := s_law_any_spot) l15 c15 k15
  have F16 := fun_mk (st := s_law_any_rows) l16 c16 k16
  have F17 := fun_mk (st := s_law_any_paper) l17 c17 k17
  have F18 := fun_mk (st := s_law_names_due) l18 c18 k18
  have F19 := fun_mk (st := s_law_emptied) l19 c19 k19
  have F20 := fun_mk (st := s_law) l20 c20 k20
  have b0 := F0.binds (ps := ["paper"]) fun _ _ _ _ _ _ us hl => match us, hl with | [_], _ => rfl
  have b1 := F1.binds (ps := ["part"]) fun _ _ _ _ _ _ us hl => match us, hl with | [_], _ => rfl
  have b2 := F2.binds (ps := ["paper"]) fun _ _ _ _ _ _ us hl => match us, hl with | [_], _ => rfl
  have b3 := F3.binds (ps := ["_law_script"]) fun _ _ _ _ _ _ us hl => match us, hl with | [_], _ => rfl
  have b4 := F4.binds (ps := ["_law_bag_here", "_law_many"]) fun _ _ _ _ _ _ us hl => match us, hl with | [_, _], _ => rfl
  have b5 := F5.binds (ps := ["_law_found", "_law_due"]) fun _ _ _ _ _ _ us hl => match us, hl with | [_, _], _ => rfl
  have b6 := F6.binds (ps := ["_law_thing"]) fun _ _ _ _ _ _ us hl => match us, hl with | [_], _ => rfl
  have b7 := F7.binds (ps := ["_law_top", "_law_bottom"]) fun _ _ _ _ _ _ us hl => match us, hl with | [_, _], _ => rfl
  have b8 := F8.binds (ps := ["_law_one", "_law_other"]) fun _ _ _ _ _ _ us hl => match us, hl with | [_, _], _ => rfl
  have b9 := F9.binds (ps := ["_law_some"]) fun _ _ _ _ _ _ us hl => match us, hl with | [_], _ => rfl
  have b10 := F10.binds (ps := ["_law_some"]) fun _ _ _ _ _ _ us hl => match us, hl with | [_], _ => rfl
  have b11 := F11.binds (ps := ["_law_bag_here"]) fun _ _ _ _ _ _ us hl => match us, hl with | [_], _ => rfl
  have b12 := F12.binds (ps := ["_law_bag_here"]) fun _ _ _ _ _ _ us hl => match us, hl with | [_], _ => rfl
  have b13 := F13.binds (ps := ["_law_bag_here"]) fun _ _ _ _ _ _ us hl => match us, hl with | [_], _ => rfl
  have b14 := F14.binds (ps := ["_law_bag_here", "_law_many"]) fun _ _ _ _ _ _ us hl => match us, hl with | [_, _], _ => rfl
  have b15 := F15.binds (ps := ["_law_bag_here"]) fun _ _ _ _ _ _ us hl => match us, hl with | [_], _ => rfl
  have b16 := F16.binds (ps := ["_law_bag_here", "_law_kind"]) fun _ _ _ _ _ _ us hl => match us, hl with | [_, _], _ => rfl
  have b17 := F17.binds (ps := ["_law_bag_here"]) fun _ _ _ _ _ _ us hl => match us, hl with | [_], _ => rfl
  have b18 := F18.binds (ps := ["_law_paper"]) fun _ _ _ _ _ _ us hl => match us, hl with | [_], _ => rfl
  have b19 := F19.binds (ps := ["_law_at", "_law_paper"]) fun _ _ _ _ _ _ us hl => match us, hl with | [_, _], _ => rfl
  refine ⟨PySem.W.fnOf "law" "law" (defArgs s_law) (defBody s_law) (defScope s_law) .none kV20 dc20 pm20 an20 cd20 ct20, fun s v => .of_eq rfl, fun base _ _ => ?_⟩
  have y_sorted : mg "sorted" = none := PySem.W.mg_none_of X G z_sorted
  have y_set : mg "set" = none := PySem.W.mg_none_of X G z_set
  have y_isinstance : mg "isinstance" = none := PySem.W.mg_none_of X G z_isinstance
  have y_list : mg "list" = none := PySem.W.mg_none_of X G z_list
  have y_tuple : mg "tuple" = none := PySem.W.mg_none_of X G z_tuple
  have y_abs : mg "abs" = none := PySem.W.mg_none_of X G z_abs
  have y_len : mg "len" = none := PySem.W.mg_none_of X G z_len
  have y_repr : mg "repr" = none := PySem.W.mg_none_of X G z_repr
  have y_range : mg "range" = none := PySem.W.mg_none_of X G z_range
  have y_int : mg "int" = none := PySem.W.mg_none_of X G z_int
  have kn_names_in : Kn l.prog w K mg base 1 "names_in" g_names_in := kn_of F0 (PySem.W.mg_of X G a0) b0 (ok_names_in F0 y_sorted y_set) ar_names_in
  have kr_copy_part_0 : Kn l.prog w K mg base 1 "copy_part" (g_copy_part_rec 0) := kn_never F1 (PySem.W.mg_of X G a1) b1 never_copy_part
  have kr_copy_part_1 : Kn l.prog w K mg base 2 "copy_part" (g_copy_part_rec 1) := kn_of F1 (PySem.W.mg_of X G a1) b1 (ok_copy_part (by decide) F1 y_isinstance y_list y_tuple kr_copy_part_0 (r_copy_part 0)) (ar_copy_part_rec 1)
  have kr_copy_part_2 : Kn l.prog w K mg base 3 "copy_part" (g_copy_part_rec 2) := kn_of F1 (PySem.W.mg_of X G a1) b1 (ok_copy_part (by decide) F1 y_isinstance y_list y_tuple kr_copy_part_1 (r_copy_part 1)) (ar_copy_part_rec 2)
  have kr_copy_part_3 : Kn l.prog w K mg base 4 "copy_part" (g_copy_part_rec 3) := kn_of F1 (PySem.W.mg_of X G a1) b1 (ok_copy_part (by decide) F1 y_isinstance y_list y_tuple kr_copy_part_2 (r_copy_part 2)) (ar_copy_part_rec 3)
  have kr_copy_part_4 : Kn l.prog w K mg base 5 "copy_part" (g_copy_part_rec 4) := kn_of F1 (PySem.W.mg_of X G a1) b1 (ok_copy_part (by decide) F1 y_isinstance y_list y_tuple kr_copy_part_3 (r_copy_part 3)) (ar_copy_part_rec 4)
  have kr_copy_part_5 : Kn l.prog w K mg base 6 "copy_part" (g_copy_part_rec 5) := kn_of F1 (PySem.W.mg_of X G a1) b1 (ok_copy_part (by decide) F1 y_isinstance y_list y_tuple kr_copy_part_4 (r_copy_part 4)) (ar_copy_part_rec 5)
  have kr_copy_part_6 : Kn l.prog w K mg base 7 "copy_part" (g_copy_part_rec 6) := kn_of F1 (PySem.W.mg_of X G a1) b1 (ok_copy_part (by decide) F1 y_isinstance y_list y_tuple kr_copy_part_5 (r_copy_part 5)) (ar_copy_part_rec 6)
  have kn_copy_part : Kn l.prog w K mg base 7 "copy_part" g_copy_part := kr_copy_part_6
  have kn_copy_of : Kn l.prog w K mg base 8 "copy_of" g_copy_of := kn_of F2 (PySem.W.mg_of X G a2) b2 (ok_copy_of F2 kn_copy_part) ar_copy_of
  have kn_law_bag : Kn l.prog w K mg base 1 "_law_bag" g_law_bag := kn_of F3 (PySem.W.mg_of X G a3) b3 (ok_law_bag F3 y_abs) ar_law_bag
  have kn_law_take : Kn l.prog w K mg base 1 "_law_take" g_law_take := kn_of F4 (PySem.W.mg_of X G a4) b4 (ok_law_take F4 y_len) ar_law_take
  have kn_law_alike : Kn l.prog w K mg base 1 "_law_alike" g_law_alike := kn_of F5 (PySem.W.mg_of X G a5) b5 (ok_law_alike F5 y_repr) ar_law_alike
  have kr_law_copy_0 : Kn l.prog w K mg base 1 "_law_copy" (g_law_copy_rec 0) := kn_never F6 (PySem.W.mg_of X G a6) b6 never_law_copy
  have kr_law_copy_1 : Kn l.prog w K mg base 2 "_law_copy" (g_law_copy_rec 1) := kn_of F6 (PySem.W.mg_of X G a6) b6 (ok_law_copy (by decide) F6 y_isinstance y_list y_tuple kr_law_copy_0 (r_law_copy 0)) (ar_law_copy_rec 1)
  have kr_law_copy_2 : Kn l.prog w K mg base 3 "_law_copy" (g_law_copy_rec 2) := kn_of F6 (PySem.W.mg_of X G a6) b6 (ok_law_copy (by decide) F6 y_isinstance y_list y_tuple kr_law_copy_1 (r_law_copy 1)) (ar_law_copy_rec 2)
  have kr_law_copy_3 : Kn l.prog w K mg base 4 "_law_copy" (g_law_copy_rec 3) := kn_of F6 (PySem.W.mg_of X G a6) b6 (ok_law_copy (by decide) F6 y_isinstance y_list y_tuple kr_law_copy_2 (r_law_copy 2)) (ar_law_copy_rec 3)
  have kr_law_copy_4 : Kn l.prog w K mg base 5 "_law_copy" (g_law_copy_rec 4) := kn_of F6 (PySem.W.mg_of X G a6) b6 (ok_law_copy (by decide) F6 y_isinstance y_list y_tuple kr_law_copy_3 (r_law_copy 3)) (ar_law_copy_rec 4)
  have kr_law_copy_5 : Kn l.prog w K mg base 6 "_law_copy" (g_law_copy_rec 5) := kn_of F6 (PySem.W.mg_of X G a6) b6 (ok_law_copy (by decide) F6 y_isinstance y_list y_tuple kr_law_copy_4 (r_law_copy 4)) (ar_law_copy_rec 5)
  have kr_law_copy_6 : Kn l.prog w K mg base 7 "_law_copy" (g_law_copy_rec 6) := kn_of F6 (PySem.W.mg_of X G a6) b6 (ok_law_copy (by decide) F6 y_isinstance y_list y_tuple kr_law_copy_5 (r_law_copy 5)) (ar_law_copy_rec 6)
  have kn_law_copy : Kn l.prog w K mg base 7 "_law_copy" g_law_copy := kr_law_copy_6
  have kn_law_low : Kn l.prog w K mg base 1 "_law_low" g_law_low := kn_of F7 (PySem.W.mg_of X G a7) b7 (ok_law_low F7 y_abs) ar_law_low
  have kn_law_under : Kn l.prog w K mg base 1 "_law_under" g_law_under := kn_of F8 (PySem.W.mg_of X G a8) b8 (ok_law_under F8) ar_law_under
  have kn_law_least : Kn l.prog w K mg base 2 "_law_least" g_law_least := kn_of F9 (PySem.W.mg_of X G a9) b9 (ok_law_least F9 kn_law_under) ar_law_least
  have kn_law_most : Kn l.prog w K mg base 2 "_law_most" g_law_most := kn_of F10 (PySem.W.mg_of X G a10) b10 (ok_law_most F10 kn_law_under) ar_law_most
  have kn_law_name : Kn l.prog w K mg base 2 "_law_name" g_law_name := kn_of F11 (PySem.W.mg_of X G a11) b11 (ok_law_name F11 y_range kn_law_take) ar_law_name
  have kn_law_small : Kn l.prog w K mg base 2 "_law_small" g_law_small := kn_of F12 (PySem.W.mg_of X G a12) b12 (ok_law_small F12 kn_law_take kn_law_low) ar_law_small
  have kn_law_free : Kn l.prog w K mg base 3 "_law_free" g_law_free := kn_of F13 (PySem.W.mg_of X G a13) b13 (ok_law_free F13 y_abs kn_law_small) ar_law_free
  have kn_law_rising : Kn l.prog w K mg base 2 "_law_rising" g_law_rising := kn_of F14 (PySem.W.mg_of X G a14) b14 (ok_law_rising F14 y_range kn_law_take) ar_law_rising
  have kn_law_any_spot : Kn l.prog w K mg base 2 "_law_any_spot" g_law_any_spot := kn_of F15 (PySem.W.mg_of X G a15) b15 (ok_law_any_spot F15 y_sorted y_range kn_law_take) ar_law_any_spot
  have kn_law_any_rows : Kn l.prog w K mg base 4 "_law_any_rows" g_law_any_rows := kn_of F16 (PySem.W.mg_of X G a16) b16 (ok_law_any_rows F16 kn_law_take kn_law_rising kn_law_small kn_law_most kn_law_least kn_law_free kn_law_any_spot kn_law_name) ar_law_any_rows
  have kn_law_any_paper : Kn l.prog w K mg base 5 "_law_any_paper" g_law_any_paper := kn_of F17 (PySem.W.mg_of X G a17) b17 (ok_law_any_paper F17 y_int kn_law_take kn_law_name kn_law_rising kn_law_free kn_law_any_rows kn_law_any_spot) ar_law_any_paper
  have kn_law_names_due : Kn l.prog w K mg base 1 "_law_names_due" g_law_names_due := kn_of F18 (PySem.W.mg_of X G a18) b18 (ok_law_names_due F18 y_sorted y_set) ar_law_names_due
  have kn_law_emptied : Kn l.prog w K mg base 1 "_law_emptied" g_law_emptied := kn_of F19 (PySem.W.mg_of X G a19) b19 (ok_law_emptied F19 y_len y_isinstance y_list) ar_law_emptied
  exact ok_law (P := l.prog) (w := w) (base := base) F20 y_range kn_law_bag kn_law_take kn_law_any_paper kn_law_names_due kn_law_copy kn_names_in kn_law_alike kn_copy_of kn_law_emptied
end K34
open PySem PySem.W PyProof.Rows
set_option maxHeartbeats 0 in
theorem PySem.Challenge.cw_truechain_k34_names_and_copies_holds : PySem.Challenge.rw_truechain_k34_names_and_copies.Holds := by
  w_on; o_law; k_head; (case hw => w_witness2)
  k_fill
  refine DL.walkG (l := PySem.Challenge.rw_truechain_k34_names_and_copies) (k := 9) (x := "_law_script") rfl rfl ⟨rfl, by decide, by decide⟩ (fun w h Y => PySem.W.kIn_of Y) ?F
  case F =>
    intro w mg fa h KX G hmg
    refine' K34.all_mk KX G hmg ?a0 ?l0 ?c0 ?k0 ?a1 ?l1 ?c1 ?k1 ?a2 ?l2 ?c2 ?k2 ?a3 ?l3 ?c3 ?k3 ?a4 ?l4 ?c4 ?k4 ?a5 ?l5 ?c5 ?k5 ?a6 ?l6 ?c6 ?k6 ?a7 ?l7 ?c7 ?k7 ?a8 ?l8 ?c8 ?k8 ?a9 ?l9 ?c9 ?k9 ?a10 ?l10 ?c10 ?k10 ?a11 ?l11 ?c11 ?k11 ?a12 ?l12 ?c12 ?k12 ?a13 ?l13 ?c13 ?k13 ?a14 ?l14 ?c14 ?k14 ?a15 ?l15 ?c15 ?k15 ?a16 ?l16 ?c16 ?k16 ?a17 ?l17 ?c17 ?k17 ?a18 ?l18 ?c18 ?k18 ?a19 ?l19 ?c19 ?k19 ?a20 ?l20 ?c20 ?k20 ?z_sorted ?z_set ?z_isinstance ?z_list ?z_tuple ?z_abs ?z_len ?z_repr ?z_range ?z_int
    (case a0 => k_is); (case l0 => k_is); (case c0 => k_is); (case k0 => k_is); (case a1 => k_is); (case l1 => k_is); (case c1 => k_is); (case k1 => k_is); (case a2 => k_is); (case l2 => k_is); (case c2 => k_is); (case k2 => k_is); (case a3 => k_is); (case l3 => k_is); (case c3 => k_is); (case k3 => k_is); (case a4 => k_is); (case l4 => k_is); (case c4 => k_is); (case k4 => k_is); (case a5 => k_is); (case l5 => k_is); (case c5 => k_is); (case k5 => k_is); (case a6 => k_is); (case l6 => k_is); (case c6 => k_is); (case k6 => k_is); (case a7 => k_is); (case l7 => k_is); (case c7 => k_is); (case k7 => k_is); (case a8 => k_is); (case l8 => k_is); (case c8 => k_is); (case k8 => k_is); (case a9 => k_is); (case l9 => k_is); (case c9 => k_is); (case k9 => k_is); (case a10 => k_is); (case l10 => k_is); (case c10 => k_is); (case k10 => k_is); (case a11 => k_is); (case l11 => k_is); (case c11 => k_is); (case k11 => k_is); (case a12 => k_is); (case l12 => k_is); (case c12 => k_is); (case k12 => k_is); (case a13 => k_is); (case l13 => k_is); (case c13 => k_is); (case k13 => k_is); (case a14 => k_is); (case l14 => k_is); (case c14 => k_is); (case k14 => k_is); (case a15 => k_is); (case l15 => k_is); (case c15 => k_is); (case k15 => k_is); (case a16 => k_is); (case l16 => k_is); (case c16 => k_is); (case k16 => k_is); (case a17 => k_is); (case l17 => k_is); (case c17 => k_is); (case k17 => k_is); (case a18 => k_is); (case l18 => k_is); (case c18 => k_is); (case k18 => k_is); (case a19 => k_is); (case l19 => k_is); (case c19 => k_is); (case k19 => k_is); (case a20 => k_is); (case l20 => k_is); (case c20 => k_is); (case k20 => k_is); (case z_sorted => k_is); (case z_set => k_is); (case z_isinstance => k_is); (case z_list => k_is); (case z_tuple => k_is); (case z_abs => k_is); (case z_len => k_is); (case z_repr => k_is); (case z_range => k_is); (case z_int => k_is)
