import PyProof.Rows.All
import Wide.All
import OpenK.AllK
import Wide.FinOn
import HandS.ForMost
import HandS.ForExc
import HandS.Zip
import HandS.Walk
import HandS.Rev
import HandS.IsInst
import HandS.TupAny
import HandS.Deep
import KE.GoesMore
import KE.GoesNew
import KE.GoesEnum
import KE.GoesZip
import HandS.SortInts
import HandS.SortRule
import HandS.Text
import HandS.More
import HandS.Words
import PySem.Challenge.RW_barsplit_k40_tables_of_thirty
section
set_option Elab.async false
set_option linter.all false
set_option maxRecDepth 100000
/-! EV, part 1: data, what stands for data in the abstract heap, growth of the heap. -/
namespace EV
open PySem PySem.Spec PyProof.Rows L2

abbrev D := PyData

def isDict : D → Bool
  | .dict _ => true
  | _ => false
def flat : D → Bool
  | .none => true
  | .bool _ => true
  | .int _ => true
  | .str _ => true
  | _ => false

/-! ### growth: F is the part of the heap that never changes again (what shared data lean on) -/
structure Post (F H F' H' : Hp) : Prop where
  same : Same H H'
  ext : Same F F'
  sub : Same F' H'
  new : ∀ a o, F' a = some o → (∃ o', F a = some o') ∨ H a = none
theorem same_none {H H' : Hp} (s : Same H H') {a : Addr} (h : H' a = none) : H a = none := Same.free s h
theorem Post.refl {F H : Hp} (s : Same F H) : Post F H F H := ⟨Same.refl _, Same.refl _, s, fun a o h => .inl ⟨o, h⟩⟩
theorem Post.trans {F H F1 H1 F2 H2 : Hp} (p : Post F H F1 H1) (q : Post F1 H1 F2 H2) : Post F H F2 H2 :=
  ⟨p.same.trans q.same, p.ext.trans q.ext, q.sub, fun a o h => by
    rcases q.new a o h with ⟨o', h'⟩ | h'
    · exact p.new a o' h'
    · exact .inr (same_none p.same h')⟩
/-- a new frozen object -/
theorem Post.laid {F H : Hp} (s : Same F H) {p : Addr} (n : H p = none) (o : HO) : Post F H (upd F p o) (upd H p o) := by
  refine ⟨fun b u e => ?_, fun b u e => ?_, fun b u e => ?_, fun b u e => ?_⟩
  · rw [upd_ne (ne_of_none e n)]; exact e
  · rw [upd_ne (ne_of_none e (same_none s n))]; exact e
  · by_cases hb : b = p
    · subst hb; rw [upd_same] at e ⊢; exact e
    · rw [upd_ne hb] at e ⊢; exact s b u e
  · by_cases hb : b = p
    · subst hb; exact .inr n
    · rw [upd_ne hb] at e; exact .inl ⟨u, e⟩
/-- a new object that is not frozen -/
theorem Post.grown {F H : Hp} (s : Same F H) {p : Addr} (n : H p = none) (o : HO) : Post F H F (upd H p o) := by
  refine ⟨fun b u e => ?_, Same.refl _, fun b u e => ?_, fun b u e => .inl ⟨u, e⟩⟩
  · rw [upd_ne (ne_of_none e n)]; exact e
  · rw [upd_ne (ne_of_none (s b u e) n)]; exact s b u e
/-- an object outside F is changed -/
theorem Same.wrote {F H : Hp} (s : Same F H) {a : Addr} (n : F a = none) (o : HO) : Same F (upd H a o) := fun b u e => by
  rw [upd_ne (ne_of_none e n)]; exact s b u e
/-- an object of the heap joins the frozen part -/
theorem Same.froze {F H : Hp} (s : Same F H) {a : Addr} {o : HO} (h : H a = some o) : Same (upd F a o) H := fun b u e => by
  by_cases hb : b = a
  · subst hb; rw [upd_same] at e; rw [h]; exact e
  · rw [upd_ne hb] at e; exact s b u e
theorem Same.grow {F : Hp} {a : Addr} (n : F a = none) (o : HO) : Same F (upd F a o) := fun b u e => by
  rw [upd_ne (ne_of_none e n)]; exact e
theorem Same.upd2 {F H : Hp} (s : Same F H) {a : Addr} (o : HO) : Same (upd F a o) (upd H a o) := fun b u e => by
  by_cases hb : b = a
  · subst hb; rw [upd_same] at e ⊢; exact e
  · rw [upd_ne hb] at e ⊢; exact s b u e

/-! ### data in the heap -/
theorem Rd.mono {F F' : Hp} (s : Same F F') {a : Addr} {u : HO} (r : Rd F a u) : Rd F' a u := by
  rcases r with r | ⟨o, r⟩
  · exact .inl (s _ _ r)
  · exact .inr ⟨o, s _ _ r⟩
theorem SqL.mono {K : PySem.W.Frag} {F F' : Hp} (s : Same F F') {a : Addr} {xs : List V} (h : SqL K F a xs) : SqL K F' a xs := Same.seq s h
theorem SqT.mono {K : PySem.W.Frag} {F F' : Hp} (s : Same F F') {a : Addr} {xs : List V} (h : SqT K F a xs) : SqT K F' a xs := by
  rcases h with h | h
  · exact .inl (Rd.mono s h)
  · exact .inr h
def keyD : Key → D
  | .inl i => .int i
  | .inr x => .str x
mutual
/-- a value stands for data: none, bools, ints, texts, lists, tuples, dicts (keys ints and texts, or tuples of them), instances of own classes (a dict that begins with the class's name) -/
inductive Dp (K : PySem.W.Frag) (H : Hp) : V → D → Prop
  | non : Dp K H .non .none
  | bl (b : Bool) : Dp K H (.bl b) (.bool b)
  | int (i : Int) : Dp K H (.int i) (.int i)
  | str (x : Str) : Dp K H (.str x) (.str x)
  | lst {a : Addr} {xs : List V} {ds : List D} : SqL K H a xs → DpAll K H xs ds → Dp K H (.ref a) (.list ds)
  | tup {a : Addr} {xs : List V} {ds : List D} : SqT K H a xs → DpAll K H xs ds → Dp K H (.ref a) (.tuple ds)
  | dK {a : Addr} {kvs : List (Key × V)} {ps : List (D × D)} : H a = some (.dK kvs) → RkK K H kvs ps → Dp K H (.ref a) (.dict ps)
  | dT {a : Addr} {kvs : List (List Key × V)} {ps : List (D × D)} : H a = some (.dT kvs) → RkT K H kvs ps → Dp K H (.ref a) (.dict ps)
  | ins {a C dx : Addr} {fs : List (Str × V)} {c : Str} {ps : List (D × D)} : H a = some (.ins C dx fs) → PySem.W.nsIn K mainGlobals c = some (some (.ref C)) → RkF K H fs ps → Dp K H (.ref a) (.dict ((.none, .str c) :: ps))
inductive DpAll (K : PySem.W.Frag) (H : Hp) : List V → List D → Prop
  | nil : DpAll K H [] []
  | cons {v : V} {vs : List V} {d : D} {ds : List D} : Dp K H v d → DpAll K H vs ds → DpAll K H (v :: vs) (d :: ds)
/-- the pairs of a dict -/
inductive RkK (K : PySem.W.Frag) (H : Hp) : List (Key × V) → List (D × D) → Prop
  | nil : RkK K H [] []
  | cons {k : Key} {v : V} {d : D} {r : List (Key × V)} {s : List (D × D)} : Dp K H v d → RkK K H r s → RkK K H ((k, v) :: r) ((keyD k, d) :: s)
inductive RkT (K : PySem.W.Frag) (H : Hp) : List (List Key × V) → List (D × D) → Prop
  | nil : RkT K H [] []
  | cons {k : List Key} {v : V} {d : D} {r : List (List Key × V)} {s : List (D × D)} : Dp K H v d → RkT K H r s → RkT K H ((k, v) :: r) ((.tuple (k.map keyD), d) :: s)
/-- the attributes of an instance -/
inductive RkF (K : PySem.W.Frag) (H : Hp) : List (Str × V) → List (D × D) → Prop
  | nil : RkF K H [] []
  | cons {k : Str} {v : V} {d : D} {r : List (Str × V)} {s : List (D × D)} : Dp K H v d → RkF K H r s → RkF K H ((k, v) :: r) ((.str k, d) :: s)
end
section
variable {K : PySem.W.Frag} {F F' : Hp} (s : Same F F')
include s
theorem Dp.mono : ∀ (d : D) (v : V), Dp K F v d → Dp K F' v d := fun d v h =>
  Dp.rec (motive_1 := fun v d _ => Dp K F' v d) (motive_2 := fun v d _ => DpAll K F' v d) (motive_3 := fun v d _ => RkK K F' v d) (motive_4 := fun v d _ => RkT K F' v d) (motive_5 := fun v d _ => RkF K F' v d)
    .non .bl .int .str (fun h _ q => .lst (SqL.mono s h) q) (fun h _ q => .tup (SqT.mono s h) q) (fun h _ q => .dK (s _ _ h) q) (fun h _ q => .dT (s _ _ h) q) (fun h c _ q => .ins (s _ _ h) c q)
    .nil (fun _ _ a b => .cons a b) .nil (fun _ _ a b => .cons a b) .nil (fun _ _ a b => .cons a b) .nil (fun _ _ a b => .cons a b) h
theorem DpAll.mono : ∀ (ds : List D) (vs : List V), DpAll K F vs ds → DpAll K F' vs ds := fun d v h =>
  DpAll.rec (motive_1 := fun v d _ => Dp K F' v d) (motive_2 := fun v d _ => DpAll K F' v d) (motive_3 := fun v d _ => RkK K F' v d) (motive_4 := fun v d _ => RkT K F' v d) (motive_5 := fun v d _ => RkF K F' v d)
    .non .bl .int .str (fun h _ q => .lst (SqL.mono s h) q) (fun h _ q => .tup (SqT.mono s h) q) (fun h _ q => .dK (s _ _ h) q) (fun h _ q => .dT (s _ _ h) q) (fun h c _ q => .ins (s _ _ h) c q)
    .nil (fun _ _ a b => .cons a b) .nil (fun _ _ a b => .cons a b) .nil (fun _ _ a b => .cons a b) .nil (fun _ _ a b => .cons a b) h
theorem RkK.mono {r : List (Key × V)} {t : List (D × D)} (h : RkK K F r t) : RkK K F' r t :=
  RkK.rec (motive_1 := fun v d _ => Dp K F' v d) (motive_2 := fun v d _ => DpAll K F' v d) (motive_3 := fun v d _ => RkK K F' v d) (motive_4 := fun v d _ => RkT K F' v d) (motive_5 := fun v d _ => RkF K F' v d)
    .non .bl .int .str (fun h _ q => .lst (SqL.mono s h) q) (fun h _ q => .tup (SqT.mono s h) q) (fun h _ q => .dK (s _ _ h) q) (fun h _ q => .dT (s _ _ h) q) (fun h c _ q => .ins (s _ _ h) c q)
    .nil (fun _ _ a b => .cons a b) .nil (fun _ _ a b => .cons a b) .nil (fun _ _ a b => .cons a b) .nil (fun _ _ a b => .cons a b) h
theorem RkT.mono {r : List (List Key × V)} {t : List (D × D)} (h : RkT K F r t) : RkT K F' r t :=
  RkT.rec (motive_1 := fun v d _ => Dp K F' v d) (motive_2 := fun v d _ => DpAll K F' v d) (motive_3 := fun v d _ => RkK K F' v d) (motive_4 := fun v d _ => RkT K F' v d) (motive_5 := fun v d _ => RkF K F' v d)
    .non .bl .int .str (fun h _ q => .lst (SqL.mono s h) q) (fun h _ q => .tup (SqT.mono s h) q) (fun h _ q => .dK (s _ _ h) q) (fun h _ q => .dT (s _ _ h) q) (fun h c _ q => .ins (s _ _ h) c q)
    .nil (fun _ _ a b => .cons a b) .nil (fun _ _ a b => .cons a b) .nil (fun _ _ a b => .cons a b) .nil (fun _ _ a b => .cons a b) h
end
theorem DpAll.length {K : PySem.W.Frag} {F : Hp} : ∀ {ds : List D} {vs : List V}, DpAll K F vs ds → vs.length = ds.length
  | [], _, h => by cases h; rfl
  | d :: ds, _, h => by
    cases h with
    | cons h1 h2 => simp [DpAll.length h2]
theorem DpAll.get {K : PySem.W.Frag} {F : Hp} : ∀ {ds : List D} {vs : List V} {i : Nat} {d : D}, DpAll K F vs ds → ds[i]? = some d → ∃ v, vs[i]? = some v ∧ Dp K F v d
  | [], _, _, _, _, e => by simp at e
  | d :: ds, _, 0, _, h, e => by
    cases h with
    | cons h1 h2 => simp at e; subst e; exact ⟨_, rfl, h1⟩
  | d :: ds, _, i + 1, _, h, e => by
    cases h with
    | cons h1 h2 =>
      obtain ⟨v, q, r⟩ := DpAll.get (i := i) h2 (by simpa using e)
      exact ⟨v, by simpa using q, r⟩
theorem DpAll.get' {K : PySem.W.Frag} {F : Hp} : ∀ {ds : List D} {vs : List V} {i : Nat} {v : V}, DpAll K F vs ds → vs[i]? = some v → ∃ d, ds[i]? = some d ∧ Dp K F v d
  | [], _, _, _, h, e => by cases h; simp at e
  | d :: ds, _, 0, _, h, e => by
    cases h with
    | cons h1 h2 => simp at e; subst e; exact ⟨_, rfl, h1⟩
  | d :: ds, _, i + 1, _, h, e => by
    cases h with
    | cons h1 h2 =>
      obtain ⟨v, q, r⟩ := DpAll.get' (i := i) h2 (by simpa using e)
      exact ⟨v, by simpa using q, r⟩
theorem DpAll.append {K : PySem.W.Frag} {F : Hp} : ∀ {ds es : List D} {vs ws : List V}, DpAll K F vs ds → DpAll K F ws es → DpAll K F (vs ++ ws) (ds ++ es)
  | [], _, _, _, h, g => by cases h; exact g
  | d :: ds, _, _, _, h, g => by
    cases h with
    | cons h1 h2 => exact .cons h1 (DpAll.append h2 g)
theorem DpAll.take {K : PySem.W.Frag} {F : Hp} : ∀ {ds : List D} {vs : List V} (n : Nat), DpAll K F vs ds → DpAll K F (vs.take n) (ds.take n)
  | _, _, 0, _ => by simp; exact .nil
  | [], _, n + 1, h => by cases h; exact .nil
  | d :: ds, _, n + 1, h => by
    cases h with
    | cons h1 h2 => exact .cons h1 (DpAll.take n h2)
theorem DpAll.drop {K : PySem.W.Frag} {F : Hp} : ∀ {ds : List D} {vs : List V} (n : Nat), DpAll K F vs ds → DpAll K F (vs.drop n) (ds.drop n)
  | _, _, 0, h => by simpa using h
  | [], _, n + 1, h => by cases h; exact .nil
  | d :: ds, _, n + 1, h => by
    cases h with
    | cons h1 h2 => exact DpAll.drop n h2
theorem DpAll.set {K : PySem.W.Frag} {F : Hp} {w : V} {e : D} (q : Dp K F w e) : ∀ {ds : List D} {vs : List V} (n : Nat), DpAll K F vs ds → DpAll K F (vs.set n w) (ds.set n e)
  | [], _, n, h => by cases h; exact .nil
  | d :: ds, _, 0, h => by
    cases h with
    | cons h1 h2 => exact .cons q h2
  | d :: ds, _, n + 1, h => by
    cases h with
    | cons h1 h2 => exact .cons h1 (DpAll.set q n h2)
theorem DpAll.eraseIdx {K : PySem.W.Frag} {F : Hp} : ∀ {ds : List D} {vs : List V} (n : Nat), DpAll K F vs ds → DpAll K F (vs.eraseIdx n) (ds.eraseIdx n)
  | [], _, n, h => by cases h; exact .nil
  | d :: ds, _, 0, h => by
    cases h with
    | cons h1 h2 => exact h2
  | d :: ds, _, n + 1, h => by
    cases h with
    | cons h1 h2 => exact .cons h1 (DpAll.eraseIdx n h2)
theorem DpAll.reverse {K : PySem.W.Frag} {F : Hp} : ∀ {ds : List D} {vs : List V}, DpAll K F vs ds → DpAll K F vs.reverse ds.reverse
  | [], _, h => by cases h; exact .nil
  | d :: ds, _, h => by
    cases h with
    | cons h1 h2 => simp only [List.reverse_cons]; exact DpAll.append (DpAll.reverse h2) (.cons h1 .nil)
theorem DpAll.replicate {K : PySem.W.Frag} {F : Hp} {ds : List D} {vs : List V} (h : DpAll K F vs ds) : ∀ n : Nat, DpAll K F (List.replicate n vs).flatten (List.replicate n ds).flatten
  | 0 => .nil
  | n + 1 => by simp only [List.replicate_succ, List.flatten_cons]; exact DpAll.append h (DpAll.replicate h n)

/-- a value stands for data: shared -/
inductive RV (K : PySem.W.Frag) (F : Hp) : V → D → Prop
  | dp {v : V} {d : D} : Dp K F v d → RV K F v d
theorem RV.mono {K : PySem.W.Frag} {F F' : Hp} (s : Same F F') {v : V} {d : D} (h : RV K F v d) : RV K F' v d := by
  cases h with
  | dp h => exact .dp (Dp.mono s _ _ h)
theorem RV.get {K : PySem.W.Frag} {F : Hp} {v : V} {d : D} (h : RV K F v d) : Dp K F v d := by
  cases h with
  | dp h => exact h
/-- the object at a holds data: owned -/
inductive Own (K : PySem.W.Frag) (F H : Hp) (a : Addr) : D → Prop
  | lst {vs : List V} {ds : List D} : H a = some (.lst vs) → DpAll K F vs ds → Own K F H a (.list ds)
  | dK {kvs : List (Key × V)} {ps : List (D × D)} : H a = some (.dK kvs) → RkK K F kvs ps → Own K F H a (.dict ps)
  | dT {kvs : List (List Key × V)} {ps : List (D × D)} : H a = some (.dT kvs) → RkT K F kvs ps → Own K F H a (.dict ps)
theorem Own.there {K : PySem.W.Frag} {F H : Hp} {a : Addr} {d : D} (h : Own K F H a d) : ∃ o, H a = some o := by
  cases h with
  | lst h _ => exact ⟨_, h⟩
  | dK h _ => exact ⟨_, h⟩
  | dT h _ => exact ⟨_, h⟩
theorem Own.mono {K : PySem.W.Frag} {F H F' H' : Hp} {a : Addr} {d : D} (h : Own K F H a d) (s : Same F F') (e : H' a = H a) : Own K F' H' a d := by
  cases h with
  | lst h1 h2 => exact .lst (e.trans h1) (DpAll.mono s _ _ h2)
  | dK h1 h2 => exact .dK (e.trans h1) (RkK.mono s h2)
  | dT h1 h2 => exact .dT (e.trans h1) (RkT.mono s h2)
/-- no tuple -/
def NoTup (o : HO) : Prop := (∀ xs, o ≠ .tup xs) ∧ ∀ b xs, o ≠ .frz b (.tup xs)
/-- frozen -/
theorem Own.froze {K : PySem.W.Frag} {F H : Hp} {a : Addr} {d : D} (h : Own K F H a d) (s : Same F H) (n : F a = none) :
    ∃ o, H a = some o ∧ RV K (upd F a o) (.ref a) d ∧ NoTup o := by
  cases h with
  | lst h1 h2 => exact ⟨_, h1, .dp (.lst (SqL.of upd_same) (DpAll.mono (Same.grow n _) _ _ h2)), (fun _ q => by cases q), fun _ _ q => by cases q⟩
  | dK h1 h2 => exact ⟨_, h1, .dp (.dK upd_same (RkK.mono (Same.grow n _) h2)), (fun _ q => by cases q), fun _ _ q => by cases q⟩
  | dT h1 h2 => exact ⟨_, h1, .dp (.dT upd_same (RkT.mono (Same.grow n _) h2)), (fun _ q => by cases q), fun _ _ q => by cases q⟩
/-! nothing in it can change: no list, no dict -/
mutual
def noL : D → Bool
  | .none => true
  | .bool _ => true
  | .int _ => true
  | .str _ => true
  | .tuple xs => noLs xs
  | _ => false
def noLs : List D → Bool
  | [] => true
  | x :: r => noL x && noLs r
end
/-- F' without what F1 has and F has not -/
def backH (F F1 F' : Hp) : Hp := fun b => match F b, F1 b with
  | none, some _ => none
  | _, _ => F' b
theorem backH_get {F F1 F' : Hp} {b : Addr} {o : HO} (s : Same F1 F') (hF : ∀ b u, F1 b = some u → F b = some u ∨ NoTup u) (no : ¬ NoTup o) (h : F' b = some o) : backH F F1 F' b = some o := by
  unfold backH
  cases h1 : F1 b with
  | none => cases F b <;> exact h
  | some u =>
    have e := s b u h1
    rw [h] at e
    cases e
    rcases hF b o h1 with q | q
    · rw [q]; exact h
    · exact absurd q no
theorem backH_of {F F1 F' : Hp} {b : Addr} {o : HO} (h : backH F F1 F' b = some o) : F' b = some o ∧ ((∃ u, F b = some u) ∨ F1 b = none) := by
  unfold backH at h
  cases h0 : F b with
  | some u =>
    rw [h0] at h
    exact ⟨by cases q : F1 b <;> (rw [q] at h; exact h), .inl ⟨u, rfl⟩⟩
  | none =>
    cases h1 : F1 b with
    | none => rw [h0, h1] at h; exact ⟨h, .inr rfl⟩
    | some u => rw [h0, h1] at h; cases h
theorem backH_ext {F F1 F' : Hp} (s : Same F F') : Same F (backH F F1 F') := fun b u h => by
  unfold backH
  rw [h]
  cases F1 b <;> exact s b u h
theorem Post.back {F F1 H F' H' : Hp} (p : Post F1 H F' H') (s : Same F F1) : Post F H (backH F F1 F') H' :=
  ⟨p.same, backH_ext (s.trans p.ext), fun b u h => p.sub b u (backH_of h).1, fun b u h => by
    obtain ⟨h1, h2⟩ := backH_of h
    rcases h2 with ⟨w, h2⟩ | h2
    · exact .inl ⟨w, h2⟩
    · rcases p.new b u h1 with ⟨w, z⟩ | z
      · rw [h2] at z; cases z
      · exact .inr z⟩
theorem SqT.back {K : PySem.W.Frag} {F F1 F' : Hp} (s : Same F1 F') (hF : ∀ b u, F1 b = some u → F b = some u ∨ NoTup u) {a : Addr} {xs : List V} (h : SqT K F' a xs) : SqT K (backH F F1 F') a xs := by
  rcases h with (h | ⟨o, h⟩) | h
  · exact .inl (.inl (backH_get s hF (fun q => q.1 xs rfl) h))
  · exact .inl (.inr ⟨o, backH_get s hF (fun q => q.2 o xs rfl) h⟩)
  · exact .inr h
theorem DpAll.back {K : PySem.W.Frag} {F F1 F' : Hp} (s : Same F1 F') (hF : ∀ b u, F1 b = some u → F b = some u ∨ NoTup u) : ∀ (ds : List D) (vs : List V), DpAll K F' vs ds → noLs ds = true → DpAll K (backH F F1 F') vs ds := fun d v h =>
  DpAll.rec (motive_1 := fun v d _ => noL d = true → Dp K (backH F F1 F') v d) (motive_2 := fun v d _ => noLs d = true → DpAll K (backH F F1 F') v d) (motive_3 := fun _ _ _ => True) (motive_4 := fun _ _ _ => True) (motive_5 := fun _ _ _ => True)
    (fun _ => .non) (fun b _ => .bl b) (fun i _ => .int i) (fun x _ => .str x) (fun _ _ _ n => by cases n) (fun h _ q n => .tup (SqT.back s hF h) (q n)) (fun _ _ _ n => by cases n) (fun _ _ _ n => by cases n) (fun _ _ _ _ n => by cases n)
    (fun _ => .nil) (fun _ _ a b n => by
      have n := n
      simp only [noLs, Bool.and_eq_true] at n
      exact .cons (a n.1) (b n.2)) trivial (fun _ _ _ _ => trivial) trivial (fun _ _ _ _ => trivial) trivial (fun _ _ _ _ => trivial) h
theorem Dp.back {K : PySem.W.Frag} {F F1 F' : Hp} (s : Same F1 F') (hF : ∀ b u, F1 b = some u → F b = some u ∨ NoTup u) {d : D} {v : V} (h : Dp K F' v d) (n : noL d = true) : Dp K (backH F F1 F') v d := by
  have z := DpAll.back s hF [d] [v] (.cons h .nil) (by simp only [noLs, n, Bool.and_self])
  cases z with
  | cons z _ => exact z

/-! ### cells -/
inductive Cell where
  | no
  | sh (d : D)
  | ow (d : D)
/-- a result: shared data, or a new object that nothing else points to -/
inductive RC (K : PySem.W.Frag) (F' H H' : Hp) : V → Cell → Prop
  | sh {v : V} {d : D} : RV K F' v d → RC K F' H H' v (.sh d)
  | ow {p : Addr} {d : D} : H p = none → F' p = none → Own K F' H' p d → RC K F' H H' (.ref p) (.ow d)
def Cell.d? : Cell → Option D
  | .no => none
  | .sh d => some d
  | .ow d => some d
/-- any result may be taken as shared -/
theorem RC.share {K : PySem.W.Frag} {F H F' H' : Hp} {v : V} {c : Cell} {d : D} (p : Post F H F' H') (h : RC K F' H H' v c) (e : c.d? = some d) :
    ∃ F'', Post F H F'' H' ∧ RV K F'' v d := by
  cases h with
  | sh r => cases e; exact ⟨F', p, r⟩
  | @ow a d' n f o =>
    cases e
    obtain ⟨u, hu, r, _⟩ := o.froze p.sub f
    refine ⟨upd F' a u, ⟨p.same, p.ext.trans (Same.grow f u), Same.froze p.sub hu, fun b w q => ?_⟩, r⟩
    by_cases hb : b = a
    · subst hb; exact .inr n
    · rw [upd_ne hb] at q; exact p.new b w q

/-! ### the slots -/
structure ShOk (K : PySem.W.Frag) (F H : Hp) (σ : List (Option V)) (env : List Cell) : Prop where
  same : Same F H
  sh : ∀ (i : Nat) (d : D), env[i]? = some (Cell.sh d) → ∃ v, σ[i]? = some (some v) ∧ RV K F v d
  len : env.length = σ.length
theorem ShOk.post {K : PySem.W.Frag} {F H F' H' : Hp} {σ : List (Option V)} {env : List Cell} (e : ShOk K F H σ env) (p : Post F H F' H') : ShOk K F' H' σ env :=
  ⟨p.sub, fun i d h => let ⟨v, h1, h2⟩ := e.sh i d h; ⟨v, h1, h2.mono p.ext⟩, e.len⟩
/-- F0, H0: at the def's entry -/
structure EnvOk (K : PySem.W.Frag) (F0 H0 F H : Hp) (σ : List (Option V)) (env : List Cell) : Prop where
  post : Post F0 H0 F H
  sh : ∀ (i : Nat) (d : D), env[i]? = some (Cell.sh d) → ∃ v, σ[i]? = some (some v) ∧ RV K F v d
  ow : ∀ (i : Nat) (d : D), env[i]? = some (Cell.ow d) → ∃ a, σ[i]? = some (some (V.ref a)) ∧ F a = none ∧ H0 a = none ∧ Own K F H a d
  sep : ∀ (i j : Nat) (d e : D) (a : Addr), i ≠ j → env[i]? = some (Cell.ow d) → env[j]? = some (Cell.ow e) → σ[i]? = some (some (V.ref a)) → σ[j]? = some (some (V.ref a)) → False
  len : env.length = σ.length
section
variable {K : PySem.W.Frag} {F0 H0 F H F' H' : Hp} {σ : List (Option V)} {env : List Cell}
theorem EnvOk.shOk (e : EnvOk K F0 H0 F H σ env) : ShOk K F H σ env := ⟨e.post.sub, e.sh, e.len⟩
theorem EnvOk.step (e : EnvOk K F0 H0 F H σ env) (p : Post F H F' H') : EnvOk K F0 H0 F' H' σ env where
  post := e.post.trans p
  sh := fun i d h => let ⟨v, h1, h2⟩ := e.sh i d h; ⟨v, h1, h2.mono p.ext⟩
  ow := fun i d h => by
    obtain ⟨a, h1, h2, h3, h4⟩ := e.ow i d h
    obtain ⟨o, ho⟩ := h4.there
    refine ⟨a, h1, ?_, h3, h4.mono p.ext ?_⟩
    · cases q : F' a with
      | none => rfl
      | some u =>
        rcases p.new a u q with ⟨o', z⟩ | z
        · rw [h2] at z; cases z
        · rw [ho] at z; cases z
    · rw [ho]; exact p.same a o ho
  sep := e.sep
  len := e.len
/-- the heap grew, the frozen part is taken as it was: what grew is not leant on -/
theorem EnvOk.drop (e : EnvOk K F0 H0 F H σ env) (s : Same H H') : EnvOk K F0 H0 F H' σ env where
  post := ⟨e.post.same.trans s, e.post.ext, e.post.sub.trans s, e.post.new⟩
  sh := e.sh
  ow := fun i d h => by
    obtain ⟨a, h1, h2, h3, h4⟩ := e.ow i d h
    obtain ⟨o, ho⟩ := h4.there
    exact ⟨a, h1, h2, h3, h4.mono (Same.refl _) (by rw [ho]; exact s a o ho)⟩
  sep := e.sep
  len := e.len
/-- a slot is frozen -/
def shareAt (i : Nat) (env : List Cell) : List Cell :=
  match env[i]? with
  | some (.ow d) => env.set i (.sh d)
  | _ => env
theorem EnvOk.share (e : EnvOk K F0 H0 F H σ env) (i : Nat) : ∃ F1, Post F0 H0 F1 H ∧ Same F F1 ∧ EnvOk K F0 H0 F1 H σ (shareAt i env) ∧ ∀ b u, F1 b = some u → F b = some u ∨ NoTup u := by
  unfold shareAt
  split
  · rename_i d hd
    obtain ⟨a, h1, h2, h3, h4⟩ := e.ow i d hd
    obtain ⟨o, ho, r, nt⟩ := h4.froze e.post.sub h2
    have g : Same F (upd F a o) := Same.grow h2 o
    have p1 : Post F0 H0 (upd F a o) H := ⟨e.post.same, e.post.ext.trans g, Same.froze e.post.sub ho, fun b w q => by
      by_cases hb : b = a
      · subst hb; exact .inr h3
      · rw [upd_ne hb] at q; exact e.post.new b w q⟩
    have back : ∀ (n : Nat) (z : D), (env.set i (Cell.sh d))[n]? = some (Cell.ow z) → env[n]? = some (Cell.ow z) ∧ n ≠ i := fun n z hn => by
      by_cases hin : i = n
      · subst hin
        rw [List.getElem?_set_self (List.getElem?_eq_some_iff.mp hd).1] at hn
        cases hn
      · rw [List.getElem?_set_ne hin] at hn; exact ⟨hn, Ne.symm hin⟩
    refine ⟨upd F a o, p1, g, ⟨p1, fun j d' hj => ?_, fun j d' hj => ?_, fun j k d' e' b hjk hj hk => ?_, by rw [List.length_set]; exact e.len⟩, fun b u hb => ?_⟩
    · by_cases hji : i = j
      · subst hji
        rw [List.getElem?_set_self (List.getElem?_eq_some_iff.mp hd).1] at hj
        cases hj
        exact ⟨.ref a, h1, r⟩
      · rw [List.getElem?_set_ne hji] at hj
        obtain ⟨v, z1, z2⟩ := e.sh j d' hj; exact ⟨v, z1, z2.mono g⟩
    · obtain ⟨hj, hji⟩ := back j d' hj
      obtain ⟨b, z1, z2, z3, z4⟩ := e.ow j d' hj
      have nb : b ≠ a := fun q => e.sep j i d' d a hji hj hd (q ▸ z1) h1
      exact ⟨b, z1, by rw [upd_ne nb]; exact z2, z3, z4.mono g rfl⟩
    · exact e.sep j k d' e' b hjk (back j d' hj).1 (back k e' hk).1
    · by_cases q : b = a
      · subst q; rw [upd_same] at hb; cases hb; exact .inr nt
      · rw [upd_ne q] at hb; exact .inl hb
  · exact ⟨F, e.post, Same.refl _, e, fun b u h => .inl h⟩
def shareAll : List Nat → List Cell → List Cell
  | [], env => env
  | i :: r, env => shareAll r (shareAt i env)
theorem EnvOk.shares (e : EnvOk K F0 H0 F H σ env) (is : List Nat) : ∃ F1, Same F F1 ∧ EnvOk K F0 H0 F1 H σ (shareAll is env) ∧ ∀ b u, F1 b = some u → F b = some u ∨ NoTup u := by
  induction is generalizing F env with
  | nil => exact ⟨F, Same.refl _, e, fun b u h => .inl h⟩
  | cons i r ih =>
    obtain ⟨F1, _, s1, e1, n1⟩ := e.share i
    obtain ⟨F2, s2, e2, n2⟩ := ih e1
    refine ⟨F2, s1.trans s2, e2, fun b u h => ?_⟩
    rcases n2 b u h with h | h
    · exact n1 b u h
    · exact .inr h
/-- a slot gets a result -/
theorem EnvOk.put (e : EnvOk K F0 H0 F H σ env) {H1 : Hp} (i : Nat) {v : V} {c : Cell} (r : RC K F H1 H v c) (h1 : ∀ a o, H0 a = some o → H1 a = some o)
    (hf : ∀ (j : Nat) (d : D) (a : Addr), env[j]? = some (Cell.ow d) → σ[j]? = some (some (V.ref a)) → ∃ o, H1 a = some o) : EnvOk K F0 H0 F H (σ.set i (some v)) (env.set i c) := by
  have len := e.len
  refine ⟨e.post, fun j d hj => ?_, fun j d hj => ?_, fun j k d d' a hjk hj hk => ?_, by simp [len]⟩
  · rw [List.getElem?_set] at hj
    split at hj
    · rename_i hij; subst hij
      split at hj
      · rename_i hl
        cases hj
        cases r with
        | sh r => exact ⟨v, by rw [List.getElem?_set_self (by rw [← len]; exact hl)], r⟩
      · cases hj
    · rename_i hij
      obtain ⟨w, z1, z2⟩ := e.sh j d hj
      exact ⟨w, by rw [List.getElem?_set_ne hij]; exact z1, z2⟩
  · rw [List.getElem?_set] at hj
    split at hj
    · rename_i hij; subst hij
      split at hj
      · rename_i hl
        cases hj
        cases r with
        | @ow p d n f o =>
          refine ⟨p, by rw [List.getElem?_set_self (by rw [← len]; exact hl)], f, ?_, o⟩
          cases q : H0 p with
          | none => rfl
          | some u => rw [h1 p u q] at n; cases n
      · cases hj
    · rename_i hij
      obtain ⟨a, z1, z2, z3, z4⟩ := e.ow j d hj
      exact ⟨a, by rw [List.getElem?_set_ne hij]; exact z1, z2, z3, z4⟩
  · -- two owned slots
    have fresh : ∀ (n : Nat) (x : D) (b : Addr), n ≠ i → (env.set i c)[n]? = some (Cell.ow x) → (σ.set i (some v))[n]? = some (some (V.ref b)) → ∃ o, H1 b = some o := fun n x b hn q1 q2 => by
      rw [List.getElem?_set_ne (Ne.symm hn)] at q1 q2
      exact hf n x b q1 q2
    have own : ∀ (x : D) (b : Addr), (env.set i c)[i]? = some (Cell.ow x) → (σ.set i (some v))[i]? = some (some (V.ref b)) → H1 b = none := fun x b q1 q2 => by
      rw [List.getElem?_set] at q1
      rw [if_pos rfl] at q1
      split at q1
      · rename_i hl
        cases q1
        rw [List.getElem?_set_self (by rw [← len]; exact hl)] at q2
        cases r with
        | @ow p d n f o => cases q2; exact n
      · cases q1
    intro s1 s2
    by_cases h1 : j = i
    · subst h1
      obtain ⟨o, ho⟩ := fresh k d' a (Ne.symm hjk) hk s2
      rw [own d a hj s1] at ho; cases ho
    · by_cases h2 : k = i
      · subst h2
        obtain ⟨o, ho⟩ := fresh j d a hjk hj s1
        rw [own d' a hk s2] at ho; cases ho
      · rw [List.getElem?_set_ne (Ne.symm h1)] at hj s1
        rw [List.getElem?_set_ne (Ne.symm h2)] at hk s2
        exact e.sep j k d d' a hjk hj hk s1 s2
/-- an owned object is written -/
theorem EnvOk.write (e : EnvOk K F0 H0 F H σ env) {i : Nat} {a : Addr} {d d' : D} {o : HO} (hi : env[i]? = some (Cell.ow d)) (ha : σ[i]? = some (some (V.ref a))) (ho : Own K F (upd H a o) a d') :
    EnvOk K F0 H0 F (upd H a o) σ (env.set i (Cell.ow d')) := by
  obtain ⟨b, z1, z2, z3, z4⟩ := e.ow i d hi
  rw [ha] at z1; cases z1
  refine ⟨⟨fun b u q => ?_, e.post.ext, Same.wrote e.post.sub z2 o, e.post.new⟩, fun j x hj => ?_, fun j x hj => ?_, fun j k x y b hjk hj hk => ?_, by simp [e.len]⟩
  · rw [upd_ne (ne_of_none q z3)]; exact e.post.same b u q
  · rw [List.getElem?_set] at hj
    split at hj
    · split at hj <;> cases hj
    · exact e.sh j x hj
  · by_cases hij : i = j
    · subst hij
      rw [List.getElem?_set_self (List.getElem?_eq_some_iff.mp hi).1] at hj
      cases hj
      exact ⟨a, ha, z2, z3, ho⟩
    · rw [List.getElem?_set_ne hij] at hj
      obtain ⟨b, w1, w2, w3, w4⟩ := e.ow j x hj
      have nb : b ≠ a := fun q => e.sep i j d x a hij hi hj ha (q ▸ w1)
      exact ⟨b, w1, w2, w3, w4.mono (Same.refl _) (by rw [upd_ne nb])⟩
  · have back : ∀ (n : Nat) (z : D), (env.set i (Cell.ow d'))[n]? = some (Cell.ow z) → ∃ z', env[n]? = some (Cell.ow z') := fun n z hn => by
      by_cases hin : i = n
      · subst hin; exact ⟨d, hi⟩
      · rw [List.getElem?_set_ne hin] at hn; exact ⟨z, hn⟩
    obtain ⟨x', hx⟩ := back j x hj
    obtain ⟨y', hy⟩ := back k y hk
    exact e.sep j k x' y' b hjk hx hy
end
end EV
end

section
set_option Elab.async false
set_option linter.all false
set_option maxRecDepth 100000
/-! EV, part 2: the core language and its evaluator over data. -/
namespace EV
open PySem PySem.Spec PyProof.Rows L2

inductive BOp where | add | sub | mul | div | mod | pow
  deriving DecidableEq
inductive COp where | eq | ne | lt | le | gt | ge | inn | ni | is | isn
  deriving DecidableEq
inductive Blt where | len | sum | all | any | tup | lst | min2 | max2 | min1 | max1 | int | abs | str
  deriving DecidableEq
/-- methods of built-in things that make nothing old change -/
inductive BM where | lindex | join
  deriving DecidableEq
inductive Ty where | int | bool | tuple | list | dict | str
  deriving DecidableEq
inductive Tgt where
  | nm (i : Nat)
  | tp (is : List Nat)
inductive CE where
  | var (i : Nat)
  | cst (c : Nat)
  | int (n : Int)
  | bl (b : Bool)
  | non
  | str (s : Str)
  | bin (o : BOp) (a b : CE)
  | rep (a b : CE)
  | neg (a : CE)
  | cmp (o : COp) (a b : CE)
  | chain (o p : COp) (a b c : CE)
  | and_ (a b : CE)
  | or_ (a b : CE)
  | not_ (a : CE)
  | ite (c a b : CE)
  | nil
  | cons (a r : CE)
  | tup (as : CE)
  | lst (as : CE)
  | call (f : Nat) (as : CE)
  | blt (f : Blt) (as : CE)
  | isi (t : Ty) (a : CE)
  | ix (a b : CE)
  | sl (a lo hi : CE)
  | lc (own : List Nat) (tg : Tgt) (it c e : CE)
  | rng (as : CE)
  | zip (as : CE)
  | enm (a : CE)
  | rev (a : CE)
  /-- a new instance of the class x, its fields fs -/
  | mk (x : Str) (fs : List Str) (as : CE)
  /-- the field x of an instance of one of the classes cs -/
  | fld (cs : List Str) (o : CE) (x : Str)
  /-- a method; ms: which def it is, by the class -/
  | mth (ms : List (Str × Nat)) (m : Str) (o as : CE)
  | bm (m : BM) (o as : CE)
  | srt (a : CE)

/-! ### operations on data -/
def fldOf : List (D × D) → Str → Option D
  | (.str k, v) :: r, x => if x = k then some v else fldOf r x
  | _ :: r, x => fldOf r x
  | [], _ => none
/-- the place of the first equal item -/
def idxOf : List D → D → Option Nat
  | [], _ => none
  | x :: r, y => if PyData.eqv x y then some 0 else (idxOf r y).map (· + 1)
def strsOf : List D → Option (List Str)
  | [] => some []
  | .str x :: r => (strsOf r).map (x :: ·)
  | _ => none
def big : Nat := 1000000
def mulOk (i j : Int) : Bool := decide (-(2 ^ 64) < i ∧ i < 2 ^ 64) || decide (-(2 ^ 64) < j ∧ j < 2 ^ 64)
def binD : BOp → D → D → Option Cell
  | .add, .int a, .int b => some (.sh (.int (a + b)))
  | .add, .str a, .str b => if a.length + b.length ≤ big then some (.sh (.str (a ++ b))) else none
  | .add, .list a, .list b => if a.length + b.length ≤ big then some (.ow (.list (a ++ b))) else none
  | .add, .tuple a, .tuple b => if a.length + b.length ≤ big then some (.sh (.tuple (a ++ b))) else none
  | .sub, .int a, .int b => some (.sh (.int (a - b)))
  | .mul, .int a, .int b => if mulOk a b then some (.sh (.int (a * b))) else none
  | .div, .int a, .int b => if 0 < b ∧ b < 1073741824 then some (.sh (.int (a / b))) else none
  | .mod, .int a, .int b => if 0 < b then some (.sh (.int (a % b))) else none
  | .pow, .int a, .int b => if 0 ≤ b ∧ b ≤ 1000 ∧ a.natAbs < 2 ^ 64 then some (.sh (.int (a ^ b.toNat))) else none
  | _, _, _ => none
def okEq (d : D) : Bool := SeqAt.shaped d
/-- the answer of a comparison -/
def cmpD : COp → D → D → Option Bool
  | .eq, d, e => if okEq d && okEq e then some (PyData.eqv d e) else none
  | .ne, d, e => if okEq d && okEq e then some (!PyData.eqv d e) else none
  | .lt, .int a, .int b => some (decide (a < b))
  | .le, .int a, .int b => some (decide (a ≤ b))
  | .gt, .int a, .int b => some (decide (b < a))
  | .ge, .int a, .int b => some (decide (b ≤ a))
  | .inn, d, .list es => if okEq d && okEq (.list es) then some (es.any fun z => PyData.eqv z d) else none
  | .ni, d, .list es => if okEq d && okEq (.list es) then some (!es.any fun z => PyData.eqv z d) else none
  | .inn, d, .tuple es => if flat d && es.all flat then some (es.any fun z => PyData.eqv z d) else none
  | .ni, d, .tuple es => if flat d && es.all flat then some (!es.any fun z => PyData.eqv z d) else none
  | _, _, _ => none
def isNon : D → Bool
  | .none => true
  | _ => false
def cutD (xs : List D) (lo hi : Option Int) : List D := (xs.drop (HT.sIx xs.length 0 lo)).take (HT.sIx xs.length xs.length hi - HT.sIx xs.length 0 lo)
def sliceD : D → Option Int → Option Int → Option Cell
  | .list xs, lo, hi => some (.ow (.list (cutD xs lo hi)))
  | .tuple xs, lo, hi => some (.sh (.tuple (cutD xs lo hi)))
  | .str z, lo, hi => if z.length ≤ big then some (.sh (.str (cutS z lo hi))) else none
  | _, _, _ => none
def ixD : D → D → Option Cell
  | .list xs, .int i => (atI xs i).map .sh
  | .tuple xs, .int i => (atI xs i).map .sh
  | .str z, .int i => if z.length ≤ big then (atI z.cps.toList i).map fun c => .sh (.str ⟨#[c]⟩) else none
  | _, _ => none
def intsOf : List D → Option (List Int)
  | [] => some []
  | .int i :: r => (intsOf r).map (i :: ·)
  | _ => none
def boolsOf : List D → Option (List Bool)
  | [] => some []
  | .bool i :: r => (boolsOf r).map (i :: ·)
  | _ => none
/-- the least, the greatest of some ints -/
def leastI : Int → List Int → Int
  | m, [] => m
  | m, x :: r => leastI (if x < m then x else m) r
def mostI : Int → List Int → Int
  | m, [] => m
  | m, x :: r => mostI (if m < x then x else m) r
def bltD : Blt → List D → Option Cell
  | .len, [.list xs] => some (.sh (.int xs.length))
  | .len, [.tuple xs] => some (.sh (.int xs.length))
  | .len, [.str z] => if z.length ≤ big then some (.sh (.int z.length)) else none
  | .sum, [.list xs] => (intsOf xs).map fun ns => .sh (.int ns.sum)
  | .all, [.list xs] => (boolsOf xs).map fun bs => .sh (.bool (bs.all id))
  | .any, [.list xs] => (boolsOf xs).map fun bs => .sh (.bool (bs.any id))
  | .tup, [.list xs] => some (.sh (.tuple xs))
  | .tup, [.tuple xs] => some (.sh (.tuple xs))
  | .lst, [.list xs] => some (.ow (.list xs))
  | .lst, [.tuple xs] => some (.ow (.list xs))
  | .min2, [.int a, .int b] => some (.sh (.int (if b < a then b else a)))
  | .max2, [.int a, .int b] => some (.sh (.int (if a < b then b else a)))
  | .min1, [.list xs] => match intsOf xs with
    | some (n :: r) => some (.sh (.int (leastI n r)))
    | _ => none
  | .max1, [.list xs] => match intsOf xs with
    | some (n :: r) => some (.sh (.int (mostI n r)))
    | _ => none
  | .int, [.int a] => some (.sh (.int a))
  | .int, [.bool b] => some (.sh (.int (if b then 1 else 0)))
  | .abs, [.int a] => some (.sh (.int (if a < 0 then -a else a)))
  | .str, [.int a] => if a.natAbs.log2 < 1920 then some (.sh (.str (toString a))) else none
  | _, _ => none
def isiD : Ty → D → Bool
  | .int, .int _ => true
  | .int, .bool _ => true
  | .bool, .bool _ => true
  | .tuple, .tuple _ => true
  | .list, .list _ => true
  | .str, .str _ => true
  | .dict, .dict _ => true
  | _, _ => false
def bmD : BM → D → List D → Option Cell
  | .lindex, .list xs, [y] => if okEq (.list xs) && okEq y then (idxOf xs y).map fun j => .sh (.int (j : Nat)) else none
  | .join, .str a, [.list xs] => match strsOf xs with
    | some ys => if (ys.map (·.length)).sum + ys.length * a.length ≤ 16777216 then some (.sh (.str (Txt.join a ys))) else none
    | none => none
  | _, _, _ => none
/-- an int, a tuple of two ints -/
def pairOf : D → Option (Int × Int)
  | .tuple [.int a, .int b] => some (a, b)
  | _ => none
def insI (x : Int) : List Int → List Int
  | [] => [x]
  | y :: r => if x ≤ y then x :: y :: r else y :: insI x r
def sortI : List Int → List Int
  | [] => []
  | x :: r => insI x (sortI r)
/-- a stands before b, or they are one -/
def leP (a b : Int × Int) : Bool := decide (a.1 < b.1) || (decide (a.1 = b.1) && decide (a.2 ≤ b.2))
def insP (x : Int × Int) : List (Int × Int) → List (Int × Int)
  | [] => [x]
  | y :: r => if leP x y then x :: y :: r else y :: insP x r
def sortP : List (Int × Int) → List (Int × Int)
  | [] => []
  | x :: r => insP x (sortP r)
def pairsOf : List D → Option (List (Int × Int))
  | [] => some []
  | d :: r => match pairOf d, pairsOf r with
    | some p, some ps => some (p :: ps)
    | _, _ => none
def pairD (p : Int × Int) : D := .tuple [.int p.1, .int p.2]
def srtD : D → Option Cell
  | .list xs => match intsOf xs with
    | some ns => some (.ow (.list ((sortI ns).map .int)))
    | none => match pairsOf xs with
      | some ps => some (.ow (.list ((sortP ps).map pairD)))
      | none => none
  | _ => none
/-- what is walked, item by item -/
def itemsOf : D → Option (List D)
  | .list xs => some xs
  | .tuple xs => some xs
  | .str z => if z.length ≤ big then some (z.cps.toList.map fun c => .str ⟨#[c]⟩) else none
  | _ => none
def rngOk (i : Int) : Bool := decide (-(2 ^ 60) ≤ i ∧ i < 2 ^ 60)
def rngD : List D → Option (List D)
  | [.int n] => if rngOk n && decide (n ≤ big) then some ((List.range n.toNat).map fun i => .int (i : Nat)) else none
  | [.int a, .int b] => if rngOk a && rngOk b && decide (b - a ≤ big) then some ((List.range (b - a).toNat).map fun i => .int (a + (i : Nat))) else none
  | [.int a, .int b, .int c] => if rngOk a && rngOk b && decide (c = -1) && decide (a - b ≤ big) then some ((List.range (a - b).toNat).map fun i => .int (a - (i : Nat))) else none
  | _ => none
def zip2 : List D → List D → List D
  | x :: xs, y :: ys => .tuple [x, y] :: zip2 xs ys
  | _, _ => []
def zip3 : List D → List D → List D → List D
  | x :: xs, y :: ys, z :: zs => .tuple [x, y, z] :: zip3 xs ys zs
  | _, _, _ => []
def zipD : List D → Option (List D)
  | [a, b] => match itemsOf a, itemsOf b with
    | some xs, some ys => some (zip2 xs ys)
    | _, _ => none
  | [a, b, c] => match itemsOf a, itemsOf b, itemsOf c with
    | some xs, some ys, some zs => some (zip3 xs ys zs)
    | _, _, _ => none
  | _ => none
def enmFrom : Nat → List D → List D
  | _, [] => []
  | n, x :: r => .tuple [.int (n : Nat), x] :: enmFrom (n + 1) r
def enmD (d : D) : Option (List D) := (itemsOf d).map (enmFrom 0)
def revD : D → Option (List D)
  | .list xs => some xs.reverse
  | .tuple xs => some xs.reverse
  | _ => none

/-! ### slots -/
def setAll : List Nat → List D → List Cell → Option (List Cell)
  | [], [], env => some env
  | i :: is, x :: xs, env => setAll is xs (env.set i (.sh x))
  | _, _, _ => none
def bindT : Tgt → D → List Cell → Option (List Cell)
  | .nm i, x, env => some (env.set i (.sh x))
  | .tp is, .tuple xs, env => setAll is xs env
  | _, _, _ => none
def hide : List Nat → List Cell → List Cell
  | [], env => env
  | i :: r, env => (hide r env).set i .no
def lcGo (f : D → Option (Option D)) : List D → Option (List D)
  | [] => some []
  | x :: xs => match f x with
    | none => none
    | some none => lcGo f xs
    | some (some y) => match lcGo f xs with
      | some r => some (y :: r)
      | none => none
def CE.isNil : CE → Bool
  | .nil => true
  | _ => false
def getB : Option Cell → Option Bool
  | some (.sh (.bool b)) => some b
  | _ => none
def getD (c : Option Cell) : Option D := c.bind Cell.d?
/-- the data of an argument list -/
def getL : Option Cell → Option (List D)
  | some (.sh (.tuple xs)) => some xs
  | _ => none
/-- an optional bound of a slice -/
def getO (nil : Bool) (c : Option Cell) : Option (Option Int) := if nil then some none else
  match c with
  | some (.sh (.int i)) => some (some i)
  | _ => none

section
variable (G : Nat → List D → Option Cell) (C : Nat → Option D)
def evalE : List Cell → CE → Option Cell
  | env, .var i => match env[i]? with
    | some (.sh d) => some (.sh d)
    | _ => none
  | _, .cst c => (C c).map .sh
  | _, .int n => some (.sh (.int n))
  | _, .bl b => some (.sh (.bool b))
  | _, .non => some (.sh .none)
  | _, .str s => some (.sh (.str s))
  | env, .bin o a b => do binD o (← getD (evalE env a)) (← getD (evalE env b))
  | env, .rep a b => match evalE env a, getD (evalE env b) with
    | some (.ow (.list xs)), some (.int k) => if xs.length * k.toNat ≤ big ∧ rngOk k = true then some (.ow (.list (List.replicate k.toNat xs).flatten)) else none
    | _, _ => none
  | env, .neg a => match getD (evalE env a) with
    | some (.int i) => some (.sh (.int (-i)))
    | _ => none
  | env, .cmp o a b => match o with
    | .is => (getD (evalE env a)).map fun d => .sh (.bool (isNon d))
    | .isn => (getD (evalE env a)).map fun d => .sh (.bool (!isNon d))
    | o => do (cmpD o (← getD (evalE env a)) (← getD (evalE env b))).map fun r => .sh (.bool r)
  | env, .chain o p a b c => do
    let x ← getD (evalE env a)
    let y ← getD (evalE env b)
    match ← cmpD o x y with
    | true => (cmpD p y (← getD (evalE env c))).map fun r => .sh (.bool r)
    | false => some (.sh (.bool false))
  | env, .and_ a b => match getB (evalE env a) with
    | some true => (getB (evalE env b)).map fun r => .sh (.bool r)
    | some false => some (.sh (.bool false))
    | none => none
  | env, .or_ a b => match getB (evalE env a) with
    | some true => some (.sh (.bool true))
    | some false => (getB (evalE env b)).map fun r => .sh (.bool r)
    | none => none
  | env, .not_ a => (getB (evalE env a)).map fun r => .sh (.bool (!r))
  | env, .ite c a b => match getB (evalE env c) with
    | some true => (getD (evalE env a)).map .sh
    | some false => (getD (evalE env b)).map .sh
    | none => none
  | _, .nil => some (.sh (.tuple []))
  | env, .cons a r => do
    let x ← getD (evalE env a)
    let xs ← getL (evalE env r)
    some (.sh (.tuple (x :: xs)))
  | env, .tup as => do
    let xs ← getL (evalE env as)
    some (.sh (.tuple xs))
  | env, .lst as => do
    let xs ← getL (evalE env as)
    some (.ow (.list xs))
  | env, .call f as => do G f (← getL (evalE env as))
  | env, .blt f as => do bltD f (← getL (evalE env as))
  | env, .isi t a => (getD (evalE env a)).bind fun d => if isDict d then none else some (.sh (.bool (isiD t d)))
  | env, .ix a b => do ixD (← getD (evalE env a)) (← getD (evalE env b))
  | env, .sl a lo hi => do
    let x ← getD (evalE env a)
    let l ← getO lo.isNil (evalE env lo)
    let h ← getO hi.isNil (evalE env hi)
    sliceD x l h
  | env, .lc own tg it c e => do
    let xs ← (getD (evalE env it)).bind itemsOf
    let rs ← lcGo (fun x => do
      let env2 ← bindT tg x (hide own env)
      match ← (if c.isNil then some true else getB (evalE env2 c)) with
      | true => (getD (evalE env2 e)).map some
      | false => some none) xs
    some (.ow (.list rs))
  | env, .rng as => do (rngD (← getL (evalE env as))).map fun xs => .sh (.list xs)
  | env, .zip as => do (zipD (← getL (evalE env as))).map fun xs => .sh (.list xs)
  | env, .enm a => do (enmD (← getD (evalE env a))).map fun xs => .sh (.list xs)
  | env, .rev a => do (revD (← getD (evalE env a))).map fun xs => .sh (.list xs)
  | env, .mk x fs as => match getL (evalE env as) with
    | some xs => if xs.length = fs.length then some (.sh (.dict ((.none, .str x) :: (fs.zip xs).map fun p => (.str p.1, p.2)))) else none
    | none => none
  | env, .fld cs o x => match getD (evalE env o) with
    | some (.dict ((.none, .str c) :: ps)) => if cs.contains c then (fldOf ps x).map .sh else none
    | _ => none
  | env, .mth ms m o as => match getD (evalE env o) with
    | some (.dict ((.none, .str c) :: ps)) => match ms.lookup c with
      | some f => if (fldOf ps m).isNone then (match getL (evalE env as) with
          | some xs => G f (.dict ((.none, .str c) :: ps) :: xs)
          | none => none) else none
      | none => none
    | _ => none
  | env, .bm m o as => match getD (evalE env o), getL (evalE env as) with
    | some d, some xs => bmD m d xs
    | _, _ => none
  | env, .srt a => (getD (evalE env a)).bind srtD
end

/-! ### statements -/
inductive CS where
  | nil
  | seq (s r : CS)
  /-- slot i gets e; fr: the owned slots that e speaks of -/
  | asg (i : Nat) (fr : List Nat) (e : CE)
  /-- slots get a tuple's items -/
  | unp (is : List Nat) (fr : List Nat) (e : CE)
  /-- the owned list of slot i grows by e -/
  | app (i : Nat) (fr : List Nat) (e : CE)
  | ext (i : Nat) (fr : List Nat) (e : CE)
  /-- the owned list of slot i gets e at the place k -/
  | ins (i : Nat) (fr : List Nat) (k e : CE)
  /-- the owned list of slot i loses its last item -/
  | popl (i : Nat)
  /-- an item of the owned list of slot i -/
  | put (i : Nat) (fr : List Nat) (k e : CE)
  /-- slot j gets what the owned list of slot i had at k -/
  | pop (j i : Nat) (fr : List Nat) (k : CE)
  | rvs (i : Nat)
  | ife (fr : List Nat) (c : CE) (a b : CS)
  | ret (fr : List Nat) (e : CE)
  /-- the owned list of slot i is told -/
  | reto (i : Nat)
  | retn
  | for_ (fr : List Nat) (tg : Tgt) (it : CE) (b : CS)
  | whl (n : Nat) (fr : List Nat) (c : CE) (b : CS)
  | brk
  | cnt
  | drp (fr : List Nat) (e : CE)
  /-- not come to -/
  | bad
inductive Out where
  | nx (env : List Cell)
  | rt (c : Cell)
  | bk (env : List Cell)
  | ct (env : List Cell)
/-- a list's, a tuple's items -/
def seqOf : D → Option (List D)
  | .list xs => some xs
  | .tuple xs => some xs
  | _ => none
/-- a result that leans on no list, no dict -/
def keep : Cell → Bool
  | .sh d => noL d
  | .ow (.list ds) => noLs ds
  | _ => false
/-- an expression in a statement: the owned slots that it speaks of are frozen, and are free again where the result leans on no list -/
def flatC : Cell → Bool
  | .sh d => flat d
  | _ => false
/-- 999 among the slots: they stay frozen -/
def kpt (fr : List Nat) (c : Cell) : Bool := if fr.contains 999 then flatC c else keep c
def after (fr : List Nat) (env env1 : List Cell) (c : Cell) : List Cell := if kpt fr c then env else env1
theorem keep_of {fr : List Nat} {c : Cell} (h : kpt fr c = true) : keep c = true := by
  unfold kpt at h
  split at h
  · cases c <;> first | (cases h; done) | skip
    rename_i d
    cases d <;> first | (cases h; done) | rfl
  · exact h
def forGo (f : D → List Cell → Option Out) : List D → List Cell → Option Out
  | [], env => some (.nx env)
  | x :: xs, env => match f x env with
    | some (.nx env') => forGo f xs env'
    | some (.ct env') => forGo f xs env'
    | some (.bk env') => some (.nx env')
    | some (.rt c) => some (.rt c)
    | none => none
def whlGo (c : List Cell → Option Bool) (f : List Cell → Option Out) : Nat → List Cell → Option Out
  | 0, _ => none
  | n + 1, env => match c env with
    | some true => match f env with
      | some (.nx env') => whlGo c f n env'
      | some (.ct env') => whlGo c f n env'
      | some (.bk env') => some (.nx env')
      | some (.rt c) => some (.rt c)
      | none => none
    | some false => some (.nx env)
    | none => none
section
variable (G : Nat → List D → Option Cell) (C : Nat → Option D)
/-- a statement's expression -/
def evalX (env : List Cell) (fr : List Nat) (e : CE) : Option (Cell × List Cell) :=
  match evalE G C (shareAll fr env) e with
  | some c => some (c, after fr env (shareAll fr env) c)
  | none => none
def evalS : List Cell → CS → Option Out
  | env, .nil => some (.nx env)
  | env, .seq s r => match evalS env s with
    | some (.nx env') => evalS env' r
    | o => o
  | env, .asg i fr e => match evalX G C env fr e with
    | some (c, env') => some (.nx (env'.set i c))
    | none => none
  | env, .unp is fr e => match evalX G C env fr e with
    | some (c, env') => match c.d? with
      | some (.tuple xs) => (setAll is xs env').map .nx
      | _ => none
    | none => none
  | env, .app i fr e => match evalX G C env fr e with
    | some (c, env') => match c.d?, env'[i]? with
      | some x, some (.ow (.list ds)) => if ds.length < big then some (.nx (env'.set i (.ow (.list (ds ++ [x]))))) else none
      | _, _ => none
    | none => none
  | env, .ext i fr e => match evalX G C env fr e with
    | some (c, env') => match c.d?.bind seqOf, env'[i]? with
      | some xs, some (.ow (.list ds)) => if ds.length + xs.length < big then some (.nx (env'.set i (.ow (.list (ds ++ xs))))) else none
      | _, _ => none
    | none => none
  | env, .ins i fr k e => match evalX G C env fr k with
    | some (.sh (.int j), env') => match evalX G C env' fr e with
      | some (c, env2) => match c.d?, env2[i]? with
        | some x, some (.ow (.list ds)) => if ds.length < big ∧ 0 ≤ j ∧ j < big then some (.nx (env2.set i (.ow (.list (ds.take j.toNat ++ [x] ++ ds.drop j.toNat))))) else none
        | _, _ => none
      | none => none
    | _ => none
  | env, .popl i => match env[i]? with
    | some (.ow (.list ds)) => if ds.isEmpty then none else some (.nx (env.set i (.ow (.list ds.dropLast))))
    | _ => none
  | env, .put i fr k e => match evalX G C env fr e with
    | some (c, env') => match evalX G C env' fr k with
      | some (.sh (.int j), env2) => match c.d?, env2[i]? with
        | some x, some (.ow (.list ds)) => match ixN ds.length j with
          | some n => some (.nx (env2.set i (.ow (.list (ds.set n x)))))
          | none => none
        | _, _ => none
      | _ => none
    | none => none
  | env, .pop j i fr k => match evalX G C env fr k with
    | some (.sh (.int n), env') => match env'[i]? with
      | some (.ow (.list ds)) => if 0 ≤ n ∧ n < big then match ds[n.toNat]? with
          | some x => some (.nx ((env'.set i (.ow (.list (ds.eraseIdx n.toNat)))).set j (.sh x)))
          | none => none
        else none
      | _ => none
    | _ => none
  | env, .rvs i => match env[i]? with
    | some (.ow (.list ds)) => some (.nx (env.set i (.ow (.list ds.reverse))))
    | _ => none
  | env, .ife fr c a b => match evalX G C env fr c with
    | some (.sh (.bool true), env') => evalS env' a
    | some (.sh (.bool false), env') => evalS env' b
    | _ => none
  | env, .ret fr e => match evalX G C env fr e with
    | some (c, _) => some (.rt c)
    | none => none
  | env, .reto i => match env[i]? with
    | some (.ow d) => some (.rt (.ow d))
    | some (.sh d) => some (.rt (.sh d))
    | _ => none
  | _, .retn => some (.rt (.sh .none))
  | env, .for_ fr tg it b => match evalE G C (shareAll fr env) it with
    | some c => match c.d?.bind itemsOf with
      | some xs => forGo (fun x env' => match bindT tg x env' with
        | some env2 => evalS env2 b
        | none => none) xs (shareAll fr env)
      | none => none
    | none => none
  | env, .whl n fr c b => whlGo (fun env' => match evalX G C env' fr c with
    | some (.sh (.bool b), _) => some b
    | _ => none) (fun env' => evalS env' b) n env
  | env, .brk => some (.bk env)
  | env, .cnt => some (.ct env)
  | env, .drp fr e => match evalX G C env fr e with
    | some (_, env') => some (.nx env')
    | none => none
  | _, .bad => none
end
end EV
end

section
set_option Elab.async false
set_option linter.all false
set_option maxRecDepth 100000
set_option maxHeartbeats 1000000
/-! EV, part 3: how the core language stands for the text; rules that the layer lacks. -/
namespace EV
open PySem PySem.Spec PyProof.Rows L2

/-! ### matching -/
structure Tab where
  /-- a def by its number, its name, how many parameters -/
  fns : List (Nat × Str × Nat)
  csts : List (Str × D)
  /-- classes that are made, with their fields -/
  mks : List (Str × List Str)
  /-- methods: class, name, the def's number, how many parameters beside self -/
  mts : List (Str × Str × Nat × Nat)
  /-- names of fields -/
  flds : List Str
def Tab.C (T : Tab) (c : Nat) : Option D := (T.csts[c]?).map Prod.snd
def lkIs (sc : Scope) (x : Str) (k : NameKind) : Bool := decide (sc.names.lookup x = some k)
def visB (N : List Str) (sc : Scope) (i : Nat) (x : Str) : Bool :=
  decide (N[i]? = some x) && (lkIs sc x .local || lkIs sc x .cell || lkIs sc x .free) && !(x == ("__debug__" : Str)) && !(x == ("__classdict__" : Str))
def locB (N : List Str) (sc : Scope) (i : Nat) (x : Str) : Bool := decide (N[i]? = some x) && (lkIs sc x .local || lkIs sc x .cell)
def glbB (sc : Scope) (x : Str) : Bool := lkIs sc x .globalImplicit && !(x == ("__debug__" : Str))
def bopIs : BOp → Operator → Bool
  | .add, .Add => true
  | .sub, .Sub => true
  | .mul, .Mult => true
  | .div, .FloorDiv => true
  | .mod, .Mod => true
  | .pow, .Pow => true
  | _, _ => false
def copOf : COp → CmpOp
  | .eq => .Eq
  | .ne => .NotEq
  | .lt => .Lt
  | .le => .LtE
  | .gt => .Gt
  | .ge => .GtE
  | .inn => .In
  | .ni => .NotIn
  | .is => .Is
  | .isn => .IsNot
def bltName : Blt → Str
  | .len => "len"
  | .sum => "sum"
  | .all => "all"
  | .any => "any"
  | .tup => "tuple"
  | .lst => "list"
  | .min2 => "min"
  | .max2 => "max"
  | .min1 => "min"
  | .max1 => "max"
  | .int => "int"
  | .abs => "abs"
  | .str => "str"
def tyName : Ty → String
  | .int => "int"
  | .bool => "bool"
  | .tuple => "tuple"
  | .list => "list"
  | .dict => "dict"
  | .str => "str"
def bltNames : List Str := ["len", "sum", "all", "any", "tuple", "list", "min", "max", "int", "abs", "str", "bool", "dict", "isinstance", "range", "zip", "enumerate", "reversed", "sorted"]
def CE.isE : CE → Bool
  | .nil => false
  | .cons _ _ => false
  | .rng _ => false
  | .zip _ => false
  | .enm _ => false
  | .rev _ => false
  | _ => true
/-- may be a test -/
def CE.isT : CE → Bool
  | .ite _ _ _ => false
  | c => c.isE
def CE.isI : CE → Bool
  | .nil => false
  | .cons _ _ => false
  | _ => true
def CE.isA : CE → Bool
  | .nil => true
  | .cons _ _ => true
  | _ => false
def CE.isTup : CE → Bool
  | .zip _ => true
  | .enm _ => true
  | _ => false
def tgB (N : List Str) (sc : Scope) : Tgt → Expr → Bool
  | .nm i, .Name x _ => locB N sc i x
  | .tp is, .Tuple es _ _ => is.length == es.length && (is.zip es).all fun p => match p.2 with
    | .Name x _ => locB N sc p.1 x
    | _ => false
  | _, _ => false
def ownOf (N : List Str) (own : List Nat) : List (Str × Nat) := own.map fun i => (N.getD i Str.empty, i)
def plainE : Expr → Bool
  | .Name _ _ => true
  | .Constant _ _ _ => true
  | .BinOp _ _ _ _ => true
  | .UnaryOp _ _ _ => true
  | .Compare _ _ _ _ => true
  | .BoolOp _ _ _ => true
  | .IfExp _ _ _ _ => true
  | .Tuple _ _ _ => true
  | .List _ _ => true
  | .Call _ _ _ _ => true
  | .Subscript _ _ _ => true
  | .ListComp _ _ _ _ => true
  | .Attribute _ _ _ => true
  | _ => false
/-- the right side of «is» is None -/
def noneB : COp → Expr → Bool
  | .is, .Constant .none _ _ => true
  | .is, _ => false
  | .isn, .Constant .none _ _ => true
  | .isn, _ => false
  | _, _ => true
/-- what is left of an and, an or -/
def tailB (op : BoolOp) (y : Expr) (r : List Expr) (pos : Pos) : Expr := match r with
  | [] => y
  | _ :: _ => .BoolOp op (y :: r) pos
def partB (b : Bool) (f : Expr → Bool) : Option Expr → Bool
  | none => b
  | some y => f y
def ifsB (b : Bool) (f : Expr → Bool) : List Expr → Bool
  | [] => b
  | [c] => f c
  | _ => false
def tgTupB : Tgt → Bool
  | .tp _ => true
  | _ => false
def tgInB (own : List Nat) : Tgt → Bool
  | .nm i => own.contains i
  | .tp is => is.all own.contains
/-- what may stand before a dot -/
def atB : Expr → Bool
  | .Name _ _ => true
  | .Constant _ _ _ => true
  | .Attribute _ _ _ => true
  | .Subscript _ _ _ => true
  | .Call _ (_ :: _) _ _ => true
  | _ => false
def bmName : BM → Str
  | .lindex => "index"
  | .join => "join"
def mm (T : Tab) (N : List Str) : CE → Scope → List Expr → Bool
  | .var i, sc, [.Name x _] => visB N sc i x
  | .cst c, sc, [.Name x _] => glbB sc x && (match T.csts[c]? with
    | some (y, _) => decide (x = y)
    | none => false)
  | .int n, _, [.Constant (.int m) _ _] => decide (n = m)
  | .bl b, _, [.Constant (.bool c) _ _] => b == c
  | .non, _, [.Constant .none _ _] => true
  | .str z, _, [.Constant (.str y) _ _] => decide (z = y)
  | .bin o a b, sc, [.BinOp x p y _] => bopIs o p && (a.isE && plainE x && mm T N a sc [x]) && (b.isE && plainE y && mm T N b sc [y])
  | .rep a b, sc, [.BinOp x .Mult y _] => (a.isE && plainE x && mm T N a sc [x]) && (b.isE && plainE y && mm T N b sc [y])
  | .neg a, sc, [.UnaryOp .USub x _] => a.isE && plainE x && mm T N a sc [x]
  | .cmp o a b, sc, [.Compare x [p] [y] _] => decide (copOf o = p) && (a.isE && plainE x && mm T N a sc [x]) && (b.isE && plainE y && mm T N b sc [y]) && noneB o y
  | .chain o p a b c, sc, [.Compare x [o', p'] [y, z] _] => decide (copOf o = o') && decide (copOf p = p') && (a.isE && plainE x && mm T N a sc [x]) && (b.isE && plainE y && mm T N b sc [y]) && (c.isE && plainE z && mm T N c sc [z])
  | .and_ a b, sc, [.BoolOp .And (x :: y :: r) pos] => (a.isT && plainE x && mm T N a sc [x]) && (b.isT && plainE y && mm T N b sc [tailB .And y r pos])
  | .or_ a b, sc, [.BoolOp .Or (x :: y :: r) pos] => (a.isT && plainE x && mm T N a sc [x]) && (b.isT && plainE y && mm T N b sc [tailB .Or y r pos])
  | .not_ a, sc, [.UnaryOp .Not x _] => a.isT && plainE x && mm T N a sc [x]
  | .ite c a b, sc, [.IfExp t x y _] => (c.isT && plainE t && mm T N c sc [t]) && (a.isE && plainE x && mm T N a sc [x]) && (b.isE && plainE y && mm T N b sc [y])
  | .nil, _, [] => true
  | .cons a r, sc, e :: es => (a.isE && plainE e && mm T N a sc [e]) && (r.isA && mm T N r sc es)
  | .tup as, sc, [.Tuple es _ _] => decide (es.length ≤ big) && (as.isA && mm T N as sc es)
  | .lst as, sc, [.List es _] => decide (es.length ≤ big) && (as.isA && mm T N as sc es)
  | .call f as, sc, [.Call (.Name x _) es [] _] => glbB sc x && decide ((f, x, es.length) ∈ T.fns) && (as.isA && mm T N as sc es)
  | .mk y fs as, sc, [.Call (.Name x _) (e :: es) [] _] => glbB sc x && decide (x = y) && decide ((x, fs) ∈ T.mks) && (as.isA && mm T N as sc (e :: es))
  | .fld cs o x, sc, [.Attribute e y _] => decide (x = y) && decide (x ∈ T.flds) && cs.all (fun c => T.mks.any fun p => decide (p.1 = c)) && atB e && (o.isE && plainE e && mm T N o sc [e])
  | .mth ms m o as, sc, [.Call (.Attribute e y ap) (a :: es) [] cp] => decide (m = y) && (ap.endLine == cp.line) && decide (es.length < 20) && ms.all (fun q => decide ((q.1, m, q.2, (a :: es).length) ∈ T.mts)) && atB e && (o.isE && plainE e && mm T N o sc [e]) && (as.isA && mm T N as sc (a :: es))
  | .bm m o as, sc, [.Call (.Attribute e y ap) [a] [] cp] => decide (bmName m = y) && atB e && (ap.endLine == cp.line) && (o.isE && plainE e && mm T N o sc [e]) && (as.isA && mm T N as sc [a])
  | .srt a, sc, [.Call (.Name x _) [e] [] _] => glbB sc x && decide (x = ("sorted" : Str)) && (a.isE && plainE e && mm T N a sc [e])
  | .blt f as, sc, [.Call (.Name x _) (e :: es) [] _] => glbB sc x && decide (x = bltName f) && (as.isA && mm T N as sc (e :: es))
  | .isi t a, sc, [.Call (.Name x _) [e, .Name y _] [] _] => glbB sc x && glbB sc y && decide (x = ("isinstance" : Str)) && decide (y = Str.ofString (tyName t)) && (a.isE && plainE e && mm T N a sc [e])
  | .ix a b, sc, [.Subscript x y _] => (a.isE && plainE x && mm T N a sc [x]) && (b.isE && plainE y && mm T N b sc [y])
  | .sl a lo hi, sc, [.Subscript x (.Slice l h none _) _] => (a.isE && plainE x && mm T N a sc [x]) && partB lo.isNil (fun y => lo.isE && plainE y && mm T N lo sc [y]) l && partB hi.isNil (fun y => hi.isE && plainE y && mm T N hi sc [y]) h
  | .lc own tg it c e, sc, [.ListComp elt [⟨tg', it', ifs, 0⟩] scope _] => blkC N sc scope (ownOf N own) && tgB N scope tg tg' && (it.isI && plainE it' && mm T N it sc [it']) && (it.isTup == false || tgTupB tg) && tgInB own tg &&
    ifsB c.isNil (fun c' => c.isT && plainE c' && mm T N c (relS scope sc) [c']) ifs && (e.isE && plainE elt && mm T N e (relS scope sc) [elt])
  | .rng as, sc, [.Call (.Name x _) es [] _] => glbB sc x && decide (x = ("range" : Str)) && (as.isA && mm T N as sc es)
  | .zip as, sc, [.Call (.Name x _) es [] _] => glbB sc x && decide (x = ("zip" : Str)) && (as.isA && mm T N as sc es)
  | .enm a, sc, [.Call (.Name x _) [e] [] _] => glbB sc x && decide (x = ("enumerate" : Str)) && (a.isE && plainE e && mm T N a sc [e])
  | .rev a, sc, [.Call (.Name x _) [e] [] _] => glbB sc x && decide (x = ("reversed" : Str)) && (a.isE && plainE e && mm T N a sc [e])
  | _, _, _ => false
end EV
end

section
set_option Elab.async false
set_option linter.all false
set_option maxRecDepth 100000
set_option maxHeartbeats 1000000
/-! EV, part 4: what a core expression promises (readings over data), and the rules for each construct. -/
namespace EV
open PySem PySem.Spec PyProof.Rows L2

inductive RVs (K : PySem.W.Frag) (F : Hp) : List V → List D → Prop
  | nil : RVs K F [] []
  | cons {v : V} {d : D} {vs : List V} {ds : List D} : RV K F v d → RVs K F vs ds → RVs K F (v :: vs) (d :: ds)
theorem RVs.mono {K : PySem.W.Frag} {F F' : Hp} (s : Same F F') {vs : List V} {ds : List D} (h : RVs K F vs ds) : RVs K F' vs ds := by
  induction h with
  | nil => exact .nil
  | cons h1 _ ih => exact .cons (h1.mono s) ih
theorem RVs.length {K : PySem.W.Frag} {F : Hp} {vs : List V} {ds : List D} (h : RVs K F vs ds) : vs.length = ds.length := by
  induction h with
  | nil => rfl
  | cons _ _ ih => simp [ih]
theorem RVs.dp {K : PySem.W.Frag} {F : Hp} {vs : List V} {ds : List D} (h : RVs K F vs ds) : DpAll K F vs ds := by
  induction h with
  | nil => exact .nil
  | cons h1 _ ih =>
    exact .cons h1.get ih

/-- what a def of the text promises: the function g over data -/
def spOf (K : PySem.W.Frag) (n : Nat) (g : List D → Option Cell) : Sp := fun vs H Q _ =>
  vs.length = n ∧ ∃ F ds c, Same F H ∧ RVs K F vs ds ∧ g ds = some c ∧ ∀ v H' F', Post F H F' H' → RC K F' H H' v c → Q v H'

/-- what __init__ promises: self's fields are the parameters, in their order -/
def spIni (C : Addr) (fs : List Str) : Sp := fun vs H Q _ => ∃ a dx us, vs = .ref a :: us ∧ us.length = fs.length ∧ H a = some (.ins C dx []) ∧ Q .non (upd H a (.ins C dx (fs.zip us)))
structure LibOk (P : Program) (w : World) (K : PySem.W.Frag) (mg : Str → Option Value) (base : Heap) (T : Tab) (G : Nat → List D → Option Cell) (k : Nat) : Prop where
  fn : ∀ (f : Nat) (x : Str) (n : Nat), (f, x, n) ∈ T.fns → ∃ a fd ps, FnOk P w K mg base CX0 k a fd ps (spOf K n (G f)) ∧ mg x = some (.ref a) ∧ PySem.W.keepIn K (.ref a) = true ∧ Binds K fd ps []
  made : ∀ (x : Str) (fs : List Str), (x, fs) ∈ T.mks → ∃ C a fd ps j, PySem.W.nsIn K mainGlobals x = some (some (.ref C)) ∧ mg x = some (.ref C) ∧ Mk K C a ∧ FnOk P w K mg base CX0 j a fd ps (spIni C fs) ∧ j + 1 ≤ k ∧ Binds K fd ps [] ∧ Cls K C ∧ ∀ y ∈ T.flds, NoAttr K C y
  meth : ∀ (c m : Str) (f n : Nat), (c, m, f, n) ∈ T.mts → ∃ C a fd ps, PySem.W.nsIn K mainGlobals c = some (some (.ref C)) ∧ Cls K C ∧ Meth K C m a ∧ FnOk P w K mg base CX0 k a fd ps (spOf K (n + 1) (G f)) ∧ Binds K fd ps []
  cst : ∀ (c : Nat) (x : Str) (d : D), T.csts[c]? = some (x, d) → ∃ v u, mg x = some u ∧ RelV v u ∧ ∀ F, RV K F v d
  blt : ∀ x ∈ bltNames, mg x = none
structure XOk (T : Tab) (G : Nat → List D → Option Cell) (k : Nat) (N : List Str) (sc so : Scope) (X : Cx) : Prop where
  lib : LibOk X.prog X.w X.K X.mg X.base T G k
  room : Room k X.A
  eN : X.N = N
  nd : N.Nodup
  eS : X.env.scope = sc
  calm : X.calm = true
  xe : X.xe = fun _ _ => False
  fn : ∀ x, L2.Loc so x → L2.Loc sc x ∧ (X.fn x = true ∨ sc.names.lookup x = some .local)

section
variable (K : PySem.W.Frag) (G : Nat → List D → Option Cell) (C : Nat → Option D)
def tE (c : CE) : TE := fun σ H Q => ∃ F env r, ShOk K F H σ env ∧ evalE G C env c = some r ∧ ∀ v H' F', Post F H F' H' → RC K F' H H' v r → Q v H'
def tD (c : CE) : TE := fun σ H Q => ∃ F env d, ShOk K F H σ env ∧ getD (evalE G C env c) = some d ∧ ∀ v H' F', Post F H F' H' → RV K F' v d → Q v H'
def tT (c : CE) : TT := fun σ H Q => ∃ F env b, ShOk K F H σ env ∧ getB (evalE G C env c) = some b ∧ ∀ H' F', Post F H F' H' → Q b H'
def tA (c : CE) : TA := fun σ H Q => ∃ F env ds, ShOk K F H σ env ∧ getL (evalE G C env c) = some ds ∧ ∀ vs H' F', Post F H F' H' → RVs K F' vs ds → Q vs H'
/-- a walked thing gives the data ds, item by item -/
def Wk (J : It) (F : Hp) (ds : List D) : Prop := ∀ F' H, Same F F' → Same F' H → (∀ i, i < ds.length → J.go i H) ∧ J.stop ds.length H ∧
  ∀ i d x H', ds[i]? = some d → J.yld i H x H' → ∃ F'', Post F' H F'' H' ∧ RV K F'' x d
def tI (c : CE) : TI := fun σ H R => ∃ F env ds, ShOk K F H σ env ∧ (getD (evalE G C env c)).bind itemsOf = some ds ∧ ∀ J H' F', Post F H F' H' → Wk K J F' ds → ds.length ≤ sizeLine → R J H'
end

theorem PE.by {X : Cx} {e : Expr} {t' : TE} (h : ∀ pins s σ H Q, Inv X pins σ H s → t' σ H Q → ∃ t, PE X e t ∧ t σ H Q) : PE X e t' :=
  ⟨fun pins s σ H Q I hw => let ⟨t, p, q⟩ := h pins s σ H Q I hw; p.run pins s σ H Q I q⟩
theorem PT.by {X : Cx} {e : Expr} {t' : TT} (h : ∀ σ H Q, t' σ H Q → ∃ t, PT X e t ∧ t σ H Q) : PT X e t' :=
  ⟨fun pins s σ H Q I hw => let ⟨t, p, q⟩ := h σ H Q hw; p.run pins s σ H Q I q⟩
theorem PW.by {X : Cx} {e : Expr} {t' : TT} (h : ∀ σ H Q, t' σ H Q → ∃ t, PW X e t ∧ t σ H Q) : PW X e t' :=
  ⟨fun wh pins s σ H Q I hw => let ⟨t, p, q⟩ := h σ H Q hw; p.run wh pins s σ H Q I q⟩
theorem PA.by {X : Cx} {es : List Expr} {t' : TA} (h : ∀ σ H Q, t' σ H Q → ∃ t, PA X es t ∧ t σ H Q) : PA X es t' :=
  ⟨fun pos pins s σ H Q I hw => let ⟨t, p, q⟩ := h σ H Q hw; p.run pos pins s σ H Q I q⟩
theorem PI.by {X : Cx} {tg e : Expr} {t' : TI} (h : ∀ σ H R, t' σ H R → ∃ t, PI X tg e t ∧ t σ H R) : PI X tg e t' :=
  ⟨fun pins s σ H R I hw => let ⟨t, p, q⟩ := h σ H R hw; p.run pins s σ H R I q⟩

theorem getD_of {c : Option Cell} {d : D} (h : getD c = some d) : ∃ r, c = some r ∧ r.d? = some d := by
  unfold getD at h
  cases c with
  | none => cases h
  | some r => exact ⟨r, rfl, h⟩
theorem getB_of {c : Option Cell} {b : Bool} (h : getB c = some b) : c = some (.sh (.bool b)) := by
  unfold getB at h
  split at h
  · cases h; rfl
  · cases h
theorem getL_of {c : Option Cell} {ds : List D} (h : getL c = some ds) : c = some (.sh (.tuple ds)) := by
  unfold getL at h
  split at h
  · cases h; rfl
  · cases h
section
variable {T : Tab} {G : Nat → List D → Option Cell} {k : Nat} {N : List Str} {sc so : Scope} {X : Cx} {C : Nat → Option D}

/-- any result, as shared data -/
theorem pdata {e : Expr} {c : CE} (h : PE X e (tE X.K G C c)) : PE X e (tD X.K G C c) := by
  refine ⟨fun pins s σ H Q I hw => ?_⟩
  obtain ⟨F, env, d, ok, ev, q⟩ := hw
  obtain ⟨r, er, ed⟩ := getD_of ev
  refine h.run pins s σ H Q I ⟨F, env, r, ok, er, fun v H' F' p rc => ?_⟩
  obtain ⟨F'', p2, rv⟩ := rc.share p ed
  exact q v H' F'' p2 rv
/-- a list, a tuple that stands is no longer than the line -/
def LenOk (K : PySem.W.Frag) (v : V) (H : Hp) : Prop := ∀ a xs, v = .ref a → SqL K H a xs ∨ SqT K H a xs → xs.length ≤ sizeLine
theorem lenOk_of {pins : List (Addr × Obj)} {s : Shared} {σ : L2.St} {H : Hp} (I : L2.Inv X pins σ H s) (v : V) : LenOk X.K v H := fun a xs _ h => by
  rcases h with h | h
  · obtain ⟨_, _, _, z⟩ := I.list h; exact z
  · obtain ⟨_, _, _, z⟩ := I.tuple h; exact z
theorem plen {e : Expr} {t : TE} (h : PE X e t) : PE X e (fun σ H Q => t σ H fun v H' => LenOk X.K v H' → Q v H') :=
  ⟨fun pins s σ H Q I hw => thn (h.run pins s σ H _ I hw) fun u s1 ⟨v, H1, I1, r, q⟩ => ⟨v, H1, I1, r, q (lenOk_of I1 v)⟩⟩
/-- a test by its value -/
theorem PT.ofVal {e : Expr} {c : CE} (h : PE X e (tE X.K G C c)) (he : ∀ whole, isTrue e X.env whole = (do let v ← whole; standAt e.pos; holding [v] (truthy v))) : PT X e (tT X.K G C c) := by
  refine PT.by fun σ H Q hw => ?_
  obtain ⟨F, env, b, ok, ev, q⟩ := hw
  refine ⟨_, pt_val h he, F, env, _, ok, getB_of ev, fun v H' F' p rc => ?_⟩
  cases rc with
  | sh r =>
    have z := r.get
    cases z
    exact ⟨b, rfl, q H' F' p⟩

/-! ### names, constants -/
theorem vis_of {i : Nat} {x : Str} (h : visB N sc i x = true) : N[i]? = some x ∧ (sc.names.lookup x = some .local ∨ sc.names.lookup x = some .cell ∨ sc.names.lookup x = some .free) ∧ (x == ("__debug__" : Str)) = false ∧ (x == ("__classdict__" : Str)) = false := by
  unfold visB lkIs at h
  simp only [Bool.and_eq_true, Bool.or_eq_true, decide_eq_true_eq, Bool.not_eq_true'] at h
  obtain ⟨⟨⟨h1, h2⟩, h3⟩, h4⟩ := h
  exact ⟨h1, by rcases h2 with (h2 | h2) | h2; exact .inl h2; exact .inr (.inl h2); exact .inr (.inr h2), h3, h4⟩
theorem glb_of {x : Str} (h : glbB sc x = true) : sc.names.lookup x = some .globalImplicit ∧ (x == ("__debug__" : Str)) = false := by
  unfold glbB lkIs at h
  simp only [Bool.and_eq_true, decide_eq_true_eq, Bool.not_eq_true'] at h
  exact h
theorem XOk.gl (ok : XOk T G k N sc so X) {x : Str} (h : glbB sc x = true) : Gl X x := by
  show X.env.scope.names.lookup x = _
  rw [ok.eS]
  exact (glb_of h).1
theorem s_var (ok : XOk T G k N sc so X) {i : Nat} {x : Str} {pos : Pos} (h : visB N sc i x = true) : PE X (.Name x pos) (tE X.K G C (.var i)) := by
  obtain ⟨h1, h2, h3, h4⟩ := vis_of h
  refine PE.by fun pins s σ H Q I hw => ⟨_, pe_var (i := i) (by rw [ok.eN]; exact h1) (by show Vis X.env.scope x; rw [ok.eS]; exact h2) h3 h4, ?_⟩
  obtain ⟨F, env, r, sh, ev, q⟩ := hw
  simp only [evalE] at ev
  split at ev
  · rename_i d hd
    cases ev
    obtain ⟨v, e1, e2⟩ := sh.sh i d hd
    exact ⟨v, e1, q v H F (Post.refl sh.same) (.sh e2)⟩
  · cases ev
theorem s_int {n : Int} {j : Nat} {pos : Pos} : PE X (.Constant (.int n) j pos) (tE X.K G C (.int n)) :=
  PE.by fun pins s σ H Q I hw => ⟨_, pe_int, by
    obtain ⟨F, env, r, sh, ev, q⟩ := hw
    cases ev
    exact q _ H F (Post.refl sh.same) (.sh (.dp (.int n)))⟩
theorem s_bl {n : Bool} {j : Nat} {pos : Pos} : PE X (.Constant (.bool n) j pos) (tE X.K G C (.bl n)) :=
  PE.by fun pins s σ H Q I hw => ⟨_, pe_bl, by
    obtain ⟨F, env, r, sh, ev, q⟩ := hw
    cases ev
    exact q _ H F (Post.refl sh.same) (.sh (.dp (.bl n)))⟩
theorem s_non {j : Nat} {pos : Pos} : PE X (.Constant .none j pos) (tE X.K G C .non) :=
  PE.by fun pins s σ H Q I hw => ⟨_, pe_non, by
    obtain ⟨F, env, r, sh, ev, q⟩ := hw
    cases ev
    exact q _ H F (Post.refl sh.same) (.sh (.dp .non))⟩
theorem s_str {n : Str} {j : Nat} {pos : Pos} : PE X (.Constant (.str n) j pos) (tE X.K G C (.str n)) :=
  PE.by fun pins s σ H Q I hw => ⟨_, pe_str, by
    obtain ⟨F, env, r, sh, ev, q⟩ := hw
    cases ev
    exact q _ H F (Post.refl sh.same) (.sh (.dp (.str n)))⟩
theorem s_cst (ok : XOk T G k N sc so X) {c : Nat} {x : Str} {d : D} {pos : Pos} (h : glbB sc x = true) (hc : T.csts[c]? = some (x, d)) : PE X (.Name x pos) (tE X.K G T.C (.cst c)) := by
  obtain ⟨v, u, hm, r, f⟩ := ok.lib.cst c x d hc
  refine PE.by fun pins s σ H Q I hw => ⟨_, pe_glob (ok.gl h) hm r (glb_of h).2, ?_⟩
  obtain ⟨F, env, r, sh, ev, q⟩ := hw
  simp only [evalE, Tab.C, hc] at ev
  cases ev
  exact q v H F (Post.refl sh.same) (.sh (f F))

/-! ### two parts in a row -/
/-- the reading of a, then of b -/
theorem two {a b : CE} {σ : L2.St} {H F : Hp} {env : List Cell} {d e : D} {R : V → V → Hp → Prop} (sh : ShOk X.K F H σ env) (ha : getD (evalE G C env a) = some d) (hb : getD (evalE G C env b) = some e)
    (h : ∀ x y H' F', Post F H F' H' → RV X.K F' x d → RV X.K F' y e → R x y H') : tD X.K G C a σ H fun x H1 => tD X.K G C b σ H1 fun y H2 => R x y H2 :=
  ⟨F, env, d, sh, ha, fun x H1 F1 p1 r1 => ⟨F1, env, e, sh.post p1, hb, fun y H2 F2 p2 r2 => h x y H2 F2 (p1.trans p2) (r1.mono p2.ext) r2⟩⟩
end
end EV
end

section
set_option Elab.async false
set_option linter.all false
set_option maxRecDepth 100000
set_option maxHeartbeats 1000000
/-! EV, part 5: operators, comparisons, and, or, not, if. -/
namespace EV
open PySem PySem.Spec PyProof.Rows L2
theorem big_line : big ≤ sizeLine := by decide
theorem rc_int {K : PySem.W.Frag} {F H H' : Hp} (i : Int) : RC K F H H' (.int i) (.sh (.int i)) := .sh (.dp (.int i))
theorem rc_bl {K : PySem.W.Frag} {F H H' : Hp} (i : Bool) : RC K F H H' (.bl i) (.sh (.bool i)) := .sh (.dp (.bl i))
theorem rc_str {K : PySem.W.Frag} {F H H' : Hp} (i : Str) : RC K F H H' (.str i) (.sh (.str i)) := .sh (.dp (.str i))
theorem rv_int {K : PySem.W.Frag} {F : Hp} {v : V} {i : Int} (h : RV K F v (.int i)) : v = .int i := by
  have z := h.get
  cases z; rfl
theorem rv_bl {K : PySem.W.Frag} {F : Hp} {v : V} {i : Bool} (h : RV K F v (.bool i)) : v = .bl i := by
  have z := h.get
  cases z; rfl
theorem rv_str {K : PySem.W.Frag} {F : Hp} {v : V} {i : Str} (h : RV K F v (.str i)) : v = .str i := by
  have z := h.get
  cases z; rfl
theorem rv_non {K : PySem.W.Frag} {F : Hp} {v : V} (h : RV K F v .none) : v = .non := by
  have z := h.get
  cases z; rfl
theorem rv_lst {K : PySem.W.Frag} {F : Hp} {v : V} {ds : List D} (h : RV K F v (.list ds)) : ∃ a vs, v = .ref a ∧ SqL K F a vs ∧ DpAll K F vs ds := by
  have z := h.get
  cases z with
  | lst h1 h2 => exact ⟨_, _, rfl, h1, h2⟩
theorem rv_tup {K : PySem.W.Frag} {F : Hp} {v : V} {ds : List D} (h : RV K F v (.tuple ds)) : ∃ a vs, v = .ref a ∧ SqT K F a vs ∧ DpAll K F vs ds := by
  have z := h.get
  cases z with
  | tup h1 h2 => exact ⟨_, _, rfl, h1, h2⟩
/-- a new tuple of shared items -/
theorem new_tup {K : PySem.W.Frag} {F H : Hp} (s : Same F H) {p : Addr} (n : H p = none) {vs : List V} {ds : List D} (h : DpAll K F vs ds) :
    Post F H (upd F p (.tup vs)) (upd H p (.tup vs)) ∧ RV K (upd F p (.tup vs)) (.ref p) (.tuple ds) :=
  ⟨Post.laid s n _, .dp (.tup (SqT.of upd_same) (DpAll.mono (Same.grow (same_none s n) _) _ _ h))⟩
/-- a new list of shared items: owned -/
theorem new_lst {K : PySem.W.Frag} {F H : Hp} (s : Same F H) {p : Addr} (n : H p = none) {vs : List V} {ds : List D} (h : DpAll K F vs ds) :
    Post F H F (upd H p (.lst vs)) ∧ RC K F H (upd H p (.lst vs)) (.ref p) (.ow (.list ds)) :=
  ⟨Post.grown s n _, .ow n (same_none s n) (.lst upd_same h)⟩
/-- the address of an owned result, seen from an earlier heap -/
theorem RC.earlier {K : PySem.W.Frag} {F H0 H H' : Hp} {v : V} {c : Cell} (h : RC K F H H' v c) (s : Same H0 H) : RC K F H0 H' v c := by
  cases h with
  | sh r => exact .sh r
  | ow n f o => exact .ow (same_none s n) f o

section
variable {T : Tab} {G : Nat → List D → Option Cell} {k : Nat} {N : List Str} {sc so : Scope} {X : Cx} {C : Nat → Option D}
/-! ### list + list, list * int for any lists -/
def rCatS (K : PySem.W.Frag) : R2 := fun x y H Q => ∃ l b xs zs, x = .ref l ∧ y = .ref b ∧ SqL K H l xs ∧ SqL K H b zs ∧ xs.length + zs.length ≤ sizeLine ∧ ∀ p, H p = none → Q (.ref p) (upd H p (.lst (xs ++ zs)))
theorem op_catS : OpR X (binaryOp .Add) (rCatS X.K) := by
  intro pins s σ H x y v u Q I rx ry h
  obtain ⟨l, b, xs, zs, rfl, rfl, hH, hB, hz, q⟩ := h
  cases rx
  cases ry
  obtain ⟨its, r, ⟨⟨cls, dd, data, sl⟩, n, e, hc, hd, hs⟩, z⟩ := I.list hH
  obtain ⟨its2, r2, ⟨⟨cls2, dd2, data2, sl2⟩, n2, e2, hc2, hd2, hs2⟩, z2⟩ := I.list hB
  simp only at hc hs hc2 hs2
  subst hc hs hc2 hs2
  have hl := r.length
  have hl2 := r2.length
  refine concat_meets ⟨_, e, rfl⟩ ⟨_, e2, rfl⟩ noFill_list_add seq_list_add PySem.F.slot_list_add PySem.F.entry_list_add (PySem.F.args_list_add_2 _ _) (list_addW l b its.toArray its2.toArray n n2 dd dd2 sl sl2 (by rw [List.size_toArray, List.size_toArray]; omega)) ⟨e, e2, ?_⟩
  have ea : its.toArray ++ its2.toArray = (its ++ its2).toArray := by simp
  rw [ea]
  exact ⟨.ref _, _, I.lnew (t' := s.toks) (r.append r2) (by rw [List.length_append]; omega), rfl, q _ I.fresh⟩

theorem bind2 {α β γ : Type} {a : Option α} {b : Option β} {f : α → β → Option γ} {r : γ} (h : (do f (← a) (← b)) = some r) : ∃ x y, a = some x ∧ b = some y ∧ f x y = some r := by
  cases a with
  | none => cases h
  | some x =>
    cases b with
    | none => cases h
    | some y => exact ⟨x, y, rfl, rfl, h⟩

theorem s_bin {o : BOp} {op : Operator} {a b : CE} {x y : Expr} {pos : Pos} (ho : bopIs o op = true) (ha : PE X x (tE X.K G C a)) (hb : PE X y (tE X.K G C b)) : PE X (.BinOp x op y pos) (tE X.K G C (.bin o a b)) := by
  refine PE.by fun pins s σ H Q I hw => ?_
  obtain ⟨F, env, r, sh, ev, q⟩ := hw
  simp only [evalE] at ev
  obtain ⟨d, e, hd, he, ev⟩ := bind2 ev
  -- two twoI
  have twoI : ∀ {i j : Int} {rr : R2} (hop : OpR X (binaryOp op) rr) (z : Int), d = .int i → e = .int j → r = .sh (.int z) → (∀ H1 Q, Q (V.int z) H1 → rr (.int i) (.int j) H1 Q) → ∃ t, PE X (.BinOp x op y pos) t ∧ t σ H Q := fun {i j rr} hop z h1 h2 h3 h4 => by
    subst h1 h2 h3
    refine ⟨_, pe_op hop (pdata ha) (pdata hb), two sh hd he fun v u H' F' p rv ru => ?_⟩
    rw [rv_int rv, rv_int ru]
    exact h4 H' Q (q _ H' F' p (rc_int z))
  cases o <;> cases op <;> first | (exact absurd ho (by decide)) | skip
  · -- +
    cases d <;> cases e <;> first | (cases ev; done) | skip
    · rename_i i j
      cases ev
      exact twoI op_add _ rfl rfl rfl fun H1 Q h => ⟨i, j, rfl, rfl, h⟩
    · rename_i i j
      have ev : (if i.length + j.length ≤ big then some (Cell.sh (.str (i ++ j))) else none) = some r := ev
      split at ev
      · rename_i hl
        cases ev
        refine ⟨_, pe_op op_add_str (pdata ha) (pdata hb), two sh hd he fun v u H' F' p rv ru => ?_⟩
        rw [rv_str rv, rv_str ru]
        exact ⟨i, j, rfl, rfl, Nat.le_trans hl big_line, q _ H' F' p (rc_str _)⟩
      · cases ev
    · rename_i i j
      have ev : (if i.length + j.length ≤ big then some (Cell.ow (.list (i ++ j))) else none) = some r := ev
      split at ev
      · rename_i hl
        cases ev
        refine ⟨_, pe_op op_catS (pdata ha) (pdata hb), two sh hd he fun v u H' F' p rv ru => ?_⟩
        obtain ⟨l, vs, rfl, h1, h2⟩ := rv_lst rv
        obtain ⟨l2, us, rfl, h3, h4⟩ := rv_lst ru
        refine ⟨l, l2, vs, us, rfl, rfl, SqL.mono p.sub h1, SqL.mono p.sub h3, by rw [DpAll.length h2, DpAll.length h4]; exact Nat.le_trans hl big_line, fun pp np => ?_⟩
        have z := new_lst (K := X.K) p.sub np (DpAll.append h2 h4)
        exact q _ _ _ (p.trans z.1) (z.2.earlier p.same)
      · cases ev
    · rename_i i j
      have ev : (if i.length + j.length ≤ big then some (Cell.sh (.tuple (i ++ j))) else none) = some r := ev
      split at ev
      · rename_i hl
        cases ev
        refine ⟨_, pe_op op_catA (pdata ha) (pdata hb), two sh hd he fun v u H' F' p rv ru => ?_⟩
        obtain ⟨l, vs, rfl, h1, h2⟩ := rv_tup rv
        obtain ⟨l2, us, rfl, h3, h4⟩ := rv_tup ru
        refine ⟨l, l2, vs, us, rfl, rfl, SqT.mono p.sub h1, SqT.mono p.sub h3, by rw [DpAll.length h2, DpAll.length h4]; exact Nat.le_trans hl big_line, fun e1 => ?_, fun e1 e2 => ?_, fun _ _ pp np => ?_⟩
        · subst e1
          cases i with
          | nil => exact q _ _ _ p (.sh ru)
          | cons _ _ => cases h2
        · subst e2
          cases j with
          | nil => rw [List.append_nil] at q; exact q _ _ _ p (.sh rv)
          | cons _ _ => cases h4
        · have z := new_tup (K := X.K) p.sub np (DpAll.append h2 h4)
          exact q _ _ _ (p.trans z.1) (.sh z.2)
      · cases ev
  · cases d <;> cases e <;> first | (cases ev; done) | skip
    rename_i i j
    cases ev
    exact twoI op_sub _ rfl rfl rfl fun H1 Q h => ⟨i, j, rfl, rfl, h⟩
  · cases d <;> cases e <;> first | (cases ev; done) | skip
    rename_i i j
    have ev : (if mulOk i j = true then some (Cell.sh (.int (i * j))) else none) = some r := ev
    split at ev
    · rename_i hm
      cases ev
      refine twoI op_mul _ rfl rfl rfl fun H1 Q h => ⟨i, j, rfl, rfl, ?_, h⟩
      unfold mulOk at hm
      simp only [Bool.or_eq_true, decide_eq_true_eq] at hm
      exact hm
    · cases ev
  · cases d <;> cases e <;> first | (cases ev; done) | skip
    rename_i i j
    have ev : (if 0 < j ∧ j < 1073741824 then some (Cell.sh (.int (i / j))) else none) = some r := ev
    split at ev
    · rename_i hm
      cases ev
      exact twoI op_fdiv _ rfl rfl rfl fun H1 Q h => ⟨i, j, rfl, rfl, hm, h⟩
    · cases ev
  · cases d <;> cases e <;> first | (cases ev; done) | skip
    rename_i i j
    have ev : (if 0 < j then some (Cell.sh (.int (i % j))) else none) = some r := ev
    split at ev
    · rename_i hm
      cases ev
      exact twoI op_mod _ rfl rfl rfl fun H1 Q h => ⟨i, j, rfl, rfl, hm, h⟩
    · cases ev
  · cases d <;> cases e <;> first | (cases ev; done) | skip
    rename_i i j
    have ev : (if 0 ≤ j ∧ j ≤ 1000 ∧ i.natAbs < 2 ^ 64 then some (Cell.sh (.int (i ^ j.toNat))) else none) = some r := ev
    split at ev
    · rename_i hm
      cases ev
      exact twoI op_pow _ rfl rfl rfl fun H1 Q h => ⟨i, j, rfl, rfl, ⟨hm.1, by omega, hm.2.2⟩, h⟩
    · cases ev
end
end EV
end

section
set_option Elab.async false
set_option linter.all false
set_option maxRecDepth 100000
set_option maxHeartbeats 1000000
/-! EV, part 6: comparisons, and, or, not, if, argument lists, displays, calls. -/
namespace EV
open PySem PySem.Spec PyProof.Rows L2
section
variable {T : Tab} {G : Nat → List D → Option Cell} {k : Nat} {N : List Str} {sc so : Scope} {X : Cx} {C : Nat → Option D}
theorem s_rep {a b : CE} {x y : Expr} {pos : Pos} (ha : PE X x (tE X.K G C a)) (hb : PE X y (tE X.K G C b)) : PE X (.BinOp x .Mult y pos) (tE X.K G C (.rep a b)) := by
  refine PE.by fun pins s σ H Q I hw => ?_
  obtain ⟨F, env, r, sh, ev, q⟩ := hw
  simp only [evalE] at ev
  split at ev
  · rename_i xs n ea eb
    split at ev
    · rename_i hl
      cases ev
      refine ⟨_, pe_op op_rep ha (pdata hb), F, env, _, sh, ea, fun v H1 F1 p1 rc => ⟨F1, env, _, sh.post p1, eb, fun u H2 F2 p2 ru => ?_⟩⟩
      rw [rv_int ru]
      cases rc with
      | @ow p d nn ff o =>
        cases o with
        | @lst vs ds hv hd =>
          obtain ⟨h1, h2⟩ := hl
          unfold rngOk at h2
          simp only [decide_eq_true_eq] at h2
          refine ⟨p, n, vs, rfl, rfl, p2.same _ _ hv, by omega, by omega, by rw [DpAll.length hd]; exact Nat.le_trans h1 big_line, fun pp np => ?_⟩
          have z := new_lst (K := X.K) p2.sub np (DpAll.replicate (DpAll.mono p2.ext _ _ hd) n.toNat)
          exact q _ _ _ ((p1.trans p2).trans z.1) (z.2.earlier (p1.same.trans p2.same))
    · cases ev
  · cases ev
theorem s_neg {a : CE} {x : Expr} {pos : Pos} (ha : PE X x (tE X.K G C a)) : PE X (.UnaryOp .USub x pos) (tE X.K G C (.neg a)) := by
  refine PE.by fun pins s σ H Q I hw => ?_
  obtain ⟨F, env, r, sh, ev, q⟩ := hw
  simp only [evalE] at ev
  split at ev
  · rename_i i ea
    cases ev
    refine ⟨_, pe_un un_neg (pdata ha), F, env, _, sh, ea, fun v H1 F1 p1 rv => ?_⟩
    rw [rv_int rv]
    exact ⟨i, rfl, q _ H1 F1 p1 (rc_int _)⟩
  · cases ev

/-! ### comparisons -/
theorem flatV_of {K : PySem.W.Frag} {F : Hp} {v : V} {d : D} (h : Dp K F v d) (f : flat d = true) : flatV v = true := by
  cases h <;> first | rfl | cases f
theorem flatAll_of {K : PySem.W.Frag} {F : Hp} : ∀ {ds : List D} {vs : List V}, DpAll K F vs ds → ds.all flat = true → vs.all flatV = true
  | [], _, h, _ => by cases h; rfl
  | d :: ds, _, h, f => by
    cases h with
    | cons h1 h2 =>
      simp only [List.all_cons, Bool.and_eq_true] at f ⊢
      exact ⟨flatV_of h1 f.1, flatAll_of h2 f.2⟩
theorem eqV_of {K : PySem.W.Frag} {F : Hp} {v w : V} {d e : D} (h : Dp K F v d) (g : Dp K F w e) (f1 : flat d = true) (f2 : flat e = true) : eqV v w = PyData.eqv d e := by
  cases h <;> first | cases f1 | skip
  all_goals (cases g <;> first | cases f2 | skip)
  all_goals first | rfl | (simp [eqV, PyData.eqv]) | skip
theorem inV_of {K : PySem.W.Frag} {F : Hp} {w : V} {e : D} (g : Dp K F w e) (f2 : flat e = true) : ∀ {ds : List D} {vs : List V}, DpAll K F vs ds → ds.all flat = true → inV w vs = ds.any fun z => PyData.eqv z e
  | [], _, h, _ => by cases h; rfl
  | d :: ds, _, h, f => by
    cases h with
    | @cons v vs _ _ h1 h2 =>
      simp only [List.all_cons, Bool.and_eq_true] at f
      have ih := inV_of g f2 h2 f.2
      unfold inV at ih ⊢
      rw [List.any_cons, List.any_cons, ih, eqV_of h1 g f.1 f2]
/-- data without dicts, as the layer says it -/
theorem toL2 {K : PySem.W.Frag} {H : Hp} {v : V} {d : D} (h : Dp K H v d) (hl : d.canLay0 = true) : L2.Dp K H v d :=
  Dp.rec (motive_1 := fun v d _ => d.canLay0 = true → L2.Dp K H v d) (motive_2 := fun v d _ => PyData.canLayAll0 d = true → L2.DpAll K H v d) (motive_3 := fun _ _ _ => True) (motive_4 := fun _ _ _ => True) (motive_5 := fun _ _ _ => True)
    (fun _ => .non) (fun b _ => .bl b) (fun i _ => .int i) (fun x _ => .str x) (fun h _ q l => .lst h (q (by simpa [PyData.canLay0] using l))) (fun h _ q l => .tup h (q (by simpa [PyData.canLay0] using l))) (fun _ _ _ l => by simp [PyData.canLay0] at l) (fun _ _ _ l => by simp [PyData.canLay0] at l) (fun _ _ _ _ l => by simp [PyData.canLay0] at l)
    (fun _ => .nil) (fun _ _ a b l => by
      simp only [PyData.canLayAll0, Bool.and_eq_true] at l
      exact .cons (a l.1) (b l.2)) trivial (fun _ _ _ _ => trivial) trivial (fun _ _ _ _ => trivial) trivial (fun _ _ _ _ => trivial) h hl
theorem okEq_lay {d : D} (h : okEq d = true) : d.canLay0 = true := SeqAt.canLay_of_shaped h
/-- a comparison by data -/
def rCmp (K : PySem.W.Frag) (o : COp) : R2 := fun x y H Q => ∃ d e b, Dp K H x d ∧ Dp K H y e ∧ cmpD o d e = some b ∧ Q (.bl b) H
theorem op_cmp (ok : XOk T G k N sc so X) (o : COp) : OpR X (compareOp (copOf o)) (rCmp X.K o) := by
  intro pins s σ H x y v u Q I rx ry h
  obtain ⟨d, e, b, hd, he, hc, q⟩ := h
  have u64 : X.A.units + 64 < cLine := ok.room.units
  have u65 : X.A.units + 65 < cLine := by have := ok.room.un; omega
  cases o
  · have hc : (if okEq d && okEq e then some (PyData.eqv d e) else none) = some b := hc
    split at hc
    · rename_i hs
      cases hc
      rw [Bool.and_eq_true] at hs
      exact op_eqD u64 pins s σ H x y v u Q I rx ry ⟨d, e, toL2 hd (okEq_lay hs.1), toL2 he (okEq_lay hs.2), hs.1, hs.2, q⟩
    · cases hc
  · have hc : (if okEq d && okEq e then some (!PyData.eqv d e) else none) = some b := hc
    split at hc
    · rename_i hs
      cases hc
      rw [Bool.and_eq_true] at hs
      exact op_neD u64 pins s σ H x y v u Q I rx ry ⟨d, e, toL2 hd (okEq_lay hs.1), toL2 he (okEq_lay hs.2), hs.1, hs.2, q⟩
    · cases hc
  · cases d <;> cases e <;> first | (cases hc; done) | skip
    cases hc; cases hd; cases he
    exact op_lt pins s σ H _ _ v u Q I rx ry ⟨_, _, rfl, rfl, q⟩
  · cases d <;> cases e <;> first | (cases hc; done) | skip
    cases hc; cases hd; cases he
    exact op_le pins s σ H _ _ v u Q I rx ry ⟨_, _, rfl, rfl, q⟩
  · cases d <;> cases e <;> first | (cases hc; done) | skip
    cases hc; cases hd; cases he
    exact op_gt pins s σ H _ _ v u Q I rx ry ⟨_, _, rfl, rfl, q⟩
  · cases d <;> cases e <;> first | (cases hc; done) | skip
    cases hc; cases hd; cases he
    exact op_ge pins s σ H _ _ v u Q I rx ry ⟨_, _, rfl, rfl, q⟩
  · cases e <;> first | (cases d <;> cases hc; done) | skip
    · rename_i es
      have hc : (if okEq d && okEq (.list es) then some (es.any fun z => PyData.eqv z d) else none) = some b := by cases d <;> exact hc
      split at hc
      · rename_i hs
        cases hc
        rw [Bool.and_eq_true] at hs
        exact op_inD u65 pins s σ H x y v u Q I rx ry ⟨d, es, toL2 hd (okEq_lay hs.1), toL2 he (okEq_lay hs.2), hs.1, hs.2, q⟩
      · cases hc
    · rename_i es
      have hc : (if flat d && es.all flat then some (es.any fun z => PyData.eqv z d) else none) = some b := by cases d <;> exact hc
      split at hc
      · rename_i hs
        cases hc
        rw [Bool.and_eq_true] at hs
        cases he with
        | @tup a xs _ h1 h2 =>
          refine op_in_seq pins s σ H x _ v u Q I rx ry ⟨a, xs, rfl, .inr h1, flatV_of hd hs.1, flatAll_of h2 hs.2, ?_⟩
          rw [inV_of hd hs.1 h2 hs.2]
          exact q
      · cases hc
  · cases e <;> first | (cases d <;> cases hc; done) | skip
    · rename_i es
      have hc : (if okEq d && okEq (.list es) then some (!es.any fun z => PyData.eqv z d) else none) = some b := by cases d <;> exact hc
      split at hc
      · rename_i hs
        cases hc
        rw [Bool.and_eq_true] at hs
        exact op_notInD u65 pins s σ H x y v u Q I rx ry ⟨d, es, toL2 hd (okEq_lay hs.1), toL2 he (okEq_lay hs.2), hs.1, hs.2, q⟩
      · cases hc
    · rename_i es
      have hc : (if flat d && es.all flat then some (!es.any fun z => PyData.eqv z d) else none) = some b := by cases d <;> exact hc
      split at hc
      · rename_i hs
        cases hc
        rw [Bool.and_eq_true] at hs
        cases he with
        | @tup a xs _ h1 h2 =>
          refine op_notIn_seq pins s σ H x _ v u Q I rx ry ⟨a, xs, rfl, .inr h1, flatV_of hd hs.1, flatAll_of h2 hs.2, ?_⟩
          rw [inV_of hd hs.1 h2 hs.2]
          exact q
      · cases hc
  · cases d <;> cases e <;> cases hc
  · cases d <;> cases e <;> cases hc
end
end EV
end

section
set_option Elab.async false
set_option linter.all false
set_option maxRecDepth 100000
set_option maxHeartbeats 1000000
/-! EV, part 7: comparisons as expressions, and, or, not, if, argument lists, displays, calls of the text's defs. -/
namespace EV
open PySem PySem.Spec PyProof.Rows L2
theorem plain_mark {e : Expr} (h : plainE e = true) (op : CmpOp) : behindInMarks op e = false := by
  cases e <;> first | rfl | cases h
theorem plain_star {e : Expr} (h : plainE e = true) (es : List Expr) (env : Env) : starEach (e :: es) env = (false, eval e env) :: starEach es env := by
  cases e <;> first | rfl | cases h
theorem plain_fold {e : Expr} (h : plainE e = true) (env : Env) (x : Value) : foldedSetIterable e env x = pure x := by
  cases e <;> first | rfl | cases h
theorem plain_ix {e : Expr} (h : plainE e = true) : PlainIx e := by
  cases e <;> first | (intro o i; rfl) | cases h
section
variable {T : Tab} {G : Nat → List D → Option Cell} {k : Nat} {N : List Str} {sc so : Scope} {X : Cx} {C : Nat → Option D}
theorem cmp_ev {o : COp} {a b : CE} {env : List Cell} {r : Cell} (h1 : o ≠ .is) (h2 : o ≠ .isn) (h : evalE G C env (.cmp o a b) = some r) :
    ∃ d e z, getD (evalE G C env a) = some d ∧ getD (evalE G C env b) = some e ∧ cmpD o d e = some z ∧ r = .sh (.bool z) := by
  have h : (do (cmpD o (← getD (evalE G C env a)) (← getD (evalE G C env b))).map fun r => Cell.sh (.bool r)) = some r := by
    cases o <;> first | exact h | exact absurd rfl h1 | exact absurd rfl h2
  obtain ⟨d, e, hd, he, hh⟩ := bind2 (f := fun d e => (cmpD o d e).map fun r => Cell.sh (.bool r)) h
  cases q : cmpD o d e with
  | none => rw [q] at hh; cases hh
  | some z => rw [q] at hh; cases hh; exact ⟨d, e, z, hd, he, q, rfl⟩
theorem is_ev {a b : CE} {env : List Cell} {r : Cell} (h : evalE G C env (.cmp .is a b) = some r) : ∃ d, getD (evalE G C env a) = some d ∧ r = .sh (.bool (isNon d)) := by
  have h : ((getD (evalE G C env a)).map fun d => Cell.sh (.bool (isNon d))) = some r := h
  cases q : getD (evalE G C env a) with
  | none => rw [q] at h; cases h
  | some d => rw [q] at h; cases h; exact ⟨d, rfl, rfl⟩
theorem isn_ev {a b : CE} {env : List Cell} {r : Cell} (h : evalE G C env (.cmp .isn a b) = some r) : ∃ d, getD (evalE G C env a) = some d ∧ r = .sh (.bool (!isNon d)) := by
  have h : ((getD (evalE G C env a)).map fun d => Cell.sh (.bool (!isNon d))) = some r := h
  cases q : getD (evalE G C env a) with
  | none => rw [q] at h; cases h
  | some d => rw [q] at h; cases h; exact ⟨d, rfl, rfl⟩
theorem non_iff {K : PySem.W.Frag} {F : Hp} {v : V} {d : D} (h : RV K F v d) : decide (v = .non) = isNon d := by
  cases h with
  | dp h => cases h <;> first | rfl | (simp [isNon])
/-- a comparison's reading -/
theorem cmp_reads {o : COp} {a b : CE} {σ : L2.St} {H F : Hp} {env : List Cell} {d e : D} {z : Bool} {Q : VK} (sh : ShOk X.K F H σ env) (hd : getD (evalE G C env a) = some d) (he : getD (evalE G C env b) = some e) (hc : cmpD o d e = some z)
    (q : ∀ v H' F', Post F H F' H' → RC X.K F' H H' v (.sh (.bool z)) → Q v H') : tOp (rCmp X.K o) (tD X.K G C a) (tD X.K G C b) σ H Q :=
  two sh hd he fun x y H' F' p rx ry => ⟨d, e, z, Dp.mono p.sub _ _ rx.get, Dp.mono p.sub _ _ ry.get, hc, q _ H' F' p (rc_bl z)⟩
theorem s_cmp (ok : XOk T G k N sc so X) {o : COp} {a b : CE} {x y : Expr} {pos : Pos} (hy : plainE y = true) (hn : noneB o y = true) (ha : PE X x (tE X.K G C a)) (hb : PE X y (tE X.K G C b)) :
    PE X (.Compare x [copOf o] [y] pos) (tE X.K G C (.cmp o a b)) ∧ PT X (.Compare x [copOf o] [y] pos) (tT X.K G C (.cmp o a b)) := by
  by_cases h1 : o = .is
  · subst h1
    cases y <;> first | (cases hn; done) | skip
    rename_i cc kk pp
    cases cc <;> first | (cases hn; done) | skip
    · refine ⟨PE.by fun pins s σ H Q I hw => ?_, PT.by fun σ H Q hw => ?_⟩
      · obtain ⟨F, env, r, sh, ev, q⟩ := hw
        obtain ⟨d, hd, rfl⟩ := is_ev ev
        refine ⟨_, pe_cmp (pc_isN (pdata ha)) rfl, F, env, d, sh, hd, fun v H' F' p rv => ?_⟩
        show Q (.bl (decide (v = .non))) H'
        rw [non_iff rv]
        exact q _ H' F' p (rc_bl _)
      · obtain ⟨F, env, r, sh, ev, q⟩ := hw
        obtain ⟨d, hd, e⟩ := is_ev (getB_of ev)
        cases e
        refine ⟨_, pt_cmp (pc_isN (pdata ha)) rfl, F, env, d, sh, hd, fun v H' F' p rv => ?_⟩
        refine ⟨_, rfl, ?_⟩
        rw [non_iff rv]
        exact q H' F' p
  · by_cases h2 : o = .isn
    · subst h2
      cases y <;> first | (cases hn; done) | skip
      rename_i cc kk pp
      cases cc <;> first | (cases hn; done) | skip
      · refine ⟨PE.by fun pins s σ H Q I hw => ?_, PT.by fun σ H Q hw => ?_⟩
        · obtain ⟨F, env, r, sh, ev, q⟩ := hw
          obtain ⟨d, hd, rfl⟩ := isn_ev ev
          refine ⟨_, pe_cmp (pc_notN (pdata ha)) rfl, F, env, d, sh, hd, fun v H' F' p rv => ?_⟩
          show Q (.bl (!decide (v = .non))) H'
          rw [non_iff rv]
          exact q _ H' F' p (rc_bl _)
        · obtain ⟨F, env, r, sh, ev, q⟩ := hw
          obtain ⟨d, hd, e⟩ := isn_ev (getB_of ev)
          cases e
          refine ⟨_, pt_cmp (pc_notN (pdata ha)) rfl, F, env, d, sh, hd, fun v H' F' p rv => ?_⟩
          refine ⟨_, rfl, ?_⟩
          rw [non_iff rv]
          exact q H' F' p
    · refine ⟨PE.by fun pins s σ H Q I hw => ?_, PT.by fun σ H Q hw => ?_⟩
      · obtain ⟨F, env, r, sh, ev, q⟩ := hw
        obtain ⟨d, e, z, hd, he, hc, rfl⟩ := cmp_ev h1 h2 ev
        exact ⟨_, pe_cmpR (op_cmp ok o) (pdata ha) (pdata hb) (plain_mark hy _), cmp_reads sh hd he hc q⟩
      · obtain ⟨F, env, r, sh, ev, q⟩ := hw
        obtain ⟨d, e, z, hd, he, hc, er⟩ := cmp_ev h1 h2 (getB_of ev)
        cases er
        refine ⟨_, pt_cmpR (op_cmp ok o) (pdata ha) (pdata hb) (plain_mark hy _), cmp_reads sh hd he hc fun v H' F' p rc => ?_⟩
        cases rc with
        | sh rv => exact ⟨_, rv_bl rv, q H' F' p⟩
theorem chain_ev {o p : COp} {a b c : CE} {env : List Cell} {r : Cell} (h : evalE G C env (.chain o p a b c) = some r) :
    ∃ d e z, getD (evalE G C env a) = some d ∧ getD (evalE G C env b) = some e ∧ cmpD o d e = some z ∧
      ((z = false ∧ r = .sh (.bool false)) ∨ (z = true ∧ ∃ f y, getD (evalE G C env c) = some f ∧ cmpD p e f = some y ∧ r = .sh (.bool y))) := by
  simp only [evalE] at h
  cases q1 : getD (evalE G C env a) with
  | none => rw [q1] at h; cases h
  | some d =>
    cases q2 : getD (evalE G C env b) with
    | none => rw [q1, q2] at h; cases h
    | some e =>
      cases q3 : cmpD o d e with
      | none => rw [q1, q2] at h; simp [q3] at h
      | some z =>
        refine ⟨d, e, z, rfl, rfl, q3, ?_⟩
        rw [q1, q2] at h
        cases z with
        | false => simp [q3] at h; exact .inl ⟨rfl, h.symm⟩
        | true =>
          cases q4 : getD (evalE G C env c) with
          | none => simp [q3, q4] at h
          | some f =>
            cases q5 : cmpD p e f with
            | none => simp [q3, q4, q5] at h
            | some y => simp [q3, q4, q5] at h; exact .inr ⟨rfl, f, y, rfl, q5, h.symm⟩
theorem chain_reads {o p : COp} {a b c : CE} {σ : L2.St} {H F : Hp} {env : List Cell} {r : Cell} {Q : VK} (sh : ShOk X.K F H σ env) (h : evalE G C env (.chain o p a b c) = some r)
    (q : ∀ v H' F', Post F H F' H' → RC X.K F' H H' v r → Q v H') : tChain (rCmp X.K o) (rCmp X.K p) (tD X.K G C a) (tD X.K G C b) (tD X.K G C c) σ H Q := by
  obtain ⟨d, e, z, hd, he, hc, hr⟩ := chain_ev h
  refine ⟨F, env, d, sh, hd, fun x H1 F1 p1 rx => ⟨F1, env, e, sh.post p1, he, fun y H2 F2 p2 ry => ⟨d, e, z, Dp.mono (p1.trans p2).sub _ _ (rx.mono p2.ext).get, Dp.mono p2.sub _ _ ry.get, hc, z, rfl, ?_⟩⟩⟩
  rcases hr with ⟨rfl, rfl⟩ | ⟨rfl, f, w, hf, hc2, rfl⟩
  · first | exact q _ _ _ (p1.trans p2) (rc_bl _) | (rw [if_neg Bool.false_ne_true]; exact q _ _ _ (p1.trans p2) (rc_bl _))
  · rw [if_pos rfl]
    refine ⟨F2, env, f, (sh.post p1).post p2, hf, fun u H3 F3 p3 ru => ⟨e, f, w, Dp.mono p3.sub _ _ (ry.mono p3.ext).get, Dp.mono p3.sub _ _ ru.get, hc2, q _ _ _ ((p1.trans p2).trans p3) (rc_bl _)⟩⟩
end
end EV
end

section
set_option Elab.async false
set_option linter.all false
set_option maxRecDepth 100000
set_option maxHeartbeats 1000000
/-! EV, part 8: chains, and, or, not, if, argument lists, displays, calls. -/
namespace EV
open PySem PySem.Spec PyProof.Rows L2
section
variable {T : Tab} {G : Nat → List D → Option Cell} {k : Nat} {N : List Str} {sc so : Scope} {X : Cx} {C : Nat → Option D}
theorem s_chain (ok : XOk T G k N sc so X) {o p : COp} {a b c : CE} {x y z : Expr} {pos : Pos} (hz : plainE z = true) (ha : PE X x (tE X.K G C a)) (hb : PE X y (tE X.K G C b)) (hc : PE X z (tE X.K G C c)) :
    PE X (.Compare x [copOf o, copOf p] [y, z] pos) (tE X.K G C (.chain o p a b c)) ∧ PT X (.Compare x [copOf o, copOf p] [y, z] pos) (tT X.K G C (.chain o p a b c)) := by
  have hm : lastMarks [copOf o, copOf p] [y, z] = false := plain_mark hz (copOf p)
  refine ⟨PE.by fun pins s σ H Q I hw => ?_, PT.by fun σ H Q hw => ?_⟩
  · obtain ⟨F, env, r, sh, ev, q⟩ := hw
    exact ⟨_, pe_chain (op_cmp ok o) (op_cmp ok p) (pdata ha) (pdata hb) (pdata hc) hm, chain_reads sh ev q⟩
  · obtain ⟨F, env, r, sh, ev, q⟩ := hw
    refine ⟨_, pt_chain (op_cmp ok o) (op_cmp ok p) (pdata ha) (pdata hb) (pdata hc) hm, chain_reads sh (getB_of ev) fun v H' F' p rc => ?_⟩
    cases rc with
    | sh rv => exact ⟨_, rv_bl rv, q H' F' p⟩

/-! ### and, or, not -/
theorem and_ev {a b : CE} {env : List Cell} {r : Cell} (h : evalE G C env (.and_ a b) = some r) :
    (getB (evalE G C env a) = some false ∧ r = .sh (.bool false)) ∨ (getB (evalE G C env a) = some true ∧ ∃ z, getB (evalE G C env b) = some z ∧ r = .sh (.bool z)) := by
  simp only [evalE] at h
  split at h
  · rename_i e
    refine .inr ⟨e, ?_⟩
    cases q : getB (evalE G C env b) with
    | none => rw [q] at h; cases h
    | some z => rw [q] at h; cases h; exact ⟨z, rfl, rfl⟩
  · rename_i e
    cases h
    exact .inl ⟨e, rfl⟩
  · cases h
theorem or_ev {a b : CE} {env : List Cell} {r : Cell} (h : evalE G C env (.or_ a b) = some r) :
    (getB (evalE G C env a) = some true ∧ r = .sh (.bool true)) ∨ (getB (evalE G C env a) = some false ∧ ∃ z, getB (evalE G C env b) = some z ∧ r = .sh (.bool z)) := by
  simp only [evalE] at h
  split at h
  · rename_i e
    cases h
    exact .inl ⟨e, rfl⟩
  · rename_i e
    refine .inr ⟨e, ?_⟩
    cases q : getB (evalE G C env b) with
    | none => rw [q] at h; cases h
    | some z => rw [q] at h; cases h; exact ⟨z, rfl, rfl⟩
  · cases h
theorem rd_bool {K : PySem.W.Frag} {F H H' : Hp} {v : V} {z : Bool} (rc : RC K F H H' v (.sh (.bool z))) : v = .bl z := by
  cases rc with
  | sh rv => exact rv_bl rv
/-- the two readings of a whole and -/
structure BoolP (X : Cx) (e : Expr) (t : TE) (u : TT) : Prop where
  pe : PE X e t
  pw : PW X e u
theorem s_and1 {b : CE} {y : Expr} {pos : Pos} (hb : PE X y (tE X.K G C b)) (hb' : PT X y (tT X.K G C b)) : BoolP X (.BoolOp .And [y] pos) (tE X.K G C b) (tT X.K G C b) :=
  ⟨pe_one hb, pw_and1 hb'⟩
theorem s_or1 {b : CE} {y : Expr} {pos : Pos} (hb : PE X y (tE X.K G C b)) (hb' : PT X y (tT X.K G C b)) : BoolP X (.BoolOp .Or [y] pos) (tE X.K G C b) (tT X.K G C b) :=
  ⟨pe_one hb, pw_or1 hb'⟩
theorem s_and {a b : CE} {x y : Expr} {r : List Expr} {pos : Pos} (ha : PE X x (tE X.K G C a)) (ha' : PT X x (tT X.K G C a)) (hb : BoolP X (.BoolOp .And (y :: r) pos) (tE X.K G C b) (tT X.K G C b)) :
    BoolP X (.BoolOp .And (x :: y :: r) pos) (tE X.K G C (.and_ a b)) (tT X.K G C (.and_ a b)) := by
  refine ⟨PE.by fun pins s σ H Q I hw => ⟨_, pe_and ha hb.pe, ?_⟩, PW.by fun σ H Q hw => ⟨_, pw_and ha' hb.pw, ?_⟩⟩
  · obtain ⟨F, env, r, sh, ev, q⟩ := hw
    rcases and_ev ev with ⟨e1, rfl⟩ | ⟨e1, z, e2, rfl⟩
    · exact ⟨F, env, _, sh, getB_of e1, fun v H' F' p rc => ⟨false, rd_bool rc, iteF (q _ H' F' p (rc_bl _))⟩⟩
    · exact ⟨F, env, _, sh, getB_of e1, fun v H' F' p rc => ⟨true, rd_bool rc, iteT (⟨F', env, _, sh.post p, getB_of e2, fun v2 H2 F2 p2 rc2 => q v2 H2 F2 (p.trans p2) (rc2.earlier p.same)⟩)⟩⟩
  · obtain ⟨F, env, b', sh, ev, q⟩ := hw
    rcases and_ev (getB_of ev) with ⟨e1, e⟩ | ⟨e1, z, e2, e⟩
    · cases e
      exact ⟨F, env, _, sh, e1, fun H' F' p => iteF (q H' F' p)⟩
    · cases e
      exact ⟨F, env, _, sh, e1, fun H' F' p => iteT (⟨F', env, _, sh.post p, e2, fun H2 F2 p2 => q H2 F2 (p.trans p2)⟩)⟩
theorem s_or {a b : CE} {x y : Expr} {r : List Expr} {pos : Pos} (ha : PE X x (tE X.K G C a)) (ha' : PT X x (tT X.K G C a)) (hb : BoolP X (.BoolOp .Or (y :: r) pos) (tE X.K G C b) (tT X.K G C b)) :
    BoolP X (.BoolOp .Or (x :: y :: r) pos) (tE X.K G C (.or_ a b)) (tT X.K G C (.or_ a b)) := by
  refine ⟨PE.by fun pins s σ H Q I hw => ⟨_, pe_or ha hb.pe, ?_⟩, PW.by fun σ H Q hw => ⟨_, pw_or ha' hb.pw, ?_⟩⟩
  · obtain ⟨F, env, r, sh, ev, q⟩ := hw
    rcases or_ev ev with ⟨e1, rfl⟩ | ⟨e1, z, e2, rfl⟩
    · exact ⟨F, env, _, sh, getB_of e1, fun v H' F' p rc => ⟨true, rd_bool rc, iteT (q _ H' F' p (rc_bl _))⟩⟩
    · exact ⟨F, env, _, sh, getB_of e1, fun v H' F' p rc => ⟨false, rd_bool rc, iteF (⟨F', env, _, sh.post p, getB_of e2, fun v2 H2 F2 p2 rc2 => q v2 H2 F2 (p.trans p2) (rc2.earlier p.same)⟩)⟩⟩
  · obtain ⟨F, env, b', sh, ev, q⟩ := hw
    rcases or_ev (getB_of ev) with ⟨e1, e⟩ | ⟨e1, z, e2, e⟩
    · cases e
      exact ⟨F, env, _, sh, e1, fun H' F' p => iteT (q H' F' p)⟩
    · cases e
      exact ⟨F, env, _, sh, e1, fun H' F' p => iteF (⟨F', env, _, sh.post p, e2, fun H2 F2 p2 => q H2 F2 (p.trans p2)⟩)⟩
theorem not_ev {a : CE} {env : List Cell} {r : Cell} (h : evalE G C env (.not_ a) = some r) : ∃ z, getB (evalE G C env a) = some z ∧ r = .sh (.bool (!z)) := by
  simp only [evalE] at h
  cases q : getB (evalE G C env a) with
  | none => rw [q] at h; cases h
  | some z => rw [q] at h; cases h; exact ⟨z, rfl, rfl⟩
theorem s_not {a : CE} {x : Expr} {pos : Pos} (ha : PE X x (tE X.K G C a)) (ha' : PT X x (tT X.K G C a)) : PE X (.UnaryOp .Not x pos) (tE X.K G C (.not_ a)) ∧ PT X (.UnaryOp .Not x pos) (tT X.K G C (.not_ a)) := by
  refine ⟨PE.by fun pins s σ H Q I hw => ⟨_, pe_not ha, ?_⟩, PT.by fun σ H Q hw => ⟨_, pt_not ha', ?_⟩⟩
  · obtain ⟨F, env, r, sh, ev, q⟩ := hw
    obtain ⟨z, e1, rfl⟩ := not_ev ev
    exact ⟨F, env, _, sh, getB_of e1, fun v H' F' p rc => ⟨z, rd_bool rc, q _ H' F' p (rc_bl _)⟩⟩
  · obtain ⟨F, env, r, sh, ev, q⟩ := hw
    obtain ⟨z, e1, e⟩ := not_ev (getB_of ev)
    cases e
    exact ⟨F, env, _, sh, e1, fun H' F' p => q H' F' p⟩
theorem s_ite {c a b : CE} {t x y : Expr} {pos : Pos} (hc : PT X t (tT X.K G C c)) (ha : PE X x (tE X.K G C a)) (hb : PE X y (tE X.K G C b)) : PE X (.IfExp t x y pos) (tE X.K G C (.ite c a b)) := by
  refine PE.by fun pins s σ H Q I hw => ⟨_, pe_ifExp hc (pdata ha) (pdata hb), ?_⟩
  obtain ⟨F, env, r, sh, ev, q⟩ := hw
  simp only [evalE] at ev
  split at ev
  · rename_i e
    cases h : getD (evalE G C env a) with
    | none => rw [h] at ev; cases ev
    | some d =>
      rw [h] at ev; cases ev
      exact ⟨F, env, _, sh, e, fun H' F' p => iteT (⟨F', env, d, sh.post p, h, fun v H2 F2 p2 rv => q v H2 F2 (p.trans p2) (.sh rv)⟩)⟩
  · rename_i e
    cases h : getD (evalE G C env b) with
    | none => rw [h] at ev; cases ev
    | some d =>
      rw [h] at ev; cases ev
      exact ⟨F, env, _, sh, e, fun H' F' p => iteF (⟨F', env, d, sh.post p, h, fun v H2 F2 p2 rv => q v H2 F2 (p.trans p2) (.sh rv)⟩)⟩
  · cases ev

/-! ### argument lists -/
theorem s_nil : PA X [] (tA X.K G C .nil) := PA.by fun σ H Q hw => ⟨_, pa_nil, by
  obtain ⟨F, env, ds, sh, ev, q⟩ := hw
  have e := getL_of ev
  cases e
  exact q [] H F (Post.refl sh.same) .nil⟩
theorem cons_ev {a r : CE} {env : List Cell} {ds : List D} (h : getL (evalE G C env (.cons a r)) = some ds) : ∃ x xs, getD (evalE G C env a) = some x ∧ getL (evalE G C env r) = some xs ∧ ds = x :: xs := by
  have e := getL_of h
  simp only [evalE] at e
  cases q1 : getD (evalE G C env a) with
  | none => rw [q1] at e; cases e
  | some x =>
    cases q2 : getL (evalE G C env r) with
    | none => rw [q1, q2] at e; cases e
    | some xs => rw [q1, q2] at e; cases e; exact ⟨x, xs, rfl, rfl, rfl⟩
theorem s_cons {a r : CE} {e : Expr} {es : List Expr} (he : plainE e = true) (ha : PE X e (tE X.K G C a)) (hr : PA X es (tA X.K G C r)) : PA X (e :: es) (tA X.K G C (.cons a r)) :=
  PA.by fun σ H Q hw => ⟨_, pa_cons (pdata ha) hr (plain_star he es X.env), by
    obtain ⟨F, env, ds, sh, ev, q⟩ := hw
    obtain ⟨x, xs, e1, e2, rfl⟩ := cons_ev ev
    exact ⟨F, env, x, sh, e1, fun v H1 F1 p1 rv => ⟨F1, env, xs, sh.post p1, e2, fun vs H2 F2 p2 rvs => q _ H2 F2 (p1.trans p2) (.cons (rv.mono p2.ext) rvs)⟩⟩⟩
theorem s_tup {as : CE} {es : List Expr} {x1 : Nat} {pos : Pos} (ha : PA X es (tA X.K G C as)) (hl : es.length ≤ big) (hn : ∀ env ds, getL (evalE G C env as) = some ds → ds.length = es.length) : PE X (.Tuple es x1 pos) (tE X.K G C (.tup as)) := by
  refine PE.by fun pins s σ H Q I hw => ⟨_, pe_tup ha, ?_⟩
  obtain ⟨F, env, r, sh, ev, q⟩ := hw
  simp only [evalE] at ev
  cases h : getL (evalE G C env as) with
  | none => rw [h] at ev; cases ev
  | some xs =>
    rw [h] at ev
    cases ev
    refine ⟨F, env, xs, sh, h, fun vs H1 F1 p1 rvs => ⟨?_, fun p np => ?_⟩⟩
    · rw [rvs.length, hn env xs h]; exact Nat.le_trans hl big_line
    · have z := new_tup (K := X.K) p1.sub np rvs.dp
      exact q _ _ _ (p1.trans z.1) (.sh z.2)
theorem s_lst {as : CE} {es : List Expr} {pos : Pos} (ha : PA X es (tA X.K G C as)) (hl : es.length ≤ big) (hn : ∀ env ds, getL (evalE G C env as) = some ds → ds.length = es.length) : PE X (.List es pos) (tE X.K G C (.lst as)) := by
  refine PE.by fun pins s σ H Q I hw => ⟨_, pe_lst ha, ?_⟩
  obtain ⟨F, env, r, sh, ev, q⟩ := hw
  simp only [evalE] at ev
  cases h : getL (evalE G C env as) with
  | none => rw [h] at ev; cases ev
  | some xs =>
    rw [h] at ev
    cases ev
    refine ⟨F, env, xs, sh, h, fun vs H1 F1 p1 rvs => ⟨?_, fun p np => ?_⟩⟩
    · rw [rvs.length, hn env xs h]; exact Nat.le_trans hl big_line
    · have z := new_lst (K := X.K) p1.sub np rvs.dp
      exact q _ _ _ (p1.trans z.1) (z.2.earlier p1.same)

/-! ### a call of a def of the text -/
theorem call_ev {f : Nat} {as : CE} {env : List Cell} {r : Cell} (h : evalE G C env (.call f as) = some r) : ∃ ds, getL (evalE G C env as) = some ds ∧ G f ds = some r := by
  simp only [evalE] at h
  cases q : getL (evalE G C env as) with
  | none => rw [q] at h; cases h
  | some ds => rw [q] at h; exact ⟨ds, rfl, h⟩
theorem blt_ev {f : Blt} {as : CE} {env : List Cell} {r : Cell} (h : evalE G C env (.blt f as) = some r) : ∃ ds, getL (evalE G C env as) = some ds ∧ bltD f ds = some r := by
  simp only [evalE] at h
  cases q : getL (evalE G C env as) with
  | none => rw [q] at h; cases h
  | some ds => rw [q] at h; exact ⟨ds, rfl, h⟩
theorem s_call (ok : XOk T G k N sc so X) {f : Nat} {x : Str} {n : Nat} {as : CE} {e : Expr} {es : List Expr} {p pos : Pos} (hg : glbB sc x = true) (hf : (f, x, n) ∈ T.fns) (he : plainE e = true) (hpl : (backTo pos (starEach es X.env)).any (·.1) = false)
    (ha : PA X (e :: es) (tA X.K G C as)) (hn : ∀ env ds, getL (evalE G C env as) = some ds → ds.length = n) : PE X (.Call (.Name x p) (e :: es) [] pos) (tE X.K G C (.call f as)) := by
  obtain ⟨a, fd, ps, F, hm, hk, hb⟩ := ok.lib.fn f x n hf
  refine PE.by fun pins s σ H Q I hw => ⟨_, pe_call F ok.room (ok.gl hg) hm hk hb .nil pass0 ha (glb_of hg).2 (plain_star he es X.env) hpl, ?_⟩
  obtain ⟨F, env, r, sh, ev, q⟩ := hw
  obtain ⟨ds, e1, e2⟩ := call_ev ev
  refine ⟨F, env, ds, sh, e1, fun vs H1 F1 p1 rvs => ?_⟩
  show spOf X.K n (G f) (vs ++ []) H1 Q E0
  rw [List.append_nil]
  exact ⟨by rw [rvs.length, hn env ds e1], F1, ds, r, p1.sub, rvs, e2, fun v H2 F2 p2 rc => q v H2 F2 (p1.trans p2) (rc.earlier p1.same)⟩
theorem s_call0 (ok : XOk T G k N sc so X) {f : Nat} {x : Str} {as : CE} {p pos : Pos} (hg : glbB sc x = true) (hf : (f, x, 0) ∈ T.fns)
    (ha : PA X [] (tA X.K G C as)) (hn : ∀ env ds, getL (evalE G C env as) = some ds → ds.length = 0) : PE X (.Call (.Name x p) [] [] pos) (tE X.K G C (.call f as)) := by
  obtain ⟨a, fd, ps, F, hm, hk, hb⟩ := ok.lib.fn f x 0 hf
  refine PE.by fun pins s σ H Q I hw => ⟨_, pe_call0 F ok.room (ok.gl hg) hm hk hb .nil pass0 (glb_of hg).2, ?_⟩
  obtain ⟨F, env, r, sh, ev, q⟩ := hw
  obtain ⟨ds, e1, e2⟩ := call_ev ev
  have hd : ds = [] := List.eq_nil_of_length_eq_zero (hn env ds e1)
  subst hd
  show spOf X.K 0 (G f) ([] ++ []) H Q E0
  exact ⟨rfl, F, [], r, sh.same, .nil, e2, fun v H2 F2 p2 rc => q v H2 F2 p2 rc⟩
end
end EV
end

section
set_option Elab.async false
set_option linter.all false
set_option maxRecDepth 100000
set_option maxHeartbeats 1000000
/-! EV, part 9: built-in functions, isinstance. -/
namespace EV
open PySem PySem.Spec PyProof.Rows L2
theorem intsOf_vs {K : PySem.W.Frag} {F : Hp} : ∀ {ds : List D} {ns : List Int} {vs : List V}, intsOf ds = some ns → DpAll K F vs ds → vs = ns.map V.int
  | [], ns, _, h, g => by cases g; cases h; rfl
  | d :: ds, ns, _, h, g => by
    cases g with
    | cons h1 h2 =>
      cases d <;> first | (cases h; done) | skip
      rename_i i
      have h : (intsOf ds).map (i :: ·) = some ns := h
      cases q : intsOf ds with
      | none => rw [q] at h; cases h
      | some r =>
        rw [q] at h; cases h; cases h1
        rw [intsOf_vs q h2]; rfl
theorem boolsOf_vs {K : PySem.W.Frag} {F : Hp} : ∀ {ds : List D} {ns : List Bool} {vs : List V}, boolsOf ds = some ns → DpAll K F vs ds → vs = ns.map V.bl
  | [], ns, _, h, g => by cases g; cases h; rfl
  | d :: ds, ns, _, h, g => by
    cases g with
    | cons h1 h2 =>
      cases d <;> first | (cases h; done) | skip
      rename_i i
      have h : (boolsOf ds).map (i :: ·) = some ns := h
      cases q : boolsOf ds with
      | none => rw [q] at h; cases h
      | some r =>
        rw [q] at h; cases h; cases h1
        rw [boolsOf_vs q h2]; rfl
theorem leastI_mem : ∀ (r : List Int) (m : Int), leastI m r ∈ m :: r ∧ ∀ y ∈ m :: r, leastI m r ≤ y
  | [], m => by simp [leastI]
  | x :: r, m => by
    have ih := leastI_mem r (if x < m then x else m)
    unfold leastI
    split at ih <;> rename_i h
    · rw [if_pos h]
      refine ⟨?_, fun y hy => ?_⟩
      · have := ih.1; simp only [List.mem_cons] at this ⊢; rcases this with q | q <;> simp [q]
      · have h1 := ih.2 x (by simp)
        simp only [List.mem_cons] at hy
        rcases hy with rfl | rfl | hy
        · omega
        · exact h1
        · exact ih.2 y (by simp [hy])
    · rw [if_neg h]
      refine ⟨?_, fun y hy => ?_⟩
      · have := ih.1; simp only [List.mem_cons] at this ⊢; rcases this with q | q <;> simp [q]
      · have h1 := ih.2 m (by simp)
        simp only [List.mem_cons] at hy
        rcases hy with rfl | rfl | hy
        · exact h1
        · omega
        · exact ih.2 y (by simp [hy])
theorem mostI_mem : ∀ (r : List Int) (m : Int), mostI m r ∈ m :: r ∧ ∀ y ∈ m :: r, y ≤ mostI m r
  | [], m => by simp [mostI]
  | x :: r, m => by
    have ih := mostI_mem r (if m < x then x else m)
    unfold mostI
    split at ih <;> rename_i h
    · rw [if_pos h]
      refine ⟨?_, fun y hy => ?_⟩
      · have := ih.1; simp only [List.mem_cons] at this ⊢; rcases this with q | q <;> simp [q]
      · have h1 := ih.2 x (by simp)
        simp only [List.mem_cons] at hy
        rcases hy with rfl | rfl | hy
        · omega
        · exact h1
        · exact ih.2 y (by simp [hy])
    · rw [if_neg h]
      refine ⟨?_, fun y hy => ?_⟩
      · have := ih.1; simp only [List.mem_cons] at this ⊢; rcases this with q | q <;> simp [q]
      · have h1 := ih.2 m (by simp)
        simp only [List.mem_cons] at hy
        rcases hy with rfl | rfl | hy
        · exact h1
        · omega
        · exact ih.2 y (by simp [hy])
theorem rvs1 {K : PySem.W.Frag} {F : Hp} {vs : List V} {d : D} (h : RVs K F vs [d]) : ∃ v, vs = [v] ∧ RV K F v d := by
  cases h with
  | cons h1 h2 => cases h2; exact ⟨_, rfl, h1⟩
theorem rvs2 {K : PySem.W.Frag} {F : Hp} {vs : List V} {d e : D} (h : RVs K F vs [d, e]) : ∃ v w, vs = [v, w] ∧ RV K F v d ∧ RV K F w e := by
  cases h with
  | cons h1 h2 =>
    obtain ⟨w, rfl, h3⟩ := rvs1 h2
    exact ⟨_, w, rfl, h1, h3⟩
theorem rvs3 {K : PySem.W.Frag} {F : Hp} {vs : List V} {d e f : D} (h : RVs K F vs [d, e, f]) : ∃ v w u, vs = [v, w, u] ∧ RV K F v d ∧ RV K F w e ∧ RV K F u f := by
  cases h with
  | cons h1 h2 =>
    obtain ⟨w, u, rfl, h3, h4⟩ := rvs2 h2
    exact ⟨_, w, u, rfl, h1, h3, h4⟩
def rBlt (K : PySem.W.Frag) (f : Blt) : List V → Hp → VK → Prop := fun vs H Q => ∃ F ds c, Same F H ∧ RVs K F vs ds ∧ bltD f ds = some c ∧ ∀ v H' F', Post F H F' H' → RC K F' H H' v c → Q v H'
def bltVal : Blt → Value
  | .len => .builtin "len"
  | .sum => .builtin "sum"
  | .all => .builtin "all"
  | .any => .builtin "any"
  | .tup => .type "tuple"
  | .lst => .type "list"
  | .min2 => .builtin "min"
  | .max2 => .builtin "max"
  | .min1 => .builtin "min"
  | .max1 => .builtin "max"
  | .int => .type "int"
  | .abs => .builtin "abs"
  | .str => .type "str"
section
variable {T : Tab} {G : Nat → List D → Option Cell} {k : Nat} {N : List Str} {sc so : Scope} {X : Cx} {C : Nat → Option D}
theorem CallR.by {f : Value} {r' : List V → Hp → VK → Prop} (h : ∀ xs H Q, r' xs H Q → ∃ r, CallR X f r ∧ r xs H Q) : CallR X f r' :=
  fun pins s σ H xs us Q I rv hw => let ⟨r, p, q⟩ := h xs H Q hw; p pins s σ H xs us Q I rv q
theorem call_blt (hc : X.calm = true) (f : Blt) : CallR X (bltVal f) (rBlt X.K f) := by
  refine CallR.by fun xs H Q hw => ?_
  obtain ⟨F, ds, c, sm, rvs, ev, q⟩ := hw
  have p0 : Post F H F H := Post.refl sm
  have one : ∀ {x : D}, ds = [x] → ∃ v, xs = [v] ∧ RV X.K F v x := fun {x} e => by subst e; exact rvs1 rvs
  cases f
  · -- len
    match ds, rvs, ev with
    | [.list es], rvs, ev =>
      cases ev
      obtain ⟨v, rfl, rv⟩ := rvs1 rvs
      obtain ⟨a, vs, rfl, h1, h2⟩ := rv_lst rv
      refine ⟨_, call_len_seq, a, vs, rfl, .inl (SqL.mono sm h1), ?_⟩
      rw [DpAll.length h2]
      exact q _ _ _ p0 (rc_int _)
    | [.tuple es], rvs, ev =>
      cases ev
      obtain ⟨v, rfl, rv⟩ := rvs1 rvs
      obtain ⟨a, vs, rfl, h1, h2⟩ := rv_tup rv
      refine ⟨_, call_len_seq, a, vs, rfl, .inr (SqT.mono sm h1), ?_⟩
      rw [DpAll.length h2]
      exact q _ _ _ p0 (rc_int _)
    | [.str z], rvs, ev =>
      obtain ⟨v, rfl, rv⟩ := rvs1 rvs
      have ev : (if z.length ≤ big then some (Cell.sh (.int z.length)) else none) = some c := ev
      split at ev
      · rename_i hl
        cases ev
        rw [rv_str rv]
        exact ⟨_, call_len_str, z, rfl, Nat.le_trans hl big_line, q _ _ _ p0 (rc_int _)⟩
      · cases ev
  · -- sum
    match ds, rvs, ev with
    | [.list es], rvs, ev =>
      obtain ⟨v, rfl, rv⟩ := rvs1 rvs
      obtain ⟨a, vs, rfl, h1, h2⟩ := rv_lst rv
      have ev : ((intsOf es).map fun ns => Cell.sh (.int ns.sum)) = some c := ev
      cases e : intsOf es with
      | none => rw [e] at ev; cases ev
      | some ns =>
        rw [e] at ev; cases ev
        have := intsOf_vs e h2
        subst this
        exact ⟨_, cr_sum hc, a, ns, rfl, SqL.mono sm h1, q _ _ _ p0 (rc_int _)⟩
  · match ds, rvs, ev with
    | [.list es], rvs, ev =>
      obtain ⟨v, rfl, rv⟩ := rvs1 rvs
      obtain ⟨a, vs, rfl, h1, h2⟩ := rv_lst rv
      have ev : ((boolsOf es).map fun bs => Cell.sh (.bool (bs.all id))) = some c := ev
      cases e : boolsOf es with
      | none => rw [e] at ev; cases ev
      | some ns =>
        rw [e] at ev; cases ev
        have := boolsOf_vs e h2
        subst this
        exact ⟨_, cr_all hc, a, ns, rfl, SqL.mono sm h1, q _ _ _ p0 (rc_bl _)⟩
  · match ds, rvs, ev with
    | [.list es], rvs, ev =>
      obtain ⟨v, rfl, rv⟩ := rvs1 rvs
      obtain ⟨a, vs, rfl, h1, h2⟩ := rv_lst rv
      have ev : ((boolsOf es).map fun bs => Cell.sh (.bool (bs.any id))) = some c := ev
      cases e : boolsOf es with
      | none => rw [e] at ev; cases ev
      | some ns =>
        rw [e] at ev; cases ev
        have := boolsOf_vs e h2
        subst this
        exact ⟨_, cr_any hc, a, ns, rfl, SqL.mono sm h1, q _ _ _ p0 (rc_bl _)⟩
  · -- tuple
    match ds, rvs, ev with
    | [.list es], rvs, ev =>
      cases ev
      obtain ⟨v, rfl, rv⟩ := rvs1 rvs
      obtain ⟨a, vs, rfl, h1, h2⟩ := rv_lst rv
      refine ⟨_, call_tuple_of, a, vs, rfl, .inl ⟨SqL.mono sm h1, fun p np => ?_⟩⟩
      have z := new_tup (K := X.K) sm np h2
      exact q _ _ _ z.1 (.sh z.2)
    | [.tuple es], rvs, ev =>
      cases ev
      obtain ⟨v, rfl, rv⟩ := rvs1 rvs
      obtain ⟨a, vs, rfl, h1, h2⟩ := rv_tup rv
      exact ⟨_, call_tuple_of, a, vs, rfl, .inr ⟨SqT.mono sm h1, q _ _ _ p0 (.sh rv)⟩⟩
  · -- list
    match ds, rvs, ev with
    | [.list es], rvs, ev =>
      cases ev
      obtain ⟨v, rfl, rv⟩ := rvs1 rvs
      obtain ⟨a, vs, rfl, h1, h2⟩ := rv_lst rv
      refine ⟨_, call_list_of, a, vs, rfl, .inl (SqL.mono sm h1), fun p np => ?_⟩
      have z := new_lst (K := X.K) sm np h2
      exact q _ _ _ z.1 z.2
    | [.tuple es], rvs, ev =>
      cases ev
      obtain ⟨v, rfl, rv⟩ := rvs1 rvs
      obtain ⟨a, vs, rfl, h1, h2⟩ := rv_tup rv
      refine ⟨_, call_list_of, a, vs, rfl, .inr (SqT.mono sm h1), fun p np => ?_⟩
      have z := new_lst (K := X.K) sm np h2
      exact q _ _ _ z.1 z.2
  · match ds, rvs, ev with
    | [.int i, .int j], rvs, ev =>
      cases ev
      obtain ⟨v, w, rfl, r1, r2⟩ := rvs2 rvs
      rw [rv_int r1, rv_int r2]
      exact ⟨_, call_min2 hc, i, j, rfl, q _ _ _ p0 (rc_int _)⟩
  · match ds, rvs, ev with
    | [.int i, .int j], rvs, ev =>
      cases ev
      obtain ⟨v, w, rfl, r1, r2⟩ := rvs2 rvs
      rw [rv_int r1, rv_int r2]
      exact ⟨_, call_max2 hc, i, j, rfl, q _ _ _ p0 (rc_int _)⟩
  · match ds, rvs, ev with
    | [.list es], rvs, ev =>
      obtain ⟨v, rfl, rv⟩ := rvs1 rvs
      obtain ⟨a, vs, rfl, h1, h2⟩ := rv_lst rv
      have ev : (match intsOf es with
        | some (n :: r) => some (Cell.sh (.int (leastI n r)))
        | _ => none) = some c := ev
      split at ev
      · rename_i n r e
        cases ev
        have := intsOf_vs e h2
        subst this
        refine ⟨_, cr_min hc, a, n :: r, rfl, SqL.mono sm h1, Nat.succ_pos _, fun m hm hle => ?_⟩
        have z := leastI_mem r n
        have : m = leastI n r := Int.le_antisymm (hle _ z.1) (z.2 m hm)
        rw [this]
        exact q _ _ _ p0 (rc_int _)
      · cases ev
  · match ds, rvs, ev with
    | [.list es], rvs, ev =>
      obtain ⟨v, rfl, rv⟩ := rvs1 rvs
      obtain ⟨a, vs, rfl, h1, h2⟩ := rv_lst rv
      have ev : (match intsOf es with
        | some (n :: r) => some (Cell.sh (.int (mostI n r)))
        | _ => none) = some c := ev
      split at ev
      · rename_i n r e
        cases ev
        have := intsOf_vs e h2
        subst this
        refine ⟨_, cr_max hc, a, n :: r, rfl, SqL.mono sm h1, Nat.succ_pos _, fun m hm hle => ?_⟩
        have z := mostI_mem r n
        have : m = mostI n r := Int.le_antisymm (z.2 m hm) (hle _ z.1)
        rw [this]
        exact q _ _ _ p0 (rc_int _)
      · cases ev
  · match ds, rvs, ev with
    | [.int i], rvs, ev =>
      cases ev
      obtain ⟨v, rfl, rv⟩ := rvs1 rvs
      rw [rv_int rv]
      exact ⟨_, call_int1, .inl ⟨i, rfl, q _ _ _ p0 (rc_int _)⟩⟩
    | [.bool i], rvs, ev =>
      cases ev
      obtain ⟨v, rfl, rv⟩ := rvs1 rvs
      rw [rv_bl rv]
      exact ⟨_, call_int1, .inr ⟨i, rfl, q _ _ _ p0 (rc_int _)⟩⟩
  · match ds, rvs, ev with
    | [.int i], rvs, ev =>
      cases ev
      obtain ⟨v, rfl, rv⟩ := rvs1 rvs
      rw [rv_int rv]
      exact ⟨_, call_abs, i, rfl, q _ _ _ p0 (rc_int _)⟩
  · match ds, rvs, ev with
    | [.int i], rvs, ev =>
      obtain ⟨v, rfl, rv⟩ := rvs1 rvs
      rw [rv_int rv]
      have ev : (if i.natAbs.log2 < 1920 then some (Cell.sh (.str (toString i))) else none) = some c := ev
      split at ev
      · rename_i hl
        cases ev
        exact ⟨_, call_str_int, i, rfl, hl, q _ _ _ p0 (rc_str _)⟩
      · cases ev
end
end EV
end

section
set_option Elab.async false
set_option linter.all false
set_option maxRecDepth 100000
set_option maxHeartbeats 1000000
/-! EV, part 10: built-in calls, isinstance, items, slices as expressions. -/
namespace EV
open PySem PySem.Spec PyProof.Rows L2
theorem boot_blt (f : Blt) : bootBuiltins (bltName f) = some (bltVal f) := by cases f <;> decide +kernel
theorem ne_name (f : Blt) : bltName f ≠ "__name__" := by cases f <;> decide +kernel
theorem mem_blt (f : Blt) : bltName f ∈ bltNames := by cases f <;> decide +kernel
theorem mem_ty (t : Ty) : Str.ofString (tyName t) ∈ bltNames := by cases t <;> decide +kernel
theorem boot_ty (t : Ty) : bootBuiltins (Str.ofString (tyName t)) = some (.type (tyName t)) := by cases t <;> decide +kernel
theorem ty_ne (t : Ty) : Str.ofString (tyName t) ≠ "__name__" := by cases t <;> decide +kernel
theorem boot_isin : bootBuiltins "isinstance" = some (.builtin "isinstance") := by decide +kernel
theorem isin_mem : ("isinstance" : Str) ∈ bltNames := by decide +kernel
theorem isin_ne : ("isinstance" : Str) ≠ "__name__" := by decide +kernel
def tyOfD : D → Ty ⊕ Unit
  | .bool _ => .inl .bool
  | .int _ => .inl .int
  | .str _ => .inl .str
  | .list _ => .inl .list
  | .tuple _ => .inl .tuple
  | .dict _ => .inl .dict
  | .none => .inr ()
def tyVal (d : D) : Value := match tyOfD d with
  | .inl t => .type (tyName t)
  | .inr _ => .type "NoneType"
theorem kit_ty (K : PySem.W.Frag) (d : D) (t : Ty) : PySem.W.kitOne K (tyVal d) (.type (tyName t)) = some (isiD t d) := by
  cases d <;> cases t <;> first | rfl | decide +kernel
section
variable {T : Tab} {G : Nat → List D → Option Cell} {k : Nat} {N : List Str} {sc so : Scope} {X : Cx} {C : Nat → Option D}
theorem s_blt (ok : XOk T G k N sc so X) {f : Blt} {x : Str} {as : CE} {e : Expr} {es : List Expr} {p pos : Pos} (hg : glbB sc x = true) (hx : x = bltName f) (he : plainE e = true) (hpl : (backTo pos (starEach es X.env)).any (·.1) = false)
    (ha : PA X (e :: es) (tA X.K G C as)) : PE X (.Call (.Name x p) (e :: es) [] pos) (tE X.K G C (.blt f as)) := by
  have rd : ∀ {σ : L2.St} {H : Hp} {Q : VK}, tE X.K G C (.blt f as) σ H Q → tCB (rBlt X.K f) (tA X.K G C as) σ H Q := fun {σ H Q} hw => by
    obtain ⟨F, env, r, sh, ev, q⟩ := hw
    obtain ⟨ds, e1, e2⟩ := blt_ev ev
    exact ⟨F, env, ds, sh, e1, fun vs H1 F1 p1 rvs => ⟨F1, ds, r, p1.sub, rvs, e2, fun v H2 F2 p2 rc => q v H2 F2 (p1.trans p2) (rc.earlier p1.same)⟩⟩
  have hm : X.mg x = none := ok.lib.blt x (by rw [hx]; exact mem_blt f)
  have hv : bootBuiltins x = some (bltVal f) := by rw [hx]; exact boot_blt f
  have hn : x ≠ "__name__" := by rw [hx]; exact ne_name f
  have hc := call_blt (X := X) ok.calm f
  have st := plain_star he es X.env
  have db := (glb_of hg).2
  have gl := ok.gl hg
  have B : ∀ {id : String}, bltVal f = .builtin id → PE X (.Call (.Name x p) (e :: es) [] pos) (tE X.K G C (.blt f as)) := fun {id} q => by
    rw [q] at hc hv
    exact PE.by fun pins s σ H Q I hw => ⟨_, pe_callB hc gl hm hv ha hn db st hpl, rd hw⟩
  have Ty : ∀ {id : String}, bltVal f = .type id → PE X (.Call (.Name x p) (e :: es) [] pos) (tE X.K G C (.blt f as)) := fun {id} q => by
    rw [q] at hc hv
    exact PE.by fun pins s σ H Q I hw => ⟨_, pe_callTy hc gl hm hv ha hn db st hpl, rd hw⟩
  cases f <;> first | exact B rfl | exact Ty rfl
theorem tyX_of {K : PySem.W.Frag} {H : Hp} {v : V} {d : D} (h : RV K H v d) (nd : isDict d = false) : TyX K H v (tyVal d) := by
  cases h with
  | dp h =>
    cases h with
    | non => exact .base .non
    | bl b => exact .base (.bl b)
    | int i => exact .base (.int i)
    | str x => exact .base (.str x)
    | lst h1 h2 =>
      rcases h1 with (h1 | ⟨o, h1⟩) | ⟨o, its, n, h1, h2, _⟩
      · exact .base (.lst h1)
      · exact .base (.frz h1)
      · exact .kList h1 h2
    | tup h1 h2 =>
      rcases h1 with (h1 | ⟨o, h1⟩) | ⟨o, its, n, h1, h2, _⟩
      · exact .base (.tup h1)
      · exact .fTuple h1
      · exact .kTuple h1 h2
    | dK h _ => cases nd
    | dT h _ => cases nd
    | ins h _ _ => cases nd
theorem s_isi (ok : XOk T G k N sc so X) {t : Ty} {a : CE} {e : Expr} {x y : Str} {p p2 pos : Pos} (hg : glbB sc x = true) (hg2 : glbB sc y = true) (hx : x = ("isinstance" : Str)) (hy : y = Str.ofString (tyName t)) (he : plainE e = true) (ha : PE X e (tE X.K G C a)) :
    PE X (.Call (.Name x p) [e, .Name y p2] [] pos) (tE X.K G C (.isi t a)) := by
  have hm : X.mg x = none := ok.lib.blt x (by rw [hx]; exact isin_mem)
  have hv : bootBuiltins x = some (.builtin "isinstance") := by rw [hx]; exact boot_isin
  have hn : x ≠ "__name__" := by rw [hx]; exact isin_ne
  have hm2 : X.mg y = none := ok.lib.blt y (by rw [hy]; exact mem_ty t)
  have hv2 : bootBuiltins y = some (.type (tyName t)) := by rw [hy]; exact boot_ty t
  have hn2 : y ≠ "__name__" := by rw [hy]; exact ty_ne t
  refine PE.by fun pins s σ H Q I hw => ⟨_, pe_callB call_isi (ok.gl hg) hm hv (pa_cons (pdata ha) (pa_cons (pe_bltn (v := .ty (tyName t)) (ok.gl hg2) hm2 hv2 rfl hn2 (glb_of hg2).2) pa_nil) (plain_star he _ _)) hn (glb_of hg).2 (plain_star he _ _) rfl, ?_⟩
  obtain ⟨F, env, r, sh, ev, q⟩ := hw
  simp only [evalE] at ev
  cases h : getD (evalE G C env a) with
  | none => rw [h] at ev; cases ev
  | some d =>
    rw [h] at ev
    have ev : (if isDict d then none else some (Cell.sh (.bool (isiD t d)))) = some r := ev
    split at ev
    · cases ev
    rename_i nd
    cases ev
    refine ⟨F, env, d, sh, h, fun v H1 F1 p1 rv => ?_⟩
    exact ⟨v, .ty (tyName t), tyVal d, .type (tyName t), isiD t d, rfl, .ty _, tyX_of (rv.mono p1.sub) (by simpa using nd), kit_ty _ d t, q _ _ _ p1 (rc_bl _)⟩

/-! ### items, slices -/
theorem at_get {K : PySem.W.Frag} {F : Hp} {vs : List V} {ds : List D} {i : Int} {d : D} (h : DpAll K F vs ds) (e : atI ds i = some d) : ∃ v, atI vs i = some v ∧ Dp K F v d := by
  unfold atI at e ⊢
  rw [DpAll.length h]
  cases q : ixN ds.length i with
  | none => rw [q] at e; cases e
  | some j =>
    rw [q] at e
    exact DpAll.get h e
theorem s_ix {a b : CE} {x y : Expr} {pos : Pos} (hy : plainE y = true) (ha : PE X x (tE X.K G C a)) (hb : PE X y (tE X.K G C b)) : PE X (.Subscript x y pos) (tE X.K G C (.ix a b)) := by
  refine PE.by fun pins s σ H Q I hw => ?_
  obtain ⟨F, env, r, sh, ev, q⟩ := hw
  simp only [evalE] at ev
  obtain ⟨d, e, hd, he, ev⟩ := bind2 ev
  cases d <;> cases e <;> first | (cases ev; done) | skip
  · rename_i z i
    have ev : (if z.length ≤ big then (atI z.cps.toList i).map fun c => Cell.sh (.str ⟨#[c]⟩) else none) = some r := ev
    split at ev
    · rename_i hl
      cases e : atI z.cps.toList i with
      | none => rw [e] at ev; cases ev
      | some c =>
        rw [e] at ev; cases ev
        refine ⟨_, pe_ix ix_str (pdata ha) (pdata hb) (plain_ix hy), two sh hd he fun v u H' F' p rv ru => ?_⟩
        rw [rv_str rv, rv_int ru]
        exact ⟨z, i, c, rfl, rfl, Nat.le_trans hl big_line, e, q _ _ _ p (rc_str _)⟩
    · cases ev
  · rename_i xs i
    have ev : (atI xs i).map Cell.sh = some r := ev
    cases e : atI xs i with
    | none => rw [e] at ev; cases ev
    | some c =>
      rw [e] at ev; cases ev
      refine ⟨_, pe_ix ix_list (pdata ha) (pdata hb) (plain_ix hy), two sh hd he fun v u H' F' p rv ru => ?_⟩
      obtain ⟨l, vs, rfl, h1, h2⟩ := rv_lst rv
      rw [rv_int ru]
      obtain ⟨w, e1, e2⟩ := at_get h2 e
      exact ⟨l, vs, i, w, rfl, rfl, SqL.mono p.sub h1, e1, q _ _ _ p (.sh (.dp e2))⟩
  · rename_i xs i
    have ev : (atI xs i).map Cell.sh = some r := ev
    cases e : atI xs i with
    | none => rw [e] at ev; cases ev
    | some c =>
      rw [e] at ev; cases ev
      refine ⟨_, pe_ix ix_tup (pdata ha) (pdata hb) (plain_ix hy), two sh hd he fun v u H' F' p rv ru => ?_⟩
      obtain ⟨l, vs, rfl, h1, h2⟩ := rv_tup rv
      rw [rv_int ru]
      obtain ⟨w, e1, e2⟩ := at_get h2 e
      exact ⟨l, vs, i, w, rfl, rfl, SqT.mono p.sub h1, e1, q _ _ _ p (.sh (.dp e2))⟩
theorem cutD_dp {K : PySem.W.Frag} {F : Hp} {vs : List V} {ds : List D} (h : DpAll K F vs ds) (lo hi : Option Int) : DpAll K F (cutV vs lo hi) (cutD ds lo hi) := by
  unfold cutV cutD
  rw [DpAll.length h]
  exact DpAll.take _ (DpAll.drop _ h)
theorem cutV_whole {vs : List V} {lo hi : Option Int} (h : HT.sIx vs.length 0 lo = 0 ∧ HT.sIx vs.length vs.length hi = vs.length) : cutV vs lo hi = vs := by
  unfold cutV
  rw [h.1, h.2]
  simp
theorem cutD_whole {vs : List D} {lo hi : Option Int} (h : HT.sIx vs.length 0 lo = 0 ∧ HT.sIx vs.length vs.length hi = vs.length) : cutD vs lo hi = vs := by
  unfold cutD
  rw [h.1, h.2]
  simp
/-- an optional bound -/
def tO (K : PySem.W.Frag) (c : CE) : TO := fun σ H Q => ∃ F env o, ShOk K F H σ env ∧ getO c.isNil (evalE G C env c) = some o ∧ ∀ H' F', Post F H F' H' → Q o H'
theorem s_none {c : CE} (h : c.isNil = true) : PO X none (tO (G := G) (C := C) X.K c) := ⟨fun pins s σ H Q I hw => by
  obtain ⟨F, env, o, sh, ev, q⟩ := hw
  unfold getO at ev
  rw [if_pos h] at ev
  cases ev
  exact (po_none (X := X)).run pins s σ H Q I (q H F (Post.refl sh.same))⟩
theorem s_some {c : CE} {e : Expr} (h : c.isNil = false) (he : PE X e (tE X.K G C c)) : PO X (some e) (tO (G := G) (C := C) X.K c) := ⟨fun pins s σ H Q I hw => by
  obtain ⟨F, env, o, sh, ev, q⟩ := hw
  unfold getO at ev
  rw [if_neg (by rw [h]; decide)] at ev
  split at ev
  · rename_i i e1
    cases ev
    refine (po_some he).run pins s σ H Q I ⟨F, env, _, sh, e1, fun v H' F' p rc => ⟨i, ?_, q H' F' p⟩⟩
    cases rc with
    | sh rv => exact rv_int rv
  · cases ev⟩
theorem sl_ev {a lo hi : CE} {env : List Cell} {r : Cell} (h : evalE G C env (.sl a lo hi) = some r) :
    ∃ d l u, getD (evalE G C env a) = some d ∧ getO lo.isNil (evalE G C env lo) = some l ∧ getO hi.isNil (evalE G C env hi) = some u ∧ sliceD d l u = some r := by
  simp only [evalE] at h
  cases q1 : getD (evalE G C env a) with
  | none => rw [q1] at h; cases h
  | some d =>
    cases q2 : getO lo.isNil (evalE G C env lo) with
    | none => rw [q1, q2] at h; cases h
    | some l =>
      cases q3 : getO hi.isNil (evalE G C env hi) with
      | none => rw [q1, q2, q3] at h; cases h
      | some u => rw [q1, q2, q3] at h; exact ⟨d, l, u, rfl, rfl, rfl, h⟩
theorem s_sl {a lo hi : CE} {x : Expr} {l h : Option Expr} {p2 pos : Pos} (ha : PE X x (tE X.K G C a)) (hl : PO X l (tO (G := G) (C := C) X.K lo)) (hh : PO X h (tO (G := G) (C := C) X.K hi)) : PE X (.Subscript x (.Slice l h none p2) pos) (tE X.K G C (.sl a lo hi)) := by
  refine PE.by fun pins s σ H Q I hw => ?_
  obtain ⟨F, env, r, sh, ev, q⟩ := hw
  obtain ⟨d, l', u', hd, e1, e2, ev⟩ := sl_ev ev
  have go : ∀ {R : V → Option Int → Option Int → Hp → VK → Prop}, (∀ v H' F', Post F H F' H' → RV X.K F' v d → R v l' u' H' Q) → tSl R (tD X.K G C a) (tO (G := G) (C := C) X.K lo) (tO (G := G) (C := C) X.K hi) σ H Q := fun {R} f =>
    ⟨F, env, d, sh, hd, fun v H1 F1 p1 rv => ⟨F1, env, l', sh.post p1, e1, fun H2 F2 p2 => ⟨F2, env, u', (sh.post p1).post p2, e2, fun H3 F3 p3 => f v H3 F3 ((p1.trans p2).trans p3) ((rv.mono p2.ext).mono p3.ext)⟩⟩⟩
  cases d <;> first | (cases ev; done) | skip
  · rename_i z
    have ev : (if z.length ≤ big then some (Cell.sh (.str (cutS z l' u'))) else none) = some r := ev
    split at ev
    · rename_i hz
      cases ev
      refine ⟨_, pe_slice sl_str (pdata ha) hl hh, go fun v H' F' p rv => ?_⟩
      rw [rv_str rv]
      exact ⟨z, rfl, Nat.le_trans hz big_line, q _ _ _ p (rc_str _)⟩
    · cases ev
  · cases ev
    refine ⟨_, pe_slice sl_list (pdata ha) hl hh, go fun v H' F' p rv => ?_⟩
    obtain ⟨a', vs, rfl, h1, h2⟩ := rv_lst rv
    refine ⟨a', vs, rfl, SqL.mono p.sub h1, fun pp np => ?_⟩
    have z := new_lst (K := X.K) p.sub np (cutD_dp h2 l' u')
    exact q _ _ _ (p.trans z.1) (z.2.earlier p.same)
  · cases ev
    refine ⟨_, pe_slice sl_tupA (pdata ha) hl hh, go fun v H' F' p rv => ?_⟩
    obtain ⟨a', vs, rfl, h1, h2⟩ := rv_tup rv
    refine ⟨a', vs, rfl, SqT.mono p.sub h1, fun hw => ?_, fun _ pp np => ?_⟩
    · rw [cutD_whole (by rw [← DpAll.length h2]; exact hw)] at q
      exact q _ _ _ p (.sh rv)
    · have z := new_tup (K := X.K) p.sub np (cutD_dp h2 l' u')
      exact q _ _ _ (p.trans z.1) (.sh z.2)
end
end EV
end

section
set_option Elab.async false
set_option linter.all false
set_option maxRecDepth 100000
set_option maxHeartbeats 2000000
/-! EV, part 11: what is walked: enumerate, zip over lists, tuples, texts in any mix. -/
namespace EV
open PySem PySem.Spec PyProof.Rows L2

/-! ### enumerate(v) of any thing that begins -/
theorem meets_enum1 {v : Value} {o : Obj} {H : Heap → Prop} (B : Begins v o H) :
    Meets (Builtin.«enumerate.__new__» ⟨[.type "enumerate", v], []⟩) (fun _ R s => H s.heap ∧
      R (.ok (.ret (.ref (s.heap.push o).objs.size))) { s with heap := (s.heap.push o).push { cls := .type "enumerate", data := .fields #[.none, .bool false, .ref s.heap.objs.size, rawInt 0, .none, .none] } }) :=
  .of_wp fun prog w A R s h => by
    obtain ⟨hp, g, d, tk, os⟩ := s; obtain ⟨h1, h⟩ := h
    have hsub := sub_enumerate
    have q1 : ∀ {A' : Around} {E : Value → Shared → Prop} {Q : Value → Shared → Prop}, Q (.ref hp.objs.size) ⟨hp.push o, g, d, tk, os⟩ → wpAny (model prog w) A' (pyIter v) Q E ⟨hp, g, d, tk, os⟩ :=
      fun q => B.iter prog w _ _ ⟨hp, g, d, tk, os⟩ _ h1 q
    wp_walk using q1
    refine wpAny_stack_any fun st => wpAny_pure ?_
    split
    · rename_i c _ _ _ _ _
      cases (c == Value.type "enumerate")
      · wp_walk using q1
        exact ⟨_, rfl, h⟩
      · wp_walk using q1
        exact ⟨_, rfl, h⟩
    · wp_walk using q1
      exact ⟨_, rfl, h⟩
section
variable {prog : Program} {w : World} {A : Around} {E : Value → Shared → Prop} {s : Shared}
theorem enum_begins1 {v : Value} {o : Obj} {H : Heap → Prop} {Q : Value → Shared → Prop} (B : Begins v o H) (h1 : H s.heap)
    (h : ∀ h', IsEnum h' (s.heap.objs.size + 1) s.heap.objs.size 0 .none → h'.get? s.heap.objs.size = some o → h'.objs.size = s.heap.objs.size + 2 →
      (∀ b o, s.heap.get? b = some o → h'.get? b = some o) → Q (.ref (s.heap.objs.size + 1)) { s with heap := h' }) :
    wpAny (model prog w) A (call (.type "enumerate") [v]) Q E s := by
  refine callType_new F.called_enumerate (by decide) (F.typeCall_enumerate_1 _) (F.newCall_enumerate_1 _) (fun obj => F.args_object_init_2 obj _) F.entry_enumerate_new
    (meets_enum1 B) ⟨h1, ?_⟩
  have hz : (s.heap.push o).objs.size = s.heap.objs.size + 1 := Heap.size_push ..
  show _ ∧ _
  rw [hz]
  have he : IsEnum ((s.heap.push o).push { cls := .type "enumerate", data := .fields #[.none, .bool false, .ref s.heap.objs.size, rawInt 0, .none, .none] }) (s.heap.objs.size + 1) s.heap.objs.size 0 .none := by
    have := Heap.get?_push_size (s.heap.push o) (o := { cls := .type "enumerate", data := .fields #[.none, .bool false, .ref s.heap.objs.size, rawInt 0, .none, .none] }) rfl
    rw [hz] at this; exact this
  refine ⟨⟨_, he, rfl⟩, h _ he (Heap.get?_push_of_some _ (Heap.get?_push_size _ B.free)) (by rw [Heap.size_push, hz]) fun b o x => Heap.get?_push_of_some _ (Heap.get?_push_of_some _ x)⟩
end
end EV
end

section
set_option Elab.async false
set_option linter.all false
set_option maxRecDepth 100000
set_option maxHeartbeats 2000000
/-! EV, part 12: the iterators of enumerate and zip over any sources. -/
namespace EV
open PySem PySem.Spec PyProof.Rows L2

inductive Src where
  | lst (a : Addr)
  | tup (a : Addr)
  | txt (z : Str) (t : Tok)
def signs (z : Str) : List V := z.cps.toList.map fun c => V.str ⟨#[c]⟩
def Src.val : Src → Value
  | .lst a => .ref a
  | .tup a => .ref a
  | .txt z t => .str z t
def Src.it (c : Src) (i1 : Addr) (i : Nat) (h : Heap) : Prop := match c with
  | .lst a => h.IsListIter i1 a i
  | .tup a => h.IsTupleIter i1 a i
  | .txt z t => h.IsStrIter i1 (strIterType z) z t i
def Src.off (c : Src) (b : Addr) : Prop := match c with
  | .lst a => a ≠ b
  | .tup a => a ≠ b
  | .txt _ _ => True
def Src.at (K : PySem.W.Frag) (H : Hp) (c : Src) (vs : List V) : Prop := match c with
  | .lst a => SqL K H a vs
  | .tup a => SqT K H a vs
  | .txt z _ => vs = signs z
def Src.fp (c : Src) (i1 : Addr) : List Addr := match c with
  | .lst a => [i1, a]
  | .tup a => [i1, a]
  | .txt _ _ => [i1]
theorem Src.at_mono {K : PySem.W.Frag} {H H' : Hp} {c : Src} {vs : List V} (s : Same H H') (h : c.at K H vs) : c.at K H' vs := by
  cases c with
  | lst a => exact SqL.mono s h
  | tup a => exact SqT.mono s h
  | txt z t => exact h
theorem Src.not_mem {c : Src} {i1 b : Addr} (h1 : b ≠ i1) (h2 : c.off b) : b ∉ c.fp i1 := by
  cases c with
  | lst a => intro h; simp only [Src.fp, List.mem_cons, List.not_mem_nil, or_false] at h; rcases h with h | h; exact h1 h; exact h2 h.symm
  | tup a => intro h; simp only [Src.fp, List.mem_cons, List.not_mem_nil, or_false] at h; rcases h with h | h; exact h1 h; exact h2 h.symm
  | txt z t => intro h; simp only [Src.fp, List.mem_cons, List.not_mem_nil, or_false] at h; exact h1 h
theorem Src.mem (c : Src) (i1 : Addr) : i1 ∈ c.fp i1 := by cases c <;> simp [Src.fp]
theorem Src.keep {c : Src} {i1 : Addr} {i : Nat} {h h' : Heap} (st : c.it i1 i h) (k : ∀ o, h.get? i1 = some o → h'.get? i1 = some o) : c.it i1 i h' := by
  cases c with
  | lst a => exact Heap.IsListIter.at st fun o q => k o q
  | tup a => exact Heap.IsTupleIter.at st fun o q => k o q
  | txt z t => obtain ⟨o, ho, r⟩ := st; exact ⟨o, k o ho, r⟩
theorem Src.there {c : Src} {i1 : Addr} {i : Nat} {h : Heap} (st : c.it i1 i h) : ∃ o, h.get? i1 = some o ∧ ∀ v, o.data ≠ .cell v := by
  cases c with
  | lst a => obtain ⟨o, e, _, d⟩ := st; exact ⟨o, e, fun v q => by rw [d] at q; cases q⟩
  | tup a => obtain ⟨o, e, _, d⟩ := st; exact ⟨o, e, fun v q => by rw [d] at q; cases q⟩
  | txt z t => obtain ⟨o, e, _, d⟩ := st; exact ⟨o, e, fun v q => by rw [d] at q; cases q⟩
section
variable {X : Cx} {pins : List (Addr × Obj)} {σ : L2.St} {H : Hp} {s : Shared}
theorem Src.draw (I : L2.Inv X pins σ H s) {A : Around} (hh : A.handled = none) {c : Src} {vs : List V} (hat : c.at X.K H vs) {i1 : Addr} {i : Nat} (ap : c.off i1) (st : c.it i1 i s.heap) :
    ∃ (P : Nat → Value → Prop) (St : Nat → Heap → Prop), Draws X.prog X.w A i1 (c.fp i1) vs.length P St ∧ St i s.heap ∧ (∀ j h, St j h → c.it i1 j h) ∧ ∀ j v, P j v → ∃ x, vs[j]? = some x ∧ L2.RelV x v := by
  cases c with
  | lst a =>
    obtain ⟨its, rv, p, hz⟩ := I.list hat
    have D := Draws.list (prog := X.prog) (w := X.w) hh i1 a ap its.toArray
    have hl := rv.length
    rw [List.size_toArray, ← hl] at D
    refine ⟨_, _, D, ⟨st, p.isList⟩, fun j h q => q.1, fun j v q => ?_⟩
    have q : its.toArray[j]? = some v := q
    rw [← Array.getElem?_toList] at q
    cases e : vs[j]? with
    | none => rw [rv.none_of e] at q; cases q
    | some x =>
      obtain ⟨u, h1, h2⟩ := rv.get e
      rw [h1] at q; cases q
      exact ⟨x, rfl, h2⟩
  | tup a =>
    obtain ⟨its, rv, p, hz⟩ := I.tuple hat
    have D := Draws.tuple (prog := X.prog) (w := X.w) hh i1 a ap its.toArray
    have hl := rv.length
    rw [List.size_toArray, ← hl] at D
    refine ⟨_, _, D, ⟨st, p⟩, fun j h q => q.1, fun j v q => ?_⟩
    have q : its.toArray[j]? = some v := q
    rw [← Array.getElem?_toList] at q
    cases e : vs[j]? with
    | none => rw [rv.none_of e] at q; cases q
    | some x =>
      obtain ⟨u, h1, h2⟩ := rv.get e
      rw [h1] at q; cases q
      exact ⟨x, rfl, h2⟩
  | txt z t =>
    have hat : vs = signs z := hat
    subst hat
    have D := Draws.text (prog := X.prog) (w := X.w) hh i1 z t
    have hl : (signs z).length = z.cps.size := by unfold signs; rw [List.length_map, Array.length_toList]
    rw [← hl] at D
    refine ⟨_, _, D, st, fun j h q => q, fun j v q => ?_⟩
    obtain ⟨ch, u, h1, rfl⟩ := q
    refine ⟨.str ⟨#[ch]⟩, ?_, ⟨u, rfl⟩⟩
    unfold signs
    rw [List.getElem?_map, Array.getElem?_toList, h1]
    rfl
theorem Src.begin (I : L2.Inv X pins σ H s) {c : Src} {vs : List V} (hat : c.at X.K H vs) :
    ∃ (o : Obj) (Hb : Heap → Prop), Begins c.val o Hb ∧ Hb s.heap ∧ (∀ i1 h, h.get? i1 = some o → c.it i1 0 h) ∧ ∀ b, s.heap.objs.size ≤ b → c.off b := by
  cases c with
  | lst a =>
    obtain ⟨its, rv, p, hz⟩ := I.list hat
    obtain ⟨ol, n, hol, _⟩ := id p
    exact ⟨_, _, begins_list a its.toArray, p.isList, fun i1 h e => ⟨_, e, rfl, rfl⟩, fun b hb q => absurd (Nat.lt_of_lt_of_le (Heap.lt_size hol) hb) (by rw [q]; exact Nat.lt_irrefl _)⟩
  | tup a =>
    obtain ⟨its, rv, p, hz⟩ := I.tuple hat
    obtain ⟨ol, hol, _⟩ := id p
    exact ⟨_, _, begins_tuple a its.toArray, p, fun i1 h e => ⟨_, e, rfl, rfl⟩, fun b hb q => absurd (Nat.lt_of_lt_of_le (Heap.lt_size hol) hb) (by rw [q]; exact Nat.lt_irrefl _)⟩
  | txt z t => exact ⟨_, _, begins_text z t, trivial, fun i1 h e => ⟨_, e, rfl, rfl⟩, fun _ _ => trivial⟩
end

/-- new tuples of what f tells at each turn; G: what has to stand -/
def Itn (n : Nat) (G : Hp → Prop) (f : Nat → List V → Prop) : It :=
  ⟨fun i H => i < n ∧ G H, fun i H v H' => ∃ T xs, v = .ref T ∧ H T = none ∧ H' = upd H T (.tup xs) ∧ f i xs, fun i H => i = n ∧ G H⟩
/-- the turn of an iterator that hands out new tuples, by the library's rule -/
theorem turn_new {P : Program} {w : World} {K : PySem.W.Frag} {elts : List Expr} {kk : Nat} {tpos : Pos} {it : Addr} {fp : List Addr} {n : Nat} {G : Hp → Prop} {f : Nat → List V → Prop} {tn : Nat → Heap → Prop}
    (mem : it ∈ fp) (obj : ∀ i h, tn i h → ∀ b ∈ fp, ∃ o, h.get? b = some o ∧ ∀ v, o.data ≠ .cell v)
    (keep : ∀ i h h', tn i h → (∀ b ∈ fp, ∀ o, h.get? b = some o → h'.get? b = some o) → tn i h')
    (self : ∀ (A : Around) (i : Nat) (s : Shared) (Q : Value → Shared → Prop) (E : Value → Shared → Prop), tn i s.heap → Q (.ref it) s → wpAny (model P w) A (pyIter (.ref it)) Q E s)
    (goes : ∀ (X : Cx), X.prog = P → X.w = w → X.K = K → X.A.handled = none → ∀ (i : Nat) (pins : List (Addr × Obj)) (s : Shared) (σ : L2.St) (H : Hp), L2.Inv X pins σ H s → tn i s.heap → G H →
      ∃ (wr fp' : List Addr) (Y : Nat → Heap → Value → Heap → Prop) (St : Nat → Heap → Prop), GoesN P w X.A (.Tuple elts kk tpos) it fp' wr n Y St ∧ St i s.heap ∧ (∀ b ∈ wr, b ∈ fp) ∧ (∀ j h, St j h → tn j h) ∧
        ∀ v h, i < n → Y i s.heap v h → ∃ T xs us, v = .ref T ∧ s.heap.objs.size ≤ T ∧ Vals xs us ∧ xs.length ≤ sizeLine ∧ h.IsTuple T us.toArray ∧ f i xs) :
    Turn P w K (.Tuple elts kk tpos) (Itn n G f) fp it tn where
  mem := mem
  obj := obj
  keep := keep
  self := self
  item := by
    intro X hP hw hK hc i pins s σ H E I hf st hg
    subst hP hw hK
    obtain ⟨hi, hG⟩ := hg
    obtain ⟨wr, fp', Y, St, W, hst, hwr, back, hY⟩ := goes X rfl rfl rfl (I.ok.hd hc) i pins s σ H I st hG
    refine wpAny_mono (W.goes i s (fun v s2 => ∃ x H', L2.Inv X pins σ H' s2 ∧ L2.RelV x v ∧ (Itn n G f).yld i H x H' ∧ tn (i + 1) s2.heap ∧ ∀ b ∈ fp, H' b = none) E hi hst fun v h' tk hy st' hk htk => ?_) (fun r s1 h1 => h1) fun _ _ e => e
    obtain ⟨T, xs, us, rfl, hT, rv, hl, ht, hf2⟩ := hY v h' hi hy
    have new : ObjOk X.prog X.w (upd H T (.tup xs)) h' T (.tup xs) := ⟨hl, us, rv, ht⟩
    have k : ∀ b o, b ∉ fp → s.heap.get? b = some o → h'.get? b = some o := fun b o hb e => hk b o (fun q => hb (hwr b q)) e
    refine ⟨.ref T, _, Inv.turnedNew I k hf hT new, rfl, ⟨T, xs, rfl, I.hok.fresh hT, rfl, hf2⟩, back _ _ st', fun b hb => ?_⟩
    obtain ⟨o, ho, _⟩ := obj i s.heap st b hb
    rw [upd_ne (Nat.ne_of_lt (Nat.lt_of_lt_of_le (Heap.lt_size ho) hT))]
    exact (hf b hb).1
  done := by
    intro X hP hw hK hc i pins s σ H E I hf st hg
    subst hP hw hK
    obtain ⟨hi, hG⟩ := hg
    subst hi
    obtain ⟨wr, fp', Y, St, W, hst, hwr, back, hY⟩ := goes X rfl rfl rfl (I.ok.hd hc) i pins s σ H I st hG
    refine W.stops s (fun s1 => L2.Inv X pins σ H s1) E hst fun h' tk hk htk => ?_
    exact Inv.turnedL I (fun b o hb e => hk b o (fun q => hb (hwr b q)) e) hf
end EV
end

section
set_option Elab.async false
set_option linter.all false
set_option maxRecDepth 100000
set_option maxHeartbeats 2000000
/-! EV, part 13: walked things: enumerate, zip, reversed, range, plain values. -/
namespace EV
open PySem PySem.Spec PyProof.Rows L2

theorem src_of {K : PySem.W.Frag} {F : Hp} {v : V} {u : Value} {d : D} {xs : List D} (h : RV K F v d) (e : itemsOf d = some xs) (r : L2.RelV v u) : ∃ (c : Src) (vs : List V), c.val = u ∧ c.at K F vs ∧ DpAll K F vs xs := by
  cases d <;> first | (cases e; done) | skip
  · rename_i z
    have e : (if z.length ≤ big then some (z.cps.toList.map fun c => PyData.str ⟨#[c]⟩) else none) = some xs := e
    split at e <;> cases e
    have q := rv_str h
    subst q
    obtain ⟨t, rfl⟩ := r
    refine ⟨.txt z t, signs z, rfl, rfl, ?_⟩
    unfold signs
    generalize z.cps.toList = l
    induction l with
    | nil => exact .nil
    | cons a l ih => exact .cons (.str _) ih
  · cases e
    obtain ⟨a, vs, rfl, h1, h2⟩ := rv_lst h
    cases r
    exact ⟨.lst a, vs, rfl, h1, h2⟩
  · cases e
    obtain ⟨a, vs, rfl, h1, h2⟩ := rv_tup h
    cases r
    exact ⟨.tup a, vs, rfl, h1, h2⟩
theorem src_len {X : Cx} {pins : List (Addr × Obj)} {s : Shared} {σ : L2.St} {H F : Hp} (I : L2.Inv X pins σ H s) (sm : Same F H) {v : V} {d : D} {xs : List D} (h : RV X.K F v d) (e : itemsOf d = some xs) : xs.length ≤ sizeLine := by
  cases d <;> first | (cases e; done) | skip
  · rename_i z
    have e : (if z.length ≤ big then some (z.cps.toList.map fun c => PyData.str ⟨#[c]⟩) else none) = some xs := e
    split at e
    · rename_i hl
      cases e
      rw [List.length_map, Array.length_toList]
      exact Nat.le_trans hl big_line
    · cases e
  · cases e
    obtain ⟨a, vs, rfl, h1, h2⟩ := rv_lst h
    rw [← DpAll.length h2]
    exact lenOk_of I _ a vs rfl (.inl (SqL.mono sm h1))
  · cases e
    obtain ⟨a, vs, rfl, h1, h2⟩ := rv_tup h
    rw [← DpAll.length h2]
    exact lenOk_of I _ a vs rfl (.inr (SqT.mono sm h1))
theorem enmFrom_len : ∀ (xs : List D) (n : Nat), (enmFrom n xs).length = xs.length
  | [], _ => rfl
  | _ :: r, n => by simp [enmFrom, enmFrom_len r]
theorem enmFrom_get : ∀ (xs : List D) (n i : Nat) (d : D), (enmFrom n xs)[i]? = some d → ∃ x, xs[i]? = some x ∧ d = .tuple [.int ((n + i : Nat) : Int), x]
  | [], _, _, _, h => by simp [enmFrom] at h
  | x :: r, n, 0, d, h => by simp [enmFrom] at h; exact ⟨x, rfl, h.symm⟩
  | x :: r, n, i + 1, d, h => by
    simp [enmFrom] at h
    obtain ⟨y, h1, h2⟩ := enmFrom_get r (n + 1) i d h
    exact ⟨y, by simpa using h1, by rw [h2, show n + 1 + i = n + (i + 1) by omega]⟩
theorem zip2_len : ∀ (xs ys : List D), (zip2 xs ys).length = min xs.length ys.length
  | [], ys => by simp [zip2]
  | x :: xs, [] => by simp [zip2]
  | x :: xs, y :: ys => by simp [zip2, zip2_len xs ys]
theorem zip2_get : ∀ (xs ys : List D) (i : Nat) (d : D), (zip2 xs ys)[i]? = some d → ∃ x y, xs[i]? = some x ∧ ys[i]? = some y ∧ d = .tuple [x, y]
  | [], ys, _, _, h => by simp [zip2] at h
  | x :: xs, [], _, _, h => by simp [zip2] at h
  | x :: xs, y :: ys, 0, d, h => by simp [zip2] at h; exact ⟨x, y, rfl, rfl, h.symm⟩
  | x :: xs, y :: ys, i + 1, d, h => by
    simp [zip2] at h
    obtain ⟨a, b, h1, h2, h3⟩ := zip2_get xs ys i d h
    exact ⟨a, b, by simpa using h1, by simpa using h2, h3⟩
theorem zip3_len : ∀ (xs ys zs : List D), (zip3 xs ys zs).length = min (min xs.length ys.length) zs.length
  | [], ys, zs => by simp [zip3]
  | x :: xs, [], zs => by simp [zip3]
  | x :: xs, y :: ys, [] => by simp [zip3]
  | x :: xs, y :: ys, z :: zs => by simp [zip3, zip3_len xs ys zs]
theorem zip3_get : ∀ (xs ys zs : List D) (i : Nat) (d : D), (zip3 xs ys zs)[i]? = some d → ∃ x y z, xs[i]? = some x ∧ ys[i]? = some y ∧ zs[i]? = some z ∧ d = .tuple [x, y, z]
  | [], ys, zs, _, _, h => by simp [zip3] at h
  | x :: xs, [], zs, _, _, h => by simp [zip3] at h
  | x :: xs, y :: ys, [], _, _, h => by simp [zip3] at h
  | x :: xs, y :: ys, z :: zs, 0, d, h => by simp [zip3] at h; exact ⟨x, y, z, rfl, rfl, rfl, h.symm⟩
  | x :: xs, y :: ys, z :: zs, i + 1, d, h => by
    simp [zip3] at h
    obtain ⟨a, b, c, h1, h2, h3, h4⟩ := zip3_get xs ys zs i d h
    exact ⟨a, b, c, by simpa using h1, by simpa using h2, by simpa using h3, h4⟩
theorem wk_new {K : PySem.W.Frag} {F : Hp} {n : Nat} {G : Hp → Prop} {f : Nat → List V → Prop} {ds : List D} (hn : ds.length = n) (hG : ∀ F' H, Same F F' → Same F' H → G H)
    (hf : ∀ i xs d, ds[i]? = some d → f i xs → ∃ es, d = .tuple es ∧ DpAll K F xs es) : Wk K (Itn n G f) F ds := fun F' H s1 s2 =>
  ⟨fun i hi => ⟨by omega, hG F' H s1 s2⟩, ⟨hn, hG F' H s1 s2⟩, fun i d x H' hd ⟨T, xs, e1, e2, e3, e4⟩ => by
    subst e1 e3
    obtain ⟨es, rfl, h⟩ := hf i xs d hd e4
    have z := new_tup (K := K) s2 e2 (DpAll.mono s1 _ _ h)
    exact ⟨_, z.1, z.2⟩⟩
theorem boot_enu : bootBuiltins "enumerate" = some (.type "enumerate") := by decide +kernel
theorem boot_zp : bootBuiltins "zip" = some (.type "zip") := by decide +kernel
theorem boot_rev : bootBuiltins "reversed" = some (.type "reversed") := by decide +kernel
theorem boot_rng : bootBuiltins "range" = some (.type "range") := by decide +kernel
theorem nm_enu : ("enumerate" : Str) ≠ "__name__" := by decide +kernel
theorem nm_zp : ("zip" : Str) ≠ "__name__" := by decide +kernel
theorem mem_enu : ("enumerate" : Str) ∈ bltNames := by decide +kernel
theorem mem_zp : ("zip" : Str) ∈ bltNames := by decide +kernel
theorem mem_rev : ("reversed" : Str) ∈ bltNames := by decide +kernel
theorem mem_rng : ("range" : Str) ∈ bltNames := by decide +kernel
section
variable {T : Tab} {G : Nat → List D → Option Cell} {k : Nat} {N : List Str} {sc so : Scope} {X : Cx} {C : Nat → Option D}
theorem s_enm (ok : XOk T G k N sc so X) {a : CE} {x : Str} {e : Expr} {es : List Expr} {kk : Nat} {p pos tpos : Pos} (hg : glbB sc x = true) (hx : x = ("enumerate" : Str)) (he : plainE e = true) (ha : PE X e (tE X.K G C a)) :
    PI X (.Tuple es kk tpos) (.Call (.Name x p) [e] [] pos) (tI X.K G C (.enm a)) := by
  refine ⟨fun pins s σ H R I hw => ?_⟩
  obtain ⟨F, env, ds, sh, ev, q⟩ := hw
  have gl := ok.gl hg
  have hm : X.mg x = none := ok.lib.blt x (by rw [hx]; exact mem_enu)
  have hv : bootBuiltins x = some (.type "enumerate") := by rw [hx]; exact boot_enu
  have hn : x ≠ "__name__" := by rw [hx]; exact nm_enu
  obtain ⟨d, hd, e2⟩ : ∃ d, getD (evalE G C env a) = some d ∧ enmD d = some ds := by
    simp only [evalE] at ev
    cases h : getD (evalE G C env a) with
    | none => rw [h] at ev; cases ev
    | some d =>
      rw [h] at ev
      cases h2 : enmD d with
      | none => simp [h2, getD] at ev
      | some ys => simp [h2, getD, Cell.d?, itemsOf] at ev; subst ev; exact ⟨d, rfl, h2⟩
  obtain ⟨xs, e3, e4⟩ : ∃ xs, itemsOf d = some xs ∧ ds = enmFrom 0 xs := by
    unfold enmD at e2
    cases h : itemsOf d with
    | none => rw [h] at e2; cases e2
    | some xs => rw [h] at e2; cases e2; exact ⟨xs, rfl, rfl⟩
  subst e4
  refine Call_ (ld_blt I gl hm hv (PyProof.Rows.callWith_type1 (args_cons (thn ((pdata ha).run pins s σ H _ I ⟨F, env, d, sh, hd, fun v H' F' p rv => (show (fun v H' => ∃ F', Post F H F' H' ∧ RV X.K F' v d) v H' from ⟨F', p, rv⟩)⟩) fun u s1 ⟨v, H1, I1, r1, F1, p1, rv⟩ => args_nil ?_) (plain_star he _ _)) (plain_star he _ _) rfl) hn (glb_of hg).2)
  obtain ⟨c, vs, hc, hat, hds⟩ := src_of rv e3 r1
  subst hc
  have hat1 : c.at X.K H1 vs := Src.at_mono p1.sub hat
  obtain ⟨o, Hb, B, hb, hit, hoff⟩ := Src.begin I1 hat1
  refine enum_begins1 B hb fun h' hen ho hsz hk => wpAny_pyIter_enum hen ?_
  have I2 : L2.Inv X pins σ H1 { s1 with heap := h' } := I1.kept (t' := s1.toks) hk
  have hlv : vs.length = xs.length := DpAll.length hds
  refine ⟨s1.heap.objs.size + 1, [s1.heap.objs.size + 1, s1.heap.objs.size], fun i h => (∃ old, IsEnum h (s1.heap.objs.size + 1) s1.heap.objs.size ((i : Nat) : Int) old) ∧ c.it s1.heap.objs.size i h,
    Itn vs.length (fun H => c.at X.K H vs) (fun i ys => ∃ y, vs[i]? = some y ∧ ys = [.int (i : Nat), y]), H1, rfl, I2, ?_, ⟨⟨.none, hen⟩, hit _ _ ho⟩, fun b hb => ?_, q _ H1 F1 p1 ?_ (by rw [enmFrom_len]; exact src_len I1 p1.sub rv e3)⟩
  · refine turn_new (by simp) (fun i h st b hb => ?_) (fun i h h' st kp => ?_) (fun A i s Q E st h => ?_) fun X' hP hw hK hh i pins' s' σ' H' I' st hG => ?_
    · obtain ⟨⟨old, st1⟩, st2⟩ := st
      simp only [List.mem_cons, List.not_mem_nil, or_false] at hb
      rcases hb with rfl | rfl
      · exact ⟨_, st1, fun v q => nomatch q⟩
      · exact Src.there (c := c) st2
    · obtain ⟨⟨old, st1⟩, st2⟩ := st
      exact ⟨⟨old, kp _ (by simp) _ st1⟩, Src.keep (c := c) st2 fun o e => kp _ (by simp) o e⟩
    · obtain ⟨⟨old, st1⟩, st2⟩ := st
      exact wpAny_pyIter_enum st1 h
    · obtain ⟨⟨old, st1⟩, st2⟩ := st
      have hG : c.at X'.K H' vs := by rw [hK]; exact hG
      obtain ⟨P, St, D, d1, d2, d3⟩ := Src.draw I' (A := X'.A.in1) hh hG (hoff _ (Nat.le_refl _)) st2
      have hne : s1.heap.objs.size + 1 ≠ s1.heap.objs.size := Nat.succ_ne_self _
      have W := GoesN.enumFrom (elts := es) (x1 := kk) (pos := tpos) 0 D (s1.heap.objs.size + 1) hne (Src.not_mem hne (hoff _ (Nat.le_succ _))) (Src.mem _ _)
      rw [hP, hw] at W
      refine ⟨_, _, _, _, W, ⟨⟨old, by rw [Int.zero_add]; exact st1⟩, d1⟩, fun b hb => by simpa using hb, fun j h ⟨⟨o2, q1⟩, q2⟩ => ⟨⟨o2, by rw [Int.zero_add] at q1; exact q1⟩, d2 j h q2⟩, fun v h hi ⟨T, t, z, e1, e2, e3, e4⟩ => ?_⟩
      obtain ⟨y, h1, h2⟩ := d3 i z e3
      exact ⟨T, [.int (i : Nat), y], [.int (0 + (i : Int)) t, z], e1, e2, .cons ⟨t, by rw [Int.zero_add]⟩ (.cons h2 .nil), by show 2 ≤ sizeLine; decide, e4, y, h1, rfl⟩
  · simp only [List.mem_cons, List.not_mem_nil, or_false] at hb
    have hle : s1.heap.objs.size ≤ b := by rcases hb with rfl | rfl; exact Nat.le_succ _; exact Nat.le_refl _
    exact I1.fpOk hle (I1.hok.fresh hle)
  · refine wk_new (by rw [enmFrom_len, hlv]) (fun F' H' s1 s2 => Src.at_mono (s1.trans s2) hat) fun i ys d' hd' hf => ?_
    obtain ⟨y, h1, rfl⟩ := hf
    obtain ⟨z, h2, rfl⟩ := enmFrom_get xs 0 i d' hd'
    obtain ⟨w, h3, h4⟩ := DpAll.get hds h2
    rw [h1] at h3; cases h3
    exact ⟨_, rfl, .cons (by rw [Nat.zero_add]; exact .int _) (.cons h4 .nil)⟩

theorem args2 {es : List Expr} {as : CE} {σ : L2.St} {H F : Hp} {env : List Cell} {ds : List D} (sh : ShOk X.K F H σ env) (h : getL (evalE G C env as) = some ds) : tA X.K G C as σ H (fun vs H' => ∃ F', Post F H F' H' ∧ RVs X.K F' vs ds) :=
  ⟨F, env, ds, sh, h, fun vs H' F' p rv => ⟨F', p, rv⟩⟩
theorem s_zip (ok : XOk T G k N sc so X) {as : CE} {x : Str} {e : Expr} {es : List Expr} {ts : List Expr} {kk : Nat} {p pos tpos : Pos} (hg : glbB sc x = true) (hx : x = ("zip" : Str)) (he : plainE e = true) (hpl : (backTo pos (starEach es X.env)).any (·.1) = false) (ha : PA X (e :: es) (tA X.K G C as)) :
    PI X (.Tuple ts kk tpos) (.Call (.Name x p) (e :: es) [] pos) (tI X.K G C (.zip as)) := by
  refine ⟨fun pins s σ H R I hw => ?_⟩
  obtain ⟨F, env, ds, sh, ev, q⟩ := hw
  have gl := ok.gl hg
  have hm : X.mg x = none := ok.lib.blt x (by rw [hx]; exact mem_zp)
  have hv : bootBuiltins x = some (.type "zip") := by rw [hx]; exact boot_zp
  have hn : x ≠ "__name__" := by rw [hx]; exact nm_zp
  obtain ⟨ls, hd, e2⟩ : ∃ ls, getL (evalE G C env as) = some ls ∧ zipD ls = some ds := by
    simp only [evalE] at ev
    cases h : getL (evalE G C env as) with
    | none => rw [h] at ev; cases ev
    | some d =>
      rw [h] at ev
      cases h2 : zipD d with
      | none => simp [h2, getD] at ev
      | some ys => simp [h2, getD, Cell.d?, itemsOf] at ev; subst ev; exact ⟨d, rfl, h2⟩
  refine Call_ (ld_blt I gl hm hv (PyProof.Rows.callWith_type1 (thn (ha.run pos pins s σ H _ I (args2 (es := es) sh hd)) fun us s1 ⟨vs, H1, I1, r1, F1, p1, rvs⟩ => ?_) (plain_star he _ _) hpl) hn (glb_of hg).2)
  match ls, e2, rvs with
  | [d1, d2], e2, rvs =>
    have e2 : (match itemsOf d1, itemsOf d2 with
      | some xs, some ys => some (zip2 xs ys)
      | _, _ => none) = some ds := e2
    cases hi1 : itemsOf d1 with
    | none => rw [hi1] at e2; cases e2
    | some xs =>
    cases hi2 : itemsOf d2 with
    | none => rw [hi1, hi2] at e2; cases e2
    | some ys =>
    rw [hi1, hi2] at e2; cases e2
    obtain ⟨v1, v2, rfl, rv1, rv2⟩ := rvs2 rvs
    obtain ⟨u1, u2, rfl, ru1, ru2⟩ := vals2 r1
    obtain ⟨c1, vs1, rfl, at1, dp1⟩ := src_of rv1 hi1 ru1
    obtain ⟨c2, vs2, rfl, at2, dp2⟩ := src_of rv2 hi2 ru2
    obtain ⟨o1, Hb1, B1, hb1, it1, off1⟩ := Src.begin I1 (Src.at_mono p1.sub at1)
    obtain ⟨o2, Hb2, B2, hb2, it2, off2⟩ := Src.begin I1 (Src.at_mono p1.sub at2)
    refine zip_begins2 B1 B2 hb1 hb2 fun h' hz hTI hTO g1 g2 hsz hk => wpAny_pyIter_zip hz ?_
    have I2 : L2.Inv X pins σ H1 { s1 with heap := h' } := I1.kept (t' := s1.toks) hk
    generalize hn0 : s1.heap.objs.size = n0 at *
    have l1 : vs1.length = xs.length := DpAll.length dp1
    have l2 : vs2.length = ys.length := DpAll.length dp2
    refine ⟨n0 + 4, [n0 + 4, n0 + 2, n0 + 3, n0, n0 + 1], fun i h => IsZip h (n0 + 4) (n0 + 2) (n0 + 3) .none ∧ IsTupOf2 h (n0 + 2) (.ref n0) (.ref (n0 + 1)) ∧ (∃ a1 a2, IsTupOf2 h (n0 + 3) a1 a2) ∧ c1.it n0 i h ∧ c2.it (n0 + 1) i h,
      Itn (min vs1.length vs2.length) (fun H => c1.at X.K H vs1 ∧ c2.at X.K H vs2) (fun i zs => ∃ y1 y2, vs1[i]? = some y1 ∧ vs2[i]? = some y2 ∧ zs = [y1, y2]), H1, rfl, I2, ?_, ⟨hz, hTI, ⟨_, _, hTO⟩, it1 _ _ g1, it2 _ _ g2⟩, fun b hb => ?_, q _ H1 F1 p1 ?_ (by rw [zip2_len]; exact Nat.le_trans (Nat.min_le_left _ _) (src_len I1 p1.sub rv1 hi1))⟩
    · refine turn_new (by simp) (fun i h st b hb => ?_) (fun i h h' st kp => ?_) (fun A i s Q E st h => wpAny_pyIter_zip st.1 h) fun X' hP hw hK hh i pins' s' σ' H' I' st hG => ?_
      · obtain ⟨z1, z2, ⟨a1, a2, z3⟩, z4, z5⟩ := st
        simp only [List.mem_cons, List.not_mem_nil, or_false] at hb
        rcases hb with rfl | rfl | rfl | rfl | rfl
        · exact ⟨_, z1, fun v q => nomatch q⟩
        · exact ⟨_, z2, fun v q => nomatch q⟩
        · exact ⟨_, z3, fun v q => nomatch q⟩
        · exact Src.there (c := c1) z4
        · exact Src.there (c := c2) z5
      · obtain ⟨z1, z2, ⟨a1, a2, z3⟩, z4, z5⟩ := st
        exact ⟨kp _ (by simp) _ z1, kp _ (by simp) _ z2, ⟨a1, a2, kp _ (by simp) _ z3⟩, Src.keep (c := c1) z4 fun o e => kp _ (by simp) o e, Src.keep (c := c2) z5 fun o e => kp _ (by simp) o e⟩
      · obtain ⟨z1, z2, ⟨a1, a2, z3⟩, z4, z5⟩ := st
        obtain ⟨hG1, hG2⟩ : c1.at X'.K H' vs1 ∧ c2.at X'.K H' vs2 := by rw [hK]; exact hG
        obtain ⟨P1, St1, D1, d11, d12, d13⟩ := Src.draw I' (A := X'.A.in1) hh hG1 (off1 _ (Nat.le_refl _)) z4
        obtain ⟨P2, St2, D2, d21, d22, d23⟩ := Src.draw I' (A := X'.A.in1) hh hG2 (off2 _ (Nat.le_succ _)) z5
        have n40 : n0 + 4 ≠ n0 := by omega
        have n41 : n0 + 4 ≠ n0 + 1 := by omega
        have n30 : n0 + 3 ≠ n0 := by omega
        have n31 : n0 + 3 ≠ n0 + 1 := by omega
        have n20 : n0 + 2 ≠ n0 := by omega
        have n21 : n0 + 2 ≠ n0 + 1 := by omega
        have n10 : n0 + 1 ≠ n0 := by omega
        have n24 : n0 + 2 ≠ n0 + 4 := by omega
        have n34 : n0 + 3 ≠ n0 + 4 := by omega
        have n23 : n0 + 2 ≠ n0 + 3 := by omega
        have S : ZipSep2 (n0 + 4) (n0 + 2) (n0 + 3) n0 (n0 + 1) (c1.fp n0) (c2.fp (n0 + 1)) :=
          ⟨n24, n34, n23, n20, Src.mem _ _, Src.not_mem n40 (off1 _ (Nat.le_add_right _ _)), Src.not_mem n30 (off1 _ (Nat.le_add_right _ _)), n21, Src.mem _ _, Src.not_mem n41 (off2 _ (Nat.le_add_right _ _)), Src.not_mem n31 (off2 _ (Nat.le_add_right _ _)),
            Src.not_mem (Ne.symm n10) (off2 _ (Nat.le_refl _)), Src.not_mem n10 (off1 _ (Nat.le_succ _))⟩
        have W := GoesN.zip2 (elts := ts) (x1 := kk) (pos := tpos) S D1 D2
        rw [hP, hw] at W
        refine ⟨_, _, _, _, W, ⟨z1, z2, ⟨a1, a2, z3⟩, d11, d21⟩, fun b hb => ?_, fun j h ⟨q1, q2, q3, q4, q5⟩ => ⟨q1, q2, q3, d12 j h q4, d22 j h q5⟩, fun v h hi ⟨T, w1, w2, e1, e2, e3, e4, e5⟩ => ?_⟩
        · simp only [List.mem_cons, List.not_mem_nil, or_false] at hb ⊢
          rcases hb with rfl | rfl | rfl | rfl <;> simp
        · obtain ⟨y1, h1, h2⟩ := d13 i w1 e3
          obtain ⟨y2, h3, h4⟩ := d23 i w2 e4
          exact ⟨T, [y1, y2], [w1, w2], e1, e2, .cons h2 (.cons h4 .nil), by show 2 ≤ sizeLine; decide, e5, y1, y2, h1, h3, rfl⟩
    · simp only [List.mem_cons, List.not_mem_nil, or_false] at hb
      have hle : s1.heap.objs.size ≤ b := by rw [hn0]; rcases hb with rfl | rfl | rfl | rfl | rfl <;> first | exact Nat.le_refl _ | exact Nat.le_add_right _ _
      exact I1.fpOk hle (I1.hok.fresh hle)
    · refine wk_new (by rw [zip2_len, l1, l2]) (fun F' H' s1 s2 => ⟨Src.at_mono (s1.trans s2) at1, Src.at_mono (s1.trans s2) at2⟩) fun i zs d' hd' hf => ?_
      obtain ⟨y1, y2, h1, h2, rfl⟩ := hf
      obtain ⟨a, b, h3, h4, rfl⟩ := zip2_get xs ys i d' hd'
      obtain ⟨w, h5, h6⟩ := DpAll.get dp1 h3
      obtain ⟨w2, h7, h8⟩ := DpAll.get dp2 h4
      rw [h1] at h5; cases h5
      rw [h2] at h7; cases h7
      exact ⟨_, rfl, .cons h6 (.cons h8 .nil)⟩
  | [d1, d2, d3], e2, rvs =>
    have e2 : (match itemsOf d1, itemsOf d2, itemsOf d3 with
      | some xs, some ys, some zs => some (zip3 xs ys zs)
      | _, _, _ => none) = some ds := e2
    cases hi1 : itemsOf d1 with
    | none => rw [hi1] at e2; cases e2
    | some xs =>
    cases hi2 : itemsOf d2 with
    | none => rw [hi1, hi2] at e2; cases e2
    | some ys =>
    cases hi3 : itemsOf d3 with
    | none => rw [hi1, hi2, hi3] at e2; cases e2
    | some zs =>
    rw [hi1, hi2, hi3] at e2; cases e2
    obtain ⟨v1, v2, v3, rfl, rv1, rv2, rv3⟩ := rvs3 rvs
    obtain ⟨u1, u2, u3, rfl, ru1, ru2, ru3⟩ : ∃ u1 u2 u3, us = [u1, u2, u3] ∧ L2.RelV v1 u1 ∧ L2.RelV v2 u2 ∧ L2.RelV v3 u3 := by
      cases r1 with
      | cons q1 r1 => obtain ⟨u2, u3, rfl, q2, q3⟩ := vals2 r1; exact ⟨_, u2, u3, rfl, q1, q2, q3⟩
    obtain ⟨c1, vs1, rfl, at1, dp1⟩ := src_of rv1 hi1 ru1
    obtain ⟨c2, vs2, rfl, at2, dp2⟩ := src_of rv2 hi2 ru2
    obtain ⟨c3, vs3, rfl, at3, dp3⟩ := src_of rv3 hi3 ru3
    obtain ⟨o1, Hb1, B1, hb1, it1, off1⟩ := Src.begin I1 (Src.at_mono p1.sub at1)
    obtain ⟨o2, Hb2, B2, hb2, it2, off2⟩ := Src.begin I1 (Src.at_mono p1.sub at2)
    obtain ⟨o3, Hb3, B3, hb3, it3, off3⟩ := Src.begin I1 (Src.at_mono p1.sub at3)
    refine zip_begins3 B1 B2 B3 hb1 hb2 hb3 fun h' hz hTI hTO g1 g2 g3 hsz hk => wpAny_pyIter_zip hz ?_
    have I2 : L2.Inv X pins σ H1 { s1 with heap := h' } := I1.kept (t' := s1.toks) hk
    generalize hn0 : s1.heap.objs.size = n0 at *
    have l1 : vs1.length = xs.length := DpAll.length dp1
    have l2 : vs2.length = ys.length := DpAll.length dp2
    have l3 : vs3.length = zs.length := DpAll.length dp3
    refine ⟨n0 + 5, [n0 + 5, n0 + 3, n0 + 4, n0, n0 + 1, n0 + 2], fun i h => IsZip h (n0 + 5) (n0 + 3) (n0 + 4) .none ∧ IsTupOf3 h (n0 + 3) (.ref n0) (.ref (n0 + 1)) (.ref (n0 + 2)) ∧ (∃ a1 a2 a3, IsTupOf3 h (n0 + 4) a1 a2 a3) ∧ c1.it n0 i h ∧ c2.it (n0 + 1) i h ∧ c3.it (n0 + 2) i h,
      Itn (min (min vs1.length vs2.length) vs3.length) (fun H => c1.at X.K H vs1 ∧ c2.at X.K H vs2 ∧ c3.at X.K H vs3) (fun i zs => ∃ y1 y2 y3, vs1[i]? = some y1 ∧ vs2[i]? = some y2 ∧ vs3[i]? = some y3 ∧ zs = [y1, y2, y3]), H1, rfl, I2, ?_, ⟨hz, hTI, ⟨_, _, _, hTO⟩, it1 _ _ g1, it2 _ _ g2, it3 _ _ g3⟩, fun b hb => ?_, q _ H1 F1 p1 ?_ (by rw [zip3_len]; exact Nat.le_trans (Nat.min_le_left _ _) (Nat.le_trans (Nat.min_le_left _ _) (src_len I1 p1.sub rv1 hi1)))⟩
    · refine turn_new (by simp) (fun i h st b hb => ?_) (fun i h h' st kp => ?_) (fun A i s Q E st h => wpAny_pyIter_zip st.1 h) fun X' hP hw hK hh i pins' s' σ' H' I' st hG => ?_
      · obtain ⟨z1, z2, ⟨a1, a2, a3, z3⟩, z4, z5, z6⟩ := st
        simp only [List.mem_cons, List.not_mem_nil, or_false] at hb
        rcases hb with rfl | rfl | rfl | rfl | rfl | rfl
        · exact ⟨_, z1, fun v q => nomatch q⟩
        · exact ⟨_, z2, fun v q => nomatch q⟩
        · exact ⟨_, z3, fun v q => nomatch q⟩
        · exact Src.there (c := c1) z4
        · exact Src.there (c := c2) z5
        · exact Src.there (c := c3) z6
      · obtain ⟨z1, z2, ⟨a1, a2, a3, z3⟩, z4, z5, z6⟩ := st
        exact ⟨kp _ (by simp) _ z1, kp _ (by simp) _ z2, ⟨a1, a2, a3, kp _ (by simp) _ z3⟩, Src.keep (c := c1) z4 fun o e => kp _ (by simp) o e, Src.keep (c := c2) z5 fun o e => kp _ (by simp) o e, Src.keep (c := c3) z6 fun o e => kp _ (by simp) o e⟩
      · obtain ⟨z1, z2, ⟨a1, a2, a3, z3⟩, z4, z5, z6⟩ := st
        obtain ⟨hG1, hG2, hG3⟩ : c1.at X'.K H' vs1 ∧ c2.at X'.K H' vs2 ∧ c3.at X'.K H' vs3 := by rw [hK]; exact hG
        obtain ⟨P1, St1, D1, d11, d12, d13⟩ := Src.draw I' (A := X'.A.in1) hh hG1 (off1 _ (Nat.le_refl _)) z4
        obtain ⟨P2, St2, D2, d21, d22, d23⟩ := Src.draw I' (A := X'.A.in1) hh hG2 (off2 _ (Nat.le_succ _)) z5
        obtain ⟨P3, St3, D3, d31, d32, d33⟩ := Src.draw I' (A := X'.A.in1) hh hG3 (off3 _ (Nat.le_add_right _ _)) z6
        have ne : ∀ {a b : Nat}, a ≠ b → n0 + a ≠ n0 + b := fun h q => h (Nat.add_left_cancel q)
        have ne0 : ∀ {a : Nat}, a ≠ 0 → n0 + a ≠ n0 := fun h q => h (by omega)
        have off1' := fun a => off1 (n0 + a) (Nat.le_add_right _ _)
        have off2' := fun a => off2 (n0 + a) (Nat.le_add_right _ _)
        have off3' := fun a => off3 (n0 + a) (Nat.le_add_right _ _)
        have S : ZipSep3 (n0 + 5) (n0 + 3) (n0 + 4) n0 (n0 + 1) (n0 + 2) (c1.fp n0) (c2.fp (n0 + 1)) (c3.fp (n0 + 2)) := by
          constructor <;> first
            | exact Src.mem _ _
            | exact ne (by decide)
            | exact ne0 (by decide)
            | exact Src.not_mem (ne (by decide)) (off1' _)
            | exact Src.not_mem (ne (by decide)) (off2' _)
            | exact Src.not_mem (ne (by decide)) (off3' _)
            | exact Src.not_mem (ne0 (by decide)) (off1' _)
            | exact Src.not_mem (Ne.symm (ne0 (by decide))) (off2 _ (Nat.le_refl _))
            | exact Src.not_mem (Ne.symm (ne0 (by decide))) (off3 _ (Nat.le_refl _))
        have W := GoesN.zip3 (elts := ts) (x1 := kk) (pos := tpos) S D1 D2 D3
        rw [hP, hw] at W
        refine ⟨_, _, _, _, W, ⟨z1, z2, ⟨a1, a2, a3, z3⟩, d11, d21, d31⟩, fun b hb => ?_, fun j h ⟨q1, q2, q3, q4, q5, q6⟩ => ⟨q1, q2, q3, d12 j h q4, d22 j h q5, d32 j h q6⟩, fun v h hi ⟨T, w1, w2, w3, e1, e2, e3, e4, e5, e6⟩ => ?_⟩
        · simp only [List.mem_cons, List.not_mem_nil, or_false] at hb ⊢
          rcases hb with rfl | rfl | rfl | rfl | rfl <;> simp
        · obtain ⟨y1, h1, h2⟩ := d13 i w1 e3
          obtain ⟨y2, h3, h4⟩ := d23 i w2 e4
          obtain ⟨y3, h5, h6⟩ := d33 i w3 e5
          exact ⟨T, [y1, y2, y3], [w1, w2, w3], e1, e2, .cons h2 (.cons h4 (.cons h6 .nil)), by show 3 ≤ sizeLine; decide, e6, y1, y2, y3, h1, h3, h5, rfl⟩
    · simp only [List.mem_cons, List.not_mem_nil, or_false] at hb
      have hle : s1.heap.objs.size ≤ b := by rw [hn0]; rcases hb with rfl | rfl | rfl | rfl | rfl | rfl <;> first | exact Nat.le_refl _ | exact Nat.le_add_right _ _
      exact I1.fpOk hle (I1.hok.fresh hle)
    · refine wk_new (by rw [zip3_len, l1, l2, l3]) (fun F' H' s1 s2 => ⟨Src.at_mono (s1.trans s2) at1, Src.at_mono (s1.trans s2) at2, Src.at_mono (s1.trans s2) at3⟩) fun i zs d' hd' hf => ?_
      obtain ⟨y1, y2, y3, h1, h2, h2', rfl⟩ := hf
      obtain ⟨a, b, c, h3, h4, h4', rfl⟩ := zip3_get xs ys _ i d' hd'
      obtain ⟨w, h5, h6⟩ := DpAll.get dp1 h3
      obtain ⟨w2, h7, h8⟩ := DpAll.get dp2 h4
      obtain ⟨w3, h9, h10⟩ := DpAll.get dp3 h4'
      rw [h1] at h5; cases h5
      rw [h2] at h7; cases h7
      rw [h2'] at h9; cases h9
      exact ⟨_, rfl, .cons h6 (.cons h8 (.cons h10 .nil))⟩
end
end EV
end

section
set_option Elab.async false
set_option linter.all false
set_option maxRecDepth 100000
set_option maxHeartbeats 2000000
/-! EV, part 14: range, reversed, plain values walked; list comprehensions. -/
namespace EV
open PySem PySem.Spec PyProof.Rows L2
/-- an iterator that gives the items of vs, the heap as it was -/
theorem wk_same {K : PySem.W.Frag} {F : Hp} {J : It} {vs : List V} {ds : List D} (h : DpAll K F vs ds) (go : ∀ F' H, Same F F' → Same F' H → ∀ i, i < vs.length → J.go i H) (stop : ∀ F' H, Same F F' → Same F' H → J.stop vs.length H)
    (yl : ∀ F' H, Same F F' → Same F' H → ∀ i x H', i < vs.length → J.yld i H x H' → H' = H ∧ vs[i]? = some x) : Wk K J F ds := fun F' H s1 s2 => by
  have hl := DpAll.length h
  refine ⟨fun i hi => go F' H s1 s2 i (by omega), by rw [← hl]; exact stop F' H s1 s2, fun i d x H' hd y => ?_⟩
  have hi : i < vs.length := by rw [hl]; exact (List.getElem?_eq_some_iff.mp hd).1
  obtain ⟨rfl, hx⟩ := yl F' H s1 s2 i x H' hi y
  obtain ⟨v, h1, h2⟩ := DpAll.get h hd
  rw [hx] at h1; cases h1
  exact ⟨F', Post.refl s2, .dp (Dp.mono s1 _ _ h2)⟩
theorem signs_dp {K : PySem.W.Frag} {F : Hp} (z : Str) : DpAll K F (signs z) (z.cps.toList.map fun c => PyData.str ⟨#[c]⟩) := by
  unfold signs
  generalize z.cps.toList = l
  induction l with
  | nil => exact .nil
  | cons a l ih => exact .cons (.str _) ih
section
variable {T : Tab} {G : Nat → List D → Option Cell} {k : Nat} {N : List Str} {sc so : Scope} {X : Cx} {C : Nat → Option D}
theorem s_plain {tg e : Expr} {c : CE} (ha : PE X e (tE X.K G C c)) : PI X tg e (tI X.K G C c) := by
  refine PI.by fun σ H R hw => ?_
  obtain ⟨F, env, ds, sh, ev, q⟩ := hw
  cases h : getD (evalE G C env c) with
  | none => rw [h] at ev; cases ev
  | some d =>
    rw [h] at ev
    have ev : itemsOf d = some ds := ev
    cases d <;> first | (cases ev; done) | skip
    · rename_i z _
      have ev : (if z.length ≤ big then some (z.cps.toList.map fun c => PyData.str ⟨#[c]⟩) else none) = some ds := ev
      split at ev
      rotate_left
      · cases ev
      rename_i hl
      cases ev
      refine ⟨_, pi_str (pdata ha), F, env, _, sh, h, fun v H' F' p rv => ⟨z, rv_str rv, q _ H' F' p ?_ (by rw [List.length_map, Array.length_toList]; exact Nat.le_trans hl big_line)⟩⟩
      have hs : (signs z).length = z.cps.size := by unfold signs; rw [List.length_map, Array.length_toList]
      refine wk_same (signs_dp z) (fun _ _ _ _ i hi => by rw [hs] at hi; exact hi) (fun _ _ _ _ => by rw [hs]; exact Nat.le_refl _) fun _ _ _ _ i x H' hi y => ⟨y.1, ?_⟩
      obtain ⟨_, cc, h1, rfl⟩ := y
      unfold signs
      rw [List.getElem?_map, Array.getElem?_toList, h1]
      rfl
    · cases ev
      refine ⟨_, pi_list (plen (pdata ha)), F, env, _, sh, h, fun v H' F' p rv hl => ?_⟩
      obtain ⟨a, vs, rfl, h1, h2⟩ := rv_lst rv
      refine ⟨a, rfl, ⟨vs, SqL.mono p.sub h1⟩, q _ H' F' p ?_ (by rw [← DpAll.length h2]; exact hl a vs rfl (.inl (SqL.mono p.sub h1)))⟩
      refine wk_same h2 (fun F2 H2 s1 s2 i hi => ⟨vs, vs[i], SqL.mono (s1.trans s2) h1, by simp [hi]⟩) (fun F2 H2 s1 s2 => ⟨vs, SqL.mono (s1.trans s2) h1, Nat.le_refl _⟩) fun F2 H2 s1 s2 i x H' hi y => ⟨y.1, y.2 vs (SqL.mono (s1.trans s2) h1)⟩
    · cases ev
      refine ⟨_, pi_tup (plen (pdata ha)), F, env, _, sh, h, fun v H' F' p rv hl => ?_⟩
      obtain ⟨a, vs, rfl, h1, h2⟩ := rv_tup rv
      refine ⟨a, rfl, ⟨vs, SqT.mono p.sub h1⟩, q _ H' F' p ?_ (by rw [← DpAll.length h2]; exact hl a vs rfl (.inr (SqT.mono p.sub h1)))⟩
      refine wk_same h2 (fun F2 H2 s1 s2 i hi => ⟨vs, vs[i], SqT.mono (s1.trans s2) h1, by simp [hi]⟩) (fun F2 H2 s1 s2 => ⟨vs, SqT.mono (s1.trans s2) h1, Nat.le_refl _⟩) fun F2 H2 s1 s2 i x H' hi y => ⟨y.1, y.2 vs (SqT.mono (s1.trans s2) h1)⟩
theorem nm_rev : ("reversed" : Str) ≠ "__name__" := by decide +kernel
theorem s_rev (ok : XOk T G k N sc so X) {a : CE} {tg : Expr} {e : Expr} {p pos : Pos} (hg : glbB sc "reversed" = true) (he : plainE e = true) (ha : PE X e (tE X.K G C a)) :
    PI X tg (.Call (.Name "reversed" p) [e] [] pos) (tI X.K G C (.rev a)) := by
  have hm : X.mg "reversed" = none := ok.lib.blt _ mem_rev
  refine PI.by fun σ H R hw => ⟨_, RT.pi_revA (ok.gl hg) hm (plen (pdata ha)) (plain_star he _ _), ?_⟩
  obtain ⟨F, env, ds, sh, ev, q⟩ := hw
  obtain ⟨d, hd, e2⟩ : ∃ d, getD (evalE G C env a) = some d ∧ revD d = some ds := by
    simp only [evalE] at ev
    cases h : getD (evalE G C env a) with
    | none => rw [h] at ev; cases ev
    | some d =>
      rw [h] at ev
      cases h2 : revD d with
      | none => simp [h2, getD] at ev
      | some ys => simp [h2, getD, Cell.d?, itemsOf] at ev; subst ev; exact ⟨d, rfl, h2⟩
  refine ⟨F, env, d, sh, hd, fun v H' F' p rv hl => ?_⟩
  have hrev : ∀ {vs : List V} {i : Nat}, i < vs.length → vs.reverse[i]? = vs[vs.length - 1 - i]? := fun {vs i} hi => by rw [List.getElem?_reverse hi]
  cases d <;> first | (cases e2; done) | skip
  · cases e2
    obtain ⟨a', vs, rfl, h1, h2⟩ := rv_lst rv
    refine ⟨a', vs, rfl, .inl ⟨SqL.mono p.sub h1, q _ H' F' p ?_ (by rw [List.length_reverse, ← DpAll.length h2]; exact hl a' vs rfl (.inl (SqL.mono p.sub h1)))⟩⟩
    refine wk_same (DpAll.reverse h2) (fun F2 H2 s1 s2 i hi => ?_) (fun F2 H2 s1 s2 => ?_) fun F2 H2 s1 s2 i x H' hi y => ?_
    · rw [List.length_reverse] at hi
      exact ⟨hi, vs, vs[vs.length - 1 - i]'(by omega), SqL.mono (s1.trans s2) h1, by simp [show vs.length - 1 - i < vs.length by omega]⟩
    · rw [List.length_reverse]; exact Nat.le_refl _
    · rw [List.length_reverse] at hi
      refine ⟨y.1, ?_⟩
      rw [hrev hi]
      exact y.2 vs (SqL.mono (s1.trans s2) h1)
  · cases e2
    obtain ⟨a', vs, rfl, h1, h2⟩ := rv_tup rv
    refine ⟨a', vs, rfl, .inr ⟨SqT.mono p.sub h1, q _ H' F' p ?_ (by rw [List.length_reverse, ← DpAll.length h2]; exact hl a' vs rfl (.inr (SqT.mono p.sub h1)))⟩⟩
    refine wk_same (DpAll.reverse h2) (fun F2 H2 s1 s2 i hi => ?_) (fun F2 H2 s1 s2 => ?_) fun F2 H2 s1 s2 i x H' hi y => ?_
    · rw [List.length_reverse] at hi
      exact ⟨hi, vs, vs[vs.length - 1 - i]'(by omega), SqT.mono (s1.trans s2) h1, by simp [show vs.length - 1 - i < vs.length by omega]⟩
    · rw [List.length_reverse]; exact Nat.le_refl _
    · rw [List.length_reverse] at hi
      refine ⟨y.1, ?_⟩
      rw [hrev hi]
      exact y.2 vs (SqT.mono (s1.trans s2) h1)
theorem range_dp {K : PySem.W.Frag} {F : Hp} (f : Nat → Int) : ∀ n : Nat, DpAll K F ((List.range n).map fun i => V.int (f i)) ((List.range n).map fun i => PyData.int (f i)) := fun n => by
  generalize List.range n = l
  induction l with
  | nil => exact .nil
  | cons a l ih => exact .cons (.int _) ih
/-- a range's iterator -/
theorem wk_rng {K : PySem.W.Frag} {F : Hp} {J : It} {n : Nat} {f : Nat → Int} (go : ∀ H i, i < n → J.go i H) (stop : ∀ H, J.stop n H) (yl : ∀ H i x H', J.yld i H x H' → H' = H ∧ x = .int (f i)) :
    Wk K J F ((List.range n).map fun i => PyData.int (f i)) :=
  wk_same (range_dp f n) (fun _ H _ _ i hi => go H i (by simpa using hi)) (fun _ H _ _ => by simpa using stop H) fun _ H _ _ i x H' hi y => by
    obtain ⟨e1, e2⟩ := yl H i x H' y
    have hi : i < n := by simpa using hi
    exact ⟨e1, by rw [e2]; simp [hi]⟩
theorem rng_ok {i : Int} (h : rngOk i = true) : -(2 ^ 60) ≤ i ∧ i < 2 ^ 60 := by
  unfold rngOk at h
  simpa using h
theorem s_rng (ok : XOk T G k N sc so X) {as : CE} {tg : Expr} {es : List Expr} {p pos : Pos} (hg : glbB sc "range" = true) (hes : ∀ e ∈ es, plainE e = true) (ha : PA X es (tA X.K G C as)) (hn : ∀ env ds, getL (evalE G C env as) = some ds → ds.length = es.length) :
    PI X tg (.Call (.Name "range" p) es [] pos) (tI X.K G C (.rng as)) := by
  have hm : X.mg "range" = none := ok.lib.blt _ mem_rng
  refine PI.by fun σ H R hw => ?_
  obtain ⟨F, env, ds, sh, ev, q⟩ := hw
  obtain ⟨ls, hd, e2⟩ : ∃ ls, getL (evalE G C env as) = some ls ∧ rngD ls = some ds := by
    simp only [evalE] at ev
    cases h : getL (evalE G C env as) with
    | none => rw [h] at ev; cases ev
    | some d =>
      rw [h] at ev
      cases h2 : rngD d with
      | none => simp [h2, getD] at ev
      | some ys => simp [h2, getD, Cell.d?, itemsOf] at ev; subst ev; exact ⟨d, rfl, h2⟩
  have hll := hn env ls hd
  match ls, e2, hll with
  | [.int n], e2, hll =>
    obtain ⟨e, rfl⟩ : ∃ e, es = [e] := by match es, hll with | [e], _ => exact ⟨e, rfl⟩
    have e2 : (if rngOk n && decide (n ≤ big) then some ((List.range n.toNat).map fun i => PyData.int (i : Nat)) else none) = some ds := e2
    split at e2
    · rename_i hl
      cases e2
      rw [Bool.and_eq_true, decide_eq_true_eq] at hl
      have h2 := rng_ok hl.1
      refine ⟨_, pi_range1 (ok.gl hg) hm ha (plain_star (hes e (by simp)) _ _), F, env, _, sh, hd, fun vs H' F' p rvs => ?_⟩
      obtain ⟨v, rfl, rv⟩ := rvs1 rvs
      rw [rv_int rv]
      refine ⟨n, rfl, by omega, by omega, q _ H' F' p ?_ (by rw [List.length_map, List.length_range]; exact Nat.le_trans (by omega) big_line)⟩
      exact wk_rng (f := fun i => ((i : Nat) : Int)) (fun _ i hi => hi) (fun _ => Nat.le_refl _) fun H i x H' y => ⟨y.1, by rw [y.2]; simp⟩
    · cases e2
  | [.int a, .int b], e2, hll =>
    obtain ⟨e, f, rfl⟩ : ∃ e f, es = [e, f] := by match es, hll with | [e, f], _ => exact ⟨e, f, rfl⟩
    have e2 : (if rngOk a && rngOk b && decide (b - a ≤ big) then some ((List.range (b - a).toNat).map fun i => PyData.int (a + (i : Nat))) else none) = some ds := e2
    split at e2
    · rename_i hl
      cases e2
      rw [Bool.and_eq_true, Bool.and_eq_true, decide_eq_true_eq] at hl
      have h2 := rng_ok hl.1.1
      have h3 := rng_ok hl.1.2
      refine ⟨_, pi_range2 (ok.gl hg) hm ha (by rw [plain_star (hes e (by simp)), plain_star (hes f (by simp))]; rfl) (plain_star (hes f (by simp)) _ _), F, env, _, sh, hd, fun vs H' F' p rvs => ?_⟩
      obtain ⟨v, w, rfl, rv, rw'⟩ := rvs2 rvs
      rw [rv_int rv, rv_int rw']
      refine ⟨a, b, rfl, ⟨by omega, by omega, by omega, by omega⟩, q _ H' F' p ?_ (by rw [List.length_map, List.length_range]; exact Nat.le_trans (by omega) big_line)⟩
      exact wk_rng (f := fun i => a + ((i : Nat) : Int)) (fun _ i hi => hi) (fun _ => Nat.le_refl _) fun H i x H' y => ⟨y.1, y.2⟩
    · cases e2
  | [.int a, .int b, .int c], e2, hll =>
    obtain ⟨e, f, g, rfl⟩ : ∃ e f g, es = [e, f, g] := by match es, hll with | [e, f, g], _ => exact ⟨e, f, g, rfl⟩
    have e2 : (if rngOk a && rngOk b && decide (c = -1) && decide (a - b ≤ big) then some ((List.range (a - b).toNat).map fun i => PyData.int (a - (i : Nat))) else none) = some ds := e2
    split at e2
    · rename_i hl
      cases e2
      rw [Bool.and_eq_true, Bool.and_eq_true, Bool.and_eq_true, decide_eq_true_eq, decide_eq_true_eq] at hl
      have h2 := rng_ok hl.1.1.1
      have h3 := rng_ok hl.1.1.2
      have h4 : c = -1 := hl.1.2
      subst h4
      have p1 := plain_star (hes e (by simp)) [f, g] X.env
      have p2 := plain_star (hes f (by simp)) [g] X.env
      have p3 := plain_star (hes g (by simp)) [] X.env
      refine ⟨_, pi_range3 (ok.gl hg) hm ha p1 (by rw [p2, p3]; rfl), F, env, _, sh, hd, fun vs H' F' p rvs => ?_⟩
      obtain ⟨v, w, u, rfl, rv, rw', ru⟩ := rvs3 rvs
      rw [rv_int rv, rv_int rw', rv_int ru]
      refine ⟨a, b, -1, (a - b).toNat, rfl, RgC.neg (by omega) (by omega) (by omega) (by omega), q _ H' F' p ?_ (by rw [List.length_map, List.length_range]; exact Nat.le_trans (by omega) big_line)⟩
      exact wk_rng (f := fun i => a - ((i : Nat) : Int)) (fun _ i hi => hi) (fun _ => Nat.le_refl _) fun H i x H' y => ⟨y.1, by rw [y.2]; congr 1; omega⟩
    · cases e2
end
end EV
end

section
set_option Elab.async false
set_option linter.all false
set_option maxRecDepth 100000
set_option maxHeartbeats 2000000
/-! EV, part 15: targets; list comprehensions. -/
namespace EV
open PySem PySem.Spec PyProof.Rows L2

/-! ### targets -/
def gNames : List Nat → TGs
  | [] => gNil
  | i :: r => gCons (gName i) (gNames r)
def gT (K : PySem.W.Frag) : Tgt → TG
  | .nm i => gName i
  | .tp is => gTup K is.length (gNames is)
def setV : List Nat → List V → L2.St → L2.St
  | i :: is, x :: xs, σ => setV is xs (σ.set i (some x))
  | _, _, σ => σ
/-- the slots behind a binding -/
inductive Bnd (K : PySem.W.Frag) (F : Hp) : Tgt → D → L2.St → L2.St → Prop
  | nm {i : Nat} {d : D} {v : V} {σ : L2.St} : RV K F v d → Bnd K F (.nm i) d σ (σ.set i (some v))
  | tp {is : List Nat} {ds : List D} {vs : List V} {σ : L2.St} : DpAll K F vs ds → vs.length = is.length → Bnd K F (.tp is) (.tuple ds) σ (setV is vs σ)
theorem gNames_run {Q : L2.St → Hp → Prop} {H : Hp} : ∀ (is : List Nat) (vs : List V) (σ : L2.St), vs.length = is.length → Q (setV is vs σ) H → gNames is vs σ H Q
  | [], [], σ, _, q => ⟨rfl, q⟩
  | [], _ :: _, _, h, _ => by simp at h
  | _ :: _, [], _, h, _ => by simp at h
  | i :: is, v :: vs, σ, h, q => ⟨v, vs, rfl, gNames_run is vs (σ.set i (some v)) (by simpa using h) q⟩
theorem setAll_len : ∀ {is : List Nat} {ds : List D} {env env' : List Cell}, setAll is ds env = some env' → ds.length = is.length ∧ env'.length = env.length
  | [], [], env, env', h => by cases h; exact ⟨rfl, rfl⟩
  | [], _ :: _, _, _, h => by cases h
  | _ :: _, [], _, _, h => by cases h
  | i :: is, d :: ds, env, env', h => by
    have := setAll_len (is := is) (ds := ds) h
    exact ⟨by simp [this.1], by rw [this.2]; simp⟩
theorem gT_run {K : PySem.W.Frag} {F H : Hp} {tg : Tgt} {v : V} {d : D} {env env' : List Cell} {σ : L2.St} {Q : L2.St → Hp → Prop} (s : Same F H) (r : RV K F v d) (b : bindT tg d env = some env') (q : ∀ σ', Bnd K F tg d σ σ' → Q σ' H) : gT K tg v σ H Q := by
  cases tg with
  | nm i => exact q _ (.nm r)
  | tp is =>
    cases d <;> first | (cases b; done) | skip
    rename_i ds
    obtain ⟨a, vs, rfl, h1, h2⟩ := rv_tup r
    have hl : vs.length = is.length := by rw [DpAll.length h2]; exact (setAll_len b).1
    exact ⟨a, vs, rfl, SqT.mono s h1, hl, gNames_run is vs σ hl (q _ (.tp h2 hl))⟩
theorem ShOk.set {K : PySem.W.Frag} {F H : Hp} {σ : L2.St} {env : List Cell} (e : ShOk K F H σ env) (i : Nat) {v : V} {d : D} (r : RV K F v d) : ShOk K F H (σ.set i (some v)) (env.set i (.sh d)) := by
  refine ⟨e.same, fun j x hj => ?_, by simp [e.len]⟩
  by_cases h : i = j
  · subst h
    have hl : i < env.length := by
      have := (List.getElem?_eq_some_iff.mp hj).1
      simpa using this
    rw [List.getElem?_set_self hl] at hj
    cases hj
    exact ⟨v, by rw [List.getElem?_set_self (by rw [← e.len]; exact hl)], r⟩
  · rw [List.getElem?_set_ne h] at hj
    obtain ⟨w, h1, h2⟩ := e.sh j x hj
    exact ⟨w, by rw [List.getElem?_set_ne h]; exact h1, h2⟩
theorem ShOk.sets {K : PySem.W.Frag} {F H : Hp} : ∀ {is : List Nat} {ds : List D} {vs : List V} {σ : L2.St} {env env' : List Cell}, ShOk K F H σ env → DpAll K F vs ds → setAll is ds env = some env' → ShOk K F H (setV is vs σ) env'
  | [], [], vs, σ, env, env', e, h, b => by cases b; cases h; exact e
  | [], _ :: _, _, _, _, _, _, _, b => by cases b
  | _ :: _, [], _, _, _, _, _, _, b => by cases b
  | i :: is, d :: ds, vs, σ, env, env', e, h, b => by
    cases h with
    | cons h1 h2 => exact ShOk.sets (is := is) (ds := ds) (e.set i (.dp h1)) h2 b
theorem ShOk.bind {K : PySem.W.Frag} {F H : Hp} {tg : Tgt} {d : D} {σ σ' : L2.St} {env env' : List Cell} (e : ShOk K F H σ env) (b : bindT tg d env = some env') (h : Bnd K F tg d σ σ') : ShOk K F H σ' env' := by
  cases h with
  | nm r => cases b; exact e.set _ r
  | tp h1 h2 => exact e.sets h1 b
theorem wipe_get (σ : L2.St) (j : Nat) : ∀ vs : List Nat, (wipe σ vs)[j]? = if j ∈ vs then (if j < σ.length then some none else none) else σ[j]?
  | [] => by simp [wipe]
  | v :: vs => by
    unfold wipe
    rw [List.getElem?_set, wipe_length, wipe_get σ j vs]
    by_cases h : v = j
    · subst h; simp
    · rw [if_neg h]
      by_cases h2 : j ∈ vs
      · simp [h2]
      · have : ¬ j ∈ v :: vs := by simp; exact ⟨Ne.symm h, h2⟩
        simp [h2, this]
theorem wipe_set {σ : L2.St} {i : Nat} {x : Option V} {vs : List Nat} (h : i ∈ vs) : wipe (σ.set i x) vs = wipe σ vs := by
  apply List.ext_getElem?
  intro j
  rw [wipe_get, wipe_get, List.length_set]
  by_cases h2 : j ∈ vs
  · simp [h2]
  · simp only [h2, if_false]
    rw [List.getElem?_set_ne]
    intro q; subst q; exact h2 h
theorem wipe_setV {ws : List Nat} : ∀ {is : List Nat} {vs : List V} {σ : L2.St}, (∀ i ∈ is, i ∈ ws) → wipe (setV is vs σ) ws = wipe σ ws
  | [], _, _, _ => by simp [setV]
  | _ :: _, [], _, _ => by simp [setV]
  | i :: is, v :: vs, σ, h => by
    show wipe (setV is vs (σ.set i (some v))) ws = _
    rw [wipe_setV (fun j hj => h j (List.mem_cons_of_mem _ hj)), wipe_set (h i (List.mem_cons_self))]
def Tgt.slots : Tgt → List Nat
  | .nm i => [i]
  | .tp is => is
theorem wipe_bnd {K : PySem.W.Frag} {F : Hp} {tg : Tgt} {d : D} {σ σ' : L2.St} {ws : List Nat} (h : Bnd K F tg d σ σ') (hs : ∀ i ∈ tg.slots, i ∈ ws) : wipe σ' ws = wipe σ ws := by
  cases h with
  | nm r => exact wipe_set (hs _ (by simp [Tgt.slots]))
  | tp h1 h2 => exact wipe_setV hs
theorem wipe_wipe {σ : L2.St} {ws : List Nat} : wipe (wipe σ ws) ws = wipe σ ws := by
  apply List.ext_getElem?
  intro j
  rw [wipe_get, wipe_get, wipe_length]
  by_cases h : j ∈ ws
  · simp [h]
  · simp [h]
theorem hide_len : ∀ (ws : List Nat) (env : List Cell), (hide ws env).length = env.length
  | [], _ => rfl
  | w :: ws, env => by simp [hide, hide_len ws env]
theorem ShOk.hide {K : PySem.W.Frag} {F H : Hp} {σ : L2.St} {env : List Cell} (e : ShOk K F H σ env) : ∀ ws : List Nat, ShOk K F H (wipe σ ws) (EV.hide ws env)
  | [] => e
  | w :: ws => by
    have ih := ShOk.hide e ws
    refine ⟨e.same, fun j x hj => ?_, by rw [hide_len, wipe_length]; exact e.len⟩
    have hj : ((EV.hide ws env).set w Cell.no)[j]? = some (Cell.sh x) := hj
    by_cases h : w = j
    · subst h
      rw [List.getElem?_set_self'] at hj
      cases q : (EV.hide ws env)[w]? with
      | none => rw [q] at hj; cases hj
      | some c => rw [q] at hj; cases hj
    · rw [List.getElem?_set_ne h] at hj
      obtain ⟨v, h1, h2⟩ := ih.sh j x hj
      exact ⟨v, by show ((wipe σ ws).set w none)[j]? = _; rw [List.getElem?_set_ne h]; exact h1, h2⟩
section
variable {T : Tab} {G : Nat → List D → Option Cell} {k : Nat} {N : List Str} {sc so : Scope} {X : Cx} {C : Nat → Option D}
theorem loc_of {i : Nat} {x : Str} (h : locB N so i x = true) : N[i]? = some x ∧ L2.Loc so x := by
  unfold locB lkIs at h
  simp only [Bool.and_eq_true, Bool.or_eq_true, decide_eq_true_eq] at h
  exact ⟨h.1, h.2⟩
theorem g_name (ok : XOk T G k N sc so X) {i : Nat} {x : Str} {pos : Pos} (h : locB N so i x = true) : PG X (.Name x pos) (gName i) := by
  obtain ⟨h1, h2⟩ := loc_of h
  obtain ⟨h3, h4⟩ := ok.fn x h2
  refine pg_name (by rw [ok.eN]; exact ok.nd) (by rw [ok.eN]; exact h1) (by rw [ok.eS]; exact h3) ?_
  rw [ok.eS]
  exact h4
theorem g_names (ok : XOk T G k N sc so X) : ∀ (is : List Nat) (es : List Expr), is.length = es.length → ((is.zip es).all fun p => match p.2 with
    | .Name x _ => locB N so p.1 x
    | _ => false) = true → PGs X es (gNames is) ∧ (assignEach es X.env).length = is.length ∧ (assignEach es X.env).findIdx? (·.1) = none
  | [], [], _, _ => ⟨pgs_nil, rfl, rfl⟩
  | [], _ :: _, h, _ => by simp at h
  | _ :: _, [], h, _ => by simp at h
  | i :: is, e :: es, h, h2 => by
    simp only [List.zip_cons_cons, List.all_cons, Bool.and_eq_true] at h2
    obtain ⟨h3, h4⟩ := h2
    obtain ⟨a, b, c⟩ := g_names ok is es (by simpa using h) h4
    cases e <;> first | (cases h3; done) | skip
    rename_i x p
    have hh : assignEach (.Name x p :: es) X.env = (false, assign (.Name x p) X.env) :: assignEach es X.env := by first | rfl | (simp only [assignEach]; rfl)
    refine ⟨pgs_cons (g_name ok h3) a (by rw [hh]; rfl), by rw [hh]; simp [b], by rw [hh]; simp [List.findIdx?_cons, c]⟩
theorem g_tgt (ok : XOk T G k N sc so X) {tg : Tgt} {e : Expr} (h : tgB N so tg e = true) : PG X e (gT X.K tg) := by
  cases tg with
  | nm i =>
    cases e <;> first | (cases h; done) | skip
    exact g_name ok h
  | tp is =>
    cases e <;> first | (cases h; done) | skip
    rename_i es kk pos
    have h : (is.length == es.length && (is.zip es).all fun p => match p.2 with
      | .Name x _ => locB N so p.1 x
      | _ => false) = true := h
    rw [Bool.and_eq_true, beq_iff_eq] at h
    obtain ⟨a, b, c⟩ := g_names ok is es h.1 h.2
    exact pg_tup ok.calm a b c

/-! ### list comprehensions -/
/-- one turn of a comprehension, by data -/
def lcF (G : Nat → List D → Option Cell) (C : Nat → Option D) (tg : Tgt) (c e : CE) (env0 : List Cell) (x : D) : Option (Option D) := do
  let env2 ← bindT tg x env0
  match ← (if c.isNil then some true else getB (evalE G C env2 c)) with
  | true => (getD (evalE G C env2 e)).map some
  | false => some none
theorem lc_ev {own : List Nat} {tg : Tgt} {it c e : CE} {env : List Cell} {r : Cell} (h : evalE G C env (.lc own tg it c e) = some r) :
    ∃ xs rs, (getD (evalE G C env it)).bind itemsOf = some xs ∧ r = .ow (.list rs) ∧ lcGo (lcF G C tg c e (EV.hide own env)) xs = some rs := by
  simp only [evalE] at h
  change (do let xs ← (getD (evalE G C env it)).bind itemsOf; let rs ← lcGo (lcF G C tg c e (EV.hide own env)) xs; some (Cell.ow (.list rs))) = some r at h
  cases q1 : (getD (evalE G C env it)).bind itemsOf with
  | none => rw [q1] at h; cases h
  | some xs =>
    rw [q1] at h
    simp only [Option.bind_eq_bind, Option.bind_some] at h
    generalize hg : lcGo _ xs = o at h
    cases o with
    | none => cases h
    | some rs => cases h; exact ⟨xs, rs, rfl, rfl, hg⟩
theorem blk_ok (ok : XOk T G k N sc so X) (scope : Scope) (s : Shared) (H : Hp) (Ca : Addr) (cl : List (Str × Addr)) (fp : List Addr) : XOk T G k N (relS scope sc) scope (X.blk s H scope (compEnvC scope cl Ca X.env) fp) where
  lib := ok.lib
  room := ok.room
  eN := ok.eN
  nd := ok.nd
  eS := by
    show relS scope X.env.scope = _
    rw [ok.eS]
  calm := ok.calm
  xe := rfl
  fn := fun x h => by
    show _ ∧ ((scope.names.lookup x == some .cell) = true ∨ _)
    rcases h with h | h
    · have q := lookup_relS_keep (sc := sc) (k := .local) (by decide) h
      exact ⟨.inl q, .inr q⟩
    · have q := lookup_relS_keep (sc := sc) (k := .cell) (by decide) h
      exact ⟨.inr q, .inl (by rw [h]; rfl)⟩
/-- what the turns left make -/
theorem lcGo_step {f : D → Option (Option D)} {x : D} {xs rs : List D} (h : lcGo f (x :: xs) = some rs) : (f x = some none ∧ lcGo f xs = some rs) ∨ ∃ y r, f x = some (some y) ∧ lcGo f xs = some r ∧ rs = y :: r := by
  unfold lcGo at h
  split at h
  · cases h
  · rename_i e; exact .inl ⟨e, h⟩
  · rename_i y e
    split at h
    · rename_i r e2; cases h; exact .inr ⟨y, r, e, e2, rfl⟩
    · cases h
theorem lcf_ev {tg : Tgt} {c e : CE} {env0 : List Cell} {x : D} {o : Option D} (h : lcF G C tg c e env0 x = some o) : ∃ env2 b, bindT tg x env0 = some env2 ∧ (if c.isNil then some true else getB (evalE G C env2 c)) = some b ∧
      ((b = false ∧ o = none) ∨ (b = true ∧ ∃ y, getD (evalE G C env2 e) = some y ∧ o = some y)) := by
  unfold lcF at h
  cases q1 : bindT tg x env0 with
  | none => rw [q1] at h; cases h
  | some env2 =>
    rw [q1] at h
    simp only [Option.bind_eq_bind, Option.bind_some] at h
    cases q2 : (if c.isNil then some true else getB (evalE G C env2 c)) with
    | none => rw [q2] at h; cases h
    | some b =>
      rw [q2] at h
      simp only [Option.bind_some] at h
      refine ⟨env2, b, rfl, q2, ?_⟩
      cases b with
      | false => cases h; exact .inl ⟨rfl, rfl⟩
      | true =>
        refine .inr ⟨rfl, ?_⟩
        cases q3 : getD (evalE G C env2 e) with
        | none => rw [q3] at h; cases h
        | some y =>
          rw [q3] at h
          cases h
          exact ⟨y, rfl, rfl⟩
theorem Post.at {F H F' H' : Hp} (p : Post F H F' H') {a : Addr} {o : HO} (h : H a = some o) (f : F a = none) : H' a = some o ∧ F' a = none := by
  refine ⟨p.same a o h, ?_⟩
  cases q : F' a with
  | none => rfl
  | some u =>
    rcases p.new a u q with ⟨o', z⟩ | z
    · rw [f] at z; cases z
    · rw [h] at z; cases z
theorem Post.over {F H F' H' : Hp} (p : Post F H F' H') {a : Addr} (n : H a = none) (f : F' a = none) (o : HO) : Post F H F' (upd H' a o) :=
  ⟨fun b u q => by rw [upd_ne (ne_of_none q n)]; exact p.same b u q, p.ext, Same.wrote p.sub f o, p.new⟩
theorem lc_parts (ok : XOk T G k N sc so X) {own : List Nat} {tg : Tgt} {it c e : CE} {elt tg' it' : Expr} {ifs : List Expr} {scope : Scope} {pos : Pos} (hb : blkC N sc scope (ownOf N own) = true) (ht : tgB N scope tg tg' = true) (hp : plainE it' = true) (hs : ∀ i ∈ tg.slots, i ∈ own)
    (hi : PI X tg' it' (tI X.K G C it)) (hc : (c.isNil = true ∧ ifs = []) ∨ (c.isNil = false ∧ ∃ c', ifs = [c'] ∧ ∀ X', XOk T G k N (relS scope sc) scope X' → PT X' c' (tT X'.K G C c)))
    (he : ∀ X', XOk T G k N (relS scope sc) scope X' → PE X' elt (tE X'.K G C e)) : ∃ tt : TT, BlkOk X.N X.env.scope scope (ownOf N own) ∧ (∀ s H Ca cl fp, PG (X.blk s H scope (compEnvC scope cl Ca X.env) fp) tg' (gT X.K tg)) ∧ (∀ s H Ca cl fp, PTs (X.blk s H scope (compEnvC scope cl Ca X.env) fp) ifs tt) ∧
      (∀ s H Ca cl fp, PE (X.blk s H scope (compEnvC scope cl Ca X.env) fp) elt (tD X.K G C e)) ∧ ∀ σ H Q, tE X.K G C (.lc own tg it c e) σ H Q → tLc (tI X.K G C it) (gT X.K tg) tt (tD X.K G C e) ((ownOf N own).map (·.2)) σ H Q := by
  have own2 : (ownOf N own).map (·.2) = own := by
    unfold ownOf
    rw [List.map_map]
    exact List.map_id own
  -- the tests' reading
  have tests : ∃ tt : TT, (∀ s H Ca cl fp, PTs (X.blk s H scope (compEnvC scope cl Ca X.env) fp) ifs tt) ∧ ∀ F env b σ H Q, ShOk X.K F H σ env → (if c.isNil then some true else getB (evalE G C env c)) = some b → (∀ H' F', Post F H F' H' → Q b H') → tt σ H Q := by
    rcases hc with ⟨h1, rfl⟩ | ⟨h1, c', rfl, h2⟩
    · refine ⟨tYes, fun _ _ _ _ _ => pts_nil, fun F env b σ H Q sh e q => ?_⟩
      rw [if_pos h1] at e
      cases e
      exact q H F (Post.refl sh.same)
    · refine ⟨tT X.K G C c, fun s H Ca cl fp => pts_one (h2 _ (blk_ok ok scope s H Ca cl fp)), fun F env b σ H Q sh e q => ?_⟩
      rw [if_neg (by rw [h1]; decide)] at e
      exact ⟨F, env, b, sh, e, q⟩
  obtain ⟨tt, htt, rtt⟩ := tests
  have BK : BlkOk X.N X.env.scope scope (ownOf N own) := by rw [ok.eN, ok.eS]; exact blkOk_by hb
  refine ⟨tt, BK, fun s H Ca cl fp => g_tgt (blk_ok ok scope s H Ca cl fp) ht, fun s H Ca cl fp => htt s H Ca cl fp, fun s H Ca cl fp => pdata (he _ (blk_ok ok scope s H Ca cl fp)), fun σ H Q hw => ?_⟩
  obtain ⟨F, env, r, sh, ev, q⟩ := hw
  obtain ⟨xs, rs, ei, rfl, ego⟩ := lc_ev ev
  rw [own2]
  have fev : ∀ {x : EV.D} {o : Option EV.D}, lcF G C tg c e (EV.hide own env) x = some o → _ := fun {x o} h => lcf_ev h
  generalize lcF G C tg c e (EV.hide own env) = f at ego fev
  refine ⟨F, env, xs, sh, ei, fun J H1 F1 p1 wk hlen D nD => ?_⟩
  have fD : F1 D = none := same_none p1.sub nD
  -- the invariant: what is left to be done makes what is left of rs
  refine ⟨fun i m H' => i + m = xs.length ∧ ∃ F' acc vs r', Post F1 H1 F' H' ∧ F' D = none ∧ H' D = some (.lst vs) ∧ DpAll X.K F' vs acc ∧ acc ++ r' = rs ∧ vs.length ≤ i ∧ lcGo f (xs.drop i) = some r',
    ⟨xs.length, Nat.zero_add _, F1, [], [], rs, Post.grown p1.sub nD _, fD, upd_same, .nil, rfl, Nat.le_refl _, ego⟩, fun i m H' hW => ?_⟩
  obtain ⟨him, F', acc, vs, r', p2, f2, h2, dp2, er, hvl, eg⟩ := hW
  obtain ⟨wgo, wst, wyl⟩ := wk F' H' p2.ext p2.sub
  by_cases hlt : i < xs.length
  · have hx : xs[i]? = some xs[i] := List.getElem?_eq_getElem hlt
    rw [List.drop_eq_getElem_cons hlt] at eg
    refine .inr ⟨wgo i hlt, fun H'' => (i + 1) + (m - 1) = xs.length ∧ ∃ F' acc vs r', Post F1 H1 F' H'' ∧ F' D = none ∧ H'' D = some (.lst vs) ∧ DpAll X.K F' vs acc ∧ acc ++ r' = rs ∧ vs.length ≤ i + 1 ∧ lcGo f (xs.drop (i + 1)) = some r',
      fun H'' h => ⟨m - 1, by omega, h⟩, fun v H3 y => ?_⟩
    obtain ⟨F3, p3, rv⟩ := wyl i _ v H3 hx y
    obtain ⟨h3, f3⟩ := p3.at h2 f2
    have P3 : Post F1 H1 F3 H3 := p2.trans p3
    have mm : (i + 1) + (m - 1) = xs.length := by omega
    -- the turn by data
    have go : ∀ {o : Option EV.D} {env2 : List Cell} {b : Bool}, bindT tg xs[i] (EV.hide own env) = some env2 → (if c.isNil then some true else getB (evalE G C env2 c)) = some b →
        (∀ F4 H4 σ2, Post F1 H1 F4 H4 → F4 D = none → H4 D = some (.lst vs) → DpAll X.K F4 vs acc → ShOk X.K F4 H4 σ2 env2 →
          if b = true then tD X.K G C e σ2 H4 fun y H5 => ∃ as, H5 D = some (.lst as) ∧ as.length < sizeLine ∧ ((i + 1) + (m - 1) = xs.length ∧ ∃ F' acc vs r', Post F1 H1 F' (upd H5 D (.lst (as ++ [y]))) ∧ F' D = none ∧ (upd H5 D (.lst (as ++ [y]))) D = some (.lst vs) ∧ DpAll X.K F' vs acc ∧ acc ++ r' = rs ∧ vs.length ≤ i + 1 ∧ lcGo f (xs.drop (i + 1)) = some r')
          else ((i + 1) + (m - 1) = xs.length ∧ ∃ F' acc vs r', Post F1 H1 F' H4 ∧ F' D = none ∧ H4 D = some (.lst vs) ∧ DpAll X.K F' vs acc ∧ acc ++ r' = rs ∧ vs.length ≤ i + 1 ∧ lcGo f (xs.drop (i + 1)) = some r')) →
        gT X.K tg v (wipe σ own) H3 fun σ2 H2 => wipe σ2 own = wipe σ own ∧ tt σ2 H2 fun b H3 => if b = true then tD X.K G C e σ2 H3 fun y H4 => ∃ acc, H4 D = some (.lst acc) ∧ acc.length < sizeLine ∧ ((i + 1) + (m - 1) = xs.length ∧ ∃ F' acc' vs r', Post F1 H1 F' (upd H4 D (.lst (acc ++ [y]))) ∧ F' D = none ∧ (upd H4 D (.lst (acc ++ [y]))) D = some (.lst vs) ∧ DpAll X.K F' vs acc' ∧ acc' ++ r' = rs ∧ vs.length ≤ i + 1 ∧ lcGo f (xs.drop (i + 1)) = some r')
          else ((i + 1) + (m - 1) = xs.length ∧ ∃ F' acc vs r', Post F1 H1 F' H3 ∧ F' D = none ∧ H3 D = some (.lst vs) ∧ DpAll X.K F' vs acc ∧ acc ++ r' = rs ∧ vs.length ≤ i + 1 ∧ lcGo f (xs.drop (i + 1)) = some r') := fun {o env2 b} e1 e2 fin => by
      refine gT_run p3.sub rv e1 fun σ' bnd => ⟨by rw [wipe_bnd bnd hs, wipe_wipe], ?_⟩
      have sh3 : ShOk X.K F3 H3 σ' env2 := (((sh.post p1).post P3).hide own).bind e1 bnd
      refine rtt F3 env2 b σ' H3 _ sh3 e2 fun H4 F4 p4 => ?_
      obtain ⟨h4, f4⟩ := p4.at h3 f3
      exact fin F4 H4 σ' (P3.trans p4) f4 h4 (DpAll.mono (p3.ext.trans p4.ext) _ _ dp2) (sh3.post p4)
    rcases lcGo_step eg with ⟨e1, e2⟩ | ⟨y, r2, e1, e2, rfl⟩
    · obtain ⟨env2, b, b1, b2, b3⟩ := fev e1
      refine go (o := none) b1 b2 fun F4 H4 σ2 P4 f4 h4 dp4 sh4 => ?_
      rcases b3 with ⟨rfl, _⟩ | ⟨_, y, _, z⟩
      · exact iteF ⟨mm, F4, acc, vs, r', P4, f4, h4, dp4, er, by omega, e2⟩
      · cases z
    · obtain ⟨env2, b, b1, b2, b3⟩ := fev e1
      refine go (o := some y) b1 b2 fun F4 H4 σ2 P4 f4 h4 dp4 sh4 => ?_
      rcases b3 with ⟨_, z⟩ | ⟨rfl, y', hy, z⟩
      · cases z
      · cases z
        refine iteT ⟨F4, env2, y, sh4, hy, fun w H5 F5 p5 rw' => ?_⟩
        obtain ⟨h5, f5⟩ := p5.at h4 f4
        exact ⟨vs, h5, by omega, mm, F5, acc ++ [y], vs ++ [w], r2, (P4.trans p5).over nD f5 _, f5, upd_same, DpAll.append (DpAll.mono p5.ext _ _ dp4) (.cons rw'.get .nil), by rw [← er]; simp, by simp; omega, e2⟩
  · have e : i = xs.length := by omega
    subst e
    rw [List.drop_length] at eg
    cases eg
    rw [List.append_nil] at er
    subst er
    exact .inl ⟨wst, q _ _ _ (p1.trans p2) (.ow (same_none p1.same nD) f2 (.lst h2 dp2))⟩
theorem s_lc (ok : XOk T G k N sc so X) {own : List Nat} {tg : Tgt} {it c e : CE} {elt tg' it' : Expr} {ifs : List Expr} {scope : Scope} {pos : Pos} (hb : blkC N sc scope (ownOf N own) = true) (ht : tgB N scope tg tg' = true) (hp : plainE it' = true) (hs : ∀ i ∈ tg.slots, i ∈ own)
    (hi : PI X tg' it' (tI X.K G C it)) (hc : (c.isNil = true ∧ ifs = []) ∨ (c.isNil = false ∧ ∃ c', ifs = [c'] ∧ ∀ X', XOk T G k N (relS scope sc) scope X' → PT X' c' (tT X'.K G C c)))
    (he : ∀ X', XOk T G k N (relS scope sc) scope X' → PE X' elt (tE X'.K G C e)) : PE X (.ListComp elt [⟨tg', it', ifs, 0⟩] scope pos) (tE X.K G C (.lc own tg it c e)) := by
  obtain ⟨tt, bk, h1, h2, h3, h4⟩ := lc_parts (pos := pos) ok hb ht hp hs hi hc he
  exact PE.by fun pins s σ H Q I hw => ⟨_, pe_lc ok.calm (by rw [ok.eN]; exact ok.nd) hi bk h1 h2 h3 (plain_fold hp X.env), h4 σ H Q hw⟩
/-- name = [..] where the model stores it within the comprehension -/
theorem s_setLc (ok : XOk T G k N sc so X) {own : List Nat} {tg : Tgt} {it c e : CE} {elt tg' it' : Expr} {ifs : List Expr} {scope : Scope} {pos : Pos} (hb : blkC N sc scope (ownOf N own) = true) (ht : tgB N scope tg tg' = true) (hp : plainE it' = true) (hs : ∀ i ∈ tg.slots, i ∈ own)
    (hi : PI X tg' it' (tI X.K G C it)) (hc : (c.isNil = true ∧ ifs = []) ∨ (c.isNil = false ∧ ∃ c', ifs = [c'] ∧ ∀ X', XOk T G k N (relS scope sc) scope X' → PT X' c' (tT X'.K G C c)))
    (he : ∀ X', XOk T G k N (relS scope sc) scope X' → PE X' elt (tE X'.K G C e)) {i : Nat} {y : Str} {py spos : Pos} (hy : N[i]? = some y) (hyl : sc.names.lookup y = some .local)
    (hsw : swapsWith (.ListComp elt [⟨tg', it', ifs, 0⟩] scope pos) (some (.Name y py)) spos.line X.env = pure true) : PS X (.Assign [.Name y py] (.ListComp elt [⟨tg', it', ifs, 0⟩] scope pos) spos) (tAsg (tE X.K G C (.lc own tg it c e)) (gName i)) := by
  obtain ⟨tt, bk, h1, h2, h3, h4⟩ := lc_parts (pos := pos) ok hb ht hp hs hi hc he
  have q := ps_setLc (i := i) ok.calm (by rw [ok.eN]; exact ok.nd) (by rw [ok.eN]; exact hy) (by rw [ok.eS]; exact hyl) hsw hi bk h1 h2 h3 (plain_fold hp X.env)
  exact ⟨fun pins s σ H D I hw => q.run pins s σ H D I (h4 σ H _ hw)⟩
end
end EV
end

section
set_option Elab.async false
set_option linter.all false
set_option maxRecDepth 100000
set_option maxHeartbeats 4000000
/-! EV, part 16: the soundness of expressions. -/
namespace EV
open PySem PySem.Spec PyProof.Rows L2
section
variable {T : Tab} {G : Nat → List D → Option Cell} {k : Nat} {N : List Str} {sc so : Scope} {X : Cx}
theorem mm_len {C : Nat → Option D} : ∀ {c : CE} {sc : Scope} {es : List Expr}, c.isA = true → mm T N c sc es = true → ∀ (env : List Cell) (ds : List D), getL (evalE G C env c) = some ds → ds.length = es.length
  | .nil, sc, es, _, h, env, ds, e => by
    cases es with
    | nil => have := getL_of e; cases this; rfl
    | cons _ _ => cases h
  | .cons a r, sc, es, _, h, env, ds, e => by
    cases es with
    | nil => cases h
    | cons x es =>
      have h : ((a.isE && plainE x && mm T N a sc [x]) && (r.isA && mm T N r sc es)) = true := h
      simp only [Bool.and_eq_true] at h
      obtain ⟨y, ys, e1, e2, rfl⟩ := cons_ev e
      have := mm_len h.2.1 h.2.2 env ys e2
      simp [this]
theorem mm_plains : ∀ {c : CE} {sc : Scope} {es : List Expr}, c.isA = true → mm T N c sc es = true → ∀ e ∈ es, plainE e = true
  | .nil, sc, es, _, h => by
    cases es with
    | nil => intro e he; cases he
    | cons _ _ => cases h
  | .cons a r, sc, es, _, h => by
    cases es with
    | nil => cases h
    | cons x es =>
      have h : ((a.isE && plainE x && mm T N a sc [x]) && (r.isA && mm T N r sc es)) = true := h
      simp only [Bool.and_eq_true] at h
      intro e he
      rcases List.mem_cons.mp he with rfl | he
      · exact h.1.1.2
      · exact mm_plains h.2.1 h.2.2 e he
theorem no_star (pos : Pos) (env : Env) : ∀ {es : List Expr}, (∀ e ∈ es, plainE e = true) → (backTo pos (starEach es env)).any (·.1) = false
  | [], _ => rfl
  | e :: es, h => by
    rw [plain_star (h e (by simp))]
    have ih := no_star pos env (es := es) fun x hx => h x (by simp [hx])
    unfold backTo at ih ⊢
    simpa using ih
/-- what is told of a core expression -/
structure Snd (T : Tab) (G : Nat → List D → Option Cell) (k : Nat) (N : List Str) (c : CE) : Prop where
  pe : ∀ (sc so : Scope) (X : Cx) (e : Expr), XOk T G k N sc so X → c.isE = true → mm T N c sc [e] = true → PE X e (tE X.K G T.C c)
  pt : ∀ (sc so : Scope) (X : Cx) (e : Expr), XOk T G k N sc so X → c.isT = true → mm T N c sc [e] = true → PT X e (tT X.K G T.C c)
  bp : ∀ (sc so : Scope) (X : Cx) (op : BoolOp) (y : Expr) (r : List Expr) (pos : Pos), XOk T G k N sc so X → c.isT = true → plainE y = true → mm T N c sc [tailB op y r pos] = true → BoolP X (.BoolOp op (y :: r) pos) (tE X.K G T.C c) (tT X.K G T.C c)
  pa : ∀ (sc so : Scope) (X : Cx) (es : List Expr), XOk T G k N sc so X → c.isA = true → mm T N c sc es = true → PA X es (tA X.K G T.C c)
  pi : ∀ (sc so : Scope) (X : Cx) (tg e : Expr), XOk T G k N sc so X → c.isI = true → (c.isTup = true → ∃ es kk p, tg = .Tuple es kk p) → mm T N c sc [e] = true → PI X tg e (tI X.K G T.C c)
theorem isT_isE {c : CE} (h : c.isT = true) : c.isE = true := by
  cases c <;> first | rfl | exact h
theorem plain_true {e : Expr} (h : (match e with
    | .UnaryOp .Not _ _ => false
    | .Compare _ _ _ _ => false
    | .BoolOp _ _ _ => false
    | .IfExp _ _ _ _ => false
    | _ => plainE e) = true) (env : Env) : ∀ whole, isTrue e env whole = (do let v ← whole; standAt e.pos; holding [v] (truthy v)) := by
  intro whole
  cases e <;> first | (cases h; done) | rfl | skip
  rename_i op x pos
  cases op <;> first | (cases h; done) | rfl
/-- of a plain expression only the value and the test are to be told -/
theorem Snd.ofPE {c : CE} (hA : c.isA = false) (hI : c.isI = c.isE) (hT : c.isTup = false) (hb : ∀ sc op y r pos, mm T N c sc [.BoolOp op (y :: r) pos] = false)
    (h : ∀ (sc so : Scope) (X : Cx) (e : Expr), XOk T G k N sc so X → c.isE = true → mm T N c sc [e] = true → PE X e (tE X.K G T.C c)) (h' : ∀ (sc so : Scope) (X : Cx) (e : Expr), XOk T G k N sc so X → c.isT = true → mm T N c sc [e] = true → PT X e (tT X.K G T.C c)) : Snd T G k N c where
  pe := h
  pt := h'
  bp := fun sc so X op y r pos ok hE hy hm => by
    cases r with
    | nil =>
      have h1 := h sc so X y ok (isT_isE hE) hm
      have h2 := h' sc so X y ok hE hm
      cases op
      · exact s_and1 h1 h2
      · exact s_or1 h1 h2
    | cons z r =>
      have hm : mm T N c sc [.BoolOp op (y :: z :: r) pos] = true := hm
      rw [hb] at hm; cases hm
  pa := fun sc so X es ok hE hm => by rw [hA] at hE; cases hE
  pi := fun sc so X tg e ok hE _ hm => s_plain (h sc so X e ok (hI ▸ hE) hm)
theorem Snd.ofVal {c : CE} (hA : c.isA = false) (hI : c.isI = c.isE) (hT : c.isTup = false) (hb : ∀ sc op y r pos, mm T N c sc [.BoolOp op (y :: r) pos] = false)
    (hp : ∀ sc e, mm T N c sc [e] = true → (match e with
    | .UnaryOp .Not _ _ => false
    | .Compare _ _ _ _ => false
    | .BoolOp _ _ _ => false
    | .IfExp _ _ _ _ => false
    | _ => plainE e) = true)
    (h : ∀ (sc so : Scope) (X : Cx) (e : Expr), XOk T G k N sc so X → c.isE = true → mm T N c sc [e] = true → PE X e (tE X.K G T.C c)) : Snd T G k N c :=
  Snd.ofPE hA hI hT hb h fun sc so X e ok hE hm => PT.ofVal (h sc so X e ok (isT_isE hE) hm) (plain_true (hp sc e hm) X.env)
/-- what is walked alone -/
theorem Snd.ofPI {c : CE} (hA : c.isA = false) (hE : c.isE = false) (h : ∀ (sc so : Scope) (X : Cx) (tg e : Expr), XOk T G k N sc so X → (c.isTup = true → ∃ es kk p, tg = .Tuple es kk p) → mm T N c sc [e] = true → PI X tg e (tI X.K G T.C c)) : Snd T G k N c where
  pe := fun sc so X e ok q hm => by rw [hE] at q; cases q
  pt := fun sc so X e ok q hm => by rw [isT_isE q] at hE; cases hE
  bp := fun sc so X op y r pos ok q hy hm => by rw [isT_isE q] at hE; cases hE
  pa := fun sc so X es ok q hm => by rw [hA] at q; cases q
  pi := fun sc so X tg e ok _ ht hm => h sc so X tg e ok ht hm
theorem Snd.ofPA {c : CE} (hI : c.isI = false) (hE : c.isE = false) (h : ∀ (sc so : Scope) (X : Cx) (es : List Expr), XOk T G k N sc so X → mm T N c sc es = true → PA X es (tA X.K G T.C c)) : Snd T G k N c where
  pe := fun sc so X e ok q hm => by rw [hE] at q; cases q
  pt := fun sc so X e ok q hm => by rw [isT_isE q] at hE; cases hE
  bp := fun sc so X op y r pos ok q hy hm => by rw [isT_isE q] at hE; cases hE
  pa := fun sc so X es ok q hm => h sc so X es ok hm
  pi := fun sc so X tg e ok q ht hm => by rw [hI] at q; cases q
end
end EV
end

section
set_option Elab.async false
set_option linter.all false
set_option maxRecDepth 100000
set_option maxHeartbeats 8000000
/-! EV, part 17: every core expression that matches a text is sound. -/
namespace EV
open PySem PySem.Spec PyProof.Rows L2
section
variable {T : Tab} {G : Nat → List D → Option Cell} {k : Nat} {N : List Str}
theorem snd_var (i : Nat) : Snd T G k N (.var i) :=
  Snd.ofVal rfl rfl rfl (fun _ _ _ _ _ => rfl) (fun sc e h => by cases e <;> first | rfl | cases h) fun sc so X e ok _ h => by
    cases e <;> first | (cases h; done) | skip
    exact s_var ok h
theorem snd_cst (c : Nat) : Snd T G k N (.cst c) :=
  Snd.ofVal rfl rfl rfl (fun _ _ _ _ _ => rfl) (fun sc e h => by cases e <;> first | rfl | cases h) fun sc so X e ok _ h => by
    cases e <;> first | (cases h; done) | skip
    rename_i x p
    have h : (glbB sc x && (match T.csts[c]? with
      | some (y, _) => decide (x = y)
      | none => false)) = true := h
    rw [Bool.and_eq_true] at h
    obtain ⟨h1, h2⟩ := h
    split at h2
    · rename_i y d q
      rw [decide_eq_true_eq] at h2
      subst h2
      exact s_cst ok h1 q
    · cases h2
theorem snd_int (n : Int) : Snd T G k N (.int n) :=
  Snd.ofVal rfl rfl rfl (fun _ _ _ _ _ => rfl) (fun sc e h => by cases e <;> first | rfl | cases h) fun sc so X e ok _ h => by
    cases e <;> first | (cases h; done) | skip
    rename_i x kk p
    cases x <;> first | (cases h; done) | skip
    rename_i m
    have h : decide (n = m) = true := h
    rw [decide_eq_true_eq] at h
    subst h
    exact s_int
theorem snd_bl (n : Bool) : Snd T G k N (.bl n) :=
  Snd.ofVal rfl rfl rfl (fun _ _ _ _ _ => rfl) (fun sc e h => by cases e <;> first | rfl | cases h) fun sc so X e ok _ h => by
    cases e <;> first | (cases h; done) | skip
    rename_i x kk p
    cases x <;> first | (cases h; done) | skip
    rename_i m
    have h : (n == m) = true := h
    rw [beq_iff_eq] at h
    subst h
    exact s_bl
theorem snd_non : Snd T G k N .non :=
  Snd.ofVal rfl rfl rfl (fun _ _ _ _ _ => rfl) (fun sc e h => by cases e <;> first | rfl | cases h) fun sc so X e ok _ h => by
    cases e <;> first | (cases h; done) | skip
    rename_i x kk p
    cases x <;> first | (cases h; done) | skip
    exact s_non
theorem snd_str (n : Str) : Snd T G k N (.str n) :=
  Snd.ofVal rfl rfl rfl (fun _ _ _ _ _ => rfl) (fun sc e h => by cases e <;> first | rfl | cases h) fun sc so X e ok _ h => by
    cases e <;> first | (cases h; done) | skip
    rename_i x kk p
    cases x <;> first | (cases h; done) | skip
    rename_i m
    have h : decide (n = m) = true := h
    rw [decide_eq_true_eq] at h
    subst h
    exact s_str
theorem and3 {a b c : Bool} (h : (a && b && c) = true) : a = true ∧ b = true ∧ c = true := by
  cases a <;> cases b <;> cases c <;> first | exact ⟨rfl, rfl, rfl⟩ | cases h
theorem snd_bin {o : BOp} {a b : CE} (ha : Snd T G k N a) (hb : Snd T G k N b) : Snd T G k N (.bin o a b) :=
  Snd.ofVal rfl rfl rfl (fun _ _ _ _ _ => rfl) (fun sc e h => by cases e <;> first | rfl | cases h) fun sc so X e ok _ h => by
    cases e <;> first | (cases h; done) | skip
    rename_i x p y pos
    have h : (bopIs o p && (a.isE && plainE x && mm T N a sc [x]) && (b.isE && plainE y && mm T N b sc [y])) = true := h
    obtain ⟨h1, h2, h3⟩ := and3 h
    obtain ⟨a1, a2, a3⟩ := and3 h2
    obtain ⟨b1, b2, b3⟩ := and3 h3
    exact s_bin h1 (ha.pe sc so X x ok a1 a3) (hb.pe sc so X y ok b1 b3)
theorem snd_rep {a b : CE} (ha : Snd T G k N a) (hb : Snd T G k N b) : Snd T G k N (.rep a b) :=
  Snd.ofVal rfl rfl rfl (fun _ _ _ _ _ => rfl) (fun sc e h => by cases e <;> first | rfl | cases h) fun sc so X e ok _ h => by
    cases e <;> first | (cases h; done) | skip
    rename_i x p y pos
    cases p <;> first | (cases h; done) | skip
    have h : ((a.isE && plainE x && mm T N a sc [x]) && (b.isE && plainE y && mm T N b sc [y])) = true := h
    rw [Bool.and_eq_true] at h
    obtain ⟨a1, a2, a3⟩ := and3 h.1
    obtain ⟨b1, b2, b3⟩ := and3 h.2
    exact s_rep (ha.pe sc so X x ok a1 a3) (hb.pe sc so X y ok b1 b3)
theorem snd_neg {a : CE} (ha : Snd T G k N a) : Snd T G k N (.neg a) :=
  Snd.ofVal rfl rfl rfl (fun _ _ _ _ _ => rfl) (fun sc e h => by
    cases e <;> first | rfl | (cases h; done) | skip
    rename_i op x pos
    cases op <;> first | rfl | cases h) fun sc so X e ok _ h => by
    cases e <;> first | (cases h; done) | skip
    rename_i op x pos
    cases op <;> first | (cases h; done) | skip
    obtain ⟨a1, a2, a3⟩ := and3 h
    exact s_neg (ha.pe sc so X x ok a1 a3)
theorem snd_cmp {o : COp} {a b : CE} (ha : Snd T G k N a) (hb : Snd T G k N b) : Snd T G k N (.cmp o a b) := by
  have both : ∀ (sc so : Scope) (X : Cx) (e : Expr), XOk T G k N sc so X → mm T N (.cmp o a b) sc [e] = true → PE X e (tE X.K G T.C (.cmp o a b)) ∧ PT X e (tT X.K G T.C (.cmp o a b)) := fun sc so X e ok h => by
    cases e <;> first | (cases h; done) | skip
    rename_i x ops ys pos
    match ops, ys, h with
    | [p], [y], h =>
      have h : (decide (copOf o = p) && (a.isE && plainE x && mm T N a sc [x]) && (b.isE && plainE y && mm T N b sc [y]) && noneB o y) = true := h
      rw [Bool.and_eq_true] at h
      obtain ⟨h, h4⟩ := h
      obtain ⟨h1, h2, h3⟩ := and3 h
      rw [decide_eq_true_eq] at h1
      subst h1
      obtain ⟨a1, a2, a3⟩ := and3 h2
      obtain ⟨b1, b2, b3⟩ := and3 h3
      exact s_cmp ok b2 h4 (ha.pe sc so X x ok a1 a3) (hb.pe sc so X y ok b1 b3)
    | [], _, h => cases h
    | [_], [], h => cases h
    | [_], _ :: _ :: _, h => cases h
    | _ :: _ :: _, _, h => cases h
  exact Snd.ofPE rfl rfl rfl (fun _ _ _ _ _ => rfl) (fun sc so X e ok _ h => (both sc so X e ok h).1) fun sc so X e ok _ h => (both sc so X e ok h).2
theorem snd_chain {o p : COp} {a b c : CE} (ha : Snd T G k N a) (hb : Snd T G k N b) (hc : Snd T G k N c) : Snd T G k N (.chain o p a b c) := by
  have both : ∀ (sc so : Scope) (X : Cx) (e : Expr), XOk T G k N sc so X → mm T N (.chain o p a b c) sc [e] = true → PE X e (tE X.K G T.C (.chain o p a b c)) ∧ PT X e (tT X.K G T.C (.chain o p a b c)) := fun sc so X e ok h => by
    cases e <;> first | (cases h; done) | skip
    rename_i x ops ys pos
    match ops, ys, h with
    | [o', p'], [y, z], h =>
      have h : (decide (copOf o = o') && decide (copOf p = p') && (a.isE && plainE x && mm T N a sc [x]) && (b.isE && plainE y && mm T N b sc [y]) && (c.isE && plainE z && mm T N c sc [z])) = true := h
      obtain ⟨h, h4, h5⟩ := and3 h
      obtain ⟨h1, h2, h3⟩ := and3 h
      rw [decide_eq_true_eq] at h1 h2
      subst h1 h2
      obtain ⟨a1, a2, a3⟩ := and3 h3
      obtain ⟨b1, b2, b3⟩ := and3 h4
      obtain ⟨c1, c2, c3⟩ := and3 h5
      exact s_chain ok c2 (ha.pe sc so X x ok a1 a3) (hb.pe sc so X y ok b1 b3) (hc.pe sc so X z ok c1 c3)
    | [], _, h => cases h
    | [_], _, h => cases h
    | [_, _], [], h => cases h
    | [_, _], [_], h => cases h
    | [_, _], _ :: _ :: _ :: _, h => cases h
    | _ :: _ :: _ :: _, _, h => cases h
  exact Snd.ofPE rfl rfl rfl (fun _ _ _ _ _ => rfl) (fun sc so X e ok _ h => (both sc so X e ok h).1) fun sc so X e ok _ h => (both sc so X e ok h).2
theorem snd_not {a : CE} (ha : Snd T G k N a) : Snd T G k N (.not_ a) := by
  have both : ∀ (sc so : Scope) (X : Cx) (e : Expr), XOk T G k N sc so X → mm T N (.not_ a) sc [e] = true → PE X e (tE X.K G T.C (.not_ a)) ∧ PT X e (tT X.K G T.C (.not_ a)) := fun sc so X e ok h => by
    cases e <;> first | (cases h; done) | skip
    rename_i op x pos
    cases op <;> first | (cases h; done) | skip
    obtain ⟨a1, a2, a3⟩ := and3 h
    exact s_not (ha.pe sc so X x ok (isT_isE a1) a3) (ha.pt sc so X x ok a1 a3)
  exact Snd.ofPE rfl rfl rfl (fun _ _ _ _ _ => rfl) (fun sc so X e ok _ h => (both sc so X e ok h).1) fun sc so X e ok _ h => (both sc so X e ok h).2
theorem snd_and {a b : CE} (ha : Snd T G k N a) (hb : Snd T G k N b) : Snd T G k N (.and_ a b) := by
  have main : ∀ (sc so : Scope) (X : Cx) (x y : Expr) (r : List Expr) (pos : Pos), XOk T G k N sc so X → mm T N (.and_ a b) sc [.BoolOp .And (x :: y :: r) pos] = true → BoolP X (.BoolOp .And (x :: y :: r) pos) (tE X.K G T.C (.and_ a b)) (tT X.K G T.C (.and_ a b)) := fun sc so X x y r pos ok h => by
    have h : ((a.isT && plainE x && mm T N a sc [x]) && (b.isT && plainE y && mm T N b sc [tailB .And y r pos])) = true := h
    rw [Bool.and_eq_true] at h
    obtain ⟨a1, a2, a3⟩ := and3 h.1
    obtain ⟨b1, b2, b3⟩ := and3 h.2
    exact s_and (ha.pe sc so X x ok (isT_isE a1) a3) (ha.pt sc so X x ok a1 a3) (hb.bp sc so X .And y r pos ok b1 b2 b3)
  have both : ∀ (sc so : Scope) (X : Cx) (e : Expr), XOk T G k N sc so X → mm T N (.and_ a b) sc [e] = true → PE X e (tE X.K G T.C (.and_ a b)) ∧ PT X e (tT X.K G T.C (.and_ a b)) := fun sc so X e ok h => by
    cases e <;> first | (cases h; done) | skip
    rename_i op es pos
    match op, es, h with
    | .And, x :: y :: r, h => have q := main sc so X x y r pos ok h; exact ⟨q.pe, q.pw.pt⟩
    | .And, [], h => cases h
    | .And, [_], h => cases h
    | .Or, _, h => cases h
  exact ⟨fun sc so X e ok _ h => (both sc so X e ok h).1, fun sc so X e ok _ h => (both sc so X e ok h).2, fun sc so X op y r pos ok _ hy h => (by
    cases r with
    | nil =>
      obtain ⟨h1, h2⟩ := both sc so X y ok h
      cases op
      · exact s_and1 h1 h2
      · exact s_or1 h1 h2
    | cons z r =>
      cases op
      · exact main sc so X y z r pos ok h
      · cases h), fun sc so X es ok q h => (by cases q), fun sc so X tg e ok _ _ h => s_plain (both sc so X e ok h).1⟩
theorem snd_or {a b : CE} (ha : Snd T G k N a) (hb : Snd T G k N b) : Snd T G k N (.or_ a b) := by
  have main : ∀ (sc so : Scope) (X : Cx) (x y : Expr) (r : List Expr) (pos : Pos), XOk T G k N sc so X → mm T N (.or_ a b) sc [.BoolOp .Or (x :: y :: r) pos] = true → BoolP X (.BoolOp .Or (x :: y :: r) pos) (tE X.K G T.C (.or_ a b)) (tT X.K G T.C (.or_ a b)) := fun sc so X x y r pos ok h => by
    have h : ((a.isT && plainE x && mm T N a sc [x]) && (b.isT && plainE y && mm T N b sc [tailB .Or y r pos])) = true := h
    rw [Bool.and_eq_true] at h
    obtain ⟨a1, a2, a3⟩ := and3 h.1
    obtain ⟨b1, b2, b3⟩ := and3 h.2
    exact s_or (ha.pe sc so X x ok (isT_isE a1) a3) (ha.pt sc so X x ok a1 a3) (hb.bp sc so X .Or y r pos ok b1 b2 b3)
  have both : ∀ (sc so : Scope) (X : Cx) (e : Expr), XOk T G k N sc so X → mm T N (.or_ a b) sc [e] = true → PE X e (tE X.K G T.C (.or_ a b)) ∧ PT X e (tT X.K G T.C (.or_ a b)) := fun sc so X e ok h => by
    cases e <;> first | (cases h; done) | skip
    rename_i op es pos
    match op, es, h with
    | .Or, x :: y :: r, h => have q := main sc so X x y r pos ok h; exact ⟨q.pe, q.pw.pt⟩
    | .Or, [], h => cases h
    | .Or, [_], h => cases h
    | .And, _, h => cases h
  exact ⟨fun sc so X e ok _ h => (both sc so X e ok h).1, fun sc so X e ok _ h => (both sc so X e ok h).2, fun sc so X op y r pos ok _ hy h => (by
    cases r with
    | nil =>
      obtain ⟨h1, h2⟩ := both sc so X y ok h
      cases op
      · exact s_and1 h1 h2
      · exact s_or1 h1 h2
    | cons z r =>
      cases op
      · cases h
      · exact main sc so X y z r pos ok h), fun sc so X es ok q h => (by cases q), fun sc so X tg e ok _ _ h => s_plain (both sc so X e ok h).1⟩
theorem snd_ite {c a b : CE} (hc : Snd T G k N c) (ha : Snd T G k N a) (hb : Snd T G k N b) : Snd T G k N (.ite c a b) :=
  Snd.ofPE rfl rfl rfl (fun _ _ _ _ _ => rfl) (fun sc so X e ok _ h => by
    cases e <;> first | (cases h; done) | skip
    rename_i t x y pos
    obtain ⟨h1, h2, h3⟩ := and3 h
    obtain ⟨a1, a2, a3⟩ := and3 h1
    obtain ⟨b1, b2, b3⟩ := and3 h2
    obtain ⟨c1, c2, c3⟩ := and3 h3
    exact s_ite (hc.pt sc so X t ok a1 a3) (ha.pe sc so X x ok b1 b3) (hb.pe sc so X y ok c1 c3)) fun sc so X e ok q h => by cases q
theorem snd_nil : Snd T G k N .nil := Snd.ofPA rfl rfl fun sc so X es ok h => by
  cases es with
  | nil => exact s_nil
  | cons _ _ => cases h
theorem snd_cons {a r : CE} (ha : Snd T G k N a) (hr : Snd T G k N r) : Snd T G k N (.cons a r) := Snd.ofPA rfl rfl fun sc so X es ok h => by
  cases es with
  | nil => cases h
  | cons e es =>
    have h : ((a.isE && plainE e && mm T N a sc [e]) && (r.isA && mm T N r sc es)) = true := h
    simp only [Bool.and_eq_true] at h
    exact s_cons h.1.1.2 (ha.pe sc so X e ok h.1.1.1 h.1.2) (hr.pa sc so X es ok h.2.1 h.2.2)
theorem snd_tup {as : CE} (ha : Snd T G k N as) : Snd T G k N (.tup as) :=
  Snd.ofVal rfl rfl rfl (fun _ _ _ _ _ => rfl) (fun sc e h => by cases e <;> first | rfl | cases h) fun sc so X e ok _ h => by
    cases e <;> first | (cases h; done) | skip
    rename_i es kk pos
    have h : (decide (es.length ≤ big) && (as.isA && mm T N as sc es)) = true := h
    simp only [Bool.and_eq_true, decide_eq_true_eq] at h
    exact s_tup (ha.pa sc so X es ok h.2.1 h.2.2) h.1 (mm_len h.2.1 h.2.2)
theorem snd_lst {as : CE} (ha : Snd T G k N as) : Snd T G k N (.lst as) :=
  Snd.ofVal rfl rfl rfl (fun _ _ _ _ _ => rfl) (fun sc e h => by cases e <;> first | rfl | cases h) fun sc so X e ok _ h => by
    cases e <;> first | (cases h; done) | skip
    rename_i es pos
    have h : (decide (es.length ≤ big) && (as.isA && mm T N as sc es)) = true := h
    simp only [Bool.and_eq_true, decide_eq_true_eq] at h
    exact s_lst (ha.pa sc so X es ok h.2.1 h.2.2) h.1 (mm_len h.2.1 h.2.2)
/-- a call's form -/
theorem call_form {P : Expr → List Expr → List Keyword → Pos → Prop} {e : Expr} (h : ∀ x p es pos, e = .Call (.Name x p) es [] pos → P (.Name x p) es [] pos) : True := trivial
theorem snd_call {f : Nat} {as : CE} (ha : Snd T G k N as) : Snd T G k N (.call f as) :=
  Snd.ofVal rfl rfl rfl (fun _ _ _ _ _ => rfl) (fun sc e h => by cases e <;> first | rfl | cases h) fun sc so X e ok _ h => by
    cases e <;> first | (cases h; done) | skip
    rename_i fn es kw pos
    cases fn <;> first | (cases h; done) | skip
    rename_i x p
    cases kw with
    | cons _ _ => cases h
    | nil =>
      have h : (glbB sc x && decide ((f, x, es.length) ∈ T.fns) && (as.isA && mm T N as sc es)) = true := h
      rw [Bool.and_eq_true, Bool.and_eq_true, decide_eq_true_eq] at h
      obtain ⟨⟨h1, h2⟩, h3⟩ := h
      rw [Bool.and_eq_true] at h3
      have pl := mm_plains h3.1 h3.2
      have ln := fun env ds hd => mm_len h3.1 h3.2 (C := T.C) (G := G) env ds hd
      cases es with
      | nil => exact s_call0 ok h1 h2 (ha.pa sc so X _ ok h3.1 h3.2) ln
      | cons e es => exact s_call ok h1 h2 (pl e (by simp)) (no_star pos X.env fun x hx => pl x (by simp [hx])) (ha.pa sc so X _ ok h3.1 h3.2) ln
theorem snd_blt {f : Blt} {as : CE} (ha : Snd T G k N as) : Snd T G k N (.blt f as) :=
  Snd.ofVal rfl rfl rfl (fun _ _ _ _ _ => rfl) (fun sc e h => by cases e <;> first | rfl | cases h) fun sc so X e ok _ h => by
    cases e <;> first | (cases h; done) | skip
    rename_i fn es kw pos
    cases fn <;> first | (cases h; done) | skip
    rename_i x p
    cases es with
    | nil => cases h
    | cons e es =>
      cases kw with
      | cons _ _ => cases h
      | nil =>
        have h : (glbB sc x && decide (x = bltName f) && (as.isA && mm T N as sc (e :: es))) = true := h
        rw [Bool.and_eq_true, Bool.and_eq_true, decide_eq_true_eq] at h
        obtain ⟨⟨h1, h2⟩, h3⟩ := h
        rw [Bool.and_eq_true] at h3
        have pl := mm_plains h3.1 h3.2
        exact s_blt ok h1 h2 (pl e (by simp)) (no_star pos X.env fun x hx => pl x (by simp [hx])) (ha.pa sc so X _ ok h3.1 h3.2)
theorem snd_isi {t : Ty} {a : CE} (ha : Snd T G k N a) : Snd T G k N (.isi t a) :=
  Snd.ofVal rfl rfl rfl (fun _ _ _ _ _ => rfl) (fun sc e h => by cases e <;> first | rfl | cases h) fun sc so X e ok _ h => by
    cases e <;> first | (cases h; done) | skip
    rename_i fn es kw pos
    cases fn <;> first | (cases h; done) | skip
    rename_i x p
    match es, kw, h with
    | [e, .Name y p2], [], h =>
      have h : (glbB sc x && glbB sc y && decide (x = ("isinstance" : Str)) && decide (y = Str.ofString (tyName t)) && (a.isE && plainE e && mm T N a sc [e])) = true := h
      obtain ⟨h, h4, h5⟩ := and3 h
      obtain ⟨h1, h2, h3⟩ := and3 h
      rw [decide_eq_true_eq] at h3 h4
      obtain ⟨a1, a2, a3⟩ := and3 h5
      exact s_isi ok h1 h2 h3 h4 a2 (ha.pe sc so X e ok a1 a3)
theorem snd_ix {a b : CE} (ha : Snd T G k N a) (hb : Snd T G k N b) : Snd T G k N (.ix a b) :=
  Snd.ofVal rfl rfl rfl (fun _ _ _ _ _ => rfl) (fun sc e h => by cases e <;> first | rfl | cases h) fun sc so X e ok _ h => by
    cases e <;> first | (cases h; done) | skip
    rename_i x y pos
    have h : ((a.isE && plainE x && mm T N a sc [x]) && (b.isE && plainE y && mm T N b sc [y])) = true := h
    rw [Bool.and_eq_true] at h
    obtain ⟨a1, a2, a3⟩ := and3 h.1
    obtain ⟨b1, b2, b3⟩ := and3 h.2
    exact s_ix b2 (ha.pe sc so X x ok a1 a3) (hb.pe sc so X y ok b1 b3)
end
end EV
end

section
set_option Elab.async false
set_option linter.all false
set_option maxRecDepth 100000
set_option maxHeartbeats 8000000
/-! EV, part 17b: instances, fields, methods; methods of lists and texts; sorted. -/
namespace EV
open PySem PySem.Spec PyProof.Rows L2
section
variable {K : PySem.W.Frag} {F H : Hp}
theorem fldOf_get {x : Str} {d : EV.D} : ∀ {fs : List (Str × V)} {ps : List (EV.D × EV.D)}, RkF K F fs ps → fldOf ps x = some d → ∃ v, fs.lookup x = some v ∧ Dp K F v d
  | [], _, h, e => by cases h; cases e
  | (k, w) :: fs, _, h, e => by
    cases h with
    | @cons _ _ d' _ s h1 h2 =>
      have e : (if x = k then some d' else fldOf s x) = some d := e
      by_cases q : x = k
      · rw [if_pos q] at e; cases e
        have hb : (x == k) = true := beq_iff_eq.mpr q
        exact ⟨w, by simp only [List.lookup, hb], h1⟩
      · rw [if_neg q] at e
        have hb : (x == k) = false := beq_eq_false_iff_ne.mpr q
        obtain ⟨v, e1, e2⟩ := fldOf_get h2 e
        exact ⟨v, by simp only [List.lookup, hb]; exact e1, e2⟩
theorem fldOf_none {x : Str} : ∀ {fs : List (Str × V)} {ps : List (EV.D × EV.D)}, RkF K F fs ps → fldOf ps x = none → fs.lookup x = none
  | [], _, h, _ => by cases h; rfl
  | (k, w) :: fs, _, h, e => by
    cases h with
    | @cons _ _ d' _ s h1 h2 =>
      have e : (if x = k then some d' else fldOf s x) = none := e
      by_cases q : x = k
      · rw [if_pos q] at e; cases e
      · rw [if_neg q] at e
        have hb : (x == k) = false := beq_eq_false_iff_ne.mpr q
        simp only [List.lookup, hb]
        exact fldOf_none h2 e
theorem rkF_zip : ∀ {fs : List Str} {vs : List V} {ds : List EV.D}, DpAll K F vs ds → RkF K F (fs.zip vs) ((fs.zip ds).map fun p => (.str p.1, p.2))
  | [], _, _, _ => by simp; exact .nil
  | f :: fs, _, _, h => by
    cases h with
    | nil => exact .nil
    | cons h1 h2 => exact .cons h1 (rkF_zip h2)
theorem rv_ins {v : V} {c : Str} {ps : List (EV.D × EV.D)} (h : RV K F v (.dict ((.none, .str c) :: ps))) : ∃ a C dx fs, v = .ref a ∧ F a = some (.ins C dx fs) ∧ PySem.W.nsIn K mainGlobals c = some (some (.ref C)) ∧ RkF K F fs ps := by
  have z := h.get
  cases z with
  | dK h1 h2 => 
    generalize hq : ((PyData.none, PyData.str c) :: ps) = q at h2
    cases h2 with
    | nil => cases hq
    | @cons k _ _ _ _ _ _ =>
      have := congrArg Prod.fst (List.cons.inj hq).1
      cases k <;> cases this
  | dT h1 h2 =>
    generalize hq : ((PyData.none, PyData.str c) :: ps) = q at h2
    cases h2 with
    | nil => cases hq
    | cons _ _ => have := congrArg Prod.fst (List.cons.inj hq).1; cases this
  | ins h1 h2 h3 => exact ⟨_, _, _, _, rfl, h1, h2, h3⟩
end
theorem few1 {a : Expr} (h : plainE a = true) (cp : Pos) (env : Env) : ((backTo cp (starEach [a] env)).all (fun x => !x.1) && (backToKw cp (keywordEach [] env)).all (fun x => x.1.isSome)
      && decide (([a] : List Expr).length + ([] : List Keyword).length + (if ([] : List Keyword).isEmpty then 0 else 1) < 30)) = true := by
  rw [plain_star h]; rfl
theorem at_base {e : Expr} (h : atB e = true) (y : Str) (env : Env) : attributeBase e y env (eval e env) = eval e env := by
  cases e <;> first | rfl | (cases h; done) | skip
  rename_i f as kw p
  cases as with
  | nil => cases h
  | cons a as => cases f <;> rfl
section
variable {T : Tab} {G : Nat → List EV.D → Option Cell} {k : Nat} {N : List Str} {sc so : Scope} {X : Cx} {C : Nat → Option EV.D}
theorem mk_ev {x : Str} {fs : List Str} {as : CE} {env : List Cell} {r : Cell} (h : evalE G C env (.mk x fs as) = some r) : ∃ xs, getL (evalE G C env as) = some xs ∧ xs.length = fs.length ∧ r = .sh (.dict ((.none, .str x) :: (fs.zip xs).map fun p => (.str p.1, p.2))) := by
  simp only [evalE] at h
  split at h
  · rename_i xs q
    split at h
    · rename_i hl
      cases h
      exact ⟨xs, q, hl, rfl⟩
    · cases h
  · cases h
theorem s_mk (ok : XOk T G k N sc so X) {x : Str} {fs : List Str} {as : CE} {e : Expr} {es : List Expr} {p pos : Pos} (hg : glbB sc x = true) (hf : (x, fs) ∈ T.mks) (he : plainE e = true) (hpl : (backTo pos (starEach es X.env)).any (·.1) = false)
    (ha : PA X (e :: es) (tA X.K G C as)) : PE X (.Call (.Name x p) (e :: es) [] pos) (tE X.K G C (.mk x fs as)) := by
  obtain ⟨Cc, a, fd, ps, j, hns, hm, M, F, hj, hb, cl, na⟩ := ok.lib.made x fs hf
  refine PE.by fun pins s σ H Q I hw => ⟨_, pe_make M F (ok.room.mono hj) (ok.gl hg) hm hb .nil pass0 ha (glb_of hg).2 (plain_star he es X.env) hpl, ?_⟩
  obtain ⟨F, env, r, sh, ev, q⟩ := hw
  obtain ⟨xs, e1, e2, rfl⟩ := mk_ev ev
  refine ⟨F, env, xs, sh, e1, fun vs H1 F1 p1 rvs y dx hy hdx ne => ?_⟩
  rw [List.append_nil]
  refine ⟨y, dx, vs, rfl, by rw [rvs.length]; exact e2, upd_same, rfl, ?_⟩
  rw [upd_upd]
  have hy' : upd H1 dx (.own y) y = none := by rw [upd_ne (Ne.symm ne)]; exact hy
  have p2 := Post.grown p1.sub hdx (.own y)
  have p3 := Post.laid p2.sub hy' (.ins Cc dx (fs.zip vs))
  exact q _ _ _ (p1.trans (p2.trans p3)) (.sh (.dp (.ins upd_same hns (rkF_zip (DpAll.mono p3.ext _ _ rvs.dp)))))
theorem fld_ev {cs : List Str} {o : CE} {x : Str} {env : List Cell} {r : Cell} (h : evalE G C env (.fld cs o x) = some r) : ∃ c ps d, getD (evalE G C env o) = some (.dict ((.none, .str c) :: ps)) ∧ cs.contains c = true ∧ fldOf ps x = some d ∧ r = .sh d := by
  simp only [evalE] at h
  split at h
  · rename_i c ps q
    split at h
    · rename_i hc
      cases hd : fldOf ps x with
      | none => rw [hd] at h; cases h
      | some d => rw [hd] at h; cases h; exact ⟨c, ps, d, q, hc, hd, rfl⟩
    · cases h
  · cases h
theorem s_fld (ok : XOk T G k N sc so X) {cs : List Str} {o : CE} {x : Str} {e : Expr} {pos : Pos} (hx : x ∈ T.flds) (hc : ∀ c ∈ cs, ∃ fs, (c, fs) ∈ T.mks) (hb : atB e = true) (he : PE X e (tE X.K G C o)) : PE X (.Attribute e x pos) (tE X.K G C (.fld cs o x)) := by
  refine PE.by fun pins s σ H Q I hw => ⟨_, pe_fld (pdata he) (at_base hb x X.env), ?_⟩
  obtain ⟨F, env, r, sh, ev, q⟩ := hw
  obtain ⟨c, ps, d, e1, e2, e3, rfl⟩ := fld_ev ev
  refine ⟨F, env, _, sh, e1, fun v H1 F1 p1 rv => ?_⟩
  obtain ⟨a, Cc, dx, fs, rfl, h1, hns, rk⟩ := rv_ins rv
  obtain ⟨v', l, dp⟩ := fldOf_get rk e3
  obtain ⟨fs', hm⟩ := hc c (by simpa using e2)
  obtain ⟨C', a', fd', ps', j', hns', hm', M', F', hj', hb', cl, na⟩ := ok.lib.made c fs' hm
  rw [hns] at hns'
  cases hns'
  exact ⟨a, Cc, dx, fs, v', rfl, p1.sub _ _ h1, cl, na x hx, l, q _ _ _ p1 (.sh (.dp dp))⟩
theorem mth_ev {ms : List (Str × Nat)} {m : Str} {o as : CE} {env : List Cell} {r : Cell} (h : evalE G C env (.mth ms m o as) = some r) : ∃ c ps f xs, getD (evalE G C env o) = some (.dict ((.none, .str c) :: ps)) ∧ ms.lookup c = some f ∧ fldOf ps m = none ∧ getL (evalE G C env as) = some xs ∧
    G f (.dict ((.none, .str c) :: ps) :: xs) = some r := by
  simp only [evalE] at h
  split at h
  · rename_i c ps q
    split at h
    · rename_i f hf
      split at h
      · rename_i hn
        split at h
        · rename_i xs hxs
          refine ⟨c, ps, f, xs, q, hf, ?_, hxs, h⟩
          cases z : fldOf ps m with
          | none => rfl
          | some _ => rw [z] at hn; cases hn
        · cases h
      · cases h
    · cases h
  · cases h
theorem lookup_mem {α : Type} {x : Str} {y : α} : ∀ {l : List (Str × α)}, l.lookup x = some y → (x, y) ∈ l
  | [], h => by cases h
  | (k, v) :: r, h => by
    by_cases q : x = k
    · have hb : (x == k) = true := beq_iff_eq.mpr q
      simp only [List.lookup, hb] at h
      cases h; subst q
      exact List.mem_cons_self
    · have hb : (x == k) = false := beq_eq_false_iff_ne.mpr q
      simp only [List.lookup, hb] at h
      exact List.mem_cons_of_mem _ (lookup_mem h)
theorem meth_few {a : Expr} {es : List Expr} {pos : Pos} {env : Env} (hpa : plainE a = true) (hpl : (backTo pos (starEach es env)).any (·.1) = false) (hlen : es.length < 20) :
    methodCallForm ((a :: es).length + ([] : List Keyword).length) (backTo pos (starEach (a :: es) env)) (backToKw pos (keywordEach [] env)) = true := by
  unfold methodCallForm
  have h1 : (backTo pos (starEach (a :: es) env)).any (·.1) = false := by
    rw [plain_star hpa]
    show (false || (backTo pos (starEach es env)).any (·.1)) = false
    rw [hpl]; rfl
  have h2 : (backTo pos (starEach (a :: es) env)).all (fun x => !x.1) = true := by
    rw [List.all_eq_true]
    rw [List.any_eq_false] at h1
    intro x hx
    simpa using h1 x hx
  rw [h2]
  have h3 : (backToKw pos (keywordEach [] env)) = [] := rfl
  rw [h3]
  simp only [List.length_cons, List.length_nil, List.all_nil, List.isEmpty_nil, if_true, Bool.true_and]
  exact decide_eq_true (by omega)
theorem meth_eval {e a : Expr} {es : List Expr} {m : Str} {ap pos : Pos} {env : Env} (hb : atB e = true)
    (few : methodCallForm ((a :: es).length + ([] : List Keyword).length) (backTo pos (starEach (a :: es) env)) (backToKw pos (keywordEach [] env)) = true) (hl : (ap.endLine == pos.line) = true) :
    eval (.Call (.Attribute e m ap) (a :: es) [] pos) env = (do
      let ov ← eval e env
      standAt ap.atName
      let (f, first) ← holding [ov] (getMethod ov m (do return (← importBound e env).getD true))
      callWith pos f first (backTo pos (starEach (a :: es) env)) (backToKw pos (keywordEach [] env))) := by
  have e0 : eval (.Call (.Attribute e m ap) (a :: es) [] pos) env = (do
      let ov ← attributeBase e m env (eval e env)
      standAt ap.atName
      methodCall e m ap pos env ov ((a :: es).length + ([] : List Keyword).length) (backTo pos (starEach (a :: es) env)) (backToKw pos (keywordEach [] env))) := by
    cases e <;> first | rfl | (cases hb; done)
  rw [e0, at_base hb]
  have e1 : ∀ ov, methodCall e m ap pos env ov ((a :: es).length + ([] : List Keyword).length) (backTo pos (starEach (a :: es) env)) (backToKw pos (keywordEach [] env)) = (do
      let (f, first) ← holding [ov] (getMethod ov m (do return (← importBound e env).getD true))
      callWith pos f first (backTo pos (starEach (a :: es) env)) (backToKw pos (keywordEach [] env))) := fun ov => by
    unfold methodCall
    rw [few]
    unfold methodCallPos
    rw [hl]
    rfl
  exact congrArg _ (funext fun ov => congrArg _ (funext fun _ => e1 ov))
theorem s_mth (ok : XOk T G k N sc so X) {ms : List (Str × Nat)} {m : Str} {o as : CE} {e a : Expr} {es : List Expr} {ap pos : Pos} (hm : ∀ q ∈ ms, (q.1, m, q.2, (a :: es).length) ∈ T.mts) (hb : atB e = true) (hln : (ap.endLine == pos.line) = true) (hlen : es.length < 20) (he : PE X e (tE X.K G C o)) (hpa : plainE a = true)
    (hpl : (backTo pos (starEach es X.env)).any (·.1) = false) (ha : PA X (a :: es) (tA X.K G C as)) (hn : ∀ env ds, getL (evalE G C env as) = some ds → ds.length = (a :: es).length) : PE X (.Call (.Attribute e m ap) (a :: es) [] pos) (tE X.K G C (.mth ms m o as)) := by
  refine PE.by fun pins s σ H Q I hw => ?_
  obtain ⟨F, env, r, sh, ev, q⟩ := hw
  obtain ⟨c, ps, f, xs, e1, e2, e3, e4, e5⟩ := mth_ev ev
  obtain ⟨Cc, ad, fd, pms, hns, cl, me, Fo, hbi⟩ := ok.lib.meth c m f _ (hm _ (lookup_mem e2))
  have go : PE X (.Call (.Attribute e m ap) (a :: es) [] pos) (tMeth Cc m (spOf X.K ((a :: es).length + 1) (G f)) [] E0 (tD X.K G C o) (tA X.K G C as)) :=
    pe_meth (pdata he) cl me Fo ok.room hbi .nil pass0 ha (plain_star hpa es X.env) hpl (meth_eval hb (meth_few hpa hpl hlen) hln)
  refine ⟨_, go, ?_⟩
  refine ⟨F, env, _, sh, e1, fun v H1 F1 p1 rv => ?_⟩
  obtain ⟨a0, C0, dx, fs, rfl, h1, hns', rk⟩ := rv_ins rv
  rw [hns] at hns'
  cases hns'
  refine ⟨a0, dx, fs, rfl, p1.sub _ _ h1, fldOf_none rk e3, F1, env, xs, sh.post p1, e4, fun vs H2 F2 p2 rvs => ?_⟩
  show spOf X.K ((a :: es).length + 1) (G f) (V.ref a0 :: (vs ++ [])) H2 Q E0
  rw [List.append_nil]
  refine ⟨by rw [List.length_cons, rvs.length, hn env xs e4], F2, _ :: xs, r, p2.sub, .cons (rv.mono p2.ext) rvs, e5, fun v H3 F3 p3 rc => q v H3 F3 ((p1.trans p2).trans p3) (rc.earlier (p1.trans p2).same)⟩
end
end EV
end

section
set_option Elab.async false
set_option linter.all false
set_option maxRecDepth 100000
set_option maxHeartbeats 8000000
/-! EV, part 17c: methods of lists and texts; sorted. -/
namespace EV
open PySem PySem.Spec PyProof.Rows L2
/-! ### sorted lists are one -/
theorem uniq_by {α : Type} {le : α → α → Prop} (anti : ∀ a b, le a b → le b a → a = b) : ∀ {l m : List α}, l.Pairwise le → m.Pairwise le → l.Perm m → l = m
  | [], m, _, _, h => (List.Perm.eq_nil h.symm).symm
  | x :: l, [], _, _, h => by have := h.length_eq; simp at this
  | x :: l, y :: m, hl, hm, h => by
    have h1 : x = y := by
      have hx : x ∈ y :: m := h.mem_iff.mp List.mem_cons_self
      have hy : y ∈ x :: l := h.mem_iff.mpr List.mem_cons_self
      rcases List.mem_cons.mp hx with e | hx
      · exact e
      · rcases List.mem_cons.mp hy with e | hy
        · exact e.symm
        · exact anti x y ((List.pairwise_cons.mp hl).1 y hy) ((List.pairwise_cons.mp hm).1 x hx)
    subst h1
    rw [uniq_by anti (List.pairwise_cons.mp hl).2 (List.pairwise_cons.mp hm).2 h.cons_inv]
theorem insI_perm (x : Int) : ∀ l, (insI x l).Perm (x :: l)
  | [] => .refl _
  | y :: r => by
    unfold insI
    split
    · exact .refl _
    · exact ((insI_perm x r).cons y).trans (.swap x y r)
theorem sortI_perm : ∀ l, (sortI l).Perm l
  | [] => .refl _
  | x :: r => (insI_perm x _).trans ((sortI_perm r).cons x)
theorem insI_sorted (x : Int) : ∀ {l : List Int}, l.Pairwise (· ≤ ·) → (insI x l).Pairwise (· ≤ ·)
  | [], _ => by simp [insI]
  | y :: r, h => by
    unfold insI
    obtain ⟨h1, h2⟩ := List.pairwise_cons.mp h
    split
    · rename_i hxy
      refine List.pairwise_cons.mpr ⟨fun z hz => ?_, h⟩
      rcases List.mem_cons.mp hz with e | hz
      · subst e; exact hxy
      · have := h1 z hz; omega
    · rename_i hxy
      refine List.pairwise_cons.mpr ⟨fun z hz => ?_, insI_sorted x h2⟩
      rcases List.mem_cons.mp ((insI_perm x r).mem_iff.mp hz) with e | hz
      · subst e; omega
      · exact h1 z hz
theorem sortI_sorted : ∀ l, (sortI l).Pairwise (· ≤ ·)
  | [] => .nil
  | x :: r => insI_sorted x (sortI_sorted r)
theorem leP_iff {a b : Int × Int} : leP a b = true ↔ a.1 < b.1 ∨ (a.1 = b.1 ∧ a.2 ≤ b.2) := by
  unfold leP
  simp
theorem leP_no {a b : Int × Int} (h : ¬ leP a b = true) : leP b a = true := by
  rw [leP_iff] at h ⊢
  omega
theorem insP_perm (x : Int × Int) : ∀ l, (insP x l).Perm (x :: l)
  | [] => .refl _
  | y :: r => by
    unfold insP
    split
    · exact .refl _
    · exact ((insP_perm x r).cons y).trans (.swap x y r)
theorem sortP_perm : ∀ l, (sortP l).Perm l
  | [] => .refl _
  | x :: r => (insP_perm x _).trans ((sortP_perm r).cons x)
theorem insP_sorted (x : Int × Int) : ∀ {l : List (Int × Int)}, l.Pairwise (fun a b => leP a b = true) → (insP x l).Pairwise (fun a b => leP a b = true)
  | [], _ => by simp [insP]
  | y :: r, h => by
    unfold insP
    obtain ⟨h1, h2⟩ := List.pairwise_cons.mp h
    split
    · rename_i hxy
      refine List.pairwise_cons.mpr ⟨fun z hz => ?_, h⟩
      rcases List.mem_cons.mp hz with e | hz
      · subst e; exact hxy
      · have h3 := h1 z hz
        rw [leP_iff] at h3 hxy ⊢
        omega
    · rename_i hxy
      refine List.pairwise_cons.mpr ⟨fun z hz => ?_, insP_sorted x h2⟩
      rcases List.mem_cons.mp ((insP_perm x r).mem_iff.mp hz) with e | hz
      · subst e; exact leP_no hxy
      · exact h1 z hz
theorem sortP_sorted : ∀ l, (sortP l).Pairwise (fun a b => leP a b = true)
  | [] => .nil
  | x :: r => insP_sorted x (sortP_sorted r)
theorem sortI_uniq {ns ms : List Int} (h : ms.Perm ns) (s : ms.Pairwise (· ≤ ·)) : ms = sortI ns :=
  uniq_by (fun a b h1 h2 => Int.le_antisymm h1 h2) s (sortI_sorted ns) (h.trans (sortI_perm ns).symm)
theorem sortP_uniq {ns ms : List (Int × Int)} (h : ms.Perm ns) (s : ms.Pairwise (fun a b => leP a b = true)) : ms = sortP ns :=
  uniq_by (fun a b h1 h2 => by
    rw [leP_iff] at h1 h2
    exact Prod.ext (by omega) (by omega)) s (sortP_sorted ns) (h.trans (sortP_perm ns).symm)

/-! ### sorted of pairs, read off the heap -/
def pairAt (h : Heap) : Value → Int × Int
  | .ref a => match h.get? a with
    | some o => match o.data with
      | .seq its _ => match its.toList with
        | [.int x _, .int y _] => (x, y)
        | _ => (0, 0)
      | _ => (0, 0)
    | none => (0, 0)
  | _ => (0, 0)
def IsPr (K : PySem.W.Frag) (H : Hp) (v : V) (p : Int × Int) : Prop := ∃ t, v = V.ref t ∧ SqT K H t [.int p.1, .int p.2]
inductive Prs (K : PySem.W.Frag) (H : Hp) : List V → List (Int × Int) → Prop
  | nil : Prs K H [] []
  | cons {v : V} {p : Int × Int} {vs : List V} {ps : List (Int × Int)} : IsPr K H v p → Prs K H vs ps → Prs K H (v :: vs) (p :: ps)
theorem Prs.at {K : PySem.W.Frag} {H : Hp} {vs : List V} {ps : List (Int × Int)} (h : Prs K H vs ps) : ∀ v ∈ vs, ∃ p, IsPr K H v p := by
  induction h with
  | nil => intro v hv; cases hv
  | cons h1 _ ih =>
    intro v hv
    rcases List.mem_cons.mp hv with e | hv
    · subst e; exact ⟨_, h1⟩
    · exact ih v hv
theorem Prs.mono {K : PySem.W.Frag} {F F' : Hp} (s : Same F F') {vs : List V} {ps : List (Int × Int)} (h : Prs K F vs ps) : Prs K F' vs ps := by
  induction h with
  | nil => exact .nil
  | cons h _ ih => obtain ⟨t, e, ht⟩ := h; exact .cons ⟨t, e, SqT.mono s ht⟩ ih
def rSortedQ (K : PySem.W.Frag) : List V → Hp → VK → Prop := fun vs H Q => ∃ (F : Hp) (a : Addr) (xs : List V) (ps : List (Int × Int)), vs = [V.ref a] ∧ SqL K H a xs ∧ Same F H ∧ Prs K F xs ps ∧
  ∀ ys p, Prs K F ys (sortP ps) → H p = none → Q (.ref p) (upd H p (.lst ys))
section
variable {X : Cx}
theorem isPr_at {pins : List (Addr × Obj)} {σ : L2.St} {H : Hp} {s : Shared} (I : L2.Inv X pins σ H s) {t : Addr} {p : Int × Int} (h : SqT X.K H t [.int p.1, .int p.2]) : Srt.IsPair s.heap (.ref t) p.1 p.2 ∧ pairAt s.heap (.ref t) = p := by
  obtain ⟨its2, r2, ⟨o, ho, hc, n, hd⟩, _⟩ := I.tuple h
  obtain ⟨u1, u2, rfl, ri, rj⟩ := vals2 r2
  obtain ⟨t1, rfl⟩ := ri
  obtain ⟨t2, rfl⟩ := rj
  refine ⟨⟨t, o, t1, t2, n, rfl, ho, hc, hd⟩, ?_⟩
  simp only [pairAt, ho, hd]
theorem prs_map {pins : List (Addr × Obj)} {σ : L2.St} {H : Hp} {s : Shared} (I : L2.Inv X pins σ H s) : ∀ {vs : List V} {us : List Value} {ps : List (Int × Int)}, Prs X.K H vs ps → Vals vs us → us.map (pairAt s.heap) = ps
  | _, _, _, .nil, .nil => rfl
  | _, _, _, .cons (p := p) h1 h2, .cons r rs => by
    obtain ⟨t, rfl, ht⟩ := h1
    cases r
    rw [List.map_cons, (isPr_at I ht).2, prs_map I h2 rs]
theorem cr_sortedQ : CallR X (.builtin "sorted") (rSortedQ X.K) := by
  intro pins s σ H vs us Q I r h
  obtain ⟨F, a, xs, ps, rfl, hs, sF, hx, q⟩ := h
  obtain ⟨its, rv, hl, hz⟩ := I.list hs
  obtain ⟨u, rfl, ru⟩ := vals1 r
  obtain rfl : u = Value.ref a := ru
  obtain ⟨e1, e2⟩ := refs_back rv fun x m => by
    obtain ⟨p, t, e, _⟩ := hx.at x m
    exact ⟨t, e⟩
  have back : ∀ u ∈ its, ∃ p, IsPr X.K F (backV u) p ∧ Srt.IsPair s.heap u p.1 p.2 ∧ pairAt s.heap u = p := fun v hv => by
    obtain ⟨t, rfl⟩ := e2 v hv
    have hm : V.ref t ∈ xs := by rw [e1]; exact List.mem_map.mpr ⟨_, hv, rfl⟩
    obtain ⟨p, t', e, ht⟩ := hx.at _ hm
    cases e
    have ht' := SqT.mono sF ht
    exact ⟨p, ⟨t, rfl, ht⟩, (isPr_at I ht').1, (isPr_at I ht').2⟩
  refine SrtO.sorted_pairsO (k := pairAt s.heap) hl.isList (by rw [← rv.length]; exact hz) (fun v hv => ?_) fun h' d out h1 h2 kp hd hn => ?_
  · obtain ⟨p, _, h3, h4⟩ := back v hv
    rw [h4]; exact h3
  · have h3 : ∀ u ∈ out, ∃ a, u = Value.ref a := fun u hu => e2 u (h2.perm.mem_iff.mp hu)
    obtain ⟨n, hn⟩ := hn
    have hps : its.map (pairAt s.heap) = ps := prs_map I (hx.mono sF) rv
    have ho : out.map (pairAt s.heap) = sortP ps := by
      refine sortP_uniq (by rw [← hps]; exact h2.perm.map _) ?_
      rw [List.pairwise_map]
      refine List.Pairwise.imp (fun {x y} hxy => ?_) h1
      have := SrtO.lexB_no.mp hxy
      rw [leP_iff]
      omega
    have hprs : Prs X.K F (out.map backV) (sortP ps) := by
      rw [← ho]
      have : ∀ {l : List Value}, (∀ u ∈ l, u ∈ its) → Prs X.K F (l.map backV) (l.map (pairAt s.heap)) := fun {l} => by
        induction l with
        | nil => intro _; exact .nil
        | cons u l ih =>
          intro hm
          obtain ⟨p, hp, _, h4⟩ := back u (hm u (by simp))
          exact .cons (by rw [h4]; exact hp) (ih fun v hv => hm v (by simp [hv]))
      exact this fun u hu => h2.perm.mem_iff.mp hu
    have hlen : (out.map backV).length ≤ sizeLine := by
      rw [List.length_map, h2.perm.length_eq, ← rv.length]
      exact hz
    exact ⟨.ref d, upd H d (.lst (out.map backV)), I.laid (t' := s.toks) kp hd ⟨hlen, out, n, vals_back h3, hn⟩, rfl, q _ _ hprs (I.hok.fresh hd)⟩
end
end EV
end

section
set_option Elab.async false
set_option linter.all false
set_option maxRecDepth 100000
set_option maxHeartbeats 8000000
/-! EV, part 17d: these as core expressions. -/
namespace EV
open PySem PySem.Spec PyProof.Rows L2
theorem intsOf_map : ∀ {ds : List EV.D} {ns : List Int}, intsOf ds = some ns → ds = ns.map .int
  | [], ns, h => by cases h; rfl
  | d :: ds, ns, h => by
    cases d <;> first | (cases h; done) | skip
    rename_i i
    have h : (intsOf ds).map (i :: ·) = some ns := h
    cases q : intsOf ds with
    | none => rw [q] at h; cases h
    | some ms => rw [q] at h; cases h; rw [intsOf_map q]; rfl
theorem pairsOf_map : ∀ {ds : List EV.D} {ps : List (Int × Int)}, pairsOf ds = some ps → ds = ps.map pairD
  | [], ns, h => by cases h; rfl
  | d :: ds, ps, h => by
    have h : (match pairOf d, pairsOf ds with
      | some p, some ps => some (p :: ps)
      | _, _ => none) = some ps := h
    split at h
    · rename_i p qs h1 h2
      cases h
      rw [pairsOf_map h2]
      unfold pairOf at h1
      split at h1
      · cases h1; rfl
      · cases h1
    · cases h
theorem strsOf_map : ∀ {ds : List EV.D} {ns : List Str}, strsOf ds = some ns → ds = ns.map .str
  | [], ns, h => by cases h; rfl
  | d :: ds, ns, h => by
    cases d <;> first | (cases h; done) | skip
    rename_i i
    have h : (strsOf ds).map (i :: ·) = some ns := h
    cases q : strsOf ds with
    | none => rw [q] at h; cases h
    | some ms => rw [q] at h; cases h; rw [strsOf_map q]; rfl
theorem dp_ints {K : PySem.W.Frag} {F : Hp} : ∀ {ns : List Int} {vs : List V}, DpAll K F vs (ns.map PyData.int) → vs = ns.map V.int
  | [], _, h => by cases h; rfl
  | n :: ns, _, h => by
    cases h with
    | cons h1 h2 => cases h1; rw [dp_ints h2]; rfl
theorem dp_strs {K : PySem.W.Frag} {F : Hp} : ∀ {ns : List Str} {vs : List V}, DpAll K F vs (ns.map PyData.str) → vs = ns.map V.str
  | [], _, h => by cases h; rfl
  | n :: ns, _, h => by
    cases h with
    | cons h1 h2 => cases h1; rw [dp_strs h2]; rfl
theorem ints_dp {K : PySem.W.Frag} {F : Hp} : ∀ (ns : List Int), DpAll K F (ns.map V.int) (ns.map PyData.int)
  | [] => .nil
  | n :: ns => .cons (.int n) (ints_dp ns)
theorem dp_pairs {K : PySem.W.Frag} {F H : Hp} (s : Same F H) : ∀ {ps : List (Int × Int)} {vs : List V}, DpAll K F vs (ps.map pairD) → Prs K F vs ps
  | [], _, h => by cases h; exact .nil
  | p :: ps, _, h => by
    cases h with
    | cons h1 h2 =>
      cases h1 with
      | tup h3 h4 =>
        refine .cons ⟨_, rfl, ?_⟩ (dp_pairs s h2)
        have : _ = ([p.1, p.2] : List Int).map V.int := dp_ints (ns := [p.1, p.2]) h4
        rw [this] at h3
        exact h3
theorem prs_dp {K : PySem.W.Frag} {F : Hp} {vs : List V} {ps : List (Int × Int)} (h : Prs K F vs ps) : DpAll K F vs (ps.map pairD) := by
  induction h with
  | nil => exact .nil
  | cons h _ ih =>
    obtain ⟨t, rfl, ht⟩ := h
    exact .cons (.tup ht (.cons (.int _) (.cons (.int _) .nil))) ih
theorem mem_sorted : ("sorted" : Str) ∈ bltNames := by decide +kernel
theorem ne_sorted : ("sorted" : Str) ≠ "__name__" := by decide +kernel
section
variable {T : Tab} {G : Nat → List EV.D → Option Cell} {k : Nat} {N : List Str} {sc so : Scope} {X : Cx} {C : Nat → Option EV.D}
theorem srt_ev {a : CE} {env : List Cell} {r : Cell} (h : evalE G C env (.srt a) = some r) : ∃ xs, getD (evalE G C env a) = some (.list xs) ∧ ((∃ ns, xs = ns.map .int ∧ r = .ow (.list ((sortI ns).map .int))) ∨ ∃ ps, xs = ps.map pairD ∧ r = .ow (.list ((sortP ps).map pairD))) := by
  simp only [evalE] at h
  cases q : getD (evalE G C env a) with
  | none => rw [q] at h; cases h
  | some d =>
    rw [q] at h
    have h : srtD d = some r := h
    cases d <;> first | (cases h; done) | skip
    rename_i xs h0
    refine ⟨xs, rfl, ?_⟩
    have h : (match intsOf xs with
      | some ns => some (Cell.ow (.list ((sortI ns).map .int)))
      | none => match pairsOf xs with
        | some ps => some (Cell.ow (.list ((sortP ps).map pairD)))
        | none => none) = some r := h
    split at h
    · rename_i ns e
      cases h
      exact .inl ⟨ns, intsOf_map e, rfl⟩
    · split at h
      · rename_i ps e
        cases h
        exact .inr ⟨ps, pairsOf_map e, rfl⟩
      · cases h
theorem s_srt (ok : XOk T G k N sc so X) {a : CE} {e : Expr} {p pos : Pos} (hg : glbB sc "sorted" = true) (he : plainE e = true) (ha : PE X e (tE X.K G C a)) : PE X (.Call (.Name "sorted" p) [e] [] pos) (tE X.K G C (.srt a)) := by
  have hm : X.mg "sorted" = none := ok.lib.blt _ mem_sorted
  refine PE.by fun pins s σ H Q I hw => ?_
  obtain ⟨F, env, r, sh, ev, q⟩ := hw
  obtain ⟨xs, e1, h⟩ := srt_ev ev
  rcases h with ⟨ns, rfl, rfl⟩ | ⟨ps, rfl, rfl⟩
  · refine ⟨_, pe_callB cr_sortedI (ok.gl hg) hm PyProof.Rows.boot_sorted (pa_cons (pdata ha) pa_nil (plain_star he _ _)) ne_sorted (glb_of hg).2 (plain_star he _ _) rfl, ?_⟩
    refine ⟨F, env, _, sh, e1, fun v H1 F1 p1 rv => ?_⟩
    obtain ⟨a', vs, rfl, h1, h2⟩ := rv_lst rv
    rw [dp_ints h2] at h1
    refine ⟨a', ns, rfl, SqL.mono p1.sub h1, fun ns' pp pm so' np => ?_⟩
    rw [sortI_uniq pm so']
    have z := new_lst (K := X.K) p1.sub np (ints_dp (K := X.K) (F := F1) (sortI ns))
    exact q _ _ _ (p1.trans z.1) (z.2.earlier p1.same)
  · refine ⟨_, pe_callB cr_sortedQ (ok.gl hg) hm PyProof.Rows.boot_sorted (pa_cons (pdata ha) pa_nil (plain_star he _ _)) ne_sorted (glb_of hg).2 (plain_star he _ _) rfl, ?_⟩
    refine ⟨F, env, _, sh, e1, fun v H1 F1 p1 rv => ?_⟩
    obtain ⟨a', vs, rfl, h1, h2⟩ := rv_lst rv
    have pr := dp_pairs p1.sub h2
    refine ⟨F1, a', vs, ps, rfl, SqL.mono p1.sub h1, p1.sub, pr, fun ys pp pm np => ?_⟩
    have z := new_lst (K := X.K) p1.sub np (prs_dp pm)
    exact q _ _ _ (p1.trans z.1) (z.2.earlier p1.same)
theorem bm_ev {m : BM} {o as : CE} {env : List Cell} {r : Cell} (h : evalE G C env (.bm m o as) = some r) : ∃ d xs, getD (evalE G C env o) = some d ∧ getL (evalE G C env as) = some xs ∧ bmD m d xs = some r := by
  simp only [evalE] at h
  split at h
  · rename_i d xs h1 h2
    exact ⟨d, xs, h1, h2, h⟩
  · cases h
theorem idxOf_at : ∀ {xs : List EV.D} {y : EV.D} {j : Nat}, idxOf xs y = some j → ∃ z, xs[j]? = some z ∧ PyData.eqv z y = true ∧ ∀ (m : Nat) (z' : EV.D), m < j → xs[m]? = some z' → PyData.eqv z' y = false
  | [], _, _, h => by cases h
  | x :: r, y, j, h => by
    have h : (if PyData.eqv x y then some 0 else (idxOf r y).map (· + 1)) = some j := h
    split at h
    · rename_i e
      cases h
      exact ⟨x, rfl, e, fun m z' hm => by omega⟩
    · rename_i e
      cases q : idxOf r y with
      | none => rw [q] at h; cases h
      | some i =>
        rw [q] at h
        cases h
        obtain ⟨z, h1, h2, h3⟩ := idxOf_at q
        refine ⟨z, by simpa using h1, h2, fun m z' hm hz => ?_⟩
        have hm : m < i + 1 := hm
        cases m with
        | zero => simp at hz; subst hz; simpa using e
        | succ m => exact h3 m z' (by omega) (by simpa using hz)
theorem s_bm (ok : XOk T G k N sc so X) {m : BM} {o as : CE} {e a : Expr} {ap cp : Pos} (hb : atB e = true) (hln : (ap.endLine == cp.line) = true) (he : PE X e (tE X.K G C o)) (hpa : plainE a = true) (ha : PA X [a] (tA X.K G C as))
    (hn : ∀ env ds, getL (evalE G C env as) = some ds → ds.length = 1) : PE X (.Call (.Attribute e (bmName m) ap) [a] [] cp) (tE X.K G C (.bm m o as)) := by
  have u65 : X.A.units + 65 < cLine := by have := ok.room.un; omega
  refine PE.by fun pins s σ H Q I hw => ?_
  obtain ⟨F, env, r, sh, ev, q⟩ := hw
  obtain ⟨d, xs, e1, e2, e3⟩ := bm_ev ev
  cases m
  · refine ⟨_, pe_bm PySem.F.plainAttrs_list PySem.F.slot_list_index PySem.F.type_list_index (mt_indexD u65) (pdata he) ha (at_base hb _ X.env) (few1 hpa cp X.env) hln (plain_star hpa _ _) rfl, ?_⟩
    cases d <;> first | (cases e3; done) | skip
    rename_i zs
    match xs, e2, e3 with
    | [y], e2, e3 =>
      have e3 : (if okEq (.list zs) && okEq y then (idxOf zs y).map fun j => Cell.sh (.int (j : Nat)) else none) = some r := e3
      split at e3
      · rename_i hs
        rw [Bool.and_eq_true] at hs
        cases hj : idxOf zs y with
        | none => rw [hj] at e3; cases e3
        | some j =>
          rw [hj] at e3
          cases e3
          obtain ⟨z, h1, h2, h3⟩ := idxOf_at hj
          refine ⟨F, env, _, sh, e1, fun v H1 F1 p1 rv => ?_⟩
          obtain ⟨a', vs, rfl, g1, g2⟩ := rv_lst rv
          refine ⟨.inl ⟨rfl, vs, SqL.mono p1.sub g1⟩, F1, env, _, sh.post p1, e2, fun ws H2 F2 p2 rvs => ?_⟩
          cases rvs with
          | cons ry rn =>
            cases rn
            exact ⟨a', _, y, zs, j, z, rfl, rfl, toL2 ((rv.mono p2.ext).mono p2.sub).get (okEq_lay hs.1), toL2 (ry.mono p2.sub).get (okEq_lay hs.2), hs.1, hs.2, h1, h2, h3, q _ _ _ (p1.trans p2) (rc_int _)⟩
      · cases e3
  · refine ⟨_, pe_bm PySem.F.plainAttrs_str PySem.F.slot_str_join PySem.F.type_str_join mt_join (pdata he) ha (at_base hb _ X.env) (few1 hpa cp X.env) hln (plain_star hpa _ _) rfl, ?_⟩
    cases d <;> first | (cases e3; done) | skip
    rename_i z
    match xs, e2, e3 with
    | [.list zs], e2, e3 =>
      have e3 : (match strsOf zs with
        | some ys => if (ys.map (·.length)).sum + ys.length * z.length ≤ 16777216 then some (Cell.sh (.str (Txt.join z ys))) else none
        | none => none) = some r := e3
      split at e3
      · rename_i ys hy
        split at e3
        · rename_i hl
          cases e3
          refine ⟨F, env, _, sh, e1, fun v H1 F1 p1 rv => ?_⟩
          rw [rv_str rv]
          refine ⟨rfl, F1, env, _, sh.post p1, e2, fun ws H2 F2 p2 rvs => ?_⟩
          cases rvs with
          | cons ry rn =>
            cases rn
            obtain ⟨a', vs, rfl, g1, g2⟩ := rv_lst ry
            rw [strsOf_map hy] at g2
            rw [dp_strs g2] at g1
            exact ⟨z, a', ys, rfl, rfl, .inl (SqL.mono p2.sub g1), hl, q _ _ _ (p1.trans p2) (rc_str _)⟩
        · cases e3
      · cases e3
end
section
variable {T : Tab} {G : Nat → List EV.D → Option Cell} {k : Nat} {N : List Str}
theorem snd_mk {x : Str} {fs : List Str} {as : CE} (ha : Snd T G k N as) : Snd T G k N (.mk x fs as) :=
  Snd.ofVal rfl rfl rfl (fun _ _ _ _ _ => rfl) (fun sc e h => by cases e <;> first | rfl | cases h) fun sc so X e ok _ h => by
    cases e <;> first | (cases h; done) | skip
    rename_i fn es kw pos
    cases fn <;> first | (cases h; done) | skip
    rename_i y p
    match es, kw, h with
    | e :: es, [], h =>
      have h : (glbB sc y && decide (y = x) && decide ((y, fs) ∈ T.mks) && (as.isA && mm T N as sc (e :: es))) = true := h
      simp only [Bool.and_eq_true, decide_eq_true_eq] at h
      obtain ⟨⟨⟨h1, h2⟩, h3⟩, h4, h5⟩ := h
      subst h2
      have pl := mm_plains h4 h5
      exact s_mk ok h1 h3 (pl e (by simp)) (no_star pos X.env fun x hx => pl x (by simp [hx])) (ha.pa sc so X _ ok h4 h5)
theorem snd_fld {cs : List Str} {o : CE} {x : Str} (ho : Snd T G k N o) : Snd T G k N (.fld cs o x) :=
  Snd.ofVal rfl rfl rfl (fun _ _ _ _ _ => rfl) (fun sc e h => by cases e <;> first | rfl | cases h) fun sc so X e ok _ h => by
    cases e <;> first | (cases h; done) | skip
    rename_i e y pos
    have h : (decide (x = y) && decide (x ∈ T.flds) && cs.all (fun c => T.mks.any fun p => decide (p.1 = c)) && atB e && (o.isE && plainE e && mm T N o sc [e])) = true := h
    simp only [Bool.and_eq_true, decide_eq_true_eq] at h
    obtain ⟨⟨⟨⟨h1, h2⟩, h3⟩, h4⟩, ⟨h5, h6⟩, h7⟩ := h
    subst h1
    refine s_fld ok h2 (fun c hc => ?_) h4 (ho.pe sc so X e ok h5 h7)
    have := List.all_eq_true.mp h3 c hc
    obtain ⟨p, hp, e⟩ := List.any_eq_true.mp this
    rw [decide_eq_true_eq] at e
    exact ⟨p.2, by rw [← e]; exact hp⟩
theorem snd_mth {ms : List (Str × Nat)} {m : Str} {o as : CE} (ho : Snd T G k N o) (ha : Snd T G k N as) : Snd T G k N (.mth ms m o as) :=
  Snd.ofVal rfl rfl rfl (fun _ _ _ _ _ => rfl) (fun sc e h => by cases e <;> first | rfl | cases h) fun sc so X e ok _ h => by
    cases e <;> first | (cases h; done) | skip
    rename_i fn es kw pos
    cases fn <;> first | (cases h; done) | skip
    rename_i e y ap
    match es, kw, h with
    | a :: es, [], h =>
      have h : (decide (m = y) && (ap.endLine == pos.line) && decide (es.length < 20) && ms.all (fun q => decide ((q.1, m, q.2, (a :: es).length) ∈ T.mts)) && atB e && (o.isE && plainE e && mm T N o sc [e]) && (as.isA && mm T N as sc (a :: es))) = true := h
      simp only [Bool.and_eq_true, decide_eq_true_eq] at h
      obtain ⟨⟨⟨⟨⟨⟨h1, h2⟩, h3⟩, h4⟩, h5⟩, ⟨h6, h7⟩, h8⟩, h9, h10⟩ := h
      subst h1
      have pl := mm_plains h9 h10
      refine s_mth ok (fun q hq => ?_) h5 h2 h3 (ho.pe sc so X e ok h6 h8) (pl a (by simp)) (no_star pos X.env fun x hx => pl x (by simp [hx])) (ha.pa sc so X _ ok h9 h10) (fun env ds hd => mm_len h9 h10 env ds hd)
      have := List.all_eq_true.mp h4 q hq
      rwa [decide_eq_true_eq] at this
theorem snd_bm {m : BM} {o as : CE} (ho : Snd T G k N o) (ha : Snd T G k N as) : Snd T G k N (.bm m o as) :=
  Snd.ofVal rfl rfl rfl (fun _ _ _ _ _ => rfl) (fun sc e h => by cases e <;> first | rfl | cases h) fun sc so X e ok _ h => by
    cases e <;> first | (cases h; done) | skip
    rename_i fn es kw pos
    cases fn <;> first | (cases h; done) | skip
    rename_i e y ap
    match es, kw, h with
    | [a], [], h =>
      have h : (decide (bmName m = y) && atB e && (ap.endLine == pos.line) && (o.isE && plainE e && mm T N o sc [e]) && (as.isA && mm T N as sc [a])) = true := h
      simp only [Bool.and_eq_true, decide_eq_true_eq] at h
      obtain ⟨⟨⟨⟨h1, h2⟩, h3⟩, ⟨h4, h5⟩, h6⟩, h7, h8⟩ := h
      subst h1
      exact s_bm ok h2 h3 (ho.pe sc so X e ok h4 h6) (mm_plains h7 h8 a (by simp)) (ha.pa sc so X _ ok h7 h8) (fun env ds hd => mm_len h7 h8 env ds hd)
theorem snd_srt {a : CE} (ha : Snd T G k N a) : Snd T G k N (.srt a) :=
  Snd.ofVal rfl rfl rfl (fun _ _ _ _ _ => rfl) (fun sc e h => by cases e <;> first | rfl | cases h) fun sc so X e ok _ h => by
    cases e <;> first | (cases h; done) | skip
    rename_i fn es kw pos
    cases fn <;> first | (cases h; done) | skip
    rename_i x p
    match es, kw, h with
    | [e], [], h =>
      have h : (glbB sc x && decide (x = ("sorted" : Str)) && (a.isE && plainE e && mm T N a sc [e])) = true := h
      rw [Bool.and_eq_true, Bool.and_eq_true, decide_eq_true_eq] at h
      obtain ⟨⟨h1, h2⟩, h3⟩ := h
      subst h2
      obtain ⟨a1, a2, a3⟩ := and3 h3
      exact s_srt ok h1 a2 (ha.pe sc so X e ok a1 a3)
end
end EV
end

section
set_option Elab.async false
set_option linter.all false
set_option maxRecDepth 100000
set_option maxHeartbeats 8000000
/-! EV, part 18: slices, comprehensions, walked things; all expressions. -/
namespace EV
open PySem PySem.Spec PyProof.Rows L2
section
variable {T : Tab} {G : Nat → List D → Option Cell} {k : Nat} {N : List Str}
theorem isNil_isE {c : CE} (h : c.isE = true) : c.isNil = false := by cases c <;> first | rfl | cases h
theorem snd_sl {a lo hi : CE} (ha : Snd T G k N a) (hl : Snd T G k N lo) (hh : Snd T G k N hi) : Snd T G k N (.sl a lo hi) := by
  have part : ∀ {c : CE} (hc : Snd T G k N c) {sc so : Scope} {X : Cx} {l : Option Expr}, XOk T G k N sc so X → partB c.isNil (fun y => c.isE && plainE y && mm T N c sc [y]) l = true → PO X l (tO (G := G) (C := T.C) X.K c) := fun {c} hc {sc so X l} ok h => by
    cases l with
    | none => exact s_none h
    | some y =>
      obtain ⟨a1, a2, a3⟩ := and3 h
      exact s_some (isNil_isE a1) (hc.pe sc so X y ok a1 a3)
  refine Snd.ofVal rfl rfl rfl (fun _ _ _ _ _ => rfl) (fun sc e h => by cases e <;> first | rfl | cases h) fun sc so X e ok _ h => ?_
  cases e <;> first | (cases h; done) | skip
  rename_i x y pos
  cases y <;> first | (cases h; done) | skip
  rename_i l h' st p2
  cases st with
  | some _ => cases h
  | none =>
    have h : ((a.isE && plainE x && mm T N a sc [x]) && partB lo.isNil (fun y => lo.isE && plainE y && mm T N lo sc [y]) l && partB hi.isNil (fun y => hi.isE && plainE y && mm T N hi sc [y]) h') = true := h
    obtain ⟨h1, h2, h3⟩ := and3 h
    obtain ⟨a1, a2, a3⟩ := and3 h1
    exact s_sl (ha.pe sc so X x ok a1 a3) (part hl ok h2) (part hh ok h3)
theorem isTup_tg {N : List Str} {scope : Scope} {is : List Nat} {e : Expr} (h : tgB N scope (.tp is) e = true) : ∃ es kk p, e = .Tuple es kk p := by
  cases e <;> first | (cases h; done) | exact ⟨_, _, _, rfl⟩
theorem snd_lc {own : List Nat} {tg : Tgt} {it c e : CE} (hi : Snd T G k N it) (hc : Snd T G k N c) (he : Snd T G k N e) : Snd T G k N (.lc own tg it c e) := by
  refine Snd.ofVal rfl rfl rfl (fun _ _ _ _ _ => rfl) (fun sc e h => by cases e <;> first | rfl | cases h) fun sc so X ex ok _ h => ?_
  cases ex <;> first | (cases h; done) | skip
  rename_i elt gs scope pos
  match gs, h with
  | [⟨tg', it', ifs, 0⟩], h =>
    have h : (blkC N sc scope (ownOf N own) && tgB N scope tg tg' && (it.isI && plainE it' && mm T N it sc [it']) && (it.isTup == false || tgTupB tg) && tgInB own tg &&
      ifsB c.isNil (fun c' => c.isT && plainE c' && mm T N c (relS scope sc) [c']) ifs && (e.isE && plainE elt && mm T N e (relS scope sc) [elt])) = true := h
    simp only [Bool.and_eq_true] at h
    obtain ⟨⟨⟨⟨⟨⟨h1, h2⟩, ⟨h3, h3'⟩, h3''⟩, h4⟩, h5⟩, h6⟩, ⟨h7, h7'⟩, h7''⟩ := h
    refine s_lc ok h1 h2 h3' ?_ (hi.pi sc so X tg' it' ok h3 (fun ht => ?_) h3'') ?_ fun X' ok' => he.pe _ _ X' elt ok' h7 h7''
    · cases tg with
      | nm i => intro j hj; simp [Tgt.slots] at hj; subst hj; simpa [tgInB] using h5
      | tp is => intro j hj; simp only [tgInB, List.all_eq_true] at h5; simpa using h5 j hj
    · rw [ht] at h4
      cases tg with
      | nm i => simp [tgTupB] at h4
      | tp is => exact isTup_tg h2
    · match ifs, h6 with
      | [], h6 => exact .inl ⟨h6, rfl⟩
      | _ :: _ :: _, h6 => cases h6
      | [c'], h6 =>
        obtain ⟨a1, a2, a3⟩ := and3 h6
        exact .inr ⟨isNil_isE (isT_isE a1), c', rfl, fun X' ok' => hc.pt _ _ X' c' ok' a1 a3⟩
theorem snd_rng {as : CE} (ha : Snd T G k N as) : Snd T G k N (.rng as) := Snd.ofPI rfl rfl fun sc so X tg e ok _ h => by
  cases e <;> first | (cases h; done) | skip
  rename_i fn es kw pos
  cases fn <;> first | (cases h; done) | skip
  rename_i x p
  cases kw with
  | cons _ _ => cases h
  | nil =>
    have h : (glbB sc x && decide (x = ("range" : Str)) && (as.isA && mm T N as sc es)) = true := h
    rw [Bool.and_eq_true, Bool.and_eq_true, decide_eq_true_eq] at h
    obtain ⟨⟨h1, h2⟩, h3⟩ := h
    subst h2
    rw [Bool.and_eq_true] at h3
    exact s_rng ok h1 (mm_plains h3.1 h3.2) (ha.pa sc so X es ok h3.1 h3.2) (mm_len h3.1 h3.2)
theorem snd_zip {as : CE} (ha : Snd T G k N as) : Snd T G k N (.zip as) := Snd.ofPI rfl rfl fun sc so X tg e ok ht h => by
  obtain ⟨ts, kk, tp, rfl⟩ := ht rfl
  cases e <;> first | (cases h; done) | skip
  rename_i fn es kw pos
  cases fn <;> first | (cases h; done) | skip
  rename_i x p
  cases kw with
  | cons _ _ => cases h
  | nil =>
    have h : (glbB sc x && decide (x = ("zip" : Str)) && (as.isA && mm T N as sc es)) = true := h
    rw [Bool.and_eq_true, Bool.and_eq_true, decide_eq_true_eq] at h
    obtain ⟨⟨h1, h2⟩, h3⟩ := h
    rw [Bool.and_eq_true] at h3
    cases es with
    | nil =>
      refine ⟨fun pins s σ H R I hw => ?_⟩
      obtain ⟨F, env, ds, sh, ev, q⟩ := hw
      exfalso
      simp only [evalE] at ev
      cases q1 : getL (evalE G T.C env as) with
      | none => rw [q1] at ev; cases ev
      | some ls =>
        have := mm_len h3.1 h3.2 env ls q1
        have : ls = [] := List.eq_nil_of_length_eq_zero this
        subst this
        rw [q1] at ev
        cases ev
    | cons e es =>
      have pl := mm_plains h3.1 h3.2
      exact s_zip ok h1 h2 (pl e (by simp)) (no_star pos X.env fun x hx => pl x (by simp [hx])) (ha.pa sc so X _ ok h3.1 h3.2)
theorem snd_enm {a : CE} (ha : Snd T G k N a) : Snd T G k N (.enm a) := Snd.ofPI rfl rfl fun sc so X tg e ok ht h => by
  obtain ⟨ts, kk, tp, rfl⟩ := ht rfl
  cases e <;> first | (cases h; done) | skip
  rename_i fn es kw pos
  cases fn <;> first | (cases h; done) | skip
  rename_i x p
  match es, kw, h with
  | [e], [], h =>
    have h : (glbB sc x && decide (x = ("enumerate" : Str)) && (a.isE && plainE e && mm T N a sc [e])) = true := h
    rw [Bool.and_eq_true, Bool.and_eq_true, decide_eq_true_eq] at h
    obtain ⟨⟨h1, h2⟩, h3⟩ := h
    obtain ⟨a1, a2, a3⟩ := and3 h3
    exact s_enm ok h1 h2 a2 (ha.pe sc so X e ok a1 a3)
theorem snd_rev {a : CE} (ha : Snd T G k N a) : Snd T G k N (.rev a) := Snd.ofPI rfl rfl fun sc so X tg e ok ht h => by
  cases e <;> first | (cases h; done) | skip
  rename_i fn es kw pos
  cases fn <;> first | (cases h; done) | skip
  rename_i x p
  match es, kw, h with
  | [e], [], h =>
    have h : (glbB sc x && decide (x = ("reversed" : Str)) && (a.isE && plainE e && mm T N a sc [e])) = true := h
    rw [Bool.and_eq_true, Bool.and_eq_true, decide_eq_true_eq] at h
    obtain ⟨⟨h1, h2⟩, h3⟩ := h
    subst h2
    obtain ⟨a1, a2, a3⟩ := and3 h3
    exact s_rev ok h1 a2 (ha.pe sc so X e ok a1 a3)
theorem snd (c : CE) : Snd T G k N c := by
  induction c with
  | var i => exact snd_var i
  | cst c => exact snd_cst c
  | int n => exact snd_int n
  | bl b => exact snd_bl b
  | non => exact snd_non
  | str s => exact snd_str s
  | bin o a b iha ihb => exact snd_bin iha ihb
  | rep a b iha ihb => exact snd_rep iha ihb
  | neg a iha => exact snd_neg iha
  | cmp o a b iha ihb => exact snd_cmp iha ihb
  | chain o p a b c iha ihb ihc => exact snd_chain iha ihb ihc
  | and_ a b iha ihb => exact snd_and iha ihb
  | or_ a b iha ihb => exact snd_or iha ihb
  | not_ a iha => exact snd_not iha
  | ite c a b ihc iha ihb => exact snd_ite ihc iha ihb
  | nil => exact snd_nil
  | cons a r iha ihr => exact snd_cons iha ihr
  | tup as ih => exact snd_tup ih
  | lst as ih => exact snd_lst ih
  | call f as ih => exact snd_call ih
  | blt f as ih => exact snd_blt ih
  | isi t a ih => exact snd_isi ih
  | ix a b iha ihb => exact snd_ix iha ihb
  | sl a lo hi iha ihl ihh => exact snd_sl iha ihl ihh
  | lc own tg it c e ihi ihc ihe => exact snd_lc ihi ihc ihe
  | rng as ih => exact snd_rng ih
  | zip as ih => exact snd_zip ih
  | enm a ih => exact snd_enm ih
  | rev a ih => exact snd_rev ih
  | mk x fs as ih => exact snd_mk ih
  | fld cs o x ih => exact snd_fld ih
  | mth ms m o as iho iha => exact snd_mth iho iha
  | bm m o as iho iha => exact snd_bm iho iha
  | srt a ih => exact snd_srt ih
end
end EV
end

section
set_option Elab.async false
set_option linter.all false
set_option maxRecDepth 100000
set_option maxHeartbeats 4000000
/-! EV, part 19: statements: matching, an expression within a statement, stores. -/
namespace EV
open PySem PySem.Spec PyProof.Rows L2
def CE.isLc : CE → Bool
  | .lc _ _ _ _ _ => true
  | _ => false
def lcB : Expr → Bool
  | .ListComp _ _ _ _ => true
  | _ => false
def tupB : Expr → Bool
  | .Tuple _ _ _ => true
  | _ => false
def CS.isBlk : CS → Bool
  | .nil => true
  | .seq _ _ => true
  | _ => false
def methB (N : List Str) (sc : Scope) (i : Nat) (name : Str) : Expr → Pos → Bool
  | .Attribute (.Name x _) y ap, cp => visB N sc i x && decide (y = name) && (ap.endLine == cp.line)
  | _, _ => false
def mE (T : Tab) (N : List Str) (c : CE) (sc : Scope) (e : Expr) : Bool := c.isE && plainE e && mm T N c sc [e]
def ms (T : Tab) (N : List Str) : CS → Scope → List Stmt → Bool
  | .nil, _, [] => true
  | .seq s r, sc, st :: sts => !s.isBlk && ms T N s sc [st] && (r.isBlk && ms T N r sc sts)
  | .asg i _ e, sc, [.Assign [.Name x _] v _] => locB N sc i x && mE T N e sc v && (e.isLc == lcB v)
  | .unp is _ e, sc, [.Assign [.Tuple es kk p] v _] => tgB N sc (.tp is) (.Tuple es kk p) && mE T N e sc v && !lcB v && !tupB v
  | .app i _ e, sc, [.Expr (.Call f [a] [] cp) _] => methB N sc i "append" f cp && mE T N e sc a
  | .ext i _ e, sc, [.Expr (.Call f [a] [] cp) _] => methB N sc i "extend" f cp && mE T N e sc a
  | .put i _ k e, sc, [.Assign [.Subscript (.Name x _) y _] v _] => visB N sc i x && mE T N k sc y && mE T N e sc v && !lcB v
  | .pop j i _ k, sc, [.Assign [.Name y _] (.Call f [a] [] cp) _] => locB N sc j y && methB N sc i "pop" f cp && mE T N k sc a
  | .rvs i, sc, [.Expr (.Call f [] [] cp) _] => methB N sc i "reverse" f cp
  | .popl i, sc, [.Expr (.Call f [] [] cp) _] => methB N sc i "pop" f cp
  | .ins i _ k e, sc, [.Expr (.Call f [a, b] [] cp) _] => methB N sc i "insert" f cp && mE T N k sc a && mE T N e sc b
  | .ife _ c a b, sc, [.If t x y _] => c.isT && mE T N c sc t && (a.isBlk && ms T N a sc x) && (b.isBlk && ms T N b sc y)
  | .ret _ e, sc, [.Return (some v) _] => mE T N e sc v
  | .reto i, sc, [.Return (some (.Name x _)) _] => visB N sc i x
  | .retn, _, [.Return none _] => true
  | .for_ _ tg it b, sc, [.For tg' it' body [] _] => tgB N sc tg tg' && (it.isI && plainE it' && mm T N it sc [it']) && (it.isTup == false || tgTupB tg) && (b.isBlk && ms T N b sc body)
  | .whl _ _ c b, sc, [.While t body [] _] => c.isT && mE T N c sc t && (b.isBlk && ms T N b sc body)
  | .brk, _, [.Break _] => true
  | .cnt, _, [.Continue _] => true
  | .drp _ e, sc, [.Expr v _] => mE T N e sc v && !lcB v
  | .bad, _, [_] => true
  | _, _, _ => false

theorem RC.back {K : PySem.W.Frag} {F F1 F' H H' : Hp} (s : Same F1 F') (hF : ∀ b u, F1 b = some u → F b = some u ∨ NoTup u) {v : V} {c : Cell} (h : RC K F' H H' v c) (kp : keep c = true) : RC K (backH F F1 F') H H' v c := by
  cases h with
  | sh r => exact .sh (.dp (Dp.back s hF r.get kp))
  | @ow p d n f o =>
    have f2 : backH F F1 F' p = none := by
      cases q : backH F F1 F' p with
      | none => rfl
      | some u => rw [(backH_of q).1] at f; cases f
    cases o with
    | lst h1 h2 => exact .ow n f2 (.lst h1 (DpAll.back s hF _ _ h2 kp))
    | dK _ _ => cases kp
    | dT _ _ => cases kp
section
variable {K : PySem.W.Frag} {G : Nat → List D → Option Cell} {C : Nat → Option D} {F0 H0 F H : Hp} {σ : L2.St} {env env' : List Cell}
/-- an expression within a statement -/
theorem xread {fr : List Nat} {e : CE} {c : Cell} {R : VK} (ok : EnvOk K F0 H0 F H σ env) (ev : evalX G C env fr e = some (c, env'))
    (h : ∀ v H' F', EnvOk K F0 H0 F' H' σ env' → Same H H' → Same F F' → RC K F' H H' v c → (∀ (j : Nat) (d : EV.D) (a : Addr), env'[j]? = some (Cell.ow d) → σ[j]? = some (some (V.ref a)) → ∃ o, H a = some o) → R v H') : tE K G C e σ H R := by
  unfold evalX at ev
  split at ev
  · rename_i c' hc
    cases ev
    obtain ⟨F1, s1, ok1, nt⟩ := ok.shares fr
    have own1 : ∀ (j : Nat) (d : D) (a : Addr), (shareAll fr env)[j]? = some (Cell.ow d) → σ[j]? = some (some (V.ref a)) → ∃ o, H a = some o := fun j d a h1 h2 => by
      obtain ⟨b, e1, _, _, e4⟩ := ok1.ow j d h1
      rw [e1] at h2; cases h2
      exact e4.there
    have own0 : ∀ (j : Nat) (d : D) (a : Addr), env[j]? = some (Cell.ow d) → σ[j]? = some (some (V.ref a)) → ∃ o, H a = some o := fun j d a h1 h2 => by
      obtain ⟨b, e1, _, _, e4⟩ := ok.ow j d h1
      rw [e1] at h2; cases h2
      exact e4.there
    refine ⟨F1, shareAll fr env, _, ok1.shOk, hc, fun v H' F' p rc => ?_⟩
    unfold after at h
    by_cases kp : kpt fr c = true
    · rw [if_pos kp] at h
      have kp := keep_of kp
      have p2 := p.back s1
      exact h v H' _ (ok.step p2) p.same p2.ext (rc.back p.ext nt kp) own0
    · rw [if_neg kp] at h
      exact h v H' F' (ok1.step p) p.same (s1.trans p.ext) rc own1
  · cases ev
end
def OutOk (K : PySem.W.Frag) (F0 H0 : Hp) (Dn : Ends) : Out → Prop
  | .nx env => ∀ σ' H' F', EnvOk K F0 H0 F' H' σ' env → Dn.nx σ' H'
  | .rt c => ∀ v H' F', Post F0 H0 F' H' → RC K F' H0 H' v c → Dn.rt v H'
  | .bk env => ∀ σ' H' F', EnvOk K F0 H0 F' H' σ' env → Dn.bk σ' H'
  | .ct env => ∀ σ' H' F', EnvOk K F0 H0 F' H' σ' env → Dn.ct σ' H'
def tS (K : PySem.W.Frag) (G : Nat → List D → Option Cell) (C : Nat → Option D) (s : CS) : TS := fun Dn σ H => ∃ F0 H0 F env out, EnvOk K F0 H0 F H σ env ∧ evalS G C env s = some out ∧ OutOk K F0 H0 Dn out
theorem PS.by {X : Cx} {st : Stmt} {t' : TS} (h : ∀ pins s σ H D, L2.Inv X pins σ H s → t' D σ H → ∃ t, PS X st t ∧ t D σ H) : PS X st t' :=
  ⟨fun pins s σ H D I hw => let ⟨t, p, q⟩ := h pins s σ H D I hw; p.run pins s σ H D I q⟩
theorem PSs.by {X : Cx} {st : List Stmt} {t' : TS} (h : ∀ σ H D, t' D σ H → ∃ t, PSs X st t ∧ t D σ H) : PSs X st t' :=
  ⟨fun pins s σ H D I hw => let ⟨t, p, q⟩ := h σ H D hw; p.run pins s σ H D I q⟩
section
variable {T : Tab} {G : Nat → List D → Option Cell} {k : Nat} {N : List Str} {sc : Scope} {X : Cx}
theorem mE_of {c : CE} {e : Expr} (h : mE T N c sc e = true) : c.isE = true ∧ plainE e = true ∧ mm T N c sc [e] = true := and3 h
theorem mE_pe (ok : XOk T G k N sc sc X) {c : CE} {e : Expr} (h : mE T N c sc e = true) : PE X e (tE X.K G T.C c) := by
  obtain ⟨h1, _, h3⟩ := mE_of h
  exact (snd c).pe sc sc X e ok h1 h3
theorem swaps_no {v : Expr} (h : lcB v = false) (hp : plainE v = true) (t : Option Expr) (l : Nat) (env : Env) : swapsWith v t l env = pure false := by
  cases v <;> first | rfl | (cases hp; done) | (cases h; done)
/-- the store of a name -/
theorem asg_PS (ok : XOk T G k N sc sc X) {i : Nat} {x : Str} {p pos : Pos} {e : CE} {v : Expr} (hx : locB N sc i x = true) (he : mE T N e sc v = true) (hl : (e.isLc == lcB v) = true) : PS X (.Assign [.Name x p] v pos) (tAsg (tE X.K G T.C e) (gName i)) := by
  obtain ⟨x1, x2⟩ := loc_of hx
  obtain ⟨x3, x4⟩ := ok.fn x x2
  have nd : X.N.Nodup := by rw [ok.eN]; exact ok.nd
  have hi : X.N[i]? = some x := by rw [ok.eN]; exact x1
  have hlo : L2.Loc X.env.scope x := by rw [ok.eS]; exact x3
  have hf : X.fn x = true ∨ X.env.scope.names.lookup x = some .local := by rw [ok.eS]; exact x4
  have pe := mE_pe ok he
  cases hv : lcB v with
  | false => exact ps_set nd hi hlo pe (swaps_no hv (mE_of he).2.1 _ _ _) hf
  | true =>
    cases v <;> first | (cases hv; done) | skip
    rename_i elt gs scope vp
    cases e <;> first | (cases hl; done) | skip
    rename_i own tg it c e
    obtain ⟨_, _, h⟩ := mE_of he
    match gs, h, pe with
    | [⟨tg', it', ifs, 0⟩], h, pe =>
      have h : (blkC N sc scope (ownOf N own) && tgB N scope tg tg' && (it.isI && plainE it' && mm T N it sc [it']) && (it.isTup == false || tgTupB tg) && tgInB own tg &&
        ifsB c.isNil (fun c' => c.isT && plainE c' && mm T N c (relS scope sc) [c']) ifs && (e.isE && plainE elt && mm T N e (relS scope sc) [elt])) = true := h
      simp only [Bool.and_eq_true] at h
      obtain ⟨⟨⟨⟨⟨⟨h1, h2⟩, ⟨h3, h3'⟩, h3''⟩, h4⟩, h5⟩, h6⟩, ⟨h7, h7'⟩, h7''⟩ := h
      refine ⟨fun pins s σ H D I hw => ?_⟩
      have hk := I.ok.kind
      have hsw : ∀ l, swapsWith (.ListComp elt [⟨tg', it', ifs, 0⟩] scope vp) (some (.Name x p)) l X.env = pure ((decide (sc.names.lookup x = some .local)) && (p.line == vp.line) && !(scope.names.any fun (n, k) => n == x && (k == .local || k == .cell))) := fun l => by
        have hb : X.env.blockKind = .function := by unfold Env.blockKind; rw [hk]; rfl
        have hkind : (X.env.kindOf x == some .local) = decide (sc.names.lookup x = some .local) := by
          show (X.env.scope.names.lookup x == some .local) = _
          rw [ok.eS]
          cases sc.names.lookup x with
          | none => rfl
          | some kd => cases kd <;> rfl
        unfold swapsWith
        simp only [hb, hkind, Expr.pos]
        rfl
      cases hq : ((decide (sc.names.lookup x = some .local)) && (p.line == vp.line) && !(scope.names.any fun (n, k) => n == x && (k == .local || k == .cell))) with
      | false => exact (ps_set nd hi hlo pe (by rw [hsw, hq]) hf).run pins s σ H D I hw
      | true =>
        have hxl : sc.names.lookup x = some .local := by
          simp only [Bool.and_eq_true, decide_eq_true_eq] at hq
          exact hq.1.1
        refine (s_setLc (py := p) (spos := pos) ok h1 h2 h3' ?_ ((snd it).pi sc sc X tg' it' ok h3 (fun ht => ?_) h3'') ?_ (fun X' ok' => (snd e).pe _ _ X' elt ok' h7 h7'') x1 hxl (by rw [hsw, hq])).run pins s σ H D I hw
        · cases tg with
          | nm i => intro j hj; simp [Tgt.slots] at hj; subst hj; simpa [tgInB] using h5
          | tp is => intro j hj; simp only [tgInB, List.all_eq_true] at h5; simpa using h5 j hj
        · rw [ht] at h4
          cases tg with
          | nm i => simp [tgTupB] at h4
          | tp is => exact isTup_tg h2
        · match ifs, h6 with
          | [], h6 => exact .inl ⟨h6, rfl⟩
          | _ :: _ :: _, h6 => cases h6
          | [c'], h6 =>
            obtain ⟨a1, a2, a3⟩ := and3 h6
            exact .inr ⟨isNil_isE (isT_isE a1), c', rfl, fun X' ok' => (snd c).pt _ _ X' c' ok' a1 a3⟩
theorem st_asg (ok : XOk T G k N sc sc X) {i : Nat} {fr : List Nat} {x : Str} {p pos : Pos} {e : CE} {v : Expr} (hx : locB N sc i x = true) (he : mE T N e sc v = true) (hl : (e.isLc == lcB v) = true) : PS X (.Assign [.Name x p] v pos) (tS X.K G T.C (.asg i fr e)) := by
  refine PS.by fun pins s σ H D I hw => ⟨_, asg_PS ok hx he hl, ?_⟩
  obtain ⟨F0, H0, F, env, out, eo, ev, oo⟩ := hw
  simp only [evalS] at ev
  split at ev
  · rename_i c env' hx
    cases ev
    exact xread eo hx fun v H' F' e1 sm _ rc own => oo _ H' F' (e1.put i rc eo.post.same own)
  · cases ev
end
end EV
end

section
set_option Elab.async false
set_option linter.all false
set_option maxRecDepth 100000
set_option maxHeartbeats 4000000
/-! EV, part 20: the other statements, blocks. -/
namespace EV
open PySem PySem.Spec PyProof.Rows L2
section
variable {K : PySem.W.Frag} {G : Nat → List D → Option Cell} {C : Nat → Option D} {F0 H0 F H : Hp} {σ : L2.St} {env env' : List Cell}
theorem shareAt_ow {i : Nat} {env : List Cell} {j : Nat} {d : EV.D} (h : (shareAt i env)[j]? = some (Cell.ow d)) : env[j]? = some (Cell.ow d) := by
  unfold shareAt at h
  split at h
  · rename_i d' hd
    by_cases hij : i = j
    · subst hij
      rw [List.getElem?_set_self (List.getElem?_eq_some_iff.mp hd).1] at h
      cases h
    · rw [List.getElem?_set_ne hij] at h; exact h
  · exact h
theorem shareAll_ow : ∀ {fr : List Nat} {env : List Cell} {j : Nat} {d : EV.D}, (shareAll fr env)[j]? = some (Cell.ow d) → env[j]? = some (Cell.ow d)
  | [], _, _, _, h => h
  | _ :: fr, _, _, _, h => shareAt_ow (shareAll_ow (fr := fr) h)
theorem evalX_ow {fr : List Nat} {e : CE} {c : Cell} (ev : evalX G C env fr e = some (c, env')) {j : Nat} {d : EV.D} (h : env'[j]? = some (Cell.ow d)) : env[j]? = some (Cell.ow d) := by
  unfold evalX at ev
  split at ev
  · rename_i c' hc
    cases ev
    unfold after at h
    split at h
    · exact h
    · exact shareAll_ow h
  · cases ev
/-- an expression within a statement, as shared data -/
theorem xreadD {fr : List Nat} {e : CE} {c : Cell} {d : EV.D} {R : VK} (ok : EnvOk K F0 H0 F H σ env) (ev : evalX G C env fr e = some (c, env')) (hd : c.d? = some d)
    (h : ∀ v H' F', EnvOk K F0 H0 F' H' σ env' → Same H H' → Same F F' → RV K F' v d → R v H') : tE K G C e σ H R := by
  unfold evalX at ev
  split at ev
  · rename_i c' hc
    cases ev
    obtain ⟨F1, s1, ok1, nt⟩ := ok.shares fr
    refine ⟨F1, shareAll fr env, _, ok1.shOk, hc, fun v H' F' p rc => ?_⟩
    unfold after at h
    by_cases kp : kpt fr c = true
    · rw [if_pos kp] at h
      have kp := keep_of kp
      obtain ⟨F2, p2, rv⟩ := (rc.back p.ext nt kp).share (p.back s1) hd
      exact h v H' _ (ok.step p2) p.same p2.ext rv
    · rw [if_neg kp] at h
      obtain ⟨F2, p2, rv⟩ := rc.share p hd
      exact h v H' F2 (ok1.step p2) p.same (s1.trans p2.ext) rv
  · cases ev
/-- a test within a statement -/
theorem xreadT {fr : List Nat} {e : CE} {b : Bool} {R : Bool → Hp → Prop} (ok : EnvOk K F0 H0 F H σ env) (ev : evalX G C env fr e = some (Cell.sh (.bool b), env'))
    (h : ∀ H', EnvOk K F0 H0 F H' σ env → R b H') : env' = env ∧ tT K G C e σ H R := by
  unfold evalX at ev
  split at ev
  · rename_i c' hc
    have ha : ∀ x, after fr env (shareAll fr env) (Cell.sh (.bool x)) = env := fun x => by
      unfold after kpt
      by_cases k9 : fr.contains 999 = true
      · rw [if_pos k9]; rfl
      · rw [if_neg k9]; rfl
    obtain ⟨F1, s1, ok1, _⟩ := ok.shares fr
    have ev := Option.some.inj ev
    have e1 : c' = Cell.sh (.bool b) := congrArg Prod.fst ev
    subst e1
    have e2 : after fr env (shareAll fr env) (Cell.sh (.bool b)) = env' := congrArg Prod.snd ev
    refine ⟨e2.symm.trans (ha b) |>.symm ▸ rfl, F1, shareAll fr env, b, ok1.shOk, by rw [hc]; rfl, fun H' F' p => h H' (ok.drop p.same)⟩
  · cases ev
theorem EnvOk.setSh (e : EnvOk K F0 H0 F H σ env) (i : Nat) {v : V} {d : EV.D} (r : RV K F v d) : EnvOk K F0 H0 F H (σ.set i (some v)) (env.set i (.sh d)) :=
  e.put (H1 := H) i (.sh r) e.post.same fun j d a h1 h2 => by
    obtain ⟨b, z1, _, _, z4⟩ := e.ow j d h1
    rw [z1] at h2; cases h2
    exact z4.there
theorem EnvOk.setsSh : ∀ {is : List Nat} {ds : List EV.D} {vs : List V} {σ : L2.St} {env env' : List Cell}, EnvOk K F0 H0 F H σ env → DpAll K F vs ds → setAll is ds env = some env' → EnvOk K F0 H0 F H (setV is vs σ) env'
  | [], [], vs, σ, env, env', e, h, b => by cases b; cases h; exact e
  | [], _ :: _, _, _, _, _, _, _, b => by cases b
  | _ :: _, [], _, _, _, _, _, _, b => by cases b
  | i :: is, d :: ds, vs, σ, env, env', e, h, b => by
    cases h with
    | cons h1 h2 => exact EnvOk.setsSh (is := is) (ds := ds) (e.setSh i (.dp h1)) h2 b
theorem EnvOk.bind {tg : Tgt} {d : EV.D} {σ' : L2.St} (e : EnvOk K F0 H0 F H σ env) (b : bindT tg d env = some env') (h : Bnd K F tg d σ σ') : EnvOk K F0 H0 F H σ' env' := by
  cases h with
  | nm r => cases b; exact e.setSh _ r
  | tp h1 h2 => exact e.setsSh h1 b
/-- the frozen part as a new beginning, and back -/
theorem EnvOk.rebase (e : EnvOk K F0 H0 F H σ env) : EnvOk K F H0 F H σ env := ⟨⟨e.post.same, Same.refl _, e.post.sub, fun a o h => .inl ⟨o, h⟩⟩, e.sh, e.ow, e.sep, e.len⟩
theorem unbase {F1 H1 F' H' : Hp} (p : Post F0 H0 F1 H1) (q : Post F1 H0 F' H') : Post F0 H0 F' H' := ⟨q.same, p.ext.trans q.ext, q.sub, fun a o h => by
  rcases q.new a o h with ⟨o', z⟩ | z
  · exact p.new a o' z
  · exact .inr z⟩
theorem EnvOk.unbase {F1 H1 : Hp} (p : Post F0 H0 F1 H1) (e : EnvOk K F1 H0 F H σ env) : EnvOk K F0 H0 F H σ env := ⟨EV.unbase p e.post, e.sh, e.ow, e.sep, e.len⟩
end
section
variable {T : Tab} {G : Nat → List D → Option Cell} {k : Nat} {N : List Str} {sc : Scope} {X : Cx}
theorem st_unp (ok : XOk T G k N sc sc X) {is : List Nat} {fr : List Nat} {es : List Expr} {kk : Nat} {p pos : Pos} {e : CE} {v : Expr} (hx : tgB N sc (.tp is) (.Tuple es kk p) = true) (he : mE T N e sc v = true) (hl : lcB v = false) (ht : tupB v = false) :
    PS X (.Assign [.Tuple es kk p] v pos) (tS X.K G T.C (.unp is fr e)) := by
  have hw : swappedStores [.Tuple es kk p] v X.env = pure none := by
    have := (mE_of he).2.1
    cases v <;> first | rfl | (cases ht; done) | (cases this; done)
  refine PS.by fun pins s σ H D I hw' => ⟨_, ps_asg (mE_pe ok he) (g_tgt ok hx) (show swapsWith v (some (.Tuple es kk p)) pos.line X.env = pure false from swaps_no hl (mE_of he).2.1 _ _ _) hw rfl, ?_⟩
  obtain ⟨F0, H0, F, env, out, eo, ev, oo⟩ := hw'
  simp only [evalS] at ev
  split at ev
  · rename_i c env' hc
    split at ev
    · rename_i xs hd
      cases hb : setAll is xs env' with
      | none => rw [hb] at ev; cases ev
      | some env2 =>
        rw [hb] at ev; cases ev
        refine xread eo hc fun v' H' F' e1 sm _ rc own => ?_
        cases rc with
        | sh rv =>
          cases hd
          exact gT_run e1.post.sub rv hb fun σ' bnd => oo σ' H' F' (e1.bind (tg := .tp is) (d := .tuple xs) hb bnd)
        | ow n f o => cases hd; cases o
    · cases ev
  · cases ev
theorem v_name (ok : XOk T G k N sc sc X) {i : Nat} {x : Str} {pos : Pos} (h : visB N sc i x = true) : PE X (.Name x pos) (tVar i) := by
  obtain ⟨h1, h2, h3, h4⟩ := vis_of h
  exact pe_var (i := i) (by rw [ok.eN]; exact h1) (by show Vis X.env.scope x; rw [ok.eS]; exact h2) h3 h4
theorem meth_of {i : Nat} {nm : Str} {f : Expr} {cp : Pos} (h : methB N sc i nm f cp = true) : ∃ x p ap, f = .Attribute (.Name x p) nm ap ∧ visB N sc i x = true ∧ (ap.endLine == cp.line) = true := by
  cases f <;> first | (cases h; done) | skip
  rename_i o y ap
  cases o <;> first | (cases h; done) | skip
  rename_i x p
  obtain ⟨h1, h2, h3⟩ := and3 h
  rw [decide_eq_true_eq] at h2
  subst h2
  exact ⟨x, p, ap, rfl, h1, h3⟩
theorem st_app (ok : XOk T G k N sc sc X) {i : Nat} {fr : List Nat} {f a : Expr} {cp pos : Pos} {e : CE} (hf : methB N sc i "append" f cp = true) (he : mE T N e sc a = true) : PS X (.Expr (.Call f [a] [] cp) pos) (tS X.K G T.C (.app i fr e)) := by
  obtain ⟨x, p, ap, rfl, hv, hln⟩ := meth_of hf
  have pl := (mE_of he).2.1
  refine PS.by fun pins s σ H D I hw => ⟨_, ps_expr (pe_bm PySem.F.plainAttrs_list PySem.F.slot_list_append PySem.F.type_list_append mt_append (v_name ok hv) (pa_cons (mE_pe ok he) pa_nil (plain_star pl _ _)) rfl (few1 pl cp X.env) hln (plain_star pl _ _) rfl), ?_⟩
  obtain ⟨F0, H0, F, env, out, eo, ev, oo⟩ := hw
  simp only [evalS] at ev
  split at ev
  · rename_i c env' hc
    split at ev
    · rename_i y ds hy hi
      split at ev
      · rename_i hl
        cases ev
        have hd := hy
        obtain ⟨l, z1, z2, z3, z4⟩ := eo.ow i _ (evalX_ow hc hi)
        cases z4 with
        | @lst vs0 _ hvs hds =>
          refine ⟨.ref l, z1, .inl ⟨rfl, vs0, SqL.of hvs⟩, xreadD eo hc hd fun v H' F' e1 sm _ rv => ?_⟩
          obtain ⟨l', w1, w2, w3, w4⟩ := e1.ow i _ hi
          rw [z1] at w1; cases w1
          cases w4 with
          | @lst vs _ hvs' hds' =>
            refine ⟨l, vs, v, rfl, rfl, hvs', ?_, ?_⟩
            · rw [DpAll.length hds']; exact Nat.lt_of_lt_of_le hl big_line
            · exact oo σ _ F' (e1.write hi z1 (.lst upd_same (DpAll.append hds' (.cons rv.get .nil))))
      · cases ev
    · cases ev
  · cases ev
end
end EV
end

section
set_option Elab.async false
set_option linter.all false
set_option maxRecDepth 100000
set_option maxHeartbeats 4000000
/-! EV, part 21: extend, item stores, pop, reverse, if, return, loops. -/
namespace PySem.AutoSeq1
open PySem
theorem extW (l : Addr) (items : Array Value) (n : Nat) (b : Addr) (items2 : Array Value) (n2 : Nat) (dd2 : Option Addr) (sl2 : Array (Option Value)) (hc0 : ¬(!items.isEmpty && Builtin.List.listTooLong (items.size + items2.size)) = true) (hc1 : items.size ≤ sizeLine) (hs2 : items.size + items2.size ≤ sizeLine + 1) :
    Meets (Builtin.«list.extend» ⟨[.ref l, .ref b], []⟩) (fun _ R s => s.heap.get? l = some { cls := .type "list", dict := none, data := .seq items n, slots := #[] } ∧ s.heap.get? b = some { cls := .type "list", dict := dd2, data := .seq items2 n2, slots := sl2 } ∧ R (.ok (.ret Value.none)) { s with heap := s.heap.update l (Obj.mapSeq fun x => x ++ items2), toks := s.toks }) :=
  .of_wp fun prog w A R s h => by
    obtain ⟨hp, g, d, tk, os⟩ := s; obtain ⟨hl, hb, h⟩ := h; have f1 := idx_int; have f2 := sub_tuple_tuple; have f3 := sub_list_list; have f4 := sub_tuple_list; have f5 := sub_list_tuple;
    have hz' : (items ++ items2).size ≤ sizeLine + 1 := by rw [Array.size_append]; exact hs2
    wp_walk using (wpAny_updateSeq hl rfl (hz := hc1) (_hz' := hz')), wpAny_loadPart' hl, wpAny_loadPart' hb; exact ⟨_, rfl, h⟩
theorem extT (l : Addr) (items : Array Value) (n : Nat) (b : Addr) (items2 : Array Value) (n2 : Nat) (dd2 : Option Addr) (sl2 : Array (Option Value)) (hc0 : ¬(!items.isEmpty && Builtin.List.listTooLong (items.size + items2.size)) = true) (hc1 : items.size ≤ sizeLine) (hs2 : items.size + items2.size ≤ sizeLine + 1) :
    Meets (Builtin.«list.extend» ⟨[.ref l, .ref b], []⟩) (fun _ R s => s.heap.get? l = some { cls := .type "list", dict := none, data := .seq items n, slots := #[] } ∧ s.heap.get? b = some { cls := .type "tuple", dict := dd2, data := .seq items2 n2, slots := sl2 } ∧ R (.ok (.ret Value.none)) { s with heap := s.heap.update l (Obj.mapSeq fun x => x ++ items2), toks := s.toks }) :=
  .of_wp fun prog w A R s h => by
    obtain ⟨hp, g, d, tk, os⟩ := s; obtain ⟨hl, hb, h⟩ := h; have f1 := idx_int; have f2 := sub_tuple_tuple; have f3 := sub_list_list; have f4 := sub_tuple_list; have f5 := sub_list_tuple;
    have hz' : (items ++ items2).size ≤ sizeLine + 1 := by rw [Array.size_append]; exact hs2
    wp_walk using (wpAny_updateSeq hl rfl (hz := hc1) (_hz' := hz')), wpAny_loadPart' hl, wpAny_loadPart' hb; exact ⟨_, rfl, h⟩
end PySem.AutoSeq1
namespace EV
open PySem PySem.Spec PyProof.Rows L2
section
variable {X : Cx}
def rExtS (K : PySem.W.Frag) : V → List V → Hp → VK → Prop := fun x vs H Q => ∃ l b xs zs, x = .ref l ∧ vs = [.ref b] ∧ H l = some (.lst xs) ∧ (SqL K H b zs ∨ SqT K H b zs) ∧ xs.length + zs.length ≤ sizeLine ∧ Q .non (upd H l (.lst (xs ++ zs)))
theorem mt_extS : MtM X "list.extend" (rExtS X.K) := by
  intro pins s σ H x vs v us Q I rx rv h
  obtain ⟨l, b, xs, zs, rfl, rfl, hH, hB, hz, q⟩ := h
  cases rx
  obtain ⟨u, rfl, ru⟩ := rv.one
  cases ru
  obtain ⟨z, its, n, r, hl, e⟩ := I.lstM hH
  have fin : ∀ {its2 : List Value}, Vals zs its2 → ¬ (!its.toArray.isEmpty && Builtin.List.listTooLong (its.toArray.size + its2.toArray.size)) = true ∧ its.toArray.size ≤ sizeLine ∧ its.toArray.size + its2.toArray.size ≤ sizeLine + 1 ∧
      EP X pins σ Q .none { s with heap := s.heap.update l (Obj.mapSeq fun x => x ++ its2.toArray), toks := s.toks } := fun {its2} r2 => by
    have hl2 := r2.length
    have hsz : its.toArray.size + its2.toArray.size ≤ sizeLine := by rw [List.size_toArray, List.size_toArray]; omega
    refine ⟨?_, by rw [List.size_toArray]; omega, by omega, ?_⟩
    · rw [notLongL hsz, Bool.and_false]; exact Bool.false_ne_true
    · refine ⟨.non, _, I.lset (its' := its ++ its2) hH e (by simp) (r.append r2) ?_, rfl, q⟩
      rw [List.length_append]; omega
  rcases hB with hB | hB
  · obtain ⟨its2, r2, ⟨⟨cls2, dd2, data2, sl2⟩, n2, e2, hc2, hd2, hs2⟩, z2⟩ := I.list hB
    simp only at hc2 hs2
    subst hc2 hs2
    obtain ⟨f1, f2, f3, f4⟩ := fin r2
    exact call_meets F.slot_list_extend ⟨_, e, rfl⟩ F.entry_list_extend (F.args_list_extend_2 _ _) (AutoSeq1.extW l its.toArray n b its2.toArray n2 dd2 sl2 f1 f2 f3) ⟨e, e2, f4⟩
  · obtain ⟨its2, r2, ⟨⟨cls2, dd2, data2, sl2⟩, e2, hc2, n2, hs2⟩, z2⟩ := I.tuple hB
    simp only at hc2 hs2
    subst hc2 hs2
    obtain ⟨f1, f2, f3, f4⟩ := fin r2
    exact call_meets F.slot_list_extend ⟨_, e, rfl⟩ F.entry_list_extend (F.args_list_extend_2 _ _) (AutoSeq1.extT l its.toArray n b its2.toArray n2 dd2 sl2 f1 f2 f3) ⟨e, e2, f4⟩
end
section
variable {T : Tab} {G : Nat → List EV.D → Option Cell} {k : Nat} {N : List Str} {sc : Scope} {X : Cx}
theorem st_ext (ok : XOk T G k N sc sc X) {i : Nat} {fr : List Nat} {f a : Expr} {cp pos : Pos} {e : CE} (hf : methB N sc i "extend" f cp = true) (he : mE T N e sc a = true) : PS X (.Expr (.Call f [a] [] cp) pos) (tS X.K G T.C (.ext i fr e)) := by
  obtain ⟨x, p, ap, rfl, hv, hln⟩ := meth_of hf
  have pl := (mE_of he).2.1
  refine PS.by fun pins s σ H D I hw => ⟨_, ps_expr (pe_bm PySem.F.plainAttrs_list PySem.F.slot_list_extend PySem.F.type_list_extend mt_extS (v_name ok hv) (pa_cons (mE_pe ok he) pa_nil (plain_star pl _ _)) rfl (few1 pl cp X.env) hln (plain_star pl _ _) rfl), ?_⟩
  obtain ⟨F0, H0, F, env, out, eo, ev, oo⟩ := hw
  simp only [evalS] at ev
  split at ev
  · rename_i c env' hc
    split at ev
    · rename_i ys ds hy hi
      split at ev
      · rename_i hl
        cases ev
        obtain ⟨l, z1, z2, z3, z4⟩ := eo.ow i _ (evalX_ow hc hi)
        cases z4 with
        | @lst vs0 _ hvs hds =>
          have sq : ∃ d, c.d? = some d ∧ (d = .list ys ∨ d = .tuple ys) := by
            cases q : c.d? with
            | none => rw [q] at hy; cases hy
            | some d =>
              rw [q] at hy
              have hy : seqOf d = some ys := hy
              cases d <;> first | (cases hy; done) | skip
              · cases hy; exact ⟨_, rfl, .inl rfl⟩
              · cases hy; exact ⟨_, rfl, .inr rfl⟩
          obtain ⟨d, hd, hor⟩ := sq
          refine ⟨.ref l, z1, .inl ⟨rfl, vs0, SqL.of hvs⟩, xreadD eo hc hd fun v H' F' e1 sm _ rv => ?_⟩
          obtain ⟨l', w1, w2, w3, w4⟩ := e1.ow i _ hi
          rw [z1] at w1; cases w1
          obtain ⟨b, us, rfl, hb, hdp⟩ : ∃ b us, v = .ref b ∧ (SqL X.K H' b us ∨ SqT X.K H' b us) ∧ DpAll X.K F' us ys := by
            rcases hor with rfl | rfl
            · obtain ⟨b, us, rfl, h1, h2⟩ := rv_lst rv; exact ⟨b, us, rfl, .inl (SqL.mono e1.post.sub h1), h2⟩
            · obtain ⟨b, us, rfl, h1, h2⟩ := rv_tup rv; exact ⟨b, us, rfl, .inr (SqT.mono e1.post.sub h1), h2⟩
          cases w4 with
          | @lst vs _ hvs' hds' =>
            refine ⟨l, b, vs, us, rfl, rfl, hvs', hb, ?_, ?_⟩
            · rw [DpAll.length hds', DpAll.length hdp]; exact Nat.le_trans (Nat.le_of_lt hl) big_line
            · exact oo σ _ F' (e1.write hi z1 (.lst upd_same (DpAll.append hds' hdp)))
      · cases ev
    · cases ev
  · cases ev
theorem st_rvs (ok : XOk T G k N sc sc X) {i : Nat} {f : Expr} {cp pos : Pos} (hf : methB N sc i "reverse" f cp = true) : PS X (.Expr (.Call f [] [] cp) pos) (tS X.K G T.C (.rvs i)) := by
  obtain ⟨x, p, ap, rfl, hv, hln⟩ := meth_of hf
  refine PS.by fun pins s σ H D I hw => ⟨_, ps_expr (pe_bm0 PySem.F.plainAttrs_list PySem.F.slot_list_reverse PySem.F.type_list_reverse mt_reverse (v_name ok hv) rfl hln), ?_⟩
  obtain ⟨F0, H0, F, env, out, eo, ev, oo⟩ := hw
  simp only [evalS] at ev
  split at ev
  · rename_i ds hi
    cases ev
    obtain ⟨l, z1, z2, z3, z4⟩ := eo.ow i _ hi
    cases z4 with
    | @lst vs _ hvs hds => exact ⟨.ref l, z1, .inl ⟨rfl, vs, SqL.of hvs⟩, l, vs, rfl, rfl, hvs, oo σ _ F (eo.write hi z1 (.lst upd_same (DpAll.reverse hds)))⟩
  · cases ev
theorem st_popl (ok : XOk T G k N sc sc X) {i : Nat} {f : Expr} {cp pos : Pos} (hf : methB N sc i "pop" f cp = true) : PS X (.Expr (.Call f [] [] cp) pos) (tS X.K G T.C (.popl i)) := by
  obtain ⟨x, p, ap, rfl, hv, hln⟩ := meth_of hf
  refine PS.by fun pins s σ H D I hw => ⟨_, ps_expr (pe_bm0 PySem.F.plainAttrs_list PySem.F.slot_list_pop PySem.F.type_list_pop mt_pop (v_name ok hv) rfl hln), ?_⟩
  obtain ⟨F0, H0, F, env, out, eo, ev, oo⟩ := hw
  simp only [evalS] at ev
  split at ev
  · rename_i ds hi
    split at ev
    · cases ev
    · rename_i hne
      cases ev
      obtain ⟨l, z1, z2, z3, z4⟩ := eo.ow i _ hi
      cases z4 with
      | @lst vs _ hvs hds =>
        have hl : vs.length = ds.length := DpAll.length hds
        have h0 : 0 < vs.length := by
          rw [hl]
          cases ds with
          | nil => exact absurd rfl hne
          | cons _ _ => simp
        refine ⟨.ref l, z1, .inl ⟨rfl, vs, SqL.of hvs⟩, l, vs, vs[vs.length - 1], rfl, rfl, hvs, List.getElem?_eq_getElem (by omega), oo σ _ F (eo.write hi z1 (.lst upd_same ?_))⟩
        rw [List.dropLast_eq_take, List.dropLast_eq_take, hl]
        exact DpAll.take _ hds
  · cases ev
theorem few2 {a b : Expr} (h : plainE a = true) (g : plainE b = true) (cp : Pos) (env : Env) : ((backTo cp (starEach [a, b] env)).all (fun x => !x.1) && (backToKw cp (keywordEach [] env)).all (fun x => x.1.isSome)
      && decide (([a, b] : List Expr).length + ([] : List Keyword).length + (if ([] : List Keyword).isEmpty then 0 else 1) < 30)) = true := by
  rw [plain_star h, plain_star g]; rfl
theorem star2 {b : Expr} (g : plainE b = true) (cp : Pos) (env : Env) : (backTo cp (starEach [b] env)).any (·.1) = false := by
  rw [plain_star g]; rfl
theorem st_ins (ok : XOk T G k N sc sc X) {i : Nat} {fr : List Nat} {f a b : Expr} {cp pos : Pos} {kk e : CE} (hf : methB N sc i "insert" f cp = true) (hk : mE T N kk sc a = true) (he : mE T N e sc b = true) : PS X (.Expr (.Call f [a, b] [] cp) pos) (tS X.K G T.C (.ins i fr kk e)) := by
  obtain ⟨x, p, ap, rfl, hv, hln⟩ := meth_of hf
  have pla := (mE_of hk).2.1
  have plb := (mE_of he).2.1
  refine PS.by fun pins s σ H D I hw => ⟨_, ps_expr (pe_bm PySem.F.plainAttrs_list PySem.F.slot_list_insert PySem.F.type_list_insert mt_insert (v_name ok hv) (pa_cons (mE_pe ok hk) (pa_cons (mE_pe ok he) pa_nil (plain_star plb _ _)) (plain_star pla _ _)) rfl (few2 pla plb cp X.env) hln (plain_star pla _ _) (star2 plb cp X.env)), ?_⟩
  obtain ⟨F0, H0, F, env, out, eo, ev, oo⟩ := hw
  simp only [evalS] at ev
  split at ev
  · rename_i j env' hc
    split at ev
    · rename_i c env2 hc2
      split at ev
      · rename_i y ds hy hi
        split at ev
        · rename_i hl
          cases ev
          have hd := hy
          obtain ⟨l, z1, z2, z3, z4⟩ := eo.ow i _ (evalX_ow hc (evalX_ow hc2 hi))
          cases z4 with
          | @lst vs0 _ hvs0 hds0 =>
            refine ⟨.ref l, z1, .inl ⟨rfl, vs0, SqL.of hvs0⟩, xread eo hc fun w H1 F1 e1 sm sf rc own => xreadD e1 hc2 hd fun v H2 F2 e2 sm2 sf2 rv => ?_⟩
            obtain ⟨l', w1, w2, w3, w4⟩ := e2.ow i _ hi
            rw [z1] at w1; cases w1
            cases w4 with
            | @lst vs _ hvs hds =>
              cases rc with
              | sh rj =>
                rw [rv_int rj]
                refine ⟨l, vs, j, v, rfl, rfl, hvs, ?_, hl.2.1, ?_, ?_⟩
                · rw [DpAll.length hds]; exact Nat.lt_of_lt_of_le hl.1 big_line
                · have : (big : Int) < 2 ^ 63 := by decide
                  omega
                · exact oo σ _ F2 (e2.write hi z1 (.lst upd_same (DpAll.append (DpAll.append (DpAll.take _ hds) (.cons rv.get .nil)) (DpAll.drop _ hds))))
        · cases ev
      · cases ev
    · cases ev
  · cases ev
theorem st_put (ok : XOk T G k N sc sc X) {i : Nat} {fr : List Nat} {x : Str} {y v : Expr} {p sp pos : Pos} {kk e : CE} (hx : visB N sc i x = true) (hk : mE T N kk sc y = true) (he : mE T N e sc v = true) (hl : lcB v = false) : PS X (.Assign [.Subscript (.Name x p) y sp] v pos) (tS X.K G T.C (.put i fr kk e)) := by
  have ply := (mE_of hk).2.1
  refine PS.by fun pins s σ H D I hw => ⟨_, ps_asg (mE_pe ok he) (pg_sub (v_name ok hx) (mE_pe ok hk) set_list (fun _ => by cases y <;> first | rfl | cases ply)) (show swapsWith v (some (.Subscript (.Name x p) y sp)) pos.line X.env = pure false from swaps_no hl (mE_of he).2.1 _ _ _) rfl rfl, ?_⟩
  obtain ⟨F0, H0, F, env, out, eo, ev, oo⟩ := hw
  simp only [evalS] at ev
  split at ev
  · rename_i c env' hc
    split at ev
    · rename_i j env2 hc2
      split at ev
      · rename_i z ds hz hi
        split at ev
        · rename_i n hn
          cases ev
          have hd := hz
          refine xreadD eo hc hd fun v' H' F' e1 sm _ rv => ?_
          obtain ⟨l, z1, z2, z3, z4⟩ := e1.ow i _ (evalX_ow hc2 hi)
          refine ⟨.ref l, z1, xread e1 hc2 fun w H2 F2 e2 sm2 sf2 rc own => ?_⟩
          obtain ⟨l', w1, w2, w3, w4⟩ := e2.ow i _ hi
          rw [z1] at w1; cases w1
          cases w4 with
          | @lst vs _ hvs hds =>
            cases rc with
            | sh rj =>
              rw [rv_int rj]
              refine ⟨l, vs, j, n, rfl, rfl, hvs, by rw [DpAll.length hds]; exact hn, ?_⟩
              exact oo σ _ F2 (e2.write hi z1 (.lst upd_same (DpAll.set (rv.mono sf2).get n hds)))
        · cases ev
      · cases ev
    · cases ev
  · cases ev
theorem st_pop (ok : XOk T G k N sc sc X) {i j : Nat} {fr : List Nat} {y : Str} {f a : Expr} {p cp pos : Pos} {e : CE} (hy : locB N sc j y = true) (hf : methB N sc i "pop" f cp = true) (he : mE T N e sc a = true) : PS X (.Assign [.Name y p] (.Call f [a] [] cp) pos) (tS X.K G T.C (.pop j i fr e)) := by
  obtain ⟨x, p2, ap, rfl, hv, hln⟩ := meth_of hf
  have pl := (mE_of he).2.1
  obtain ⟨x1, x2⟩ := loc_of hy
  obtain ⟨x3, x4⟩ := ok.fn y x2
  refine PS.by fun pins s σ H D I hw => ⟨_, ps_set (i := j) (by rw [ok.eN]; exact ok.nd) (by rw [ok.eN]; exact x1) (by rw [ok.eS]; exact x3)
    (pe_bm PySem.F.plainAttrs_list PySem.F.slot_list_pop PySem.F.type_list_pop mt_popAt (v_name ok hv) (pa_cons (mE_pe ok he) pa_nil (plain_star pl _ _)) rfl (few1 pl cp X.env) hln (plain_star pl _ _) rfl) rfl (by rw [ok.eS]; exact x4), ?_⟩
  obtain ⟨F0, H0, F, env, out, eo, ev, oo⟩ := hw
  simp only [evalS] at ev
  split at ev
  · rename_i n env' hc
    split at ev
    · rename_i ds hi
      split at ev
      · rename_i hl
        split at ev
        · rename_i d hd
          cases ev
          obtain ⟨l, z1, z2, z3, z4⟩ := eo.ow i _ (evalX_ow hc hi)
          cases z4 with
          | @lst vs0 _ hvs0 hds0 =>
            refine ⟨.ref l, z1, .inl ⟨rfl, vs0, SqL.of hvs0⟩, xread eo hc fun w H' F' e1 sm sf rc own => ?_⟩
            obtain ⟨l', w1, w2, w3, w4⟩ := e1.ow i _ hi
            rw [z1] at w1; cases w1
            cases w4 with
            | @lst vs _ hvs hds =>
              cases rc with
              | sh rn =>
                rw [rv_int rn]
                obtain ⟨v, h1, h2⟩ := DpAll.get hds hd
                have hlt : n.toNat < vs.length := (List.getElem?_eq_some_iff.mp h1).1
                refine ⟨l, vs, n, n.toNat, v, rfl, rfl, hvs, by omega, ?_, ?_, h1, ?_⟩
                · have : (big : Int) < 2 ^ 63 := by decide
                  omega
                · exact (ixN_seq (n := vs.length) (i := n) (j := n.toNat) (by unfold ixN; rw [if_pos hl.1, if_pos (by omega)])).1
                · exact oo _ _ F' ((e1.write hi z1 (.lst upd_same (DpAll.eraseIdx n.toNat hds))).setSh j (.dp h2))
        · cases ev
      · cases ev
    · cases ev
  · cases ev
theorem st_ret (ok : XOk T G k N sc sc X) {fr : List Nat} {v : Expr} {pos : Pos} {e : CE} (he : mE T N e sc v = true) : PS X (.Return (some v) pos) (tS X.K G T.C (.ret fr e)) := by
  refine PS.by fun pins s σ H D I hw => ⟨_, ps_ret (mE_pe ok he), ?_⟩
  obtain ⟨F0, H0, F, env, out, eo, ev, oo⟩ := hw
  simp only [evalS] at ev
  split at ev
  · rename_i c env' hc
    cases ev
    exact xread eo hc fun w H' F' e1 sm sf rc own => oo w H' F' e1.post (rc.earlier eo.post.same)
  · cases ev
theorem st_reto (ok : XOk T G k N sc sc X) {i : Nat} {x : Str} {p pos : Pos} (hx : visB N sc i x = true) : PS X (.Return (some (.Name x p)) pos) (tS X.K G T.C (.reto i)) := by
  refine PS.by fun pins s σ H D I hw => ⟨_, ps_ret (v_name ok hx), ?_⟩
  obtain ⟨F0, H0, F, env, out, eo, ev, oo⟩ := hw
  simp only [evalS] at ev
  split at ev
  · rename_i d hd
    cases ev
    obtain ⟨l, z1, z2, z3, z4⟩ := eo.ow i _ hd
    exact ⟨.ref l, z1, oo _ H F eo.post (.ow z3 z2 z4)⟩
  · rename_i d hd
    cases ev
    obtain ⟨v, z1, z2⟩ := eo.sh i _ hd
    exact ⟨v, z1, oo _ H F eo.post (.sh z2)⟩
  · cases ev
theorem st_retn : PS X (.Return none pos) (tS X.K G T.C .retn) :=
  PS.by fun pins s σ H D I hw => ⟨_, ps_retN, by
    obtain ⟨F0, H0, F, env, out, eo, ev, oo⟩ := hw
    cases ev
    exact oo _ H F eo.post (.sh (.dp .non))⟩
theorem st_drp (ok : XOk T G k N sc sc X) {fr : List Nat} {v : Expr} {pos : Pos} {e : CE} (he : mE T N e sc v = true) (hl : lcB v = false) : PS X (.Expr v pos) (tS X.K G T.C (.drp fr e)) := by
  refine PS.by fun pins s σ H D I hw => ⟨_, ps_expr (mE_pe ok he) (swaps_no hl (mE_of he).2.1 _ _ _), ?_⟩
  obtain ⟨F0, H0, F, env, out, eo, ev, oo⟩ := hw
  simp only [evalS] at ev
  split at ev
  · rename_i c env' hc
    cases ev
    exact xread eo hc fun w H' F' e1 sm sf rc own => oo σ H' F' e1
  · cases ev
end
end EV
end

section
set_option Elab.async false
set_option linter.all false
set_option maxRecDepth 100000
set_option maxHeartbeats 4000000
/-! EV, part 22: if, loops, blocks; every core statement that matches a text is sound; a def by its core. -/
namespace EV
open PySem PySem.Spec PyProof.Rows L2
section
variable {T : Tab} {G : Nat → List EV.D → Option Cell} {k : Nat} {N : List Str} {sc : Scope} {X : Cx}
theorem st_ife (ok : XOk T G k N sc sc X) {fr : List Nat} {t : Expr} {x y : List Stmt} {pos : Pos} {c : CE} {a b : CS} (hT : c.isT = true) (hc : mE T N c sc t = true) (ha : PSs X x (tS X.K G T.C a)) (hb : PSs X y (tS X.K G T.C b)) : PS X (.If t x y pos) (tS X.K G T.C (.ife fr c a b)) := by
  have pt : PT X t (tT X.K G T.C c) := (snd c).pt sc sc X t ok hT (mE_of hc).2.2
  refine PS.by fun pins s σ H D I hw => ⟨_, ps_if pt ha hb, ?_⟩
  obtain ⟨F0, H0, F, env, out, eo, ev, oo⟩ := hw
  simp only [evalS] at ev
  split at ev
  · rename_i env' hx
    have h := xreadT (R := fun b' H1 => if b' = true then tS X.K G T.C a D σ H1 else tS X.K G T.C b D σ H1) eo hx fun H' e1 => iteT ⟨F0, H0, F, env, out, e1, by rw [(xreadT (R := fun _ _ => True) eo hx fun _ _ => trivial).1] at ev; exact ev, oo⟩
    exact h.2
  · rename_i env' hx
    have h := xreadT (R := fun b' H1 => if b' = true then tS X.K G T.C a D σ H1 else tS X.K G T.C b D σ H1) eo hx fun H' e1 => iteF ⟨F0, H0, F, env, out, e1, by rw [(xreadT (R := fun _ _ => True) eo hx fun _ _ => trivial).1] at ev; exact ev, oo⟩
    exact h.2
  · cases ev
theorem passes (ok : XOk T G k N sc sc X) : PassesOwn (model X.prog X.w) X.A X.env X.xe := by rw [ok.xe]; exact PassesOwn.never
theorem st_for (ok : XOk T G k N sc sc X) {fr : List Nat} {tg : Tgt} {tg' it' : Expr} {body : List Stmt} {pos : Pos} {it : CE} {b : CS} (ht : tgB N sc tg tg' = true) (hi : it.isI = true) (hp : plainE it' = true) (hm : mm T N it sc [it'] = true) (htt : (it.isTup == false || tgTupB tg) = true) (hb : PSs X body (tS X.K G T.C b)) :
    PS X (.For tg' it' body [] pos) (tS X.K G T.C (.for_ fr tg it b)) := by
  have pi : PI X tg' it' (tI X.K G T.C it) := (snd it).pi sc sc X tg' it' ok hi (fun h => by
    rw [h] at htt
    cases tg with
    | nm i => simp [tgTupB] at htt
    | tp is => exact isTup_tg ht) hm
  refine PS.by fun pins s σ H D I hw => ⟨_, ps_for (passes ok) ok.calm pi (g_tgt ok ht) hb (plain_fold hp X.env), ?_⟩
  obtain ⟨F0, H0, F, env, out, eo, ev, oo⟩ := hw
  simp only [evalS] at ev
  split at ev
  · rename_i c hc
    split at ev
    · rename_i xs hxs
      obtain ⟨F1, s1, ok1, _⟩ := eo.shares fr
      refine ⟨F1, shareAll fr env, xs, ok1.shOk, by rw [hc]; exact hxs, fun J H1 F2 p2 wk hlen => ?_⟩
      have ok2 := ok1.step p2
      generalize hf : (fun x env' => match bindT tg x env' with
        | some env2 => evalS G T.C env2 b
        | none => none) = f at ev
      refine ⟨fun i m σ H' => i + m = xs.length ∧ ∃ F' env', EnvOk X.K F2 H0 F' H' σ env' ∧ forGo f (xs.drop i) env' = some out, ⟨xs.length, Nat.zero_add _, F2, _, ok2.rebase, ev⟩, fun i m σ2 H2 hW => ?_⟩
      obtain ⟨him, F', env', e3, eg⟩ := hW
      obtain ⟨wgo, wst, wyl⟩ := wk F' H2 e3.post.ext e3.post.sub
      by_cases hlt : i < xs.length
      · have hx : xs[i]? = some xs[i] := List.getElem?_eq_getElem hlt
        rw [List.drop_eq_getElem_cons hlt] at eg
        refine .inr ⟨wgo i hlt, fun σ' H' => (i + 1) + (m - 1) = xs.length ∧ ∃ F' env', EnvOk X.K F2 H0 F' H' σ' env' ∧ forGo f (xs.drop (i + 1)) env' = some out, fun σ' H' h => ⟨m - 1, by omega, h⟩, fun v H3 y => ?_⟩
        obtain ⟨F3, p3, rv⟩ := wyl i _ v H3 hx y
        have e4 := e3.step p3
        have mm : (i + 1) + (m - 1) = xs.length := by omega
        -- the turn by data
        have step : ∃ o, f xs[i] env' = some o := by
          unfold forGo at eg
          cases q : f xs[i] env' with
          | none => rw [q] at eg; cases eg
          | some o => exact ⟨o, rfl⟩
        obtain ⟨o, ho⟩ := step
        have ho' := ho
        rw [← hf] at ho'
        simp only at ho'
        cases hbt : bindT tg xs[i] env' with
        | none => rw [hbt] at ho'; cases ho'
        | some env2 =>
          rw [hbt] at ho'
          refine gT_run e4.post.sub rv hbt fun σ' bnd => ⟨F2, H0, F3, env2, o, e4.bind hbt bnd, ho', ?_⟩
          unfold forGo at eg
          rw [ho] at eg
          cases o with
          | nx env3 => exact fun σ3 H4 F4 e5 => ⟨mm, F4, env3, e5, eg⟩
          | ct env3 => exact fun σ3 H4 F4 e5 => ⟨mm, F4, env3, e5, eg⟩
          | bk env3 =>
            cases eg
            exact fun σ3 H4 F4 e5 => oo σ3 H4 F4 (e5.unbase ok2.post)
          | rt c3 =>
            cases eg
            exact fun v3 H4 F4 p5 rc => oo v3 H4 F4 (unbase ok2.post p5) rc
      · have e : i = xs.length := by omega
        subst e
        rw [List.drop_length] at eg
        cases eg
        exact .inl ⟨wst, oo σ2 H2 F' (e3.unbase ok2.post)⟩
    · cases ev
  · cases ev
theorem st_whl (ok : XOk T G k N sc sc X) {n : Nat} {fr : List Nat} {t : Expr} {body : List Stmt} {pos : Pos} {c : CE} {b : CS} (hT : c.isT = true) (hc : mE T N c sc t = true) (hb : PSs X body (tS X.K G T.C b)) : PS X (.While t body [] pos) (tS X.K G T.C (.whl n fr c b)) := by
  have pt : PT X t (tT X.K G T.C c) := (snd c).pt sc sc X t ok hT (mE_of hc).2.2
  refine PS.by fun pins s σ H D I hw => ⟨_, ps_while (passes ok) pt hb, ?_⟩
  obtain ⟨F0, H0, F, env, out, eo, ev, oo⟩ := hw
  simp only [evalS] at ev
  generalize hcf : (fun env' => match evalX G T.C env' fr c with
    | some (.sh (.bool b), _) => some b
    | _ => none) = cf at ev
  refine ⟨fun m σ H => ∃ F env, EnvOk X.K F0 H0 F H σ env ∧ whlGo cf (fun env' => evalS G T.C env' b) m env = some out, ⟨n, F, env, eo, ev⟩, fun m σ1 H1 hW => ?_⟩
  obtain ⟨F1, env1, e1, eg⟩ := hW
  cases m with
  | zero => cases eg
  | succ m =>
    unfold whlGo at eg
    cases hq : cf env1 with
    | none => rw [hq] at eg; cases eg
    | some z =>
      rw [hq] at eg
      have hq' := hq
      rw [← hcf] at hq'
      simp only at hq'
      split at hq'
      · rename_i b' env2 hx
        cases hq'
        refine (xreadT (R := fun b' H1 => if b' = true then ∃ N : L2.St → Hp → Prop, (∀ σ' H', N σ' H' → ∃ m', m' < m + 1 ∧ ∃ F env, EnvOk X.K F0 H0 F H' σ' env ∧ whlGo cf (fun env' => evalS G T.C env' b) m' env = some out) ∧ tS X.K G T.C b { D with nx := N, ct := N, bk := D.nx } σ1 H1 else D.nx σ1 H1) e1 hx fun H' e2 => ?_).2
        cases z with
        | false => cases eg; exact iteF (oo σ1 H' F1 e2)
        | true =>
          refine iteT ?_
          cases hs : evalS G T.C env1 b with
          | none => simp [hs] at eg
          | some o =>
            simp only [hs] at eg
            refine ⟨fun σ' H' => ∃ F env, EnvOk X.K F0 H0 F H' σ' env ∧ whlGo cf (fun env' => evalS G T.C env' b) m env = some out, fun σ' H' h => ⟨m, Nat.lt_succ_self m, h⟩, F0, H0, F1, env1, o, e2, hs, ?_⟩
            cases o with
            | nx env3 => exact fun σ3 H4 F4 e5 => ⟨F4, env3, e5, eg⟩
            | ct env3 => exact fun σ3 H4 F4 e5 => ⟨F4, env3, e5, eg⟩
            | bk env3 => cases eg; exact fun σ3 H4 F4 e5 => oo σ3 H4 F4 e5
            | rt c3 => cases eg; exact fun v3 H4 F4 p5 rc => oo v3 H4 F4 p5 rc
      · cases hq'
/-- what is told of a core statement -/
structure Sts (T : Tab) (G : Nat → List EV.D → Option Cell) (k : Nat) (N : List Str) (sc : Scope) (c : CS) : Prop where
  ps : ∀ (X : Cx) (st : Stmt), XOk T G k N sc sc X → c.isBlk = false → ms T N c sc [st] = true → PS X st (tS X.K G T.C c)
  pss : ∀ (X : Cx) (st : List Stmt), XOk T G k N sc sc X → c.isBlk = true → ms T N c sc st = true → PSs X st (tS X.K G T.C c)
theorem Sts.one {c : CS} (hb : c.isBlk = false) (h : ∀ (X : Cx) (st : Stmt), XOk T G k N sc sc X → ms T N c sc [st] = true → PS X st (tS X.K G T.C c)) : Sts T G k N sc c :=
  ⟨fun X st ok _ hm => h X st ok hm, fun X st ok q _ => by rw [hb] at q; cases q⟩
theorem sts (c : CS) : Sts T G k N sc c := by
  induction c with
  | nil =>
    refine ⟨fun X st ok q _ => (by cases q), fun X st ok _ hm => ?_⟩
    cases st with
    | cons _ _ => cases hm
    | nil => exact PSs.by fun σ H D hw => ⟨_, pss_nil, by
        obtain ⟨F0, H0, F, env, out, eo, ev, oo⟩ := hw
        cases ev
        exact oo σ H F eo⟩
  | seq s r ihs ihr =>
    refine ⟨fun X st ok q _ => (by cases q), fun X st ok _ hm => ?_⟩
    cases st with
    | nil => cases hm
    | cons st sts =>
      have hm : (!s.isBlk && ms T N s sc [st] && (r.isBlk && ms T N r sc sts)) = true := hm
      obtain ⟨h1, h2, h3⟩ := and3 hm
      rw [Bool.and_eq_true] at h3
      refine PSs.by fun σ H D hw => ⟨_, pss_cons (ihs.ps X st ok (by simpa using h1) h2) (ihr.pss X sts ok h3.1 h3.2), ?_⟩
      obtain ⟨F0, H0, F, env, out, eo, ev, oo⟩ := hw
      simp only [evalS] at ev
      split at ev
      · rename_i env' hs
        exact ⟨F0, H0, F, env, _, eo, hs, fun σ' H' F' e1 => ⟨F0, H0, F', env', out, e1, ev, oo⟩⟩
      · rename_i hn
        refine ⟨F0, H0, F, env, out, eo, ev, ?_⟩
        cases out with
        | nx env' => exact absurd ev (hn env')
        | rt c => exact oo
        | bk env' => exact oo
        | ct env' => exact oo
  | asg i fr e =>
    exact .one rfl fun X st ok hm => by
      cases st <;> first | (cases hm; done) | skip
      rename_i tgs v pos
      match tgs, hm with
      | [.Name x p], hm =>
        have hm : (locB N sc i x && mE T N e sc v && (e.isLc == lcB v)) = true := hm
        obtain ⟨h1, h2, h3⟩ := and3 hm
        exact st_asg ok h1 h2 h3
  | unp is fr e =>
    exact .one rfl fun X st ok hm => by
      cases st <;> first | (cases hm; done) | skip
      rename_i tgs v pos
      match tgs, hm with
      | [.Tuple es kk p], hm =>
        have hm : (tgB N sc (.tp is) (.Tuple es kk p) && mE T N e sc v && !lcB v && !tupB v) = true := hm
        simp only [Bool.and_eq_true, Bool.not_eq_true'] at hm
        exact st_unp ok hm.1.1.1 hm.1.1.2 hm.1.2 hm.2
  | app i fr e =>
    exact .one rfl fun X st ok hm => by
      cases st <;> first | (cases hm; done) | skip
      rename_i v pos
      cases v <;> first | (cases hm; done) | skip
      rename_i f as kw cp
      match as, kw, hm with
      | [a], [], hm =>
        have hm : (methB N sc i "append" f cp && mE T N e sc a) = true := hm
        rw [Bool.and_eq_true] at hm
        exact st_app ok hm.1 hm.2
  | ext i fr e =>
    exact .one rfl fun X st ok hm => by
      cases st <;> first | (cases hm; done) | skip
      rename_i v pos
      cases v <;> first | (cases hm; done) | skip
      rename_i f as kw cp
      match as, kw, hm with
      | [a], [], hm =>
        have hm : (methB N sc i "extend" f cp && mE T N e sc a) = true := hm
        rw [Bool.and_eq_true] at hm
        exact st_ext ok hm.1 hm.2
  | put i fr kk e =>
    exact .one rfl fun X st ok hm => by
      cases st <;> first | (cases hm; done) | skip
      rename_i tgs v pos
      match tgs, hm with
      | [.Subscript (.Name x p) y sp], hm =>
        have hm : (visB N sc i x && mE T N kk sc y && mE T N e sc v && !lcB v) = true := hm
        simp only [Bool.and_eq_true, Bool.not_eq_true'] at hm
        exact st_put ok hm.1.1.1 hm.1.1.2 hm.1.2 hm.2
  | pop j i fr kk =>
    exact .one rfl fun X st ok hm => by
      cases st <;> first | (cases hm; done) | skip
      rename_i tgs v pos
      match tgs, v, hm with
      | [.Name y p], .Call f [a] [] cp, hm =>
        have hm : (locB N sc j y && methB N sc i "pop" f cp && mE T N kk sc a) = true := hm
        obtain ⟨h1, h2, h3⟩ := and3 hm
        exact st_pop ok h1 h2 h3
  | rvs i =>
    exact .one rfl fun X st ok hm => by
      cases st <;> first | (cases hm; done) | skip
      rename_i v pos
      cases v <;> first | (cases hm; done) | skip
      rename_i f as kw cp
      match as, kw, hm with
      | [], [], hm => exact st_rvs ok hm
  | popl i =>
    exact .one rfl fun X st ok hm => by
      cases st <;> first | (cases hm; done) | skip
      rename_i v pos
      cases v <;> first | (cases hm; done) | skip
      rename_i f as kw cp
      match as, kw, hm with
      | [], [], hm => exact st_popl ok hm
  | ins i fr kk e =>
    exact .one rfl fun X st ok hm => by
      cases st <;> first | (cases hm; done) | skip
      rename_i v pos
      cases v <;> first | (cases hm; done) | skip
      rename_i f as kw cp
      match as, kw, hm with
      | [a, b], [], hm =>
        have hm : (methB N sc i "insert" f cp && mE T N kk sc a && mE T N e sc b) = true := hm
        obtain ⟨h1, h2, h3⟩ := and3 hm
        exact st_ins ok h1 h2 h3
  | ife fr c a b iha ihb =>
    exact .one rfl fun X st ok hm => by
      cases st <;> first | (cases hm; done) | skip
      rename_i t x y pos
      have hm : (c.isT && mE T N c sc t && (a.isBlk && ms T N a sc x) && (b.isBlk && ms T N b sc y)) = true := hm
      simp only [Bool.and_eq_true] at hm
      exact st_ife ok hm.1.1.1 hm.1.1.2 (iha.pss X x ok hm.1.2.1 hm.1.2.2) (ihb.pss X y ok hm.2.1 hm.2.2)
  | ret fr e =>
    exact .one rfl fun X st ok hm => by
      cases st <;> first | (cases hm; done) | skip
      rename_i v pos
      cases v with
      | none => cases hm
      | some v => exact st_ret ok hm
  | reto i =>
    exact .one rfl fun X st ok hm => by
      cases st <;> first | (cases hm; done) | skip
      rename_i v pos
      match v, hm with
      | some (.Name x p), hm => exact st_reto ok hm
  | retn =>
    exact .one rfl fun X st ok hm => by
      cases st <;> first | (cases hm; done) | skip
      rename_i v pos
      cases v with
      | none => exact st_retn
      | some v => cases hm
  | for_ fr tg it b ihb =>
    exact .one rfl fun X st ok hm => by
      cases st <;> first | (cases hm; done) | skip
      rename_i tg' it' body orelse pos
      cases orelse with
      | cons _ _ => cases hm
      | nil =>
        have hm : (tgB N sc tg tg' && (it.isI && plainE it' && mm T N it sc [it']) && (it.isTup == false || tgTupB tg) && (b.isBlk && ms T N b sc body)) = true := hm
        obtain ⟨h, h3, h4⟩ := and3 hm
        rw [Bool.and_eq_true] at h h4
        obtain ⟨a1, a2, a3⟩ := and3 h.2
        exact st_for ok h.1 a1 a2 a3 h3 (ihb.pss X body ok h4.1 h4.2)
  | whl n fr c b ihb =>
    exact .one rfl fun X st ok hm => by
      cases st <;> first | (cases hm; done) | skip
      rename_i t body orelse pos
      cases orelse with
      | cons _ _ => cases hm
      | nil =>
        have hm : (c.isT && mE T N c sc t && (b.isBlk && ms T N b sc body)) = true := hm
        obtain ⟨h1, h2, h3⟩ := and3 hm
        rw [Bool.and_eq_true] at h3
        exact st_whl ok h1 h2 (ihb.pss X body ok h3.1 h3.2)
  | brk =>
    exact .one rfl fun X st ok hm => by
      cases st <;> first | (cases hm; done) | skip
      exact PS.by fun pins s σ H D I hw => ⟨_, ps_break, by
        obtain ⟨F0, H0, F, env, out, eo, ev, oo⟩ := hw
        cases ev
        exact oo σ H F eo⟩
  | cnt =>
    exact .one rfl fun X st ok hm => by
      cases st <;> first | (cases hm; done) | skip
      exact PS.by fun pins s σ H D I hw => ⟨_, ps_continue, by
        obtain ⟨F0, H0, F, env, out, eo, ev, oo⟩ := hw
        cases ev
        exact oo σ H F eo⟩
  | drp fr e =>
    exact .one rfl fun X st ok hm => by
      cases st <;> first | (cases hm; done) | skip
      have hm : (mE T N e sc _ && !lcB _) = true := hm
      rw [Bool.and_eq_true, Bool.not_eq_true'] at hm
      exact st_drp ok hm.1 hm.2
  | bad =>
    exact .one rfl fun X st ok hm => ⟨fun pins s σ H D I hw => (by
      obtain ⟨F0, H0, F, env, out, eo, ev, oo⟩ := hw
      cases ev)⟩
end
end EV
end

section
set_option Elab.async false
set_option linter.all false
set_option maxRecDepth 100000
set_option maxHeartbeats 4000000
/-! EV, part 23: defs by levels. -/
namespace EV
open PySem PySem.Spec PyProof.Rows L2
structure Def where
  /-- how many parameters -/
  n : Nat
  /-- the names: the parameters first -/
  vars : List Str
  core : CS
def outC : Out → Option Cell
  | .rt c => some c
  | .nx _ => some (.sh .none)
  | _ => none
def runD (G : Nat → List EV.D → Option Cell) (C : Nat → Option EV.D) (d : Def) (xs : List EV.D) : Option Cell :=
  if xs.length = d.n then (evalS G C (xs.map .sh ++ List.replicate (d.vars.length - d.n) .no) d.core).bind outC else none
/-- k levels of calls -/
def GG (tab : Nat → Option Def) (C : Nat → Option EV.D) : Nat → Nat → List EV.D → Option Cell
  | 0, _, _ => none
  | k + 1, f, xs => match tab f with
    | some d => runD (GG tab C k) C d xs
    | none => none
/-- a def's text by its core -/
def defB (T : Tab) (d : Def) (st : Stmt) : Bool :=
  d.core.isBlk && ms T d.vars d.core (defScope st) (defBody st) && decide ((defScope st).kind = .function) && !(defScope st).isCoroutine && !(defScope st).isGenerator && decide d.vars.Nodup && decide (d.n ≤ d.vars.length) &&
    (d.vars.take d.n).all (fun x => lkIs (defScope st) x .local || lkIs (defScope st) x .cell) && (defScope st).names.all fun y => !decide (y.2 = .free)
section
variable {P : Program} {w : World} {K : PySem.W.Frag} {mg : Str → Option Value} {base : Heap} {T : Tab}
theorem sh_start {F : Hp} : ∀ {vs : List V} {ds : List EV.D} (m : Nat), RVs K F vs ds → ∀ (i : Nat) (d : EV.D), (ds.map Cell.sh ++ List.replicate m Cell.no)[i]? = some (Cell.sh d) → ∃ v, (vs.map some ++ List.replicate m none)[i]? = some (some v) ∧ RV K F v d
  | _, _, m, .nil, i, d, h => by
    simp only [List.map_nil, List.nil_append] at h
    rw [List.getElem?_replicate] at h
    split at h <;> cases h
  | _, _, m, .cons (v := v) h1 h2, 0, d, h => by
    simp only [List.map_cons, List.cons_append, List.getElem?_cons_zero] at h ⊢
    cases h
    exact ⟨v, rfl, h1⟩
  | _, _, m, .cons (v := v) h1 h2, i + 1, d, h => by
    simp only [List.map_cons, List.cons_append, List.getElem?_cons_succ] at h ⊢
    exact sh_start m h2 i d h
theorem ow_start : ∀ (ds : List EV.D) (m : Nat) (i : Nat) (d : EV.D), (ds.map Cell.sh ++ List.replicate m Cell.no)[i]? = some (Cell.ow d) → False
  | [], m, i, d, h => by
    simp only [List.map_nil, List.nil_append] at h
    rw [List.getElem?_replicate] at h
    split at h <;> cases h
  | _ :: ds, m, 0, d, h => by simp at h
  | _ :: ds, m, i + 1, d, h => by
    simp only [List.map_cons, List.cons_append, List.getElem?_cons_succ] at h
    exact ow_start ds m i d h
theorem fn_level {G : Nat → List EV.D → Option Cell} {k : Nat} {x qual : Str} {st : Stmt} {a : Addr} {fd : FuncData} {d : Def} (F : Fun K x qual st a fd) (hd : defB T d st = true) (lib : LibOk P w K mg base T G k) :
    FnOk P w K mg base CX0 (k + 1) a fd (d.vars.take d.n) (spOf K d.n (runD G T.C d)) := by
  unfold defB at hd
  simp only [Bool.and_eq_true, Bool.not_eq_true', decide_eq_true_eq, List.all_eq_true, Bool.or_eq_true, lkIs, decide_eq_false_iff_not] at hd
  obtain ⟨⟨⟨⟨⟨⟨⟨⟨hb, hm⟩, h1⟩, h2⟩, h3⟩, h4⟩, h5⟩, h6⟩, h7⟩ := hd
  have hl : (d.vars.take d.n).length = d.n := by rw [List.length_take]; omega
  have S : FnScope d.vars (d.vars.take d.n) (defScope st) := ⟨h1, h2, h3, h4, by rw [hl], h6, h7⟩
  refine F.ok S (fun vs H Q E h => by rw [hl]; exact h.1) fun cdv A outer s H vs Q E hr h => ?_
  obtain ⟨hv, F1, ds, c, sm, rvs, hg, q⟩ := h
  have ok : XOk T G k d.vars (defScope st) (defScope st) (cxOf CX0 P w K mg base d.vars qual (defScope st) a cdv A outer s H E).nox := ⟨lib, hr, rfl, h4, rfl, rfl, rfl, fun y hy => ⟨hy, .inl rfl⟩⟩
  refine ⟨_, (sts d.core).pss _ _ ok hb hm, ?_⟩
  unfold runD at hg
  split at hg
  · rename_i hn
    cases ho : evalS G T.C (ds.map .sh ++ List.replicate (d.vars.length - d.n) .no) d.core with
    | none => rw [ho] at hg; cases hg
    | some out =>
      rw [ho] at hg
      have hg : outC out = some c := hg
      have st0 : L2.start d.vars vs = vs.map some ++ List.replicate (d.vars.length - d.n) none := by unfold L2.start; rw [hv]
      refine ⟨F1, H, F1, _, out, ⟨Post.refl sm, fun i d' hi => ?_, fun i d' hi => (ow_start _ _ _ _ hi).elim, fun i j d' e a' _ hi _ => (ow_start _ _ _ _ hi).elim, ?_⟩, ho, ?_⟩
      · rw [st0]; exact sh_start _ rvs i d' hi
      · rw [st0]; simp only [List.length_append, List.length_map, List.length_replicate, hn, hv]
      · cases out with
        | nx env => cases hg; exact fun σ' H' F' e => q _ _ _ e.post (.sh (.dp .non))
        | rt c' => cases hg; exact fun v H' F' p rc => q v H' F' p rc
        | bk _ => cases hg
        | ct _ => cases hg
  · cases hg
/-- a def of the text: what it promises by its core, given what the others promise -/
structure FnIn (P : Program) (w : World) (K : PySem.W.Frag) (mg : Str → Option Value) (base : Heap) (T : Tab) (tab : Nat → Option Def) (f n : Nat) (a : Addr) (fd : FuncData) (ps : List Str) : Prop where
  len : ps.length = n
  step : ∀ k, LibOk P w K mg base T (GG tab T.C k) (k + 2) → FnOk P w K mg base CX0 (k + 3) a fd ps (spOf K n (GG tab T.C (k + 1) f))
theorem FnIn.of_def {tab : Nat → Option Def} {f : Nat} {x qual : Str} {st : Stmt} {a : Addr} {fd : FuncData} {d : Def} (F : Fun K x qual st a fd) (ht : tab f = some d) (hd : defB T d st = true) :
    FnIn P w K mg base T tab f d.n a fd (d.vars.take d.n) := by
  refine ⟨?_, fun k lib => ?_⟩
  · unfold defB at hd
    simp only [Bool.and_eq_true, decide_eq_true_eq] at hd
    rw [List.length_take]
    omega
  · have e : GG tab T.C (k + 1) f = runD (GG tab T.C k) T.C d := funext fun xs => by
      show (match tab f with
        | some d => runD (GG tab T.C k) T.C d xs
        | none => none) = _
      rw [ht]
    rw [e]
    exact fn_level F hd lib
theorem FnIn.ok {tab : Nat → Option Def} {f n : Nat} {a : Addr} {fd : FuncData} {ps : List Str} (h : FnIn P w K mg base T tab f n a fd ps) (hl : ∀ k, LibOk P w K mg base T (GG tab T.C k) (k + 2)) : ∀ k, FnOk P w K mg base CX0 (k + 2) a fd ps (spOf K n (GG tab T.C k f))
  | 0 => ⟨fun vs H Q E q => by rw [h.len]; exact q.1, fun A outer s H args us vs Q E hr e0 hb hv q => by
      obtain ⟨_, F, ds, c, _, _, z, _⟩ := q
      cases z⟩
  | k + 1 => h.step k (hl k)
/-- what is known of the text -/
structure Txts (P : Program) (w : World) (K : PySem.W.Frag) (mg : Str → Option Value) (base : Heap) (T : Tab) (tab : Nat → Option Def) : Prop where
  fn : ∀ (f : Nat) (x : Str) (n : Nat), (f, x, n) ∈ T.fns → ∃ a fd ps, FnIn P w K mg base T tab f n a fd ps ∧ mg x = some (.ref a) ∧ PySem.W.keepIn K (.ref a) = true ∧ Binds K fd ps []
  made : ∀ (x : Str) (fs : List Str), (x, fs) ∈ T.mks → ∃ C a fd ps, PySem.W.nsIn K mainGlobals x = some (some (.ref C)) ∧ mg x = some (.ref C) ∧ Mk K C a ∧ FnOk P w K mg base CX0 1 a fd ps (spIni C fs) ∧ Binds K fd ps [] ∧ Cls K C ∧ ∀ y ∈ T.flds, NoAttr K C y
  meth : ∀ (c m : Str) (f n : Nat), (c, m, f, n) ∈ T.mts → ∃ C a fd ps, PySem.W.nsIn K mainGlobals c = some (some (.ref C)) ∧ Cls K C ∧ Meth K C m a ∧ FnIn P w K mg base T tab f (n + 1) a fd ps ∧ Binds K fd ps []
  cst : ∀ (c : Nat) (x : Str) (d : EV.D), T.csts[c]? = some (x, d) → ∃ v u, mg x = some u ∧ RelV v u ∧ ∀ F, RV K F v d
  blt : ∀ x ∈ bltNames, mg x = none
theorem FnIn.at0 {tab : Nat → Option Def} {f n : Nat} {a : Addr} {fd : FuncData} {ps : List Str} (h : FnIn P w K mg base T tab f n a fd ps) {k : Nat} : FnOk P w K mg base CX0 k a fd ps (spOf K n (GG tab T.C 0 f)) :=
  ⟨fun vs H Q E q => by rw [h.len]; exact q.1, fun A outer s H args us vs Q E hr e0 hb hv q => by
      obtain ⟨_, F, ds, c, _, _, z, _⟩ := q
      cases z⟩
theorem libs {tab : Nat → Option Def} (h : Txts P w K mg base T tab) : ∀ k, LibOk P w K mg base T (GG tab T.C k) (k + 2)
  | 0 => ⟨fun f x n hf => let ⟨a, fd, ps, h1, h2, h3, h4⟩ := h.fn f x n hf; ⟨a, fd, ps, h1.at0, h2, h3, h4⟩,
      fun x fs hx => let ⟨C, a, fd, ps, h1, h2, h3, h4, h5, h6, h7⟩ := h.made x fs hx; ⟨C, a, fd, ps, 1, h1, h2, h3, h4, Nat.le_refl _, h5, h6, h7⟩,
      fun c m f n hc => let ⟨C, a, fd, ps, h1, h2, h3, h4, h5⟩ := h.meth c m f n hc; ⟨C, a, fd, ps, h1, h2, h3, h4.at0, h5⟩, h.cst, h.blt⟩
  | k + 1 => have lib := libs h k
    ⟨fun f x n hf => let ⟨a, fd, ps, h1, h2, h3, h4⟩ := h.fn f x n hf; ⟨a, fd, ps, h1.step k lib, h2, h3, h4⟩,
      fun x fs hx => let ⟨C, a, fd, ps, h1, h2, h3, h4, h5, h6, h7⟩ := h.made x fs hx; ⟨C, a, fd, ps, 1, h1, h2, h3, h4, by omega, h5, h6, h7⟩,
      fun c m f n hc => let ⟨C, a, fd, ps, h1, h2, h3, h4, h5⟩ := h.meth c m f n hc; ⟨C, a, fd, ps, h1, h2, h3, h4.step k lib, h5⟩, h.cst, h.blt⟩
end
/-- the law's end -/
theorem walk {l : PySem.W.OpenLaw} {q : Program} {loose : List Str} {XP : (Str → Option Value) → Heap → Prop} {YP : World → Heap → Prop} {d : DefRec} {K : Params → PySem.W.Frag} {T : Tab} {tab : Nat → Option Def} {fl k : Nat}
    (hn : l.most = some 63) (hdf : d.params.defaults = []) (hr : Room (k + 2) callerA) (hY : ∀ (w : World) (h : Heap), YP w h → (K w.params).In h) (hd : d.name = "law") (hlaw : (fl, ("law" : Str), 1) ∈ T.fns)
    (F : ∀ (w : World) (mg : Str → Option Value) (h : Heap), (K w.params).In h → h.Ns mainGlobals mg → ∀ base : Heap, (K w.params).In base → base.Ns mainGlobals mg → Txts l.prog w (K w.params) mg base T tab)
    (L : ∀ (w : World) (mg : Str → Option Value) (fa : Addr) (h : Heap), (K w.params).In h → h.Ns mainGlobals mg → mg d.name = some (.ref fa) → ∃ fd : FuncData, (∀ (s : Shared) (u : Value), BindsTo s fd ⟨[u], []⟩ [("script", u)]) ∧ ∀ base : Heap, (K w.params).In base → base.Ns mainGlobals mg → FnIn l.prog w (K w.params) mg base T tab fl 1 fa fd ["script"])
    (M : ∀ ns : List Int, ns.length ≤ 63 → GG tab T.C k fl [.list (ns.map .int)] = some (.sh (.bool true))) :
    PySem.W.WalkO q loose XP YP l.row.toRowW d [] (fun f vs => PySem.call f vs) := by
  refine L2.walk_of (n := 63) (k := k + 2) (x := "script") (CX := fun _ => CX0) (sp := fun w => spOf (K w.params) 1 (GG tab T.C k fl)) hn (by decide) hdf hr hY (fun w mg fa h KX G hm => ?_) (fun w H a ns hl _ hS => ?_) fun _ _ _ _ _ z => z
  · obtain ⟨fd, hb, hF⟩ := L w mg fa h KX G hm
    exact ⟨fd, hb, fun base hB hN => (hF base hB hN).ok (libs (F w mg h KX G base hB hN)) k⟩
  · refine ⟨rfl, H, [.list (ns.map .int)], .sh (.bool true), Same.refl _, .cons (.dp (.lst hS (ints_dp ns))) .nil, M ns hl, fun v H' F' p rc => ?_⟩
    cases rc with
    | sh rv => exact rv_bl rv
end EV
end

section
set_option Elab.async false
set_option linter.all false
set_option maxRecDepth 100000
set_option maxHeartbeats 4000000
/-! the cores of the program's defs (printed by emit.py) -/
namespace EV
open PySem L2
def en (f : Nat) (x : Str) (n : Nat) : Nat × Str × Nat := (f, x, n)
def c_summed_e1 : CE := (.bin .mul (.var 3) (.var 4))
def c_summed : Def := ⟨3, ["p", "row", "load", "one", "other"], (.seq (.ret [] (.bin .mod (.blt .sum (.cons (.lc [3, 4] (.tp [3, 4]) (.zip (.cons (.var 1) (.cons (.var 2) .nil))) .nil c_summed_e1) .nil)) (.var 0))) .nil)⟩
def c_columns_of_e1 : CE := (.ix (.var 2) (.var 1))
def c_columns_of_e2 : CE := (.blt .tup (.cons (.lc [2] (.nm 2) (.ix (.var 0) (.int 2)) .nil c_columns_of_e1) .nil))
def c_columns_of : Def := ⟨1, ["table", "place", "row"], (.seq (.ret [] (.lc [1] (.nm 1) (.rng (.cons (.ix (.var 0) (.int 1)) .nil)) .nil c_columns_of_e2)) .nil)⟩
def c_product_e1 : CE := (.call 0 (.cons (.var 0) (.cons (.var 5) (.cons (.var 6) .nil))))
def c_product_e2 : CE := (.blt .tup (.cons (.lc [6] (.nm 6) (.var 3) .nil c_product_e1) .nil))
def c_product : Def := ⟨3, ["p", "one", "other", "columns", "rows", "row", "column"], (.seq (.asg 3 [] (.call 1 (.cons (.var 2) .nil))) (.seq (.asg 4 [3] (.lc [5] (.nm 5) (.ix (.var 1) (.int 2)) .nil c_product_e2)) (.seq (.ret [4] (.tup (.cons (.ix (.var 1) (.int 0)) (.cons (.ix (.var 2) (.int 1)) (.cons (.blt .tup (.cons (.var 4) .nil)) .nil))))) .nil)))⟩
def c_in_turns_b1 : CS := (.seq (.unp [9, 10] [] (.var 8)) (.seq (.asg 11 [] (.var 7)) (.seq (.asg 12 [] (.bin .add (.var 7) (.int 1))) (.seq (.ife [] (.cmp .eq (.var 9) (.str "l")) (.seq (.asg 11 [] (.bin .add (.var 7) (.int 1))) (.seq (.asg 12 [] (.var 7)) .nil)) .nil) (.seq (.app 6 [11, 12] (.tup (.cons (.var 9) (.cons (.call 2 (.cons (.var 3) (.cons (.ix (.var 1) (.var 12)) (.cons (.call 2 (.cons (.var 3) (.cons (.var 10) (.cons (.ix (.var 2) (.var 11)) .nil)))) .nil)))) .nil)))) .nil)))))
def c_in_turns : Def := ⟨3, ["row", "turns", "backs", "p", "widths", "arrows", "told", "k", "arrow", "way", "table", "begin", "end"], (.seq (.unp [3, 4, 5] [] (.var 0)) (.seq (.asg 6 [] (.lst .nil)) (.seq (.for_ [] (.tp [7, 8]) (.enm (.var 5)) c_in_turns_b1) (.seq (.ret [6] (.tup (.cons (.var 3) (.cons (.var 4) (.cons (.blt .tup (.cons (.var 6) .nil)) .nil))))) .nil))))⟩
def c_inverse_b1 : CS := (.seq (.ife [] (.cmp .eq (.bin .mod (.bin .mul (.var 2) (.var 1)) (.var 0)) (.int 1)) (.seq (.reto 2) .nil) .nil) .nil)
def c_inverse : Def := ⟨2, ["p", "x", "other"], (.seq (.for_ [] (.nm 2) (.rng (.cons (.int 1) (.cons (.var 0) .nil))) c_inverse_b1) (.seq (.bad) .nil))⟩
def c_led_e1 : CE := (.call 0 (.cons (.var 0) (.cons (.var 3) (.cons (.var 2) .nil))))
def c_led : Def := ⟨3, ["p", "table", "load", "row"], (.seq (.ret [] (.blt .tup (.cons (.lc [3] (.nm 3) (.ix (.var 1) (.int 2)) .nil c_led_e1) .nil))) .nil)⟩
def c_less_e1 : CE := (.bin .mod (.bin .sub (.var 4) (.bin .mul (.var 3) (.var 5))) (.var 0))
def c_less : Def := ⟨4, ["p", "row", "other", "times", "one", "two"], (.seq (.ret [] (.lc [4, 5] (.tp [4, 5]) (.zip (.cons (.var 1) (.cons (.var 2) .nil))) .nil c_less_e1)) .nil)⟩
def c_first_with_b1 : CS := (.seq (.ife [] (.cmp .ne (.ix (.var 3) (.var 1)) (.int 0)) (.seq (.reto 2) .nil) .nil) .nil)
def c_first_with : Def := ⟨2, ["rows", "place", "k", "row"], (.seq (.for_ [] (.tp [2, 3]) (.enm (.var 0)) c_first_with_b1) (.seq (.ret [] .non) .nil))⟩
def c_base_of_e1 : CE := (.blt .tup (.cons (.var 8) .nil))
def c_base_of_e2 : CE := (.call 6 (.cons (.var 0) (.cons (.var 8) (.cons (.var 10) (.cons (.ix (.var 8) (.var 6)) .nil)))))
def c_base_of_e3 : CE := (.call 6 (.cons (.var 0) (.cons (.var 8) (.cons (.var 10) (.cons (.ix (.var 8) (.var 6)) .nil)))))
def c_base_of_e4 : CE := (.bin .mod (.bin .mul (.var 11) (.var 7)) (.var 0))
def c_base_of_b5 : CS := (.seq (.asg 9 [3] (.call 7 (.cons (.var 3) (.cons (.var 6) .nil)))) (.seq (.ife [9] (.cmp .isn (.var 9) .non) (.seq (.pop 10 3 [9] (.var 9)) (.seq (.asg 11 [10] (.call 4 (.cons (.var 0) (.cons (.ix (.var 10) (.var 6)) .nil)))) (.seq (.asg 10 [10, 11] (.lc [7] (.nm 7) (.var 10) .nil c_base_of_e4)) (.seq (.asg 3 [3, 10, 999] (.lc [8] (.nm 8) (.var 3) .nil c_base_of_e3)) (.seq (.asg 5 [5, 10, 999] (.bin .add (.lc [8] (.nm 8) (.var 5) .nil c_base_of_e2) (.lst (.cons (.var 10) .nil)))) .nil))))) .nil) .nil))
def c_base_of_e6 : CE := (.blt .lst (.cons (.var 4) .nil))
def c_base_of : Def := ⟨3, ["p", "long", "loads", "rows", "load", "base", "place", "number", "row", "k", "chosen", "over"], (.seq (.asg 3 [] (.lc [4] (.nm 4) (.var 2) .nil c_base_of_e6)) (.seq (.asg 5 [] (.lst .nil)) (.seq (.for_ [] (.nm 6) (.rng (.cons (.var 1) .nil)) c_base_of_b5) (.seq (.ret [5] (.lc [8] (.nm 8) (.var 5) .nil c_base_of_e1)) .nil))))⟩
def c_lead_of_b1 : CS := (.seq (.ife [] (.cmp .ne (.var 2) (.int 0)) (.seq (.reto 1) .nil) .nil) .nil)
def c_lead_of : Def := ⟨1, ["load", "place", "number"], (.seq (.for_ [] (.tp [1, 2]) (.enm (.var 0)) c_lead_of_b1) (.seq (.ret [] (.blt .len (.cons (.var 0) .nil))) .nil))⟩
def c_kernel_b1 : CS := (.seq (.put 9 [] (.var 10) (.bin .mod (.bin .sub (.int 0) (.ix (.var 5) (.var 7))) (.var 0))) .nil)
def c_kernel_e2 : CE := (.blt .int (.cons (.cmp .eq (.var 8) (.var 7)) .nil))
def c_kernel_b3 : CS := (.seq (.ife [4] (.cmp .ni (.var 7) (.var 4)) (.seq (.asg 9 [] (.lc [8] (.nm 8) (.rng (.cons (.var 2) .nil)) .nil c_kernel_e2)) (.seq (.for_ [3, 4] (.tp [5, 10]) (.zip (.cons (.var 3) (.cons (.var 4) .nil))) c_kernel_b1) (.seq (.app 6 [9] (.var 9)) .nil))) .nil) .nil)
def c_kernel_e4 : CE := (.call 9 (.cons (.var 5) .nil))
def c_kernel : Def := ⟨2, ["p", "table", "wide", "base", "leads", "row", "loads", "place", "j", "load", "lead"], (.seq (.asg 2 [] (.ix (.var 1) (.int 1))) (.seq (.asg 3 [] (.call 8 (.cons (.var 0) (.cons (.var 2) (.cons (.ix (.var 1) (.int 2)) .nil))))) (.seq (.asg 4 [3] (.lc [5] (.nm 5) (.var 3) .nil c_kernel_e4)) (.seq (.asg 6 [] (.lst .nil)) (.seq (.for_ [] (.nm 7) (.rng (.cons (.var 2) .nil)) c_kernel_b3) (.seq (.ret [6] (.call 8 (.cons (.var 0) (.cons (.var 2) (.cons (.var 6) .nil))))) .nil))))))⟩
def c_pressed_e1 : CE := (.call 5 (.cons (.var 0) (.cons (.var 1) (.cons (.var 3) .nil))))
def c_pressed : Def := ⟨3, ["p", "table", "base", "load"], (.seq (.ret [] (.call 8 (.cons (.var 0) (.cons (.ix (.var 1) (.int 0)) (.cons (.lc [3] (.nm 3) (.var 2) .nil c_pressed_e1) .nil))))) .nil)⟩
def c_joined_table_e1 : CE := (.ix (.var 5) (.var 4))
def c_joined_table_e2 : CE := (.bin .mod (.bin .sub (.int 0) (.var 6)) (.var 0))
def c_joined_table_b3 : CS := (.seq (.app 3 [] (.blt .tup (.cons (.bin .add (.lc [5] (.nm 5) (.var 2) .nil c_joined_table_e1) (.lc [6] (.nm 6) (.ix (.ix (.var 1) (.int 2)) (.var 4)) .nil c_joined_table_e2)) .nil))) .nil)
def c_joined_table : Def := ⟨3, ["p", "table", "loads", "rows", "k", "load", "number"], (.seq (.asg 3 [] (.lst .nil)) (.seq (.for_ [] (.nm 4) (.rng (.cons (.ix (.var 1) (.int 0)) .nil)) c_joined_table_b3) (.seq (.ret [3] (.tup (.cons (.ix (.var 1) (.int 0)) (.cons (.bin .add (.blt .len (.cons (.var 2) .nil)) (.ix (.var 1) (.int 1))) (.cons (.blt .tup (.cons (.var 3) .nil)) .nil))))) .nil)))⟩
def c_leading_to_e1 : CE := (.sl (.var 4) (.blt .len (.cons (.var 2) .nil)) .nil)
def c_leading_to : Def := ⟨3, ["p", "table", "base", "found", "load"], (.seq (.asg 3 [] (.call 10 (.cons (.var 0) (.cons (.call 12 (.cons (.var 0) (.cons (.var 1) (.cons (.var 2) .nil)))) .nil)))) (.seq (.ret [3] (.call 8 (.cons (.var 0) (.cons (.ix (.var 1) (.int 1)) (.cons (.lc [4] (.nm 4) (.var 3) .nil c_leading_to_e1) .nil))))) .nil))⟩
def c_arrow_at : Def := ⟨2, ["row", "k", "way", "table"], (.seq (.unp [2, 3] [] (.ix (.ix (.var 0) (.int 2)) (.var 1))) (.seq (.ife [] (.cmp .eq (.var 2) (.str "r")) (.seq (.ret [] (.mk "Right" ["prime", "table"] (.cons (.ix (.var 0) (.int 0)) (.cons (.var 3) .nil)))) .nil) .nil) (.seq (.ret [] (.mk "Left" ["prime", "table"] (.cons (.ix (.var 0) (.int 0)) (.cons (.var 3) .nil)))) .nil)))⟩
def c_Right_back : Def := ⟨2, ["self", "base"], (.seq (.ret [] (.mth [("Right", 21), ("Left", 21)] "against" (.var 0) (.cons (.var 1) .nil))) .nil)⟩
def c_Left_back : Def := ⟨2, ["self", "base"], (.seq (.ret [] (.mth [("Right", 20), ("Left", 20)] "along" (.var 0) (.cons (.var 1) .nil))) .nil)⟩
def c_Right_forth : Def := ⟨2, ["self", "base"], (.seq (.ret [] (.mth [("Right", 20), ("Left", 20)] "along" (.var 0) (.cons (.var 1) .nil))) .nil)⟩
def c_Left_forth : Def := ⟨2, ["self", "base"], (.seq (.ret [] (.mth [("Right", 21), ("Left", 21)] "against" (.var 0) (.cons (.var 1) .nil))) .nil)⟩
def c_carried_b1 : CS := (.seq (.asg 1 [1] (.mth [("Right", 15), ("Left", 16)] "back" (.call 14 (.cons (.var 0) (.cons (.var 4) .nil))) (.cons (.var 1) .nil))) .nil)
def c_carried_b2 : CS := (.seq (.asg 1 [1] (.mth [("Right", 17), ("Left", 18)] "forth" (.call 14 (.cons (.var 0) (.cons (.var 4) .nil))) (.cons (.var 1) .nil))) .nil)
def c_carried : Def := ⟨4, ["row", "base", "i", "j", "k"], (.seq (.asg 1 [1] (.blt .lst (.cons (.var 1) .nil))) (.seq (.for_ [] (.nm 4) (.rng (.cons (.var 2) (.cons (.var 3) .nil))) c_carried_b2) (.seq (.for_ [] (.nm 4) (.rng (.cons (.bin .sub (.var 2) (.int 1)) (.cons (.bin .sub (.var 3) (.int 1)) (.cons (.neg (.int 1)) .nil)))) c_carried_b1) (.seq (.reto 1) .nil))))⟩
def c_Arrow_along : Def := ⟨2, ["self", "base"], (.seq (.ret [] (.call 11 (.cons (.fld ["Right", "Left"] (.var 0) "prime") (.cons (.fld ["Right", "Left"] (.var 0) "table") (.cons (.var 1) .nil))))) .nil)⟩
def c_Arrow_against : Def := ⟨2, ["self", "base"], (.seq (.ret [] (.call 13 (.cons (.fld ["Right", "Left"] (.var 0) "prime") (.cons (.fld ["Right", "Left"] (.var 0) "table") (.cons (.var 1) .nil))))) .nil)⟩
def c_same_table_e1 : CE := (.blt .int (.cons (.cmp .eq (.var 2) (.var 3)) .nil))
def c_same_table_e2 : CE := (.blt .tup (.cons (.lc [3] (.nm 3) (.rng (.cons (.var 0) .nil)) .nil c_same_table_e1) .nil))
def c_same_table : Def := ⟨1, ["many", "rows", "i", "j"], (.seq (.asg 1 [] (.lc [2] (.nm 2) (.rng (.cons (.var 0) .nil)) .nil c_same_table_e2)) (.seq (.ret [1] (.tup (.cons (.var 0) (.cons (.var 0) (.cons (.blt .tup (.cons (.var 1) .nil)) .nil))))) .nil))⟩
def c_image : Def := ⟨2, ["p", "table"], (.seq (.ret [] (.call 8 (.cons (.var 0) (.cons (.ix (.var 1) (.int 0)) (.cons (.call 1 (.cons (.var 1) .nil)) .nil))))) .nil)⟩
def c_rank : Def := ⟨2, ["p", "table"], (.seq (.ret [] (.blt .len (.cons (.call 23 (.cons (.var 0) (.cons (.var 1) .nil))) .nil))) .nil)⟩
def c_solved_b1 : CS := (.seq (.asg 9 [] (.call 9 (.cons (.var 5) .nil))) (.seq (.ife [9] (.cmp .eq (.var 9) (.var 3)) (.seq (.ret [] .non) .nil) .nil) (.seq (.put 7 [9] (.var 9) (.ix (.var 5) (.var 3))) .nil)))
def c_solved_e2 : CE := (.int 0)
def c_solved_e3 : CE := (.bin .add (.var 5) (.tup (.cons (.var 6) .nil)))
def c_solved : Def := ⟨3, ["p", "table", "load", "wide", "longer", "row", "number", "found", "j", "lead"], (.seq (.asg 3 [] (.ix (.var 1) (.int 1))) (.seq (.asg 4 [] (.lc [5, 6] (.tp [5, 6]) (.zip (.cons (.ix (.var 1) (.int 2)) (.cons (.var 2) .nil))) .nil c_solved_e3)) (.seq (.asg 7 [] (.lc [8] (.nm 8) (.rng (.cons (.var 3) .nil)) .nil c_solved_e2)) (.seq (.for_ [4] (.nm 5) (.call 8 (.cons (.var 0) (.cons (.bin .add (.var 3) (.int 1)) (.cons (.var 4) .nil)))) c_solved_b1) (.seq (.ret [7] (.blt .tup (.cons (.var 7) .nil))) .nil)))))⟩
def c_back_of_e1 : CE := (.sl (.var 6) (.var 2) .nil)
def c_back_of_e2 : CE := (.cmp .ne (.call 9 (.cons (.var 6) .nil)) (.var 9))
def c_back_of_e3 : CE := (.bin .add (.var 6) (.var 7))
def c_back_of : Def := ⟨2, ["p", "table", "high", "wide", "rows", "longer", "row", "same", "base", "k"], (.seq (.unp [2, 3, 4] [] (.var 1)) (.seq (.ife [] (.cmp .ne (.var 2) (.var 3)) (.seq (.ret [] .non) .nil) .nil) (.seq (.asg 5 [] (.lc [6, 7] (.tp [6, 7]) (.zip (.cons (.var 4) (.cons (.ix (.call 22 (.cons (.var 2) .nil)) (.int 2)) .nil))) .nil c_back_of_e3)) (.seq (.asg 8 [5] (.call 8 (.cons (.var 0) (.cons (.bin .mul (.int 2) (.var 2)) (.cons (.var 5) .nil))))) (.seq (.ife [8] (.blt .any (.cons (.lc [9, 6] (.tp [9, 6]) (.enm (.var 8)) .nil c_back_of_e2) .nil)) (.seq (.ret [] .non) .nil) .nil) (.seq (.ret [8] (.tup (.cons (.var 2) (.cons (.var 2) (.cons (.blt .tup (.cons (.lc [6] (.nm 6) (.var 8) .nil c_back_of_e1) .nil)) .nil))))) .nil))))))⟩
def c_sum_of_b1 : CS := (.seq (.put 4 [4] (.var 7) (.bin .mod (.bin .add (.ix (.var 4) (.var 7)) (.bin .mul (.ix (.var 5) (.var 7)) (.var 6))) (.var 0))) .nil)
def c_sum_of_b2 : CS := (.seq (.for_ [] (.nm 7) (.rng (.cons (.var 1) .nil)) c_sum_of_b1) .nil)
def c_sum_of : Def := ⟨4, ["p", "long", "loads", "numbers", "whole", "load", "number", "k"], (.seq (.asg 4 [] (.rep (.lst (.cons (.int 0) .nil)) (.var 1))) (.seq (.for_ [] (.tp [5, 6]) (.zip (.cons (.var 2) (.cons (.var 3) .nil))) c_sum_of_b2) (.seq (.ret [4] (.blt .tup (.cons (.var 4) .nil))) .nil)))⟩
def c_doubled_e1 : CE := (.blt .int (.cons (.cmp .eq (.var 3) (.var 2)) .nil))
def c_doubled_b2 : CS := (.seq (.asg 4 [] (.blt .tup (.cons (.lc [3] (.nm 3) (.rng (.cons (.var 0) .nil)) .nil c_doubled_e1) .nil))) (.seq (.app 1 [4] (.tup (.cons (.var 4) (.cons (.var 4) .nil)))) .nil))
def c_doubled : Def := ⟨1, ["width", "pairs", "k", "j", "load"], (.seq (.asg 1 [] (.lst .nil)) (.seq (.for_ [] (.nm 2) (.rng (.cons (.var 0) .nil)) c_doubled_b2) (.seq (.reto 1) .nil)))⟩
def c_further_e1 : CE := (.ix (.var 10) (.int 1))
def c_further_b2 : CS := (.seq (.app 8 [9] (.tup (.cons (.call 27 (.cons (.var 0) (.cons (.var 2) (.cons (.var 9) (.cons (.sl (.var 11) .nil (.blt .len (.cons (.var 1) .nil))) .nil))))) (.cons (.sl (.var 11) (.blt .len (.cons (.var 1) .nil)) .nil) .nil)))) .nil)
def c_further_e3 : CE := (.ix (.var 10) (.int 0))
def c_further_e4 : CE := (.tup (.cons (.var 6) (.cons (.call 5 (.cons (.var 0) (.cons (.var 5) (.cons (.var 7) .nil)))) .nil)))
def c_further : Def := ⟨4, ["p", "pairs", "first", "arrow", "way", "table", "v", "w", "found", "lefts", "pair", "load"], (.seq (.unp [4, 5] [] (.var 3)) (.seq (.ife [] (.cmp .eq (.var 4) (.str "r")) (.seq (.ret [] (.lc [6, 7] (.tp [6, 7]) (.var 1) .nil c_further_e4)) .nil) .nil) (.seq (.asg 8 [] (.lst .nil)) (.seq (.asg 9 [] (.lc [10] (.nm 10) (.var 1) .nil c_further_e3)) (.seq (.for_ [] (.nm 11) (.call 10 (.cons (.var 0) (.cons (.call 12 (.cons (.var 0) (.cons (.var 5) (.cons (.lc [10] (.nm 10) (.var 1) .nil c_further_e1) .nil)))) .nil))) c_further_b2) (.seq (.reto 8) .nil))))))⟩
def c_links_of_e1 : CE := (.bin .add (.var 8) (.var 9))
def c_links_of_e2 : CE := (.tup (.cons (.sl (.var 11) .nil (.var 6)) (.cons (.sl (.var 11) (.var 6) .nil) .nil)))
def c_links_of_b3 : CS := (.seq (.asg 12 [7] (.call 29 (.cons (.var 3) (.cons (.lc [11] (.nm 11) (.ix (.var 7) (.neg (.int 1))) .nil c_links_of_e2) (.cons (.var 6) (.cons (.ix (.var 5) (.var 10)) .nil)))))) (.seq (.app 7 [12] (.call 8 (.cons (.var 3) (.cons (.bin .add (.var 6) (.ix (.var 4) (.bin .add (.var 10) (.int 1)))) (.cons (.lc [8, 9] (.tp [8, 9]) (.var 12) .nil c_links_of_e1) .nil))))) .nil))
def c_links_of_e4 : CE := (.bin .add (.var 8) (.var 9))
def c_links_of : Def := ⟨3, ["row", "i", "j", "p", "widths", "arrows", "first", "told", "v", "w", "k", "load", "pairs"], (.seq (.unp [3, 4, 5] [] (.var 0)) (.seq (.asg 6 [] (.ix (.var 4) (.var 1))) (.seq (.asg 7 [] (.lst (.cons (.call 8 (.cons (.var 3) (.cons (.bin .mul (.int 2) (.var 6)) (.cons (.lc [8, 9] (.tp [8, 9]) (.call 28 (.cons (.var 6) .nil)) .nil c_links_of_e4) .nil)))) .nil))) (.seq (.for_ [] (.nm 10) (.rng (.cons (.var 1) (.cons (.var 2) .nil))) c_links_of_b3) (.seq (.reto 7) .nil)))))⟩
def c_link : Def := ⟨3, ["row", "i", "j"], (.seq (.ret [] (.ix (.call 30 (.cons (.var 0) (.cons (.var 1) (.cons (.var 2) .nil)))) (.neg (.int 1)))) .nil)⟩
def c_sided_e1 : CE := (.ix (.var 6) (.var 5))
def c_sided_b2 : CS := (.seq (.app 4 [] (.blt .tup (.cons (.lc [6] (.nm 6) (.var 1) .nil c_sided_e1) .nil))) .nil)
def c_sided : Def := ⟨4, ["p", "base", "first", "last", "rows", "k", "load"], (.seq (.asg 4 [] (.lst .nil)) (.seq (.for_ [] (.nm 5) (.rng (.cons (.var 2) (.cons (.var 3) .nil))) c_sided_b2) (.seq (.ret [4] (.blt .len (.cons (.call 10 (.cons (.var 0) (.cons (.tup (.cons (.bin .sub (.var 3) (.var 2)) (.cons (.blt .len (.cons (.var 1) .nil)) (.cons (.blt .tup (.cons (.var 4) .nil)) .nil)))) .nil))) .nil))) .nil)))⟩
def c_kept_by : Def := ⟨4, ["p", "first", "whole", "base"], (.seq (.ret [] (.bin .sub (.bin .sub (.blt .len (.cons (.var 3) .nil)) (.call 32 (.cons (.var 0) (.cons (.var 3) (.cons (.var 1) (.cons (.var 2) .nil)))))) (.call 32 (.cons (.var 0) (.cons (.var 3) (.cons (.int 0) (.cons (.var 1) .nil))))))) .nil)⟩
def c_kept : Def := ⟨3, ["row", "i", "j", "first"], (.seq (.asg 3 [] (.ix (.ix (.var 0) (.int 1)) (.var 1))) (.seq (.ret [] (.call 33 (.cons (.ix (.var 0) (.int 0)) (.cons (.var 3) (.cons (.bin .add (.var 3) (.ix (.ix (.var 0) (.int 1)) (.var 2))) (.cons (.call 31 (.cons (.var 0) (.cons (.var 1) (.cons (.var 2) .nil)))) .nil)))))) .nil))⟩
def c_ways_of_e1 : CE := (.var 1)
def c_ways_of : Def := ⟨1, ["row", "way", "table"], (.seq (.ret [] (.bm .join (.str "") (.cons (.lc [1, 2] (.tp [1, 2]) (.ix (.var 0) (.int 2)) .nil c_ways_of_e1) .nil))) .nil)⟩
def c_one_kind : Def := ⟨2, ["one", "other"], (.seq (.ret [] (.and_ (.cmp .eq (.ix (.var 0) (.int 0)) (.ix (.var 1) (.int 0))) (.cmp .eq (.call 36 (.cons (.var 0) .nil)) (.call 36 (.cons (.var 1) .nil))))) .nil)⟩
def c_refuse_unlike : Def := ⟨2, ["one", "other"], (.seq (.ife [] (.not_ (.call 37 (.cons (.var 0) (.cons (.var 1) .nil)))) (.seq (.bad) .nil) .nil) .nil)⟩
def c_ends_of : Def := ⟨2, ["row", "k"], (.seq (.ife [] (.cmp .eq (.ix (.ix (.ix (.var 0) (.int 2)) (.var 1)) (.int 0)) (.str "r")) (.seq (.ret [] (.tup (.cons (.var 1) (.cons (.bin .add (.var 1) (.int 1)) .nil)))) .nil) .nil) (.seq (.ret [] (.tup (.cons (.bin .add (.var 1) (.int 1)) (.cons (.var 1) .nil)))) .nil))⟩
def c_starts_of_b1 : CS := (.seq (.app 2 [2] (.bin .add (.ix (.var 2) (.neg (.int 1))) (.bin .mul (.var 3) (.var 4)))) .nil)
def c_starts_of : Def := ⟨2, ["one", "other", "starts", "wide", "high"], (.seq (.asg 2 [] (.lst (.cons (.int 0) .nil))) (.seq (.for_ [] (.tp [3, 4]) (.zip (.cons (.ix (.var 0) (.int 1)) (.cons (.ix (.var 1) (.int 1)) .nil))) c_starts_of_b1) (.seq (.reto 2) .nil)))⟩
def c_square_rows_e1 : CE := (.bin .mod (.var 10) (.ix (.var 0) (.int 0)))
def c_square_rows_b2 : CS := (.seq (.asg 14 [] (.bin .add (.bin .add (.ix (.var 3) (.var 4)) (.bin .mul (.var 13) (.ix (.var 6) (.int 1)))) (.var 11))) (.seq (.put 12 [12, 14] (.var 14) (.bin .sub (.ix (.var 12) (.var 14)) (.ix (.ix (.ix (.var 7) (.int 2)) (.var 9)) (.var 13)))) .nil))
def c_square_rows_b3 : CS := (.seq (.asg 14 [] (.bin .add (.bin .add (.ix (.var 3) (.var 5)) (.bin .mul (.var 9) (.ix (.var 6) (.int 0)))) (.var 13))) (.seq (.put 12 [12, 14] (.var 14) (.bin .add (.ix (.var 12) (.var 14)) (.ix (.ix (.ix (.var 6) (.int 2)) (.var 13)) (.var 11)))) .nil))
def c_square_rows_e4 : CE := (.int 0)
def c_square_rows_b5 : CS := (.seq (.asg 12 [] (.lc [10] (.nm 10) (.rng (.cons (.ix (.var 3) (.neg (.int 1))) .nil)) .nil c_square_rows_e4)) (.seq (.for_ [] (.nm 13) (.rng (.cons (.ix (.var 6) (.int 0)) .nil)) c_square_rows_b3) (.seq (.for_ [] (.nm 13) (.rng (.cons (.ix (.var 7) (.int 1)) .nil)) c_square_rows_b2) (.seq (.app 8 [12] (.blt .tup (.cons (.lc [10] (.nm 10) (.var 12) .nil c_square_rows_e1) .nil))) .nil))))
def c_square_rows_b6 : CS := (.seq (.for_ [] (.nm 11) (.rng (.cons (.ix (.var 6) (.int 1)) .nil)) c_square_rows_b5) .nil)
def c_square_rows : Def := ⟨4, ["one", "other", "k", "starts", "begin", "end", "first", "second", "rows", "i", "number", "j", "row", "t", "at"], (.seq (.unp [4, 5] [] (.call 39 (.cons (.var 0) (.cons (.var 2) .nil)))) (.seq (.asg 6 [] (.ix (.ix (.ix (.var 0) (.int 2)) (.var 2)) (.int 1))) (.seq (.asg 7 [] (.ix (.ix (.ix (.var 1) (.int 2)) (.var 2)) (.int 1))) (.seq (.asg 8 [] (.lst .nil)) (.seq (.for_ [] (.nm 9) (.rng (.cons (.ix (.var 7) (.int 0)) .nil)) c_square_rows_b6) (.seq (.reto 8) .nil))))))⟩
def c_squares_b1 : CS := (.seq (.ext 3 [2] (.call 41 (.cons (.var 0) (.cons (.var 1) (.cons (.var 4) (.cons (.var 2) .nil)))))) .nil)
def c_squares : Def := ⟨2, ["one", "other", "starts", "rows", "k"], (.seq (.asg 2 [] (.call 40 (.cons (.var 0) (.cons (.var 1) .nil)))) (.seq (.asg 3 [] (.lst .nil)) (.seq (.for_ [] (.nm 4) (.rng (.cons (.blt .len (.cons (.ix (.var 0) (.int 2)) .nil)) .nil)) c_squares_b1) (.seq (.ret [2, 3] (.tup (.cons (.blt .len (.cons (.var 3) .nil)) (.cons (.ix (.var 2) (.neg (.int 1))) (.cons (.blt .tup (.cons (.var 3) .nil)) .nil))))) .nil))))⟩
def c_as_tables_b1 : CS := (.seq (.app 7 [4] (.blt .tup (.cons (.sl (.var 0) (.var 4) (.bin .add (.var 4) (.var 5))) .nil))) (.seq (.asg 4 [4] (.bin .add (.var 4) (.var 5))) .nil))
def c_as_tables_b2 : CS := (.seq (.asg 7 [] (.lst .nil)) (.seq (.for_ [] (.nm 8) (.rng (.cons (.var 6) .nil)) c_as_tables_b1) (.seq (.app 3 [7] (.tup (.cons (.var 6) (.cons (.var 5) (.cons (.blt .tup (.cons (.var 7) .nil)) .nil))))) .nil)))
def c_as_tables : Def := ⟨3, ["load", "wides", "highs", "tables", "at", "wide", "high", "rows", "i"], (.seq (.asg 3 [] (.lst .nil)) (.seq (.asg 4 [] (.int 0)) (.seq (.for_ [] (.tp [5, 6]) (.zip (.cons (.var 1) (.cons (.var 2) .nil))) c_as_tables_b2) (.seq (.reto 3) .nil))))⟩
def c_ways_base_e1 : CE := (.call 43 (.cons (.var 3) (.cons (.ix (.var 0) (.int 1)) (.cons (.ix (.var 1) (.int 1)) .nil))))
def c_ways_base : Def := ⟨2, ["one", "other", "base", "load"], (.seq (.drp [] (.call 38 (.cons (.var 0) (.cons (.var 1) .nil)))) (.seq (.ife [] (.cmp .gt (.ix (.call 40 (.cons (.var 0) (.cons (.var 1) .nil))) (.neg (.int 1))) (.cst 0)) (.seq (.bad) .nil) .nil) (.seq (.asg 2 [] (.call 10 (.cons (.ix (.var 0) (.int 0)) (.cons (.call 42 (.cons (.var 0) (.cons (.var 1) .nil))) .nil)))) (.seq (.ret [2] (.lc [3] (.nm 3) (.var 2) .nil c_ways_base_e1)) .nil))))⟩
def c_leads_out : Def := ⟨3, ["ways", "k", "out"], (.seq (.ret [] (.cmp .eq (.cmp .eq (.ix (.var 0) (.var 1)) (.str "r")) (.var 2))) .nil)⟩
def c_bar_ways : Def := ⟨3, ["ways", "one", "other", "low", "high"], (.seq (.asg 3 [] (.blt .max2 (.cons (.ix (.var 1) (.int 0)) (.cons (.ix (.var 2) (.int 0)) .nil)))) (.seq (.asg 4 [] (.blt .min2 (.cons (.ix (.var 1) (.int 1)) (.cons (.ix (.var 2) (.int 1)) .nil)))) (.seq (.ife [3, 4] (.cmp .gt (.var 3) (.var 4)) (.seq (.ret [] (.int 0)) .nil) .nil) (.seq (.ife [3] (.and_ (.cmp .lt (.ix (.var 1) (.int 0)) (.var 3)) (.not_ (.call 45 (.cons (.var 0) (.cons (.bin .sub (.var 3) (.int 1)) (.cons (.bl false) .nil)))))) (.seq (.ret [] (.int 0)) .nil) .nil) (.seq (.ife [3] (.and_ (.cmp .lt (.ix (.var 2) (.int 0)) (.var 3)) (.not_ (.call 45 (.cons (.var 0) (.cons (.bin .sub (.var 3) (.int 1)) (.cons (.bl true) .nil)))))) (.seq (.ret [] (.int 0)) .nil) .nil) (.seq (.ife [4] (.and_ (.cmp .gt (.ix (.var 1) (.int 1)) (.var 4)) (.not_ (.call 45 (.cons (.var 0) (.cons (.var 4) (.cons (.bl true) .nil)))))) (.seq (.ret [] (.int 0)) .nil) .nil) (.seq (.ife [4] (.and_ (.cmp .gt (.ix (.var 2) (.int 1)) (.var 4)) (.not_ (.call 45 (.cons (.var 0) (.cons (.var 4) (.cons (.bl false) .nil)))))) (.seq (.ret [] (.int 0)) .nil) .nil) (.seq (.ret [] (.int 1)) .nil))))))))⟩
def progTab : Nat → Option Def
  | 0 => some c_summed
  | 1 => some c_columns_of
  | 2 => some c_product
  | 3 => some c_in_turns
  | 4 => some c_inverse
  | 5 => some c_led
  | 6 => some c_less
  | 7 => some c_first_with
  | 8 => some c_base_of
  | 9 => some c_lead_of
  | 10 => some c_kernel
  | 11 => some c_pressed
  | 12 => some c_joined_table
  | 13 => some c_leading_to
  | 14 => some c_arrow_at
  | 15 => some c_Right_back
  | 16 => some c_Left_back
  | 17 => some c_Right_forth
  | 18 => some c_Left_forth
  | 19 => some c_carried
  | 20 => some c_Arrow_along
  | 21 => some c_Arrow_against
  | 22 => some c_same_table
  | 23 => some c_image
  | 24 => some c_rank
  | 25 => some c_solved
  | 26 => some c_back_of
  | 27 => some c_sum_of
  | 28 => some c_doubled
  | 29 => some c_further
  | 30 => some c_links_of
  | 31 => some c_link
  | 32 => some c_sided
  | 33 => some c_kept_by
  | 34 => some c_kept
  | 36 => some c_ways_of
  | 37 => some c_one_kind
  | 38 => some c_refuse_unlike
  | 39 => some c_ends_of
  | 40 => some c_starts_of
  | 41 => some c_square_rows
  | 42 => some c_squares
  | 43 => some c_as_tables
  | 44 => some c_ways_base
  | 45 => some c_leads_out
  | 46 => some c_bar_ways
  | _ => none
end EV
end

section
set_option Elab.async false
set_option linter.all false
set_option maxRecDepth 100000
set_option maxHeartbeats 4000000
/-! EV, part 24: what the top has written, put together. -/
namespace EV
open PySem PySem.Spec PyProof.Rows L2
def allP {α : Type} (p : α → Prop) : List α → Prop
  | [] => True
  | x :: r => p x ∧ allP p r
theorem allP_mem {α : Type} {p : α → Prop} : ∀ {l : List α}, allP p l → ∀ x ∈ l, p x
  | [], _, x, h => by cases h
  | y :: r, h, x, hx => by
    rcases List.mem_cons.mp hx with e | hx
    · subst e; exact h.1
    · exact allP_mem h.2 x hx
/-- a def of the module, as it stands -/
def FnFact (K : PySem.W.Frag) (x : Str) (st : Stmt) : Prop := ∃ f fd, PySem.W.nsIn K mainGlobals x = some (some (.ref f)) ∧ Fun K x x st f fd
theorem FnFact.mk {K : PySem.W.Frag} {x : Str} {st : Stmt} {f : Addr} {oc : Value} {od an : Option Addr} {osl : Array (Option Value)} {kV doc pm cdv ct : Value} (a : PySem.W.nsIn K mainGlobals x = some (some (.ref f)))
    (l : K.lookup f = some ⟨oc, od, .func (PySem.W.fnOf x x (defArgs st) (defBody st) (defScope st) .none kV doc pm an cdv ct), osl⟩) (c : PySem.W.codeIn K cdv x = true) (k : PySem.W.keepIn K (.ref f) = true) : FnFact K x st := ⟨f, _, a, fun_mk l c k⟩
/-- a method of a class -/
def MtFact (K : PySem.W.Frag) (C : Addr) (m qual : Str) (st : Stmt) : Prop := ∃ f fd, Meth K C m f ∧ Fun K m qual st f fd
theorem MtFact.mk {K : PySem.W.Frag} {C : Addr} {m qual : Str} {st : Stmt} {f : Addr} {oc : Value} {od an : Option Addr} {osl : Array (Option Value)} {kV doc pm cdv ct : Value} (a : PySem.W.findIn K (.ref C) m = some (some (.ref f))) (i : PySem.W.isFn K (.ref f) = true)
    (l : K.lookup f = some ⟨oc, od, .func (PySem.W.fnOf m qual (defArgs st) (defBody st) (defScope st) .none kV doc pm an cdv ct), osl⟩) (c : PySem.W.codeIn K cdv qual = true) (k : PySem.W.keepIn K (.ref f) = true) : MtFact K C m qual st := ⟨f, _, ⟨a, i, k⟩, fun_mk l c k⟩
section
variable {P : Program} {w : World} {K : PySem.W.Frag} {mg : Str → Option Value} {base h : Heap} {T : Tab} {tab : Nat → Option Def}
theorem FnFact.fn (X : K.In h) (G : h.Ns mainGlobals mg) {x : Str} {st : Stmt} {d : Def} {f : Nat} (F : FnFact K x st) (hb : ∀ a fd, Fun K x x st a fd → Binds K fd (d.vars.take d.n) []) (ht : tab f = some d) (hd : defB T d st = true) :
    ∃ a fd ps, FnIn P w K mg base T tab f d.n a fd ps ∧ mg x = some (.ref a) ∧ PySem.W.keepIn K (.ref a) = true ∧ Binds K fd ps [] := by
  obtain ⟨a, fd, ha, hf⟩ := F
  exact ⟨a, fd, _, .of_def hf ht hd, PySem.W.mg_of X G ha, hf.kp, hb a fd hf⟩
theorem FnFact.law (X : K.In h) (G : h.Ns mainGlobals mg) {x y : Str} {st : Stmt} {d : Def} {f : Nat} {fa : Addr} (hm : mg x = some (.ref fa)) (F : FnFact K x st)
    (hb : ∀ (kV doc pm : Value) (an : Option Addr) (cdv ct : Value) (s : Shared) (v : Value), BindsTo s (PySem.W.fnOf x x (defArgs st) (defBody st) (defScope st) .none kV doc pm an cdv ct) ⟨[v], []⟩ [(y, v)]) (ht : tab f = some d) (hd : defB T d st = true) (hn : d.n = 1) (hps : d.vars.take d.n = [y]) :
    ∃ fd : FuncData, (∀ (s : Shared) (u : Value), BindsTo s fd ⟨[u], []⟩ [(y, u)]) ∧ ∀ base : Heap, K.In base → base.Ns mainGlobals mg → FnIn P w K mg base T tab f 1 fa fd [y] := by
  obtain ⟨a, fd, ha, hf⟩ := F
  have e := hm.symm.trans (PySem.W.mg_of X G ha)
  cases e
  obtain ⟨oc, od, kV, doc, pm, an, cdv, ct, osl, rfl, lk, hcd⟩ := hf.ex
  refine ⟨_, fun s u => hb kV doc pm an cdv ct s u, fun base _ _ => ?_⟩
  have z := FnIn.of_def (P := P) (w := w) (mg := mg) (base := base) (tab := tab) hf ht hd
  rw [hn, ← hn, hps, hn] at z
  exact z
theorem MtFact.fn {c m qual : Str} {C : Addr} {st : Stmt} {d : Def} {f n : Nat} (hc : PySem.W.nsIn K mainGlobals c = some (some (.ref C))) (cl : Cls K C) (F : MtFact K C m qual st) (hb : ∀ a fd, Fun K m qual st a fd → Binds K fd (d.vars.take d.n) []) (ht : tab f = some d) (hd : defB T d st = true) (hn : d.n = n + 1) :
    ∃ C a fd ps, PySem.W.nsIn K mainGlobals c = some (some (.ref C)) ∧ Cls K C ∧ Meth K C m a ∧ FnIn P w K mg base T tab f (n + 1) a fd ps ∧ Binds K fd ps [] := by
  obtain ⟨a, fd, me, hf⟩ := F
  have z := FnIn.of_def (P := P) (w := w) (mg := mg) (base := base) (tab := tab) hf ht hd
  rw [hn] at z
  have b := hb a fd hf
  rw [hn] at b
  exact ⟨C, a, fd, _, hc, cl, me, z, b⟩
/-- the names of built-in things are free -/
theorem blt_free (X : K.In h) (G : h.Ns mainGlobals mg) (z : allP (fun x => PySem.W.nsIn K mainGlobals x = some none) bltNames) : ∀ x ∈ bltNames, mg x = none := fun x hx => PySem.W.mg_none_of X G (allP_mem z x hx)
end
end EV
end

section
set_option linter.all false
/-! LA: linear algebra over a field, vectors as functions of a place. -/
namespace LA
open Lean.Grind
class Fld (K : Type) extends CommRing K where
  inv : K → K
  mul_inv : ∀ x : K, x ≠ 0 → x * inv x = 1
  one_ne : (1 : K) ≠ 0
section
variable {K : Type} [Fld K]
theorem mul_eq_zero {x y : K} (h : x * y = 0) : x = 0 ∨ y = 0 := by
  by_cases hx : x = 0
  · exact .inl hx
  · refine .inr ?_
    have h1 := Fld.mul_inv x hx
    have : y = (x * Fld.inv x) * y := by rw [h1]; grind
    rw [this]; grind
/-- the sum of f 0 .. f (n - 1) -/
def sm : Nat → (Nat → K) → K
  | 0, _ => 0
  | n + 1, f => sm n f + f n
theorem sm_congr {f g : Nat → K} : ∀ {n : Nat}, (∀ i, i < n → f i = g i) → sm n f = sm n g
  | 0, _ => rfl
  | n + 1, h => by
    show sm n f + f n = sm n g + g n
    rw [sm_congr fun i hi => h i (by omega), h n (by omega)]
theorem sm_zero {f : Nat → K} : ∀ {n : Nat}, (∀ i, i < n → f i = 0) → sm n f = 0
  | 0, _ => rfl
  | n + 1, h => by
    show sm n f + f n = 0
    rw [sm_zero fun i hi => h i (by omega), h n (by omega)]; grind
theorem sm_add (f g : Nat → K) : ∀ n, sm n (fun i => f i + g i) = sm n f + sm n g
  | 0 => by show (0 : K) = 0 + 0; grind
  | n + 1 => by
    show sm n (fun i => f i + g i) + (f n + g n) = (sm n f + f n) + (sm n g + g n)
    rw [sm_add f g n]; grind
theorem sm_mul (a : K) (f : Nat → K) : ∀ n, sm n (fun i => a * f i) = a * sm n f
  | 0 => by show (0 : K) = a * 0; grind
  | n + 1 => by
    show sm n (fun i => a * f i) + a * f n = a * (sm n f + f n)
    rw [sm_mul a f n]; grind
theorem sm_single {f : Nat → K} {i : Nat} : ∀ {n : Nat}, i < n → (∀ j, j < n → j ≠ i → f j = 0) → sm n f = f i
  | 0, h, _ => by omega
  | n + 1, h, hz => by
    show sm n f + f n = f i
    by_cases hi : i = n
    · subst hi
      rw [sm_zero fun j hj => hz j (by omega) (by omega)]; grind
    · rw [sm_single (n := n) (by omega) fun j hj hne => hz j (by omega) hne, hz n (by omega) (by omega)]; grind
theorem sm_comm (f : Nat → Nat → K) (m : Nat) : ∀ n, sm n (fun i => sm m (fun j => f i j)) = sm m (fun j => sm n (fun i => f i j))
  | 0 => by show (0 : K) = _; rw [sm_zero]; intro i _; rfl
  | n + 1 => by
    show sm n (fun i => sm m (fun j => f i j)) + sm m (fun j => f n j) = sm m (fun j => sm n (fun i => f i j) + f n j)
    rw [sm_comm f m n, ← sm_add]
theorem sm_app (f : Nat → K) (m : Nat) : ∀ n, sm (m + n) f = sm m f + sm n (fun i => f (m + i))
  | 0 => by show sm m f = sm m f + 0; grind
  | n + 1 => by
    show sm (m + n) f + f (m + n) = sm m f + (sm n (fun i => f (m + i)) + f (m + n))
    rw [sm_app f m n]; grind
/-! ### spans -/
inductive Span (S : (Nat → K) → Prop) : (Nat → K) → Prop
  | zero : Span S (fun _ => 0)
  | add {b v : Nat → K} (c : K) : S b → Span S v → Span S (fun j => v j + c * b j)
theorem Span.cast {S : (Nat → K) → Prop} {v w : Nat → K} (h : Span S v) (e : ∀ j, w j = v j) : Span S w := by
  have : w = v := funext e
  rw [this]; exact h
theorem Span.plus {S : (Nat → K) → Prop} {v w : Nat → K} (h : Span S v) (h2 : Span S w) : Span S (fun j => v j + w j) := by
  induction h with
  | zero => exact h2.cast fun j => by grind
  | add c hb _ ih => exact (Span.add c hb ih).cast fun j => by grind
theorem Span.times {S : (Nat → K) → Prop} {v : Nat → K} (a : K) (h : Span S v) : Span S (fun j => a * v j) := by
  induction h with
  | zero => exact Span.zero.cast fun j => by grind
  | add c hb _ ih => exact (Span.add (a * c) hb ih).cast fun j => by grind
theorem Span.of {S : (Nat → K) → Prop} {b : Nat → K} (h : S b) : Span S b := (Span.add 1 h .zero).cast fun j => by grind
theorem Span.trans {S T : (Nat → K) → Prop} (h : ∀ b, S b → Span T b) {v : Nat → K} (hv : Span S v) : Span T v := by
  induction hv with
  | zero => exact .zero
  | add c hb _ ih => exact (Span.plus ih (Span.times c (h _ hb)))
/-- what holds of all spanning vectors, and is linear, holds of the span -/
theorem Span.ind {S P : (Nat → K) → Prop} (h0 : P fun _ => 0) (h1 : ∀ v b c, P v → S b → P (fun j => v j + c * b j)) {v : Nat → K} (hv : Span S v) : P v := by
  induction hv with
  | zero => exact h0
  | add c hb _ ih => exact h1 _ _ c ih hb
theorem Span.sum {S : (Nat → K) → Prop} {b : Nat → Nat → K} (c : Nat → K) : ∀ {n : Nat}, (∀ i, i < n → Span S (b i)) → Span S (fun j => sm n (fun i => c i * b i j))
  | 0, _ => .zero
  | n + 1, h => (Span.plus (Span.sum c fun i hi => h i (by omega)) ((h n (by omega)).times (c n)))
/-- the family b 0 .. b (m - 1) -/
def fam (m : Nat) (b : Nat → Nat → K) (v : Nat → K) : Prop := ∃ i, i < m ∧ v = b i
theorem Span.coef {m : Nat} {b : Nat → Nat → K} {v : Nat → K} (h : Span (fam m b) v) : ∃ c : Nat → K, ∀ j, v j = sm m (fun i => c i * b i j) := by
  induction h with
  | zero => exact ⟨fun _ => 0, fun j => by rw [sm_zero]; intro i _; grind⟩
  | add a hb _ ih =>
    obtain ⟨c, hc⟩ := ih
    obtain ⟨i, hi, rfl⟩ := hb
    refine ⟨fun k => c k + if k = i then a else 0, fun j => ?_⟩
    have e : sm m (fun k => (c k + if k = i then a else 0) * b k j) = sm m (fun k => c k * b k j) + sm m (fun k => (if k = i then a else 0) * b k j) := by
      rw [← sm_add]
      exact sm_congr fun k _ => by grind
    show _ + a * b i j = _
    rw [hc j, e, sm_single (f := fun k => (if k = i then a else 0) * b k j) hi fun k _ hne => by simp only [if_neg hne]; grind]
    simp
theorem Span.of_fam {m : Nat} {b : Nat → Nat → K} {i : Nat} (h : i < m) : Span (fam m b) (b i) := .of ⟨i, h, rfl⟩
/-! ### reduced families -/
structure Red (m : Nat) (b : Nat → Nat → K) (ld : Nat → Nat) : Prop where
  mono : ∀ i j, i < j → j < m → ld i < ld j
  one : ∀ i, i < m → b i (ld i) = 1
  zero : ∀ i j, i < m → j < m → i ≠ j → b i (ld j) = 0
  low : ∀ i x, i < m → x < ld i → b i x = 0
theorem Red.coef {m : Nat} {b : Nat → Nat → K} {ld : Nat → Nat} (h : Red m b ld) {v : Nat → K} (hv : Span (fam m b) v) : ∀ j, v j = sm m (fun i => v (ld i) * b i j) := by
  induction hv with
  | zero => intro j; rw [sm_zero]; intro i _; grind
  | add c hb hv' ih =>
    obtain ⟨k, hk, rfl⟩ := hb
    intro j
    rename_i v'
    have e : sm m (fun i => (v' (ld i) + c * b k (ld i)) * b i j) = sm m (fun i => v' (ld i) * b i j) + sm m (fun i => c * b k (ld i) * b i j) := by
      rw [← sm_add]
      exact sm_congr fun i _ => by grind
    rw [e, ← ih j, sm_single (f := fun i => c * b k (ld i) * b i j) hk fun i hi hne => by rw [h.zero k i hk hi (fun e => hne e.symm)]; grind]
    rw [h.one k hk]; grind
/-- what stands in the span with noughts at all leads is nought -/
theorem Red.nought {m : Nat} {b : Nat → Nat → K} {ld : Nat → Nat} (h : Red m b ld) {v : Nat → K} (hv : Span (fam m b) v) (h0 : ∀ i, i < m → v (ld i) = 0) (j : Nat) : v j = 0 := by
  rw [h.coef hv j]
  exact sm_zero fun i hi => by rw [h0 i hi]; grind
theorem Red.lead_mem {m n : Nat} {b b' : Nat → Nat → K} {ld ld' : Nat → Nat} (h : Red m b ld) (h' : Red n b' ld') (hs : ∀ i, i < m → Span (fam n b') (b i)) {i : Nat} (hi : i < m) : ∃ k, k < n ∧ ld' k = ld i := by
  refine Classical.byContradiction fun hn => ?_
  have hc := h'.coef (hs i hi) (ld i)
  rw [h.one i hi, sm_zero] at hc
  · exact Fld.one_ne hc
  · intro k hk
    have hne : ld' k ≠ ld i := fun e => hn ⟨k, hk, e⟩
    by_cases hlt : ld' k < ld i
    · rw [h.low i _ hi hlt]; grind
    · rw [h'.low k (ld i) hk (by omega)]; grind
theorem mono_same {m n : Nat} {f g : Nat → Nat} (hf : ∀ i j, i < j → j < m → f i < f j) (hg : ∀ i j, i < j → j < n → g i < g j) (h1 : ∀ i, i < m → ∃ k, k < n ∧ g k = f i) (h2 : ∀ i, i < n → ∃ k, k < m ∧ f k = g i) : m = n ∧ ∀ i, i < m → f i = g i := by
  have key : ∀ i, i < m → i < n → f i = g i := fun i => by
    induction i using Nat.strongRecOn with
    | ind i ih =>
      intro hm hn
      obtain ⟨k, hk, ek⟩ := h1 i hm
      obtain ⟨l, hl, el⟩ := h2 i hn
      have hki : ¬ k < i := fun hlt => by
        have e1 := ih k hlt (by omega) hk
        have := hf k i hlt hm
        omega
      have hli : ¬ l < i := fun hlt => by
        have e1 := ih l hlt hl (by omega)
        have := hg l i hlt hn
        omega
      have a1 : g i ≤ g k := by
        by_cases e : i = k
        · rw [e]; exact Nat.le_refl _
        · exact Nat.le_of_lt (hg i k (by omega) hk)
      have a2 : f i ≤ f l := by
        by_cases e : i = l
        · rw [e]; exact Nat.le_refl _
        · exact Nat.le_of_lt (hf i l (by omega) hl)
      omega
  have hmn : m = n := by
    rcases Nat.lt_trichotomy m n with h | h | h
    · obtain ⟨k, hk, ek⟩ := h2 m h
      have e1 := key k hk (by omega)
      have := hg k m hk h
      omega
    · exact h
    · obtain ⟨k, hk, ek⟩ := h1 n h
      have e1 := key k (by omega) hk
      have := hf k n hk h
      omega
  exact ⟨hmn, fun i hi => key i hi (by omega)⟩
theorem Red.unique {m n : Nat} {b b' : Nat → Nat → K} {ld ld' : Nat → Nat} (h : Red m b ld) (h' : Red n b' ld') (h1 : ∀ i, i < m → Span (fam n b') (b i)) (h2 : ∀ i, i < n → Span (fam m b) (b' i)) : m = n ∧ ∀ i, i < m → ld i = ld' i ∧ b i = b' i := by
  obtain ⟨e, he⟩ := mono_same h.mono h'.mono (fun i hi => h.lead_mem h' h1 hi) (fun i hi => h'.lead_mem h h2 hi)
  subst e
  refine ⟨rfl, fun i hi => ⟨he i hi, funext fun j => ?_⟩⟩
  rw [h'.coef (h1 i hi) j, sm_single (f := fun k => b i (ld' k) * b' k j) hi fun k hk hne => ?_]
  · rw [← he i hi, h.one i hi]; grind
  · rw [← he k hk, h.zero i k hi hk (fun e => hne e.symm)]; grind
end
end LA
end

section
set_option linter.all false
/-! MR: what the program's functions make of lists of whole numbers, in plain Lean. -/
namespace EV
open LA
def P4 (p : Int) : Prop := p = 2 ∨ p = 3 ∨ p = 5 ∨ p = 7
theorem P4.pos {p : Int} (h : P4 p) : 0 < p := by rcases h with h | h | h | h <;> omega
theorem P4.one {p : Int} (h : P4 p) : 1 < p := by rcases h with h | h | h | h <;> omega
theorem P4.lt {p : Int} (h : P4 p) : p < 1000 := by rcases h with h | h | h | h <;> omega
/-- entries of the field -/
def Ent (p : Int) (xs : List Int) : Prop := ∀ x ∈ xs, 0 ≤ x ∧ x < p
/-- small entries -/
def Sm (xs : List Int) : Prop := ∀ x ∈ xs, 0 ≤ x ∧ x < 1000
theorem Ent.sm {p : Int} {xs : List Int} (hp : P4 p) (h : Ent p xs) : Sm xs := fun x hx => ⟨(h x hx).1, by have := (h x hx).2; have := hp.lt; omega⟩
def dot (row load : List Int) : Int := ((row.zip load).map fun q => q.1 * q.2).sum
def invM (p x : Int) : Int := x ^ (p - 2).toNat % p
def ledM (p : Int) (rows : List (List Int)) (load : List Int) : List Int := rows.map fun row => dot row load % p
def lessM (p : Int) (row other : List Int) (t : Int) : List Int := (row.zip other).map fun q => (q.1 - t * q.2) % p
def at0 (row : List Int) (k : Nat) : Int := row.getD k 0
def firstM (rows : List (List Int)) (place : Nat) : Option Nat := (rows.zipIdx.find? fun q => decide (at0 q.1 place ≠ 0)).map (·.2)
structure BS where
  rows : List (List Int)
  base : List (List Int)
def stepM (p : Int) (b : BS) (place : Nat) : BS :=
  match firstM b.rows place with
  | none => b
  | some k =>
    let c0 := b.rows.getD k []
    let c := c0.map fun n => invM p (at0 c0 place) * n % p
    ⟨(b.rows.eraseIdx k).map fun row => lessM p row c (at0 row place), (b.base.map fun row => lessM p row c (at0 row place)) ++ [c]⟩
def baseM (p : Int) (long : Nat) (loads : List (List Int)) : List (List Int) := ((List.range long).foldl (stepM p) ⟨loads, []⟩).base
theorem invM_mul {p x : Int} (hp : P4 p) (h0 : 0 < x) (h1 : x < p) : invM p x * x % p = 1 ∧ 0 ≤ invM p x ∧ invM p x < p := by
  rcases hp with rfl | rfl | rfl | rfl
  · obtain rfl : x = 1 := by omega
    decide
  · have : x = 1 ∨ x = 2 := by omega
    rcases this with rfl | rfl <;> decide
  · have : x = 1 ∨ x = 2 ∨ x = 3 ∨ x = 4 := by omega
    rcases this with rfl | rfl | rfl | rfl <;> decide
  · have : x = 1 ∨ x = 2 ∨ x = 3 ∨ x = 4 ∨ x = 5 ∨ x = 6 := by omega
    rcases this with rfl | rfl | rfl | rfl | rfl | rfl <;> decide
/-- rows of one length, entries of the field -/
def Rws (p : Int) (L : Nat) (rows : List (List Int)) : Prop := ∀ r ∈ rows, r.length = L ∧ Ent p r
structure BInv (p : Int) (L n : Nat) (b : BS) : Prop where
  rows : Rws p L b.rows
  base : Rws p L b.base
  few : b.rows.length + b.base.length ≤ n
theorem at0_mem {row : List Int} {k : Nat} (h : k < row.length) : at0 row k ∈ row := by
  have : at0 row k = row[k] := by simp [at0, h]
  rw [this]
  exact List.getElem_mem h
theorem at0_lt {row : List Int} {k : Nat} (h : k < row.length) : at0 row k = row[k] := by simp [at0, h]
theorem at0_ge {row : List Int} {k : Nat} (h : row.length ≤ k) : at0 row k = 0 := by simp [at0, h]
theorem lessM_ok {p : Int} {L : Nat} {row c : List Int} {t : Int} (hp : 0 < p) (h1 : row.length = L) (h2 : c.length = L) : (lessM p row c t).length = L ∧ Ent p (lessM p row c t) := by
  refine ⟨by simp [lessM, h1, h2], fun x hx => ?_⟩
  unfold lessM at hx
  obtain ⟨q, _, rfl⟩ := List.mem_map.mp hx
  exact ⟨Int.emod_nonneg _ (by omega), Int.emod_lt_of_pos _ hp⟩
theorem firstM_some {rows : List (List Int)} {place k : Nat} (h : firstM rows place = some k) : ∃ hk : k < rows.length, at0 rows[k] place ≠ 0 := by
  unfold firstM at h
  cases q : rows.zipIdx.find? (fun q => decide (at0 q.1 place ≠ 0)) with
  | none => rw [q] at h; cases h
  | some z =>
    rw [q] at h
    cases h
    have h1 := List.find?_some q
    have h2 := List.mem_zipIdx (List.mem_of_find?_eq_some q)
    simp only [decide_eq_true_eq] at h1
    have hlt : z.2 < rows.length := by omega
    refine ⟨hlt, ?_⟩
    have : rows[z.2] = z.1 := by rw [h2.2.2]; simp
    rw [this]; exact h1
theorem firstM_none {rows : List (List Int)} {place : Nat} (h : firstM rows place = none) : ∀ r ∈ rows, at0 r place = 0 := by
  unfold firstM at h
  rw [Option.map_eq_none_iff, List.find?_eq_none] at h
  intro r hr
  obtain ⟨k, hk, rfl⟩ := List.mem_iff_getElem.mp hr
  have := h (rows[k], k) (List.mem_zipIdx_iff_getElem?.mpr (by simp [hk]))
  simpa using this
theorem stepM_inv {p : Int} {L n : Nat} {b : BS} {place : Nat} (hp : P4 p) (h : BInv p L n b) : BInv p L n (stepM p b place) := by
  unfold stepM
  split
  · exact h
  · rename_i k hk
    obtain ⟨hlt, _⟩ := firstM_some hk
    have hc : (b.rows.getD k []).length = L := by
      rw [List.getD_eq_getElem?_getD, List.getElem?_eq_getElem hlt]
      exact (h.rows _ (List.getElem_mem hlt)).1
    have hcl : ((b.rows.getD k []).map fun n => invM p (at0 (b.rows.getD k []) place) * n % p).length = L := by rw [List.length_map]; exact hc
    refine ⟨fun r hr => ?_, fun r hr => ?_, ?_⟩
    · obtain ⟨r0, hr0, rfl⟩ := List.mem_map.mp hr
      exact lessM_ok hp.pos (h.rows r0 (List.mem_of_mem_eraseIdx hr0)).1 hcl
    · rcases List.mem_append.mp hr with hr | hr
      · obtain ⟨r0, hr0, rfl⟩ := List.mem_map.mp hr
        exact lessM_ok hp.pos (h.base r0 hr0).1 hcl
      · rw [List.mem_singleton] at hr
        subst hr
        refine ⟨hcl, fun x hx => ?_⟩
        obtain ⟨y, _, rfl⟩ := List.mem_map.mp hx
        exact ⟨Int.emod_nonneg _ (by have := hp.pos; omega), Int.emod_lt_of_pos _ hp.pos⟩
    · have := h.few
      simp only [List.length_map, List.length_append, List.length_singleton, List.length_eraseIdx, hlt, if_true]
      omega
theorem map_erase {α β : Type} (f : α → β) : ∀ (xs : List α) (k : Nat), (xs.map f).eraseIdx k = (xs.eraseIdx k).map f
  | [], _ => rfl
  | x :: xs, 0 => rfl
  | x :: xs, k + 1 => by simp [map_erase f xs k]
theorem foldl_inv {p : Int} {L n : Nat} (hp : P4 p) : ∀ (xs : List Nat) (b : BS), BInv p L n b → BInv p L n (xs.foldl (stepM p) b)
  | [], _, h => h
  | x :: xs, b, h => foldl_inv hp xs _ (stepM_inv hp h)
theorem baseM_ok {p : Int} {L n long : Nat} {loads : List (List Int)} (hp : P4 p) (hr : Rws p L loads) (hl : loads.length ≤ n) : Rws p L (baseM p long loads) ∧ (baseM p long loads).length ≤ n := by
  have h := foldl_inv (n := n) hp (List.range long) ⟨loads, []⟩ ⟨hr, (fun _ h => by cases h), by simpa using hl⟩
  exact ⟨h.base, Nat.le_trans (Nat.le_add_left _ _) h.few⟩
/-! ### the field of the rests -/
instance castI {K : Type} [Fld K] : IntCast K := Lean.Grind.Ring.intCast
class Ch (p : Int) (K : Type) [Fld K] : Prop where
  ext : ∀ x y : Int, ((x : Int) : K) = (y : K) ↔ x % p = y % p
instance : Fld (Fin 2) := ⟨fun x => x, by decide, by decide⟩
instance : Fld (Fin 3) := ⟨fun x => x, by decide, by decide⟩
instance : Fld (Fin 5) := ⟨fun x => x * x * x, by decide, by decide⟩
instance : Fld (Fin 7) := ⟨fun x => x * x * x * x * x, by decide, by decide⟩
open Lean.Grind in
theorem P4.fld {p : Int} (h : P4 p) : ∃ (K : Type) (_ : Fld K), Ch p K := by
  rcases h with rfl | rfl | rfl | rfl
  · exact ⟨Fin 2, inferInstance, ⟨fun x y => IsCharP.intCast_ext_iff 2⟩⟩
  · exact ⟨Fin 3, inferInstance, ⟨fun x y => IsCharP.intCast_ext_iff 3⟩⟩
  · exact ⟨Fin 5, inferInstance, ⟨fun x y => IsCharP.intCast_ext_iff 5⟩⟩
  · exact ⟨Fin 7, inferInstance, ⟨fun x y => IsCharP.intCast_ext_iff 7⟩⟩
section
open Lean.Grind
variable {p : Int} {K : Type} [Fld K] [Ch p K]
theorem cast_mod (x : Int) : (((x % p : Int)) : K) = (x : K) := (Ch.ext (p := p) _ _).mpr (Int.emod_emod_of_dvd x (Int.dvd_refl p))
theorem cast_inj {x y : Int} (hx : 0 ≤ x ∧ x < p) (hy : 0 ≤ y ∧ y < p) (h : (x : K) = (y : K)) : x = y := by
  have := (Ch.ext (p := p) (K := K) x y).mp h
  rwa [Int.emod_eq_of_lt hx.1 hx.2, Int.emod_eq_of_lt hy.1 hy.2] at this
theorem cast_0 : ((0 : Int) : K) = 0 := Ring.intCast_zero
theorem cast_1 : ((1 : Int) : K) = 1 := Ring.intCast_one
theorem cast_eq0 {x : Int} (hx : 0 ≤ x ∧ x < p) : (x : K) = 0 ↔ x = 0 := ⟨fun h => cast_inj (p := p) (K := K) hx ⟨by omega, by omega⟩ (by rw [h, cast_0]), fun h => by rw [h, cast_0]⟩
/-- a load as a vector -/
def vec (K : Type) [Fld K] (r : List Int) (j : Nat) : K := ((at0 r j : Int) : K)
theorem vec_ge {r : List Int} {j : Nat} (h : r.length ≤ j) : vec K r j = 0 := by unfold vec; rw [at0_ge h]; exact cast_0
theorem vec_inj {L : Nat} {r s : List Int} (h1 : r.length = L ∧ Ent p r) (h2 : s.length = L ∧ Ent p s) (h : ∀ j, j < L → vec K r j = vec K s j) : r = s := by
  refine List.ext_getElem (by omega) fun j hj hj2 => ?_
  have := cast_inj (p := p) (K := K) (h1.2 _ (at0_mem hj)) (h2.2 _ (at0_mem hj2)) (h j (by omega))
  rwa [at0_lt hj, at0_lt hj2] at this
theorem vec_less {row c : List Int} {t : Int} (h : row.length = c.length) (j : Nat) : vec K (lessM p row c t) j = vec K row j - (t : K) * vec K c j := by
  by_cases hj : j < row.length
  · unfold vec lessM
    have hz : j < (row.zip c).length := by simp; omega
    have : at0 ((row.zip c).map fun q => (q.1 - t * q.2) % p) j = (at0 row j - t * at0 c j) % p := by
      rw [at0_lt (by simpa using hz), at0_lt hj, at0_lt (by omega)]
      simp
    rw [this, cast_mod, Ring.intCast_sub, Ring.intCast_mul]
  · rw [vec_ge (by simp [lessM]; omega), vec_ge (by omega), vec_ge (by omega)]; grind
theorem vec_times {row : List Int} {t : Int} (j : Nat) : vec K (row.map fun n => t * n % p) j = (t : K) * vec K row j := by
  by_cases hj : j < row.length
  · unfold vec
    have : at0 (row.map fun n => t * n % p) j = (t * at0 row j) % p := by
      rw [at0_lt (by simpa using hj), at0_lt hj]
      simp
    rw [this, cast_mod, Ring.intCast_mul]
  · rw [vec_ge (by simp; omega), vec_ge (by omega)]; grind
end
end EV
end

section
set_option linter.all false
/-! RR: a base by elimination is the reduced one of the span. -/
namespace EV
open LA Lean.Grind
section
variable (K : Type) [Fld K]
def SpL (rows : List (List Int)) (v : Nat → K) : Prop := Span (fun b => ∃ r, r ∈ rows ∧ b = vec K r) v
/-- rows as a family -/
def fmL (B : List (List Int)) (i : Nat) : Nat → K := vec K (B.getD i [])
def RedL (B : List (List Int)) (ld : Nat → Nat) : Prop := Red B.length (fmL K B) ld
structure GInv (k : Nat) (loads : List (List Int)) (b : BS) : Prop where
  low : ∀ r ∈ b.rows, ∀ x, x < k → vec K r x = 0
  red : ∃ ld, RedL K b.base ld ∧ ∀ i, i < b.base.length → ld i < k
  fwd : ∀ r, r ∈ b.rows ++ b.base → SpL K loads (vec K r)
  bwd : ∀ r, r ∈ loads → SpL K (b.rows ++ b.base) (vec K r)
end
section
variable {K : Type} [Fld K]
theorem fmL_lt {B : List (List Int)} {i : Nat} (h : i < B.length) : fmL K B i = vec K B[i] := by unfold fmL; simp [h]
theorem spL_fam {B : List (List Int)} {v : Nat → K} : SpL K B v ↔ Span (fam B.length (fmL K B)) v := by
  constructor
  · refine Span.trans fun b hb => ?_
    obtain ⟨r, hr, rfl⟩ := hb
    obtain ⟨i, hi, rfl⟩ := List.mem_iff_getElem.mp hr
    exact .of ⟨i, hi, (fmL_lt hi).symm⟩
  · refine Span.trans fun b hb => ?_
    obtain ⟨i, hi, rfl⟩ := hb
    rw [fmL_lt hi]
    exact .of ⟨_, List.getElem_mem hi, rfl⟩
theorem SpL.of {B : List (List Int)} {r : List Int} (h : r ∈ B) : SpL K B (vec K r) := Span.of ⟨r, h, rfl⟩
theorem SpL.trans {A B : List (List Int)} (h : ∀ r ∈ A, SpL K B (vec K r)) {v : Nat → K} (hv : SpL K A v) : SpL K B v :=
  Span.trans (fun b hb => by obtain ⟨r, hr, rfl⟩ := hb; exact h r hr) hv
theorem mem_erase {α : Type} {k : Nat} : ∀ {xs : List α} (hk : k < xs.length) {x : α}, x ∈ xs → x = xs[k] ∨ x ∈ xs.eraseIdx k := by
  intro xs hk x hx
  obtain ⟨j, hj, rfl⟩ := List.mem_iff_getElem.mp hx
  by_cases e : j = k
  · subst e; exact .inl rfl
  · exact .inr (List.mem_eraseIdx_iff_getElem.mpr ⟨j, hj, e, rfl⟩)
variable {p : Int} [Ch p K]
theorem step_ginv {L n k : Nat} {loads : List (List Int)} {b : BS} (hp : P4 p) (hb : BInv p L n b) (hk : k < L) (h : GInv K k loads b) : GInv K (k + 1) loads (stepM p b k) := by
  unfold stepM
  split
  · rename_i hf
    have hz := firstM_none hf
    obtain ⟨ld, h1, h2⟩ := h.red
    refine ⟨fun r hr x hx => ?_, ⟨ld, h1, fun i hi => by have := h2 i hi; omega⟩, h.fwd, h.bwd⟩
    by_cases e : x = k
    · subst e
      unfold vec
      rw [hz r hr]; exact cast_0
    · exact h.low r hr x (by omega)
  · rename_i idx hf
    obtain ⟨hlt, hne⟩ := firstM_some hf
    have e0 : b.rows.getD idx [] = b.rows[idx] := by simp [hlt]
    simp only [e0]
    have hc0m : b.rows[idx] ∈ b.rows := List.getElem_mem hlt
    generalize hc0 : b.rows[idx] = c0 at *
    have hc0l := hb.rows c0 hc0m
    have hx := hc0l.2 _ (at0_mem (k := k) (by omega))
    have him := invM_mul hp (x := at0 c0 k) (by omega) hx.2
    generalize hiv : invM p (at0 c0 k) = iv at *
    generalize hc : c0.map (fun n => iv * n % p) = c
    have hcv : ∀ j, vec K c j = (iv : K) * vec K c0 j := fun j => by rw [← hc]; exact vec_times j
    have hcl : c.length = L := by rw [← hc, List.length_map]; exact hc0l.1
    have hone : (iv : K) * vec K c0 k = 1 := by
      unfold vec
      have e1 : ((iv * at0 c0 k % p : Int) : K) = ((1 : Int) : K) := by rw [him.1]
      rw [cast_mod, Ring.intCast_mul] at e1
      rw [e1, cast_1]
    have hck : vec K c k = 1 := by rw [hcv, hone]
    have hclow : ∀ x, x < k → vec K c x = 0 := fun x hx => by rw [hcv, h.low c0 hc0m x hx]; grind
    have hl : ∀ r, r.length = L → ∀ t j, vec K (lessM p r c t) j = vec K r j - (t : K) * vec K c j := fun r hr t j => vec_less (by omega) j
    obtain ⟨ld, h1, h2⟩ := h.red
    have hget : ∀ i, i < b.base.length → fmL K (b.base.map (fun row => lessM p row c (at0 row k)) ++ [c]) i = fun j => fmL K b.base i j - fmL K b.base i k * vec K c j := fun i hi => by
      have hi2 : i < (b.base.map (fun row => lessM p row c (at0 row k)) ++ [c]).length := by simp; omega
      funext j
      rw [fmL_lt hi2, fmL_lt hi, List.getElem_append_left (by simpa using hi), List.getElem_map, hl _ (hb.base _ (List.getElem_mem hi)).1]
      rfl
    have hlast : fmL K (b.base.map (fun row => lessM p row c (at0 row k)) ++ [c]) b.base.length = vec K c := by
      have hi2 : b.base.length < (b.base.map (fun row => lessM p row c (at0 row k)) ++ [c]).length := by simp
      rw [fmL_lt hi2, List.getElem_append_right (by simp)]
      simp
    have hlen : (b.base.map (fun row => lessM p row c (at0 row k)) ++ [c]).length = b.base.length + 1 := by simp
    refine ⟨fun r hr x hx => ?_, ⟨fun i => if i < b.base.length then ld i else k, ?_, ?_⟩, ?_, ?_⟩
    · obtain ⟨r0, hr0, rfl⟩ := List.mem_map.mp hr
      have hr1 := List.mem_of_mem_eraseIdx hr0
      rw [hl r0 (hb.rows r0 hr1).1]
      by_cases e : x = k
      · subst e
        rw [hck]
        show vec K r0 x - vec K r0 x * 1 = 0
        grind
      · rw [h.low r0 hr1 x (by omega), hclow x (by omega)]; grind
    · unfold RedL
      rw [hlen]
      refine ⟨fun i j hij hj => ?_, fun i hi => ?_, fun i j hi hj hne => ?_, fun i x hi hx => ?_⟩
      · have hi : i < b.base.length := by omega
        simp only [if_pos hi]
        split
        · exact h1.mono i j hij (by omega)
        · exact h2 i hi
      · by_cases e : i < b.base.length
        · simp only [if_pos e]
          rw [hget i e]
          show fmL K b.base i (ld i) - fmL K b.base i k * vec K c (ld i) = 1
          rw [h1.one i e, hclow _ (h2 i e)]; grind
        · obtain rfl : i = b.base.length := by omega
          simp only [Nat.lt_irrefl, if_false]
          rw [hlast]; exact hck
      · by_cases e : i < b.base.length
        · rw [hget i e]
          by_cases e2 : j < b.base.length
          · simp only [if_pos e2]
            show fmL K b.base i (ld j) - fmL K b.base i k * vec K c (ld j) = 0
            rw [h1.zero i j e e2 hne, hclow _ (h2 j e2)]; grind
          · simp only [if_neg e2]
            show fmL K b.base i k - fmL K b.base i k * vec K c k = 0
            rw [hck]; grind
        · obtain rfl : i = b.base.length := by omega
          have e2 : j < b.base.length := by omega
          simp only [if_pos e2]
          rw [hlast]; exact hclow _ (h2 j e2)
      · by_cases e : i < b.base.length
        · simp only [if_pos e] at hx
          rw [hget i e]
          show fmL K b.base i x - fmL K b.base i k * vec K c x = 0
          have := h2 i e
          rw [h1.low i x e hx, hclow x (by omega)]; grind
        · simp only [if_neg e] at hx
          obtain rfl : i = b.base.length := by omega
          rw [hlast]; exact hclow x hx
    · intro i hi
      rw [hlen] at hi
      show (if i < b.base.length then ld i else k) < k + 1
      split
      · rename_i e; have := h2 i e; omega
      · omega
    · have hc1 : SpL K loads (vec K c) := (Span.times (iv : K) (h.fwd c0 (List.mem_append_left _ hc0m))).cast hcv
      have hsub : ∀ r, r.length = L → SpL K loads (vec K r) → ∀ t, SpL K loads (vec K (lessM p r c t)) := fun r hr hs t =>
        (Span.plus hs (Span.times (-(t : K)) hc1)).cast fun j => by rw [hl r hr]; grind
      intro r hr
      rcases List.mem_append.mp hr with hr | hr
      · obtain ⟨r0, hr0, rfl⟩ := List.mem_map.mp hr
        have hr1 := List.mem_of_mem_eraseIdx hr0
        exact hsub r0 (hb.rows r0 hr1).1 (h.fwd r0 (List.mem_append_left _ hr1)) _
      · rcases List.mem_append.mp hr with hr | hr
        · obtain ⟨r0, hr0, rfl⟩ := List.mem_map.mp hr
          exact hsub r0 (hb.base r0 hr0).1 (h.fwd r0 (List.mem_append_right _ hr0)) _
        · rw [List.mem_singleton] at hr
          subst hr; exact hc1
    · intro r hr
      refine SpL.trans (fun s hs => ?_) (h.bwd r hr)
      have hcin : SpL K (((b.rows.eraseIdx idx).map fun row => lessM p row c (at0 row k)) ++ (b.base.map (fun row => lessM p row c (at0 row k)) ++ [c])) (vec K c) := .of (by simp)
      have hback : ∀ s, s.length = L → lessM p s c (at0 s k) ∈ ((b.rows.eraseIdx idx).map fun row => lessM p row c (at0 row k)) ++ (b.base.map (fun row => lessM p row c (at0 row k)) ++ [c]) → SpL K (((b.rows.eraseIdx idx).map fun row => lessM p row c (at0 row k)) ++ (b.base.map (fun row => lessM p row c (at0 row k)) ++ [c])) (vec K s) := fun s hs hm =>
        (Span.plus (SpL.of hm) (Span.times ((at0 s k : Int) : K) hcin)).cast fun j => by rw [hl s hs]; grind
      rcases List.mem_append.mp hs with hs | hs
      · rcases mem_erase hlt hs with e | hs2
        · rw [hc0] at e
          subst e
          refine (Span.times (vec K s k) hcin).cast fun j => ?_
          rw [hcv]
          have : vec K s k * ((iv : K) * vec K s j) = ((iv : K) * vec K s k) * vec K s j := by grind
          rw [this, hone]; grind
        · exact hback s (hb.rows s hs).1 (List.mem_append_left _ (List.mem_map.mpr ⟨s, hs2, rfl⟩))
      · exact hback s (hb.base s hs).1 (List.mem_append_right _ (List.mem_append_left _ (List.mem_map.mpr ⟨s, hs, rfl⟩)))
theorem fold_ginv {L n : Nat} {loads : List (List Int)} (hp : P4 p) : ∀ (m k : Nat) (b : BS), k + m ≤ L → BInv p L n b → GInv K k loads b → GInv K (k + m) loads ((List.range' k m).foldl (stepM p) b)
  | 0, k, b, _, _, h => h
  | m + 1, k, b, hl, hb, h => by
    rw [List.range'_succ, List.foldl_cons]
    have := fold_ginv hp m (k + 1) (stepM p b k) (by omega) (stepM_inv hp hb) (step_ginv hp hb (by omega) h)
    rwa [show k + 1 + m = k + (m + 1) by omega] at this
/-- the base of loads of one length -/
theorem base_spec {L : Nat} {loads : List (List Int)} (hp : P4 p) (hr : Rws p L loads) :
    (∃ ld, RedL K (baseM p L loads) ld ∧ ∀ i, i < (baseM p L loads).length → ld i < L) ∧ (∀ v, SpL K (baseM p L loads) v ↔ SpL K loads v) := by
  have hb : BInv p L loads.length ⟨loads, []⟩ := ⟨hr, (fun _ h => by cases h), by simp⟩
  have h0 : GInv K 0 loads ⟨loads, []⟩ := by
    refine ⟨fun r _ x hx => by omega, ⟨fun _ => 0, ⟨fun i j _ h => ?_, fun i h => ?_, fun i j h => ?_, fun i x h => ?_⟩, fun i h => ?_⟩, fun r hr => ?_, fun r hr => ?_⟩
    all_goals first | (simp at h; done) | skip
    · exact SpL.of (by simpa using hr)
    · exact SpL.of (by simpa using hr)
  have h := fold_ginv (K := K) hp L 0 ⟨loads, []⟩ (by omega) hb h0
  have hB := foldl_inv hp (List.range L) _ hb
  rw [Nat.zero_add, ← List.range_eq_range'] at h
  refine ⟨h.red, fun v => ⟨fun hv => SpL.trans (fun r hr => h.fwd r (List.mem_append_right _ hr)) hv, fun hv => ?_⟩⟩
  refine SpL.trans (fun r hr => SpL.trans (fun s hs => ?_) (h.bwd r hr)) hv
  rcases List.mem_append.mp hs with hs | hs
  · refine Span.zero.cast fun j => ?_
    by_cases hj : j < L
    · exact h.low s hs j hj
    · exact vec_ge (by rw [(hB.rows s hs).1]; omega)
  · exact SpL.of hs
/-- a reduced list of the same span is the base -/
theorem base_unique {L : Nat} {loads due : List (List Int)} (hp : P4 p) (hr : Rws p L loads) (hd : Rws p L due) {ld : Nat → Nat} (hred : RedL K due ld) (h1 : ∀ r ∈ loads, SpL K due (vec K r)) (h2 : ∀ r ∈ due, SpL K loads (vec K r)) : baseM p L loads = due := by
  obtain ⟨⟨ld', hr', _⟩, hs⟩ := base_spec (K := K) hp hr
  have hB := (baseM_ok (long := L) hp hr (Nat.le_refl _)).1
  generalize baseM p L loads = B at *
  have k1 : ∀ i, i < B.length → Span (fam due.length (fmL K due)) (fmL K B i) := fun i hi => by
    rw [fmL_lt hi]
    exact spL_fam.mp (SpL.trans h1 ((hs _).mp (SpL.of (List.getElem_mem hi))))
  have k2 : ∀ i, i < due.length → Span (fam B.length (fmL K B)) (fmL K due i) := fun i hi => by
    rw [fmL_lt hi]
    exact spL_fam.mp ((hs _).mpr (h2 _ (List.getElem_mem hi)))
  obtain ⟨hlen, hsame⟩ := hr'.unique hred k1 k2
  refine List.ext_getElem hlen fun i hi hi2 => ?_
  have := (hsame i hi).2
  rw [fmL_lt hi, fmL_lt hi2] at this
  exact vec_inj (K := K) (hB _ (List.getElem_mem hi)) (hd _ (List.getElem_mem hi2)) fun j _ => congrFun this j
end
end EV
end

section
set_option linter.all false
/-! KR: leads, kernels, loads led. -/
namespace EV
open LA Lean.Grind
def leadM : List Int → Nat
  | [] => 0
  | x :: r => if x ≠ 0 then 0 else leadM r + 1
def unitM (wide place : Nat) : List Int := (List.range wide).map fun j => if j = place then 1 else 0
def kloadM (p : Int) (wide : Nat) (base : List (List Int)) (place : Nat) : List Int := (base.zip (base.map leadM)).foldl (fun l q => l.set q.2 ((0 - at0 q.1 place) % p)) (unitM wide place)
def kplM (wide : Nat) (base : List (List Int)) : List Nat := (List.range wide).filter fun pl => !(base.map leadM).contains pl
def kernelM (p : Int) (wide : Nat) (rows : List (List Int)) : List (List Int) := baseM p wide ((kplM wide (baseM p wide rows)).map (kloadM p wide (baseM p wide rows)))
theorem leadM_spec : ∀ r : List Int, (∀ x, x < leadM r → at0 r x = 0) ∧ leadM r ≤ r.length ∧ (leadM r < r.length → at0 r (leadM r) ≠ 0)
  | [] => ⟨fun x h => absurd h (Nat.not_lt_zero x), Nat.le_refl _, fun h => absurd h (Nat.lt_irrefl 0)⟩
  | x :: r => by
    obtain ⟨h1, h2, h3⟩ := leadM_spec r
    unfold leadM
    by_cases hx : x = 0
    · subst hx
      simp only [ne_eq, not_true_eq_false, if_false]
      refine ⟨fun y hy => ?_, by simp; omega, fun h => ?_⟩
      · cases y with
        | zero => rfl
        | succ y => exact h1 y (by omega)
      · exact h3 (by simpa using h)
    · rw [if_pos hx]
      exact ⟨fun y hy => absurd hy (Nat.not_lt_zero y), Nat.zero_le _, fun _ => hx⟩
theorem leadM_eq {r : List Int} {l : Nat} (h0 : ∀ x, x < l → at0 r x = 0) (h1 : at0 r l ≠ 0) : leadM r = l := by
  obtain ⟨a, b, c⟩ := leadM_spec r
  have hl : l < r.length := Nat.lt_of_not_le fun h => h1 (at0_ge h)
  have e1 : ¬ leadM r < l := fun h => by
    have := c (by omega)
    exact this (h0 _ h)
  have e2 : ¬ l < leadM r := fun h => h1 (a l h)
  omega
theorem unitM_len (w k : Nat) : (unitM w k).length = w := by simp [unitM]
theorem unitM_at {w k j : Nat} (h : j < w) : at0 (unitM w k) j = if j = k then 1 else 0 := by
  rw [at0_lt (by rw [unitM_len]; exact h)]
  simp [unitM]
theorem unitM_ent {p : Int} (h : 1 < p) (w k : Nat) : (unitM w k).length = w ∧ Ent p (unitM w k) := by
  refine ⟨unitM_len w k, fun x hx => ?_⟩
  obtain ⟨j, hj, rfl⟩ := List.mem_map.mp hx
  split <;> omega
theorem at0_set {l : List Int} {i j : Nat} {x : Int} : at0 (l.set i x) j = if j = i ∧ i < l.length then x else at0 l j := by
  by_cases hj : j < l.length
  · rw [at0_lt (by simpa using hj), at0_lt hj, List.getElem_set]
    by_cases e : i = j
    · subst e; simp [hj]
    · rw [if_neg e, if_neg (fun h => e h.1.symm)]
  · rw [at0_ge (by simpa using hj), at0_ge (by omega), if_neg]
    omega
section
variable {p : Int} {K : Type} [Fld K] [Ch p K]
theorem vec_unit {w k j : Nat} : vec K (unitM w k) j = if j = k ∧ k < w then 1 else 0 := by
  by_cases h : j < w
  · unfold vec
    rw [unitM_at h]
    by_cases e : j = k
    · rw [if_pos e, if_pos ⟨e, by omega⟩]; exact cast_1
    · rw [if_neg e, if_neg (fun h => e h.1)]; exact cast_0
  · rw [vec_ge (by rw [unitM_len]; omega), if_neg (by omega)]
theorem vec_eq0 {r : List Int} (h : Ent p r) (hp : 0 < p) (j : Nat) : vec K r j = 0 ↔ at0 r j = 0 := by
  unfold vec
  refine cast_eq0 (p := p) ?_
  by_cases hj : j < r.length
  · exact h _ (at0_mem hj)
  · rw [at0_ge (by omega)]; omega
theorem lead_red {L : Nat} {B : List (List Int)} {ld : Nat → Nat} (hp : 0 < p) (hB : Rws p L B) (h : RedL K B ld) {i : Nat} (hi : i < B.length) : leadM B[i] = ld i := by
  have he := (hB _ (List.getElem_mem hi)).2
  refine leadM_eq (fun x hx => ?_) fun e => ?_
  · have := h.low i x hi hx
    rw [fmL_lt hi] at this
    exact (vec_eq0 (K := K) he hp x).mp this
  · have h1 := h.one i hi
    rw [fmL_lt hi, (vec_eq0 (K := K) he hp _).mpr e] at h1
    exact Fld.one_ne h1.symm
/-- the sum of the products -/
def dt (n : Nat) (u v : Nat → K) : K := sm n fun j => u j * v j
theorem cast_sum : ∀ l : List Int, ((l.sum : Int) : K) = (l.map fun x => ((x : Int) : K)).sum
  | [] => cast_0
  | x :: l => by
    rw [List.sum_cons, Ring.intCast_add, cast_sum l]; rfl
theorem sm_left (f : Nat → K) : ∀ n, sm (n + 1) f = f 0 + sm n fun i => f (i + 1)
  | 0 => by show (0 : K) + f 0 = f 0 + 0; grind
  | n + 1 => by
    show sm (n + 1) f + f (n + 1) = f 0 + (sm n (fun i => f (i + 1)) + f (n + 1))
    rw [sm_left f n]; grind
theorem vec_cons (x : Int) (r : List Int) (j : Nat) : vec K (x :: r) (j + 1) = vec K r j := rfl
theorem dot_cast : ∀ (n : Nat) (row load : List Int), row.length ≤ n → ((dot row load : Int) : K) = dt n (vec K row) (vec K load)
  | n, [], load, _ => by
    have : dot [] load = 0 := by unfold dot; rfl
    rw [this, cast_0]
    unfold dt
    rw [sm_zero]
    intro j _
    rw [vec_ge (Nat.zero_le _)]; grind
  | n, x :: row, [], _ => by
    have : dot (x :: row) [] = 0 := by unfold dot; rfl
    rw [this, cast_0]
    unfold dt
    rw [sm_zero]
    intro j _
    rw [vec_ge (r := []) (Nat.zero_le _)]; grind
  | 0, x :: row, y :: load, h => by simp at h
  | n + 1, x :: row, y :: load, h => by
    have e : dot (x :: row) (y :: load) = x * y + dot row load := by unfold dot; simp
    rw [e, Ring.intCast_add, Ring.intCast_mul, dot_cast n row load (by simpa using h)]
    unfold dt
    rw [sm_left]
    rfl
theorem ledM_len {rows : List (List Int)} {load : List Int} : (ledM p rows load).length = rows.length := by simp [ledM]
theorem ledM_ent (hp : 0 < p) {rows : List (List Int)} {load : List Int} : Ent p (ledM p rows load) := fun x hx => by
  obtain ⟨r, _, rfl⟩ := List.mem_map.mp hx
  exact ⟨Int.emod_nonneg _ (by omega), Int.emod_lt_of_pos _ hp⟩
theorem vec_led {n : Nat} {rows : List (List Int)} {load : List Int} (h : ∀ r ∈ rows, r.length = n) {i : Nat} (hi : i < rows.length) : vec K (ledM p rows load) i = dt n (vec K rows[i]) (vec K load) := by
  unfold vec
  rw [at0_lt (by rw [ledM_len]; exact hi)]
  unfold ledM
  rw [List.getElem_map, cast_mod]
  exact dot_cast n _ _ (by rw [h _ (List.getElem_mem hi)]; exact Nat.le_refl _)
/-! ### kernels -/
theorem kfold_at (f : List Int → Int) : ∀ (qs : List (List Int × Nat)) (l : List Int) (j : Nat), (∀ q ∈ qs, q.2 < l.length) → (j ∉ qs.map (·.2) → at0 (qs.foldl (fun l q => l.set q.2 (f q.1)) l) j = at0 l j) ∧ (∀ q ∈ qs, (∀ q' ∈ qs, q'.2 = q.2 → f q'.1 = f q.1) → at0 (qs.foldl (fun l q => l.set q.2 (f q.1)) l) q.2 = f q.1) ∧ (qs.foldl (fun l q => l.set q.2 (f q.1)) l).length = l.length
  | [], l, j, _ => ⟨fun _ => rfl, (fun _ h => by cases h), rfl⟩
  | q :: qs, l, j, h => by
    have hlen : (l.set q.2 (f q.1)).length = l.length := List.length_set
    have ih := fun j => kfold_at f qs (l.set q.2 (f q.1)) j fun q' hq' => by rw [hlen]; exact h q' (by simp [hq'])
    have hql := h q (by simp)
    refine ⟨fun hj => ?_, fun q' hq' hs => ?_, ?_⟩
    · rw [List.foldl_cons, (ih j).1 fun hm => hj (by simp only [List.map_cons, List.mem_cons]; exact .inr hm), at0_set, if_neg]
      intro e
      exact hj (by simp [e.1])
    · rw [List.foldl_cons]
      by_cases hin : ∃ q2 ∈ qs, q2.2 = q'.2
      · obtain ⟨q2, hq2, e2⟩ := hin
        rw [← e2, (ih j).2.1 q2 hq2 fun q3 hq3 e3 => by rw [hs q3 (by simp [hq3]) (by rw [e3, e2]), hs q2 (by simp [hq2]) e2], hs q2 (by simp [hq2]) e2]
      · have hq : q' = q := by
          rcases List.mem_cons.mp hq' with e | hm
          · exact e
          · exact absurd ⟨q', hm, rfl⟩ hin
        subst hq
        rw [(ih q'.2).1 fun hm => by
          obtain ⟨q2, h2, e2⟩ := List.mem_map.mp hm
          exact hin ⟨q2, h2, e2⟩, at0_set, if_pos ⟨rfl, hql⟩]
    · rw [List.foldl_cons, (ih j).2.2, hlen]
theorem kload_spec {wide : Nat} {B : List (List Int)} {ld : Nat → Nat} (hp : P4 p) (hB : Rws p wide B) (h : RedL K B ld) (hl : ∀ i, i < B.length → ld i < wide) {pl : Nat} (hpl : pl < wide) (hn : ∀ i, i < B.length → ld i ≠ pl) :
    (kloadM p wide B pl).length = wide ∧ Ent p (kloadM p wide B pl) ∧ (∀ i, i < B.length → vec K (kloadM p wide B pl) (ld i) = - fmL K B i pl) ∧ ∀ j, (∀ i, i < B.length → ld i ≠ j) → vec K (kloadM p wide B pl) j = if j = pl then 1 else 0 := by
  have hz : ∀ q, q ∈ B.zip (B.map leadM) ↔ ∃ i, ∃ hi : i < B.length, q = (B[i], ld i) := fun q => by
    rw [List.mem_iff_getElem]
    constructor
    · rintro ⟨i, hi, rfl⟩
      have hi' : i < B.length := by simpa using hi
      exact ⟨i, hi', by simp [lead_red hp.pos hB h hi']⟩
    · rintro ⟨i, hi, rfl⟩
      exact ⟨i, by simpa using hi, by simp [lead_red hp.pos hB h hi]⟩
  have hlt : ∀ q ∈ B.zip (B.map leadM), q.2 < (unitM wide pl).length := fun q hq => by
    obtain ⟨i, hi, rfl⟩ := (hz q).mp hq
    rw [unitM_len]; exact hl i hi
  have hinj : ∀ i k, i < B.length → k < B.length → ld i = ld k → i = k := fun i k hi hk e => by
    rcases Nat.lt_trichotomy i k with h2 | h2 | h2
    · have := h.mono i k h2 hk; omega
    · exact h2
    · have := h.mono k i h2 hi; omega
  have key := fun j => kfold_at (fun r => (0 - at0 r pl) % p) (B.zip (B.map leadM)) (unitM wide pl) j hlt
  have hat : ∀ i (hi : i < B.length), at0 (kloadM p wide B pl) (ld i) = (0 - at0 B[i] pl) % p := fun i hi => by
    refine (key 0).2.1 (B[i], ld i) ((hz _).mpr ⟨i, hi, rfl⟩) fun q' hq' e => ?_
    obtain ⟨k, hk, rfl⟩ := (hz _).mp hq'
    have := hinj k i hk hi e
    subst this; rfl
  have hno : ∀ j, (∀ i, i < B.length → ld i ≠ j) → at0 (kloadM p wide B pl) j = at0 (unitM wide pl) j := fun j hj => by
    refine (key j).1 fun hm => ?_
    obtain ⟨q, hq, rfl⟩ := List.mem_map.mp hm
    obtain ⟨i, hi, rfl⟩ := (hz _).mp hq
    exact hj i hi rfl
  have hlen : (kloadM p wide B pl).length = wide := (key 0).2.2.trans (unitM_len wide pl)
  refine ⟨hlen, fun x hx => ?_, fun i hi => ?_, fun j hj => ?_⟩
  · obtain ⟨j, hj, rfl⟩ := List.mem_iff_getElem.mp hx
    rw [← at0_lt hj]
    by_cases e : ∃ i, i < B.length ∧ ld i = j
    · obtain ⟨i, hi, rfl⟩ := e
      rw [hat i hi]
      have := hp.pos
      exact ⟨Int.emod_nonneg _ (by omega), Int.emod_lt_of_pos _ hp.pos⟩
    · rw [hno j fun i hi e2 => e ⟨i, hi, e2⟩]
      exact (unitM_ent hp.one wide pl).2 _ (at0_mem (by rw [unitM_len]; omega))
  · unfold vec
    rw [hat i hi, cast_mod, fmL_lt hi, Ring.intCast_sub, cast_0]
    unfold vec; grind
  · have : vec K (kloadM p wide B pl) j = vec K (unitM wide pl) j := by unfold vec; rw [hno j hj]
    rw [this, vec_unit]
    by_cases e : j = pl
    · rw [if_pos ⟨e, hpl⟩, if_pos e]
    · rw [if_neg (fun h => e h.1), if_neg e]
theorem mem_kpl {wide : Nat} {B : List (List Int)} {ld : Nat → Nat} (hp : 0 < p) (hB : Rws p wide B) (h : RedL K B ld) {pl : Nat} : pl ∈ kplM wide B ↔ pl < wide ∧ ∀ i, i < B.length → ld i ≠ pl := by
  have : (B.map leadM).contains pl = true ↔ ∃ i, i < B.length ∧ ld i = pl := by
    rw [List.contains_iff_mem, List.mem_map]
    constructor
    · rintro ⟨r, hr, rfl⟩
      obtain ⟨i, hi, rfl⟩ := List.mem_iff_getElem.mp hr
      exact ⟨i, hi, (lead_red hp hB h hi).symm⟩
    · rintro ⟨i, hi, rfl⟩
      exact ⟨B[i], List.getElem_mem hi, lead_red hp hB h hi⟩
  unfold kplM
  rw [List.mem_filter, List.mem_range, Bool.not_eq_true', ← Bool.not_eq_true, this]
  constructor
  · rintro ⟨h1, h2⟩; exact ⟨h1, fun i hi e => h2 ⟨i, hi, e⟩⟩
  · rintro ⟨h1, h2⟩; exact ⟨h1, fun ⟨i, hi, e⟩ => h2 i hi e⟩
theorem dt_red {wide m : Nat} {b : Nat → Nat → K} {ld : Nat → Nat} (h : Red m b ld) (hl : ∀ i, i < m → ld i < wide) {v : Nat → K} {i : Nat} (hi : i < m) : dt wide (b i) v = v (ld i) + sm wide (fun j => if (∃ k, k < m ∧ ld k = j) then 0 else b i j * v j) := by
  classical
  unfold dt
  have : sm wide (fun j => b i j * v j) = sm wide (fun j => (if j = ld i then v (ld i) else 0) + (if (∃ k, k < m ∧ ld k = j) then 0 else b i j * v j)) := by
    refine sm_congr fun j hj => ?_
    by_cases e : ∃ k, k < m ∧ ld k = j
    · obtain ⟨k, hk, rfl⟩ := e
      have hz : (if (∃ k', k' < m ∧ ld k' = ld k) then (0 : K) else b i (ld k) * v (ld k)) = 0 := if_pos ⟨k, hk, rfl⟩
      rw [hz]
      by_cases e2 : k = i
      · subst e2; rw [h.one k hk, if_pos rfl]; grind
      · rw [h.zero i k hi hk (fun e => e2 e.symm), if_neg]
        · grind
        · intro e3
          rcases Nat.lt_trichotomy i k with h2 | h2 | h2
          · have := h.mono i k h2 hk; omega
          · exact e2 h2.symm
          · have := h.mono k i h2 hi; omega
    · rw [if_neg e, if_neg (fun e2 => e ⟨i, hi, e2.symm⟩)]; grind
  rw [this, sm_add, sm_single (f := fun j => if j = ld i then v (ld i) else 0) (hl i hi) fun j _ hne => if_neg hne, if_pos rfl]
/-- the kernel of rows -/
theorem kernel_spec {wide : Nat} {rows : List (List Int)} (hp : P4 p) (hr : Rws p wide rows) :
    Rws p wide (kernelM p wide rows) ∧ (∃ ld, RedL K (kernelM p wide rows) ld ∧ ∀ i, i < (kernelM p wide rows).length → ld i < wide) ∧ ∀ v : Nat → K, SpL K (kernelM p wide rows) v ↔ (∀ j, wide ≤ j → v j = 0) ∧ ∀ r ∈ rows, dt wide (vec K r) v = 0 := by
  classical
  obtain ⟨⟨ld, hred, hl⟩, hsp⟩ := base_spec (K := K) hp hr
  have hB := (baseM_ok (long := wide) hp hr (Nat.le_refl _)).1
  unfold kernelM
  generalize baseM p wide rows = B at *
  have hk := fun pl (h : pl ∈ kplM wide B) => kload_spec (K := K) hp hB hred hl ((mem_kpl hp.pos hB hred).mp h).1 ((mem_kpl hp.pos hB hred).mp h).2
  have hR : Rws p wide ((kplM wide B).map (kloadM p wide B)) := fun r hr => by
    obtain ⟨pl, hpl, rfl⟩ := List.mem_map.mp hr
    exact ⟨(hk pl hpl).1, (hk pl hpl).2.1⟩
  obtain ⟨h1, h2⟩ := base_spec (K := K) hp hR
  refine ⟨(baseM_ok (long := wide) hp hR (Nat.le_refl _)).1, h1, fun v => ?_⟩
  rw [h2]
  -- rows' kernel is that of the base
  have hrows : (∀ r ∈ rows, dt wide (vec K r) v = 0) ↔ ∀ i, i < B.length → dt wide (fmL K B i) v = 0 := by
    have lin : ∀ (S : List (List Int)), (∀ r ∈ S, dt wide (vec K r) v = 0) → ∀ u, SpL K S u → dt wide u v = 0 := fun S hS u hu => by
      refine Span.ind (P := fun u => dt wide u v = 0) ?_ ?_ hu
      · unfold dt; rw [sm_zero]; intro j _; grind
      · intro u b c hu hb
        obtain ⟨r, hr, rfl⟩ := hb
        have h0 := hS r hr
        unfold dt at h0 hu ⊢
        have e : sm wide (fun j => (u j + c * vec K r j) * v j) = sm wide (fun j => u j * v j) + c * sm wide (fun j => vec K r j * v j) := by
          rw [← sm_mul, ← sm_add]
          exact sm_congr fun j _ => by grind
        rw [e, h0, hu]; grind
    constructor
    · intro h i hi
      rw [fmL_lt hi]
      exact lin rows h _ ((hsp _).mp (SpL.of (List.getElem_mem hi)))
    · intro h r hr
      refine lin B (fun s hs => ?_) _ ((hsp _).mpr (SpL.of hr))
      obtain ⟨i, hi, rfl⟩ := List.mem_iff_getElem.mp hs
      have := h i hi
      rwa [fmL_lt hi] at this
  rw [hrows]
  constructor
  · intro hv
    refine Span.ind (P := fun v => (∀ j, wide ≤ j → v j = 0) ∧ ∀ i, i < B.length → dt wide (fmL K B i) v = 0) ?_ ?_ hv
    · exact ⟨fun _ _ => rfl, fun i hi => by unfold dt; rw [sm_zero]; intro j _; grind⟩
    · rintro v b c ⟨hv1, hv2⟩ ⟨r, hr, rfl⟩
      obtain ⟨pl, hpl, rfl⟩ := List.mem_map.mp hr
      obtain ⟨k1, k2, k3, k4⟩ := hk pl hpl
      have hm := (mem_kpl hp.pos hB hred).mp hpl
      refine ⟨fun j hj => by show v j + c * vec K _ j = 0; rw [hv1 j hj, vec_ge (by omega)]; grind, fun i hi => ?_⟩
      have h0 := hv2 i hi
      have h3 : dt wide (fmL K B i) (vec K (kloadM p wide B pl)) = 0 := by
        rw [dt_red hred hl hi, k3 i hi, sm_single (i := pl) hm.1 fun j hj hne => ?_]
        · rw [if_neg (fun ⟨k, hk, e⟩ => hm.2 k hk e), k4 pl hm.2, if_pos rfl]; grind
        · by_cases e : ∃ k, k < B.length ∧ ld k = j
          · rw [if_pos e]
          · rw [if_neg e, k4 j fun k hk e2 => e ⟨k, hk, e2⟩, if_neg hne]; grind
      unfold dt at h0 h3 ⊢
      have e : sm wide (fun j => fmL K B i j * (v j + c * vec K (kloadM p wide B pl) j)) = sm wide (fun j => fmL K B i j * v j) + c * sm wide (fun j => fmL K B i j * vec K (kloadM p wide B pl) j) := by
        rw [← sm_mul, ← sm_add]
        exact sm_congr fun j _ => by grind
      rw [e, h0, h3]; grind
  · rintro ⟨hv1, hv2⟩
    -- v is the sum of its numbers at the places that are no leads times their loads
    have hs : SpL K ((kplM wide B).map (kloadM p wide B)) (fun j => sm wide (fun pl => (if pl ∈ kplM wide B then v pl else 0) * (if pl ∈ kplM wide B then vec K (kloadM p wide B pl) j else 0))) := by
      refine Span.sum (b := fun pl j => if pl ∈ kplM wide B then vec K (kloadM p wide B pl) j else 0) _ fun pl _ => ?_
      by_cases e : pl ∈ kplM wide B
      · simp only [if_pos e]
        exact SpL.of (List.mem_map.mpr ⟨pl, e, rfl⟩)
      · simp only [if_neg e]
        exact .zero
    refine hs.cast fun j => ?_
    by_cases e : ∃ i, i < B.length ∧ ld i = j
    · obtain ⟨i, hi, rfl⟩ := e
      have h0 := hv2 i hi
      rw [dt_red hred hl hi] at h0
      have h1 : v (ld i) = - sm wide (fun j => if (∃ k, k < B.length ∧ ld k = j) then 0 else fmL K B i j * v j) := by grind
      rw [h1]
      have : sm wide (fun j => if (∃ k, k < B.length ∧ ld k = j) then 0 else fmL K B i j * v j) = sm wide (fun pl => (-1 : K) * ((if pl ∈ kplM wide B then v pl else 0) * (if pl ∈ kplM wide B then vec K (kloadM p wide B pl) (ld i) else 0))) := by
        refine sm_congr fun pl hpl => ?_
        by_cases e : ∃ k, k < B.length ∧ ld k = pl
        · have : pl ∉ kplM wide B := fun h => by
            obtain ⟨k, hk, e⟩ := e
            exact ((mem_kpl hp.pos hB hred).mp h).2 k hk e
          rw [if_pos e, if_neg this]; grind
        · have : pl ∈ kplM wide B := (mem_kpl hp.pos hB hred).mpr ⟨hpl, fun k hk e2 => e ⟨k, hk, e2⟩⟩
          rw [if_neg e, if_pos this, if_pos this, (hk pl this).2.2.1 i hi]; grind
      rw [this, sm_mul]; grind
    · by_cases hj : j < wide
      · have hm : j ∈ kplM wide B := (mem_kpl hp.pos hB hred).mpr ⟨hj, fun k hk e2 => e ⟨k, hk, e2⟩⟩
        rw [sm_single (i := j) hj fun pl hpl hne => ?_]
        · rw [if_pos hm, if_pos hm, (hk j hm).2.2.2 j fun k hk e2 => e ⟨k, hk, e2⟩, if_pos rfl]; grind
        · by_cases e3 : pl ∈ kplM wide B
          · rw [if_pos e3, if_pos e3, (hk pl e3).2.2.2 j fun k hk e2 => e ⟨k, hk, e2⟩, if_neg (fun h => hne h.symm)]; grind
          · rw [if_neg e3]; grind
      · rw [hv1 j (by omega), sm_zero]
        intro pl _
        by_cases e3 : pl ∈ kplM wide B
        · rw [if_pos e3, if_pos e3, vec_ge (by rw [(hk pl e3).1]; omega)]; grind
        · rw [if_neg e3]; grind
end
end EV
end

section
set_option linter.all false
/-! MR2: more of what the program's functions make of lists of whole numbers. -/
namespace EV
open LA
def colsM (wide : Nat) (rows : List (List Int)) : List (List Int) := (List.range wide).map fun pl => rows.map fun r => at0 r pl
def prodM (p : Int) (rows : List (List Int)) (wide : Nat) (rows2 : List (List Int)) : List (List Int) := rows.map fun row => (colsM wide rows2).map fun col => dot row col % p
def pressM (p : Int) (high : Nat) (rows base : List (List Int)) : List (List Int) := baseM p high (base.map (ledM p rows))
def jrowM (p : Int) (rows loads : List (List Int)) (k : Nat) : List Int := (loads.map fun l => at0 l k) ++ (rows.getD k []).map fun n => (0 - n) % p
def jtabM (p : Int) (high : Nat) (rows loads : List (List Int)) : List (List Int) := (List.range high).map (jrowM p rows loads)
def leadingM (p : Int) (high wide : Nat) (rows base : List (List Int)) : List (List Int) := baseM p wide ((kernelM p (base.length + wide) (jtabM p high rows base)).map fun l => l.drop base.length)
def sameM (n : Nat) : List (List Int) := (List.range n).map fun i => unitM n i
def imageM (p : Int) (high wide : Nat) (rows : List (List Int)) : List (List Int) := baseM p high (colsM wide rows)
def augM (rows : List (List Int)) (load : List Int) : List (List Int) := (rows.zip load).map fun q => q.1 ++ [q.2]
/-- walks a base, puts its last numbers at the leads -/
def solGo (wide : Nat) : List (List Int) → List Int → Option (List Int)
  | [], found => some found
  | r :: rs, found => if leadM r = wide then none else solGo wide rs (found.set (leadM r) (at0 r wide))
def solvedM (p : Int) (wide : Nat) (rows : List (List Int)) (load : List Int) : Option (List Int) := solGo wide (baseM p (wide + 1) (augM rows load)) (List.replicate wide 0)
def bothM (rows : List (List Int)) (high : Nat) : List (List Int) := (rows.zip (sameM high)).map fun q => q.1 ++ q.2
def backM (p : Int) (high : Nat) (rows : List (List Int)) : Option (List (List Int)) :=
  let B := baseM p (2 * high) (bothM rows high)
  if B.zipIdx.any (fun q => !decide (leadM q.1 = q.2)) then none else some (B.map fun r => r.drop high)
end EV
end

section
set_option linter.all false
/-! KS: units, kernels told, what is solved. -/
namespace EV
open LA Lean.Grind
section
variable {p : Int} {K : Type} [Fld K] [Ch p K]
theorem units_get {L : Nat} {places : List Nat} {i : Nat} (h : i < places.length) : fmL K (places.map (unitM L)) i = vec K (unitM L places[i]) := by
  rw [fmL_lt (by simpa using h)]; simp
theorem red_units {L : Nat} {places : List Nat} (hs : places.Pairwise (· < ·)) (hl : ∀ x ∈ places, x < L) : RedL K (places.map (unitM L)) (fun i => places.getD i 0) := by
  have hg : ∀ i (hi : i < places.length), places.getD i 0 = places[i] := fun i hi => by simp [hi]
  have hm : ∀ i j (hi : i < places.length) (hj : j < places.length), i < j → places[i] < places[j] := fun i j hi hj hij => List.pairwise_iff_getElem.mp hs i j hi hj hij
  have hll : ∀ i (hi : i < places.length), places[i] < L := fun i hi => hl _ (List.getElem_mem hi)
  unfold RedL
  rw [List.length_map]
  refine ⟨fun i j hij hj => ?_, fun i hi => ?_, fun i j hi hj hne => ?_, fun i x hi hx => ?_⟩
  · show places.getD i 0 < places.getD j 0
    rw [hg i (by omega), hg j hj]; exact hm i j (by omega) hj hij
  · show fmL K _ i (places.getD i 0) = 1
    rw [hg i hi, units_get hi, vec_unit, if_pos ⟨rfl, hll i hi⟩]
  · show fmL K _ i (places.getD j 0) = 0
    rw [hg j hj, units_get hi, vec_unit, if_neg]
    rintro ⟨e, _⟩
    rcases Nat.lt_trichotomy i j with h | h | h
    · have := hm i j hi hj h; omega
    · exact hne h
    · have := hm j i hj hi h; omega
  · have hx : x < places.getD i 0 := hx
    rw [hg i hi] at hx
    rw [units_get hi, vec_unit, if_neg]
    omega
theorem units_rws (hp : 1 < p) {L : Nat} {places : List Nat} : Rws p L (places.map (unitM L)) := fun r hr => by
  obtain ⟨x, _, rfl⟩ := List.mem_map.mp hr
  exact unitM_ent hp L x
theorem span_units {L : Nat} {places : List Nat} {v : Nat → K} (hl : ∀ x ∈ places, x < L) (h0 : ∀ j, j ∉ places → v j = 0) : SpL K (places.map (unitM L)) v := by
  have hs : SpL K (places.map (unitM L)) (fun j => sm L (fun pl => v pl * (if pl ∈ places then vec K (unitM L pl) j else 0))) := by
    refine Span.sum (b := fun pl j => if pl ∈ places then vec K (unitM L pl) j else 0) _ fun pl _ => ?_
    by_cases e : pl ∈ places
    · simp only [if_pos e]
      exact SpL.of (List.mem_map.mpr ⟨pl, e, rfl⟩)
    · simp only [if_neg e]
      exact .zero
  refine hs.cast fun j => ?_
  by_cases e : j ∈ places
  · rw [sm_single (hl j e) fun t ht hne => ?_]
    · rw [if_pos e, vec_unit, if_pos ⟨rfl, hl j e⟩]; grind
    · split
      · rw [vec_unit, if_neg (fun h => hne h.1.symm)]; grind
      · grind
  · rw [h0 j e, sm_zero]
    intro t _
    split
    · rename_i ht
      rw [vec_unit, if_neg (fun h => e (by rw [h.1]; exact ht))]; grind
    · grind
theorem spL_zero {B : List (List Int)} {v : Nat → K} (h : ∀ j, v j = 0) : SpL K B v := Span.zero.cast h
/-- the reduced list of the kernel -/
theorem kernel_unique {wide : Nat} {rows due : List (List Int)} (hp : P4 p) (hr : Rws p wide rows) (hd : Rws p wide due) {ld : Nat → Nat} (hred : RedL K due ld)
    (h1 : ∀ u ∈ due, ∀ r ∈ rows, dt wide (vec K r) (vec K u) = 0) (h2 : ∀ v : Nat → K, (∀ j, wide ≤ j → v j = 0) → (∀ r ∈ rows, dt wide (vec K r) v = 0) → SpL K due v) : kernelM p wide rows = due := by
  obtain ⟨hB, ⟨ld', hr', _⟩, hs⟩ := kernel_spec (K := K) hp hr
  generalize kernelM p wide rows = B at *
  have k1 : ∀ i, i < B.length → Span (fam due.length (fmL K due)) (fmL K B i) := fun i hi => by
    rw [fmL_lt hi]
    obtain ⟨a, b⟩ := (hs _).mp (SpL.of (List.getElem_mem hi))
    exact spL_fam.mp (h2 _ a b)
  have k2 : ∀ i, i < due.length → Span (fam B.length (fmL K B)) (fmL K due i) := fun i hi => by
    rw [fmL_lt hi]
    have hm := List.getElem_mem hi
    exact spL_fam.mp ((hs _).mpr ⟨fun j hj => vec_ge (by rw [(hd _ hm).1]; exact hj), h1 _ hm⟩)
  obtain ⟨hlen, hsame⟩ := hr'.unique hred k1 k2
  refine List.ext_getElem hlen fun i hi hi2 => ?_
  have := (hsame i hi).2
  rw [fmL_lt hi, fmL_lt hi2] at this
  exact vec_inj (K := K) (hB _ (List.getElem_mem hi)) (hd _ (List.getElem_mem hi2)) fun j _ => congrFun this j
theorem at0_app {a b : List Int} {j : Nat} : at0 (a ++ b) j = if j < a.length then at0 a j else at0 b (j - a.length) := by
  unfold at0
  rw [List.getD_eq_getElem?_getD, List.getD_eq_getElem?_getD, List.getD_eq_getElem?_getD]
  split
  · rename_i h; rw [List.getElem?_append_left h]
  · rename_i h; rw [List.getElem?_append_right (by omega)]
theorem vec_app {a b : List Int} {j : Nat} : vec K (a ++ b) j = if j < a.length then vec K a j else vec K b (j - a.length) := by
  unfold vec
  rw [at0_app]
  split <;> rfl
/-- less the last number -/
def phi (wide : Nat) (x u : Nat → K) : K := dt wide u x - u wide
theorem dt_lin (n : Nat) (u b x : Nat → K) (c : K) : dt n (fun j => u j + c * b j) x = dt n u x + c * dt n b x := by
  unfold dt
  rw [← sm_mul, ← sm_add]
  exact sm_congr fun j _ => by grind
theorem phi_span {wide : Nat} {S : List (List Int)} {x : Nat → K} (h : ∀ r ∈ S, phi wide x (vec K r) = 0) {u : Nat → K} (hu : SpL K S u) : phi wide x u = 0 := by
  refine Span.ind (P := fun u => phi wide x u = 0) ?_ ?_ hu
  · unfold phi dt; rw [sm_zero]
    · grind
    · intro j _; grind
  · rintro u b c hu ⟨r, hr, rfl⟩
    have h0 := h r hr
    unfold phi at h0 hu ⊢
    rw [dt_lin]
    grind
theorem dt_congr {n : Nat} {u w x : Nat → K} (h : ∀ j, j < n → u j = w j) : dt n u x = dt n w x := by
  unfold dt; exact sm_congr fun j hj => by rw [h j hj]
theorem vec_one (x : Int) : vec K [x] 0 = (x : K) := rfl
theorem solGo_some {wide : Nat} : ∀ {B : List (List Int)} {found : List Int}, (∀ r ∈ B, leadM r ≠ wide) → solGo wide B found = some ((B.zip (B.map leadM)).foldl (fun l q => l.set q.2 (at0 q.1 wide)) found)
  | [], _, _ => rfl
  | r :: rs, found, h => by
    unfold solGo
    rw [if_neg (h r (by simp)), solGo_some fun r' hr' => h r' (by simp [hr'])]
    rfl
theorem solGo_none {wide : Nat} : ∀ {B : List (List Int)} {found : List Int}, (∃ r ∈ B, leadM r = wide) → solGo wide B found = none
  | [], _, h => by obtain ⟨r, hr, _⟩ := h; cases hr
  | r :: rs, found, h => by
    unfold solGo
    by_cases e : leadM r = wide
    · rw [if_pos e]
    · rw [if_neg e]
      refine solGo_none ?_
      obtain ⟨r', hr', e'⟩ := h
      rcases List.mem_cons.mp hr' with rfl | hm
      · exact absurd e' e
      · exact ⟨r', hm, e'⟩
/-- a vector's first numbers -/
def cutV (n : Nat) (u : Nat → K) (j : Nat) : K := if j < n then u j else 0
theorem aug_mem {rows : List (List Int)} {load : List Int} (hlen : load.length = rows.length) {r : List Int} : r ∈ augM rows load ↔ ∃ i, ∃ hi : i < rows.length, r = rows[i] ++ [at0 load i] := by
  unfold augM
  rw [List.mem_map]
  constructor
  · rintro ⟨q, hq, rfl⟩
    obtain ⟨i, hi, rfl⟩ := List.mem_iff_getElem.mp hq
    have hi' : i < rows.length := by simp at hi; omega
    exact ⟨i, hi', by simp [at0_lt (show i < load.length by omega)]⟩
  · rintro ⟨i, hi, rfl⟩
    have hi2 : i < (rows.zip load).length := by simp; omega
    refine ⟨(rows.zip load)[i], List.getElem_mem hi2, ?_⟩
    simp [at0_lt (show i < load.length by omega)]
theorem aug_rws {wide : Nat} {rows : List (List Int)} {load : List Int} (hr : Rws p wide rows) (hl : Ent p load) : Rws p (wide + 1) (augM rows load) := fun r hm => by
  obtain ⟨q, hq, rfl⟩ := List.mem_map.mp hm
  obtain ⟨h1, h2⟩ := List.of_mem_zip hq
  refine ⟨by simp [(hr _ h1).1], fun x hx => ?_⟩
  rcases List.mem_append.mp hx with hx | hx
  · exact (hr _ h1).2 x hx
  · rw [List.mem_singleton] at hx; subst hx; exact hl _ h2
theorem solved_spec {wide : Nat} {rows : List (List Int)} {load : List Int} (hp : P4 p) (hr : Rws p wide rows) (hl : Ent p load) (hlen : load.length = rows.length) :
    (solvedM p wide rows load = none ∧ ∀ x : Nat → K, ¬ ∀ i (hi : i < rows.length), dt wide (vec K rows[i]) x = vec K load i) ∨
    (∃ x, solvedM p wide rows load = some x ∧ x.length = wide ∧ Ent p x ∧ (∀ i (hi : i < rows.length), dt wide (vec K rows[i]) (vec K x) = vec K load i) ∧
      ∀ j, j < wide → (∀ u : Nat → K, SpL K rows u → (∀ t, t < j → u t = 0) → u j = 0) → vec K x j = 0) := by
  have ha := aug_rws hr hl
  obtain ⟨⟨ld, hred, hld⟩, hsp⟩ := base_spec (K := K) hp ha
  have hB := (baseM_ok (long := wide + 1) hp ha (Nat.le_refl _)).1
  have hrow : ∀ i (hi : i < rows.length) j, vec K (rows[i] ++ [at0 load i]) j = if j < wide then vec K rows[i] j else if j = wide then vec K load i else 0 := fun i hi j => by
    rw [vec_app, (hr _ (List.getElem_mem hi)).1]
    by_cases e : j < wide
    · rw [if_pos e, if_pos e]
    · rw [if_neg e, if_neg e]
      by_cases e2 : j = wide
      · rw [if_pos e2, e2, Nat.sub_self]; rfl
      · rw [if_neg e2, vec_ge (by simp; omega)]
  have hphi : ∀ x : Nat → K, (∀ r ∈ augM rows load, phi wide x (vec K r) = 0) ↔ ∀ i (hi : i < rows.length), dt wide (vec K rows[i]) x = vec K load i := fun x => by
    have e : ∀ i (hi : i < rows.length), phi wide x (vec K (rows[i] ++ [at0 load i])) = dt wide (vec K rows[i]) x - vec K load i := fun i hi => by
      unfold phi
      rw [hrow i hi wide, if_neg (by omega), if_pos rfl, dt_congr (w := vec K rows[i]) fun j hj => by rw [hrow i hi j, if_pos hj]]
    constructor
    · intro h i hi
      have := h _ ((aug_mem hlen).mpr ⟨i, hi, rfl⟩)
      rw [e i hi] at this
      grind
    · intro h r hm
      obtain ⟨i, hi, rfl⟩ := (aug_mem hlen).mp hm
      rw [e i hi, h i hi]; grind
  unfold solvedM
  generalize baseM p (wide + 1) (augM rows load) = B at *
  have hlead : ∀ i (hi : i < B.length), leadM B[i] = ld i := fun i hi => lead_red hp.pos hB hred hi
  by_cases hw : ∃ r ∈ B, leadM r = wide
  · refine .inl ⟨solGo_none hw, fun x hx => ?_⟩
    obtain ⟨r, hrm, e⟩ := hw
    obtain ⟨i, hi, rfl⟩ := List.mem_iff_getElem.mp hrm
    have hli := (hlead i hi).symm.trans e
    have h0 := phi_span ((hphi x).mpr hx) ((hsp _).mp (SpL.of hrm))
    unfold phi at h0
    have h1 := hred.one i hi
    rw [hli, fmL_lt hi] at h1
    have h2 : dt wide (vec K B[i]) x = 0 := by
      unfold dt
      rw [sm_zero]
      intro j hj
      have := hred.low i j hi (by rw [hli]; exact hj)
      rw [fmL_lt hi] at this
      rw [this]; grind
    rw [h1, h2] at h0
    exact Fld.one_ne (K := K) (by grind)
  · have hne : ∀ r ∈ B, leadM r ≠ wide := fun r hr e => hw ⟨r, hr, e⟩
    have hlw : ∀ i, i < B.length → ld i < wide := fun i hi => by
      have h1 := hld i hi
      have h2 := hne _ (List.getElem_mem hi)
      rw [hlead i hi] at h2
      omega
    have hz : ∀ q, q ∈ B.zip (B.map leadM) ↔ ∃ i, ∃ hi : i < B.length, q = (B[i], ld i) := fun q => by
      rw [List.mem_iff_getElem]
      constructor
      · rintro ⟨i, hi, rfl⟩
        have hi' : i < B.length := by simpa using hi
        exact ⟨i, hi', by simp [hlead i hi']⟩
      · rintro ⟨i, hi, rfl⟩
        exact ⟨i, by simpa using hi, by simp [hlead i hi]⟩
    have hinj : ∀ i k, i < B.length → k < B.length → ld i = ld k → i = k := fun i k hi hk e => by
      rcases Nat.lt_trichotomy i k with h2 | h2 | h2
      · have := hred.mono i k h2 hk; omega
      · exact h2
      · have := hred.mono k i h2 hi; omega
    have key := fun j => kfold_at (fun r => at0 r wide) (B.zip (B.map leadM)) (List.replicate wide 0) j fun q hq => by
      obtain ⟨i, hi, rfl⟩ := (hz q).mp hq
      rw [List.length_replicate]; exact hlw i hi
    refine .inr ⟨_, solGo_some hne, ?_⟩
    generalize hx : (B.zip (B.map leadM)).foldl (fun l q => l.set q.2 (at0 q.1 wide)) (List.replicate wide 0) = x at *
    have hat : ∀ i (hi : i < B.length), at0 x (ld i) = at0 B[i] wide := fun i hi => by
      refine (key 0).2.1 (B[i], ld i) ((hz _).mpr ⟨i, hi, rfl⟩) fun q' hq' e => ?_
      obtain ⟨k, hk, rfl⟩ := (hz _).mp hq'
      have := hinj k i hk hi e
      subst this; rfl
    have hno : ∀ j, (∀ i, i < B.length → ld i ≠ j) → at0 x j = 0 := fun j hj => by
      rw [(key j).1 fun hm => by
        obtain ⟨q, hq, rfl⟩ := List.mem_map.mp hm
        obtain ⟨i, hi, rfl⟩ := (hz _).mp hq
        exact hj i hi rfl]
      unfold at0
      rw [List.getD_eq_getElem?_getD, List.getElem?_replicate]
      split <;> rfl
    have hlenx : x.length = wide := by rw [(key 0).2.2, List.length_replicate]
    refine ⟨hlenx, fun y hy => ?_, (hphi _).mp fun r hrm => phi_span (S := B) (fun s hs => ?_) ((hsp _).mpr (SpL.of hrm)), fun j hj hu => ?_⟩
    · obtain ⟨j, hj, rfl⟩ := List.mem_iff_getElem.mp hy
      rw [← at0_lt hj]
      by_cases e : ∃ i, i < B.length ∧ ld i = j
      · obtain ⟨i, hi, rfl⟩ := e
        rw [hat i hi]
        have hm := hB _ (List.getElem_mem hi)
        exact hm.2 _ (at0_mem (by rw [hm.1]; omega))
      · rw [hno j fun i hi e2 => e ⟨i, hi, e2⟩]
        have := hp.pos
        omega
    · obtain ⟨i, hi, rfl⟩ := List.mem_iff_getElem.mp hs
      unfold phi
      have h1 : dt wide (fmL K B i) (vec K x) = vec K x (ld i) := by
        rw [dt_red hred hlw hi, sm_zero]
        · grind
        · intro j hj
          split
          · rfl
          · rename_i hn
            have : vec K x j = 0 := by unfold vec; rw [hno j fun k hk e => hn ⟨k, hk, e⟩]; exact cast_0
            rw [this]; grind
      rw [fmL_lt hi] at h1
      have h2 : vec K x (ld i) = vec K B[i] wide := by unfold vec; rw [hat i hi]
      rw [h1, h2]; grind
    · unfold vec
      rw [hno j fun i hi e => ?_]
      · exact cast_0
      · subst e
        have hs : SpL K rows (cutV wide (fmL K B i)) := by
          have hsi : SpL K (augM rows load) (fmL K B i) := by rw [fmL_lt hi]; exact (hsp _).mp (SpL.of (List.getElem_mem hi))
          refine Span.ind (P := fun u => SpL K rows (cutV wide u)) ?_ ?_ hsi
          · exact spL_zero fun j => by unfold cutV; split <;> rfl
          · rintro u b c hu ⟨r, hr', rfl⟩
            obtain ⟨t, ht, rfl⟩ := (aug_mem hlen).mp hr'
            refine (Span.plus hu (Span.times c (SpL.of (List.getElem_mem ht)))).cast fun j => ?_
            unfold cutV
            by_cases e : j < wide
            · rw [if_pos e, if_pos e]
              show u j + c * vec K _ j = _
              rw [hrow t ht j, if_pos e]
            · rw [if_neg e, if_neg e, vec_ge (by rw [(hr _ (List.getElem_mem ht)).1]; omega)]; grind
        have h3 := hu _ hs fun t ht => by
          unfold cutV
          split
          · exact hred.low i t hi ht
          · rfl
        unfold cutV at h3
        rw [if_pos hj, hred.one i hi] at h3
        exact Fld.one_ne h3
end
end EV
end

section
set_option linter.all false
/-! P40: tables with one number a row, all in columns of their own. -/
namespace EV
open LA Lean.Grind
def monoRow (n : Nat) (c : Int) (q : Nat) : List Int := (List.range n).map fun j => c * (if j = q then 1 else 0)
def oN (o : List Nat) (i : Nat) : Nat := o.getD i 0
def tabM (n : Nat) (o : List Nat) (f : List Int) : List (List Int) := (List.range n).map fun i => monoRow n (at0 f i) (oN o i)
theorem monoRow_len (n : Nat) (c : Int) (q : Nat) : (monoRow n c q).length = n := by simp [monoRow]
theorem monoRow_at {n q j : Nat} {c : Int} (hj : j < n) : at0 (monoRow n c q) j = if j = q then c else 0 := by
  rw [at0_lt (by rw [monoRow_len]; exact hj)]
  unfold monoRow
  simp only [List.getElem_map, List.getElem_range]
  split <;> simp
theorem monoRow_ent {p c : Int} {n q : Nat} (hc : 0 ≤ c ∧ c < p) : (monoRow n c q).length = n ∧ Ent p (monoRow n c q) := by
  refine ⟨monoRow_len n c q, fun x hx => ?_⟩
  obtain ⟨j, _, rfl⟩ := List.mem_map.mp hx
  split <;> omega
/-- the places of the numbers -/
structure Pm (n : Nat) (o : List Nat) : Prop where
  len : o.length = n
  lt : ∀ i, i < n → oN o i < n
  inj : ∀ i j, i < n → j < n → oN o i = oN o j → i = j
  sur : ∀ j, j < n → ∃ i, i < n ∧ oN o i = j
theorem Pm.of_perm {n : Nat} {o : List Nat} (h : o.Perm (List.range n)) : Pm n o := by
  have hlen : o.length = n := by rw [h.length_eq, List.length_range]
  have hnd : o.Nodup := h.nodup_iff.mpr List.nodup_range
  have hg : ∀ i (hi : i < o.length), oN o i = o[i] := fun i hi => by simp [oN, hi]
  refine ⟨hlen, fun i hi => ?_, fun i j hi hj e => ?_, fun j hj => ?_⟩
  · rw [hg i (by omega)]
    exact List.mem_range.mp ((h.mem_iff).mp (List.getElem_mem _))
  · rw [hg i (by omega), hg j (by omega)] at e
    exact (List.getElem_inj hnd).mp e
  · obtain ⟨i, hi, e⟩ := List.mem_iff_getElem.mp ((h.mem_iff).mpr (List.mem_range.mpr hj))
    exact ⟨i, by omega, by rw [hg i hi]; exact e⟩
theorem tabM_rws {p : Int} {n : Nat} {o : List Nat} {f : List Int} (hp : 0 < p) (hf : Ent p f) : Rws p n (tabM n o f) ∧ (tabM n o f).length = n := by
  refine ⟨fun r hr => ?_, by simp [tabM]⟩
  obtain ⟨i, _, rfl⟩ := List.mem_map.mp hr
  refine monoRow_ent ?_
  by_cases h : i < f.length
  · exact hf _ (at0_mem h)
  · rw [at0_ge (by omega)]; omega
theorem dot_sum : ∀ (n : Nat) (a b : List Int), a.length = n → dot a b = ((List.range n).map fun j => at0 a j * at0 b j).sum
  | 0, [], b, _ => by simp [dot]
  | n + 1, x :: a, [], h => by
    have : ∀ j, at0 ([] : List Int) j = 0 := fun j => rfl
    simp only [dot, List.zip_nil_right, List.map_nil, List.sum_nil, this, Int.mul_zero]
    have : ∀ m : Nat, ((List.range m).map fun _ => (0 : Int)).sum = 0 := fun m => by
      induction m with
      | zero => rfl
      | succ m ih => rw [List.range_succ, List.map_append, List.sum_append, ih]; rfl
    exact (this _).symm
  | n + 1, x :: a, y :: b, h => by
    have e : dot (x :: a) (y :: b) = x * y + dot a b := by unfold dot; simp
    rw [e, dot_sum n a b (by simpa using h), List.range_succ_eq_map, List.map_cons, List.sum_cons, List.map_map]
    rfl
theorem sum_one {g : Nat → Int} {q : Nat} : ∀ {n : Nat}, q < n → (∀ j, j < n → j ≠ q → g j = 0) → ((List.range n).map g).sum = g q
  | 0, h, _ => by omega
  | n + 1, h, hz => by
    rw [List.range_succ, List.map_append, List.sum_append]
    simp only [List.map_cons, List.map_nil, List.sum_cons, List.sum_nil, Int.add_zero]
    by_cases e : q = n
    · subst e
      have : ∀ m : Nat, m ≤ q → ((List.range m).map g).sum = 0 := fun m => by
        induction m with
        | zero => intro _; rfl
        | succ m ih =>
          intro hm
          rw [List.range_succ, List.map_append, List.sum_append, ih (by omega)]
          simp [hz m (by omega) (by omega)]
      rw [this q (Nat.le_refl _)]; omega
    · rw [sum_one (n := n) (by omega) fun j hj hne => hz j (by omega) hne, hz n (by omega) (by omega)]; omega
theorem dot_mono {n q : Nat} {c : Int} {b : List Int} (hq : q < n) : dot (monoRow n c q) b = c * at0 b q := by
  rw [dot_sum n _ _ (monoRow_len n c q), sum_one (q := q) hq fun j hj hne => by rw [monoRow_at hj, if_neg hne]; omega]
  rw [monoRow_at hq, if_pos rfl]
theorem tab_get {n i : Nat} {o : List Nat} {f : List Int} (hi : i < n) : (tabM n o f)[i]? = some (monoRow n (at0 f i) (oN o i)) := by
  unfold tabM
  rw [List.getElem?_map, List.getElem?_range hi]; rfl
theorem at0_map_range {n : Nat} {g : Nat → Int} {j : Nat} (hj : j < n) : at0 ((List.range n).map g) j = g j := by
  rw [at0_lt (by simpa using hj)]; simp
theorem oN_map_range {n : Nat} {g : Nat → Nat} {j : Nat} (hj : j < n) : oN ((List.range n).map g) j = g j := by simp [oN, hj]
/-- the product -/
theorem tab_prod {p : Int} {n : Nat} {o o2 : List Nat} {f g : List Int} (ho : Pm n o) :
    prodM p (tabM n o f) n (tabM n o2 g) = tabM n ((List.range n).map fun i => oN o2 (oN o i)) ((List.range n).map fun i => at0 f i * at0 g (oN o i) % p) := by
  unfold prodM tabM colsM
  rw [List.map_map]
  refine List.map_congr_left fun i hi => ?_
  have hin := List.mem_range.mp hi
  show _ = monoRow n (at0 ((List.range n).map fun i => at0 f i * at0 g (oN o i) % p) i) (oN ((List.range n).map fun i => oN o2 (oN o i)) i)
  rw [at0_map_range hin, oN_map_range hin]
  simp only [Function.comp_def, List.map_map]
  unfold monoRow
  refine List.map_congr_left fun j hj => ?_
  have hjn := List.mem_range.mp hj
  have hoi := ho.lt i hin
  show dot (monoRow n (at0 f i) (oN o i)) ((List.range n).map fun t => at0 (monoRow n (at0 g t) (oN o2 t)) j) % p = _
  rw [dot_mono hoi, at0_map_range hoi, monoRow_at hjn]
  by_cases e : j = oN o2 (oN o i)
  · rw [if_pos e, if_pos e, Int.mul_one]
  · rw [if_neg e, if_neg e]; simp
theorem tab_led {p : Int} {n : Nat} {o : List Nat} {f load : List Int} (ho : Pm n o) : ledM p (tabM n o f) load = (List.range n).map fun i => at0 f i * at0 load (oN o i) % p := by
  unfold ledM tabM
  rw [List.map_map]
  refine List.map_congr_left fun i hi => ?_
  show dot (monoRow n (at0 f i) (oN o i)) load % p = _
  rw [dot_mono (ho.lt i (List.mem_range.mp hi))]
section
variable {p : Int} {K : Type} [Fld K] [Ch p K]
theorem vec_mono {n q j : Nat} {c : Int} (hq : q < n) : vec K (monoRow n c q) j = if j = q then (c : K) else 0 := by
  by_cases hj : j < n
  · unfold vec
    rw [monoRow_at hj]
    split
    · rfl
    · exact cast_0
  · rw [vec_ge (by rw [monoRow_len]; omega), if_neg (by omega)]
theorem dt_mono {n q : Nat} {c : Int} {v : Nat → K} (hq : q < n) : dt n (vec K (monoRow n c q)) v = (c : K) * v q := by
  unfold dt
  rw [sm_single (i := q) hq fun j _ hne => by rw [vec_mono hq, if_neg hne]; grind]
  rw [vec_mono hq, if_pos rfl]
theorem mem_tab {n : Nat} {o : List Nat} {f : List Int} {r : List Int} : r ∈ tabM n o f ↔ ∃ i, i < n ∧ r = monoRow n (at0 f i) (oN o i) := by
  unfold tabM
  rw [List.mem_map]
  constructor
  · rintro ⟨i, hi, rfl⟩; exact ⟨i, List.mem_range.mp hi, rfl⟩
  · rintro ⟨i, hi, rfl⟩; exact ⟨i, List.mem_range.mpr hi, rfl⟩
theorem vec_map_range {n : Nat} {g : Nat → Int} {j : Nat} : vec K ((List.range n).map g) j = if j < n then ((g j : Int) : K) else 0 := by
  by_cases hj : j < n
  · unfold vec; rw [at0_map_range hj, if_pos hj]
  · rw [vec_ge (by simp; omega), if_neg hj]
theorem cast_ne {f : List Int} (hf : Ent p f) (hp : 0 < p) {i : Nat} : ((at0 f i : Int) : K) = 0 ↔ at0 f i = 0 := vec_eq0 (K := K) (p := p) hf hp i
end
theorem wholes_mono (n : Nat) (q : Nat → Bool) : ((List.range n).filter q).Pairwise (· < ·) := List.Pairwise.filter _ List.pairwise_lt_range
theorem tab_image {p : Int} {n : Nat} {o : List Nat} {f : List Int} (hp : P4 p) (ho : Pm n o) (hf : Ent p f) :
    imageM p n n (tabM n o f) = ((List.range n).filter fun i => decide (at0 f i ≠ 0)).map (unitM n) := by
  obtain ⟨K, _, _⟩ := hp.fld
  have ht := tabM_rws (n := n) (o := o) hp.pos hf
  have hcol : ∀ j, j < n → ∃ i, i < n ∧ oN o i = j ∧ ∀ t, vec K ((tabM n o f).map fun r => at0 r j) t = if t = i then ((at0 f i : Int) : K) else 0 := fun j hj => by
    obtain ⟨i, hi, e⟩ := ho.sur j hj
    refine ⟨i, hi, e, fun t => ?_⟩
    unfold tabM
    rw [List.map_map, vec_map_range]
    by_cases htn : t < n
    · rw [if_pos htn]
      show ((at0 (monoRow n (at0 f t) (oN o t)) j : Int) : K) = _
      rw [monoRow_at hj]
      by_cases e2 : t = i
      · subst e2; rw [if_pos e.symm, if_pos rfl]
      · rw [if_neg e2, if_neg fun e3 => e2 (ho.inj t i htn hi (by rw [← e3, e]))]; exact cast_0
    · rw [if_neg htn, if_neg (by omega)]
  have hcr : Rws p n (colsM n (tabM n o f)) := fun r hm => by
    obtain ⟨j, hj, rfl⟩ := List.mem_map.mp hm
    refine ⟨by rw [List.length_map]; exact ht.2, fun x hx => ?_⟩
    obtain ⟨r, hrm, rfl⟩ := List.mem_map.mp hx
    exact (ht.1 r hrm).2 _ (at0_mem (by rw [(ht.1 r hrm).1]; exact List.mem_range.mp hj))
  have hmem : ∀ x, x ∈ ((List.range n).filter fun i => decide (at0 f i ≠ 0)) ↔ x < n ∧ at0 f x ≠ 0 := fun x => by simp
  refine base_unique (K := K) hp hcr (units_rws hp.one) (red_units (wholes_mono n _) fun x hx => ((hmem x).mp hx).1) (fun r hr => ?_) (fun r hr => ?_)
  · obtain ⟨j, hj, rfl⟩ := List.mem_map.mp hr
    obtain ⟨i, hi, e, hv⟩ := hcol j (List.mem_range.mp hj)
    refine span_units (fun x hx => ((hmem x).mp hx).1) fun t ht => ?_
    rw [hv]
    split
    · rename_i e2
      subst e2
      rw [cast_ne hf hp.pos]
      exact Classical.byContradiction fun h => ht ((hmem t).mpr ⟨hi, h⟩)
    · rfl
  · obtain ⟨i, hi, rfl⟩ := List.mem_map.mp hr
    obtain ⟨hin, hne⟩ := (hmem i).mp hi
    obtain ⟨i', hi', e, hv⟩ := hcol (oN o i) (ho.lt i hin)
    have : i' = i := ho.inj i' i hi' hin e
    subst this
    have hc : ((at0 f i' : Int) : K) ≠ 0 := fun h => hne ((cast_ne hf hp.pos).mp h)
    have hm := Fld.mul_inv _ hc
    refine (Span.times (Fld.inv ((at0 f i' : Int) : K)) (SpL.of (B := colsM n (tabM n o f)) (List.mem_map.mpr ⟨oN o i', List.mem_range.mpr (ho.lt i' hin), rfl⟩))).cast fun t => ?_
    rw [hv, vec_unit]
    split
    · rename_i h; rw [if_pos h.1]; grind
    · rename_i h; rw [if_neg (fun h2 => h ⟨h2, hin⟩)]; grind
theorem tab_kernel {p : Int} {n : Nat} {o : List Nat} {f : List Int} (hp : P4 p) (ho : Pm n o) (hf : Ent p f) {places : List Nat} (hs : places.Pairwise (· < ·)) (hm : ∀ j, j ∈ places ↔ ∃ i, i < n ∧ at0 f i = 0 ∧ oN o i = j) :
    kernelM p n (tabM n o f) = places.map (unitM n) := by
  obtain ⟨K, _, _⟩ := hp.fld
  have ht := tabM_rws (n := n) (o := o) hp.pos hf
  have hlt : ∀ j ∈ places, j < n := fun j hj => by
    obtain ⟨i, hi, _, rfl⟩ := (hm j).mp hj
    exact ho.lt i hi
  refine kernel_unique (K := K) hp ht.1 (units_rws hp.one) (red_units hs hlt) (fun u hu r hr => ?_) (fun v hv hk => span_units hlt fun j hj => ?_)
  · obtain ⟨j, hj, rfl⟩ := List.mem_map.mp hu
    obtain ⟨i, hi, rfl⟩ := mem_tab.mp hr
    rw [dt_mono (ho.lt i hi), vec_unit]
    split
    · rename_i h
      obtain ⟨i', hi', h0, e⟩ := (hm j).mp hj
      have : i = i' := ho.inj i i' hi hi' (by rw [h.1, e])
      subst this
      rw [h0, cast_0]; grind
    · grind
  · by_cases hjn : j < n
    · obtain ⟨i, hi, rfl⟩ := ho.sur j hjn
      have h := hk _ (mem_tab.mpr ⟨i, hi, rfl⟩)
      rw [dt_mono (ho.lt i hi)] at h
      rcases mul_eq_zero h with h | h
      · exact absurd ((hm _).mpr ⟨i, hi, (cast_ne hf hp.pos).mp h, rfl⟩) hj
      · exact h
    · exact hv j (by omega)

def lsGo (p : Int) (o : List Nat) (f : List Int) : List (Int × Nat) → List Int → Option (List Int)
  | [], x => some x
  | q :: r, x => if at0 f q.2 = 0 ∧ q.1 ≠ 0 then none else if at0 f q.2 ≠ 0 then lsGo p o f r (x.set (oN o q.2) (q.1 * invM p (at0 f q.2) % p)) else lsGo p o f r x
theorem at0_cons {x : Int} {l : List Int} {t : Nat} : at0 (x :: l) (t + 1) = at0 l t := rfl
theorem lsGo_spec {p : Int} {n : Nat} {o : List Nat} {f : List Int} (ho : Pm n o) : ∀ (l : List Int) (s : Nat) (x0 : List Int), s + l.length ≤ n → x0.length = n →
    (lsGo p o f (l.zipIdx s) x0 = none ∧ ∃ t, t < l.length ∧ at0 f (s + t) = 0 ∧ at0 l t ≠ 0) ∨
    (∃ x, lsGo p o f (l.zipIdx s) x0 = some x ∧ x.length = n ∧ (∀ t, t < l.length → ¬ (at0 f (s + t) = 0 ∧ at0 l t ≠ 0)) ∧
      (∀ t, t < l.length → at0 f (s + t) ≠ 0 → at0 x (oN o (s + t)) = at0 l t * invM p (at0 f (s + t)) % p) ∧
      (∀ j, (∀ t, t < l.length → at0 f (s + t) ≠ 0 → oN o (s + t) ≠ j) → at0 x j = at0 x0 j))
  | [], s, x0, _, hx => .inr ⟨x0, rfl, hx, (fun t h => absurd h (Nat.not_lt_zero t)), (fun t h => absurd h (Nat.not_lt_zero t)), fun j _ => rfl⟩
  | y :: l, s, x0, hs, hx => by
    rw [List.length_cons] at hs
    rw [List.zipIdx_cons]
    unfold lsGo
    simp only
    by_cases h1 : at0 f s = 0 ∧ y ≠ 0
    · rw [if_pos h1]
      exact .inl ⟨rfl, 0, by simp, h1.1, h1.2⟩
    · rw [if_neg h1]
      by_cases h2 : at0 f s ≠ 0
      · rw [if_pos h2]
        rcases lsGo_spec ho l (s + 1) (x0.set (oN o s) (y * invM p (at0 f s) % p)) (by omega) (by rw [List.length_set]; exact hx) with ⟨e, t, ht, hz, hne⟩ | ⟨x, e, hxl, hb, hv, hk⟩
        · exact .inl ⟨e, t + 1, by simp; omega, by rw [show s + (t + 1) = s + 1 + t by omega]; exact hz, hne⟩
        · refine .inr ⟨x, e, hxl, fun t ht => ?_, fun t ht hf => ?_, fun j hj => ?_⟩
          · cases t with
            | zero => exact h1
            | succ t =>
              have := hb t (by simpa using ht)
              rwa [show s + 1 + t = s + (t + 1) by omega] at this
          · cases t with
            | zero =>
              show at0 x (oN o s) = y * invM p (at0 f s) % p
              rw [hk (oN o s) fun t ht _ e => by
                have := ho.inj (s + 1 + t) s (by omega) (by omega) e
                omega]
              rw [at0_set, if_pos ⟨rfl, by rw [hx]; exact ho.lt s (by omega)⟩]
            | succ t =>
              have := hv t (by simpa using ht) (by rw [show s + 1 + t = s + (t + 1) by omega]; exact hf)
              rwa [show s + 1 + t = s + (t + 1) by omega] at this
          · rw [hk j fun t ht hf => by
              have := hj (t + 1) (by simp; omega)
              rw [show s + (t + 1) = s + 1 + t by omega] at this
              exact this hf]
            rw [at0_set, if_neg]
            rintro ⟨e, _⟩
            exact hj 0 (by simp) h2 e.symm
      · rw [if_neg h2]
        rcases lsGo_spec ho l (s + 1) x0 (by omega) hx with ⟨e, t, ht, hz, hne⟩ | ⟨x, e, hxl, hb, hv, hk⟩
        · exact .inl ⟨e, t + 1, by simp; omega, by rw [show s + (t + 1) = s + 1 + t by omega]; exact hz, hne⟩
        · refine .inr ⟨x, e, hxl, fun t ht => ?_, fun t ht hf => ?_, fun j hj => ?_⟩
          · cases t with
            | zero => exact h1
            | succ t =>
              have := hb t (by simpa using ht)
              rwa [show s + 1 + t = s + (t + 1) by omega] at this
          · cases t with
            | zero => exact absurd hf h2
            | succ t =>
              have := hv t (by simpa using ht) (by rw [show s + 1 + t = s + (t + 1) by omega]; exact hf)
              rwa [show s + 1 + t = s + (t + 1) by omega] at this
          · exact hk j fun t ht hf => by
              have := hj (t + 1) (by simp; omega)
              rw [show s + (t + 1) = s + 1 + t by omega] at this
              exact this hf
theorem inv_cast {p : Int} {K : Type} [Fld K] [Ch p K] (hp : P4 p) {x : Int} (h : 0 ≤ x ∧ x < p) (h0 : x ≠ 0) : ((invM p x : Int) : K) * (x : K) = 1 := by
  have h1 := (invM_mul hp (x := x) (by omega) h.2).1
  have h2 : ((invM p x * x % p : Int) : K) = ((1 : Int) : K) := by rw [h1]
  rw [cast_mod, Ring.intCast_mul, cast_1] at h2
  exact h2
theorem tab_solved {p : Int} {n : Nat} {o : List Nat} {f load : List Int} (hp : P4 p) (ho : Pm n o) (hf : Ent p f) (hfl : f.length = n) (hl : Ent p load) (hll : load.length = n) :
    solvedM p n (tabM n o f) load = lsGo p o f (load.zipIdx) (List.replicate n 0) := by
  obtain ⟨K, _, _⟩ := hp.fld
  have ht := tabM_rws (n := n) (o := o) hp.pos hf
  have hget : ∀ i (hi : i < (tabM n o f).length), (tabM n o f)[i] = monoRow n (at0 f i) (oN o i) := fun i hi => by
    have := tab_get (o := o) (f := f) (show i < n by rw [ht.2] at hi; exact hi)
    rw [List.getElem?_eq_getElem hi] at this
    exact Option.some.inj this
  have hfe : ∀ i, i < n → 0 ≤ at0 f i ∧ at0 f i < p := fun i hi => hf _ (at0_mem (by omega))
  have hrep : ∀ j, at0 (List.replicate n (0 : Int)) j = 0 := fun j => by
    unfold at0
    rw [List.getD_eq_getElem?_getD, List.getElem?_replicate]
    split <;> rfl
  have h1 := solved_spec (K := K) hp ht.1 hl (by rw [ht.2, hll])
  have h2 := lsGo_spec (p := p) (f := f) ho load 0 (List.replicate n 0) (by omega) (by simp)
  simp only [Nat.zero_add] at h2
  have hsol : ∀ x : List Int, (∀ t, t < n → ¬ (at0 f t = 0 ∧ at0 load t ≠ 0)) → (∀ t, t < n → at0 f t ≠ 0 → at0 x (oN o t) = at0 load t * invM p (at0 f t) % p) → ∀ i (hi : i < (tabM n o f).length), dt n (vec K (tabM n o f)[i]) (vec K x) = vec K load i := fun x hb hv i hi => by
    have hin : i < n := by rw [ht.2] at hi; exact hi
    rw [hget i hi, dt_mono (ho.lt i hin)]
    by_cases h0 : at0 f i = 0
    · have hl0 : at0 load i = 0 := Classical.byContradiction fun h => hb i hin ⟨h0, h⟩
      unfold vec
      rw [h0, hl0, cast_0]; grind
    · have e : vec K x (oN o i) = vec K load i * ((invM p (at0 f i) : Int) : K) := by
        unfold vec
        rw [hv i hin h0, cast_mod, Ring.intCast_mul]
      have hi1 := inv_cast (K := K) hp (hfe i hin) h0
      rw [e]
      grind
  rcases h1 with ⟨e1, hn1⟩ | ⟨y, e1, hyl, hye, hys, hyz⟩
  · rcases h2 with ⟨e2, _⟩ | ⟨x, e2, hxl, hb, hv, hk⟩
    · rw [e1, e2]
    · exact absurd (hsol x (fun t h => hb t (by omega)) fun t h => hv t (by omega)) (hn1 (vec K x))
  · rcases h2 with ⟨e2, t, htl, h0, hne⟩ | ⟨x, e2, hxl, hb, hv, hk⟩
    · have htn : t < n := by omega
      have := hys t (by rw [ht.2]; exact htn)
      rw [hget t, dt_mono (ho.lt t htn), h0, cast_0] at this
      have h3 : vec K load t = 0 := by rw [← this]; grind
      exact absurd ((vec_eq0 (K := K) hl hp.pos t).mp h3) hne
    · rw [e1, e2]
      congr 1
      have hxs := hsol x (fun t h => hb t (by omega)) fun t h => hv t (by omega)
      have hz : ∀ t, t < n → at0 f t = 0 → at0 x (oN o t) = 0 := fun t htn h0 => by
        rw [hk (oN o t) fun t' ht' hf' e => by
          have := ho.inj t' t (by omega) htn e
          subst this
          exact hf' h0]
        exact hrep _
      have hxe : Ent p x := fun z hzm => by
        obtain ⟨j, hj, rfl⟩ := List.mem_iff_getElem.mp hzm
        rw [← at0_lt hj]
        obtain ⟨i, hi, rfl⟩ := ho.sur j (by omega)
        have hp0 := hp.pos
        by_cases h0 : at0 f i = 0
        · rw [hz i hi h0]; omega
        · rw [hv i (by omega) h0]
          exact ⟨Int.emod_nonneg _ (by omega), Int.emod_lt_of_pos _ hp0⟩
      refine vec_inj (K := K) ⟨hyl, hye⟩ ⟨hxl, hxe⟩ fun j hj => ?_
      obtain ⟨i, hi, rfl⟩ := ho.sur j hj
      by_cases h0 : at0 f i = 0
      · have : vec K x (oN o i) = 0 := by unfold vec; rw [hz i hi h0]; exact cast_0
        rw [this]
        refine hyz _ hj fun u hu _ => ?_
        refine Span.ind (P := fun u => u (oN o i) = 0) rfl ?_ hu
        rintro u b c hu ⟨r, hr, rfl⟩
        obtain ⟨i', hi', rfl⟩ := mem_tab.mp hr
        show u (oN o i) + c * vec K _ (oN o i) = 0
        rw [hu, vec_mono (ho.lt i' hi')]
        split
        · rename_i e
          have := ho.inj i i' hi hi' e
          subst this
          rw [h0, cast_0]; grind
        · grind
      · have a1 := hys i (by rw [ht.2]; exact hi)
        have a2 := hxs i (by rw [ht.2]; exact hi)
        rw [hget i, dt_mono (ho.lt i hi)] at a1 a2
        have hi1 := inv_cast (K := K) hp (hfe i hi) h0
        have : vec K y (oN o i) = ((invM p (at0 f i) : Int) : K) * (((at0 f i : Int) : K) * vec K y (oN o i)) := by grind
        rw [this, a1, ← a2]
        grind
/-! backs -/
def newM (n : Nat) (o : List Nat) : List Nat := (List.range n).map fun j => o.idxOf j
theorem new_at {n : Nat} {o : List Nat} (ho : Pm n o) {j : Nat} (hj : j < n) : oN (newM n o) j < n ∧ oN o (oN (newM n o) j) = j := by
  unfold newM
  rw [oN_map_range hj]
  have hm : j ∈ o := by
    obtain ⟨i, hi, e⟩ := ho.sur j hj
    have hi' : i < o.length := by rw [ho.len]; exact hi
    have : oN o i = o[i] := by simp [oN, hi']
    rw [← e, this]; exact List.getElem_mem hi'
  have hlt := List.idxOf_lt_length_of_mem hm
  refine ⟨by rw [← ho.len]; exact hlt, ?_⟩
  have : oN o (o.idxOf j) = o[o.idxOf j] := by simp [oN, hlt]
  rw [this]
  exact List.getElem_idxOf hlt
theorem both_get {rows : List (List Int)} {n i : Nat} (hl : rows.length = n) (hi : i < n) : ∃ h : i < (bothM rows n).length, (bothM rows n)[i] = rows[i] ++ unitM n i := by
  have : i < (bothM rows n).length := by simp [bothM, sameM, hl]; exact hi
  refine ⟨this, ?_⟩
  simp [bothM, sameM]
theorem tab_back {p : Int} {n : Nat} {o : List Nat} {f : List Int} (hp : P4 p) (ho : Pm n o) (hf : Ent p f) (hfl : f.length = n) :
    backM p n (tabM n o f) = if ∃ i, i < n ∧ at0 f i = 0 then none else some (tabM n (newM n o) ((List.range n).map fun j => invM p (at0 f (oN (newM n o) j)))) := by
  classical
  obtain ⟨K, _, _⟩ := hp.fld
  have ht := tabM_rws (n := n) (o := o) hp.pos hf
  have hget : ∀ i (hi : i < (tabM n o f).length), (tabM n o f)[i] = monoRow n (at0 f i) (oN o i) := fun i hi => by
    have := tab_get (o := o) (f := f) (show i < n by rw [ht.2] at hi; exact hi)
    rw [List.getElem?_eq_getElem hi] at this
    exact Option.some.inj this
  have hfe : ∀ i, i < n → 0 ≤ at0 f i ∧ at0 f i < p := fun i hi => hf _ (at0_mem (by omega))
  have hbr : Rws p (2 * n) (bothM (tabM n o f) n) := fun r hm => by
    obtain ⟨i, hi, rfl⟩ := List.mem_iff_getElem.mp hm
    have hin : i < n := by simp [bothM, sameM, ht.2] at hi; exact hi
    obtain ⟨_, e⟩ := both_get ht.2 hin
    rw [e]
    have h1 := ht.1 _ (List.getElem_mem (show i < (tabM n o f).length by rw [ht.2]; exact hin))
    have h2 := unitM_ent hp.one n i
    refine ⟨by rw [List.length_append, h1.1, h2.1]; omega, fun x hx => ?_⟩
    rcases List.mem_append.mp hx with hx | hx
    · exact h1.2 x hx
    · exact h2.2 x hx
  have hbl : (bothM (tabM n o f) n).length = n := by simp [bothM, sameM, ht.2]
  have hbv : ∀ i, i < n → ∃ r ∈ bothM (tabM n o f) n, ∀ j, vec K r j = (if j = oN o i then ((at0 f i : Int) : K) else 0) + if j = n + i then 1 else 0 := fun i hi => by
    obtain ⟨h, e⟩ := both_get ht.2 hi
    refine ⟨_, List.getElem_mem h, fun j => ?_⟩
    have hoi := ho.lt i hi
    rw [e, hget i (by rw [ht.2]; exact hi), vec_app, monoRow_len]
    by_cases hj : j < n
    · rw [if_pos hj, vec_mono hoi, if_neg (show ¬ j = n + i by omega)]; grind
    · rw [if_neg hj, vec_unit, if_neg (show ¬ j = oN o i by omega)]
      by_cases e2 : j = n + i
      · rw [if_pos ⟨by omega, hi⟩, if_pos e2]; grind
      · rw [if_neg (by omega), if_neg e2]; grind
  by_cases h0 : ∃ i, i < n ∧ at0 f i = 0
  · rw [if_pos h0]
    obtain ⟨i, hi, hz⟩ := h0
    obtain ⟨⟨ld, hred, hld⟩, hsp⟩ := base_spec (K := K) hp hbr
    have hlen := (baseM_ok (long := 2 * n) hp hbr (Nat.le_refl _)).2
    have hB := (baseM_ok (long := 2 * n) hp hbr (Nat.le_refl _)).1
    unfold backM
    simp only
    generalize baseM p (2 * n) (bothM (tabM n o f) n) = B at *
    rw [if_pos]
    rw [List.any_eq_true]
    refine Classical.byContradiction fun hno => ?_
    have hall : ∀ k, k < B.length → ld k = k := fun k hk => by
      refine Classical.byContradiction fun hne => hno ⟨(B[k], k), ?_, ?_⟩
      · rw [List.mem_zipIdx_iff_getElem?]; simp [hk]
      · rw [← lead_red hp.pos hB hred hk] at hne
        simp [hne]
    obtain ⟨r, hrm, hv⟩ := hbv i hi
    have hs := (hsp _).mpr (SpL.of (K := K) hrm)
    have h1 : vec K r (n + i) = 1 := by
      rw [hv, if_neg (by have := ho.lt i hi; omega), if_pos rfl]; grind
    have h2 : vec K r (n + i) = 0 := by
      refine hred.nought (spL_fam.mp hs) (fun k hk => ?_) _
      rw [hall k hk, hv, if_neg (show ¬ k = n + i by omega)]
      split
      · rw [hz, cast_0]; grind
      · grind
    rw [h1] at h2
    exact Fld.one_ne h2
  · rw [if_neg h0]
    have hne : ∀ i, i < n → at0 f i ≠ 0 := fun i hi h => h0 ⟨i, hi, h⟩
    -- the base
    let dueR : Nat → List Int := fun k => unitM n k ++ monoRow n (invM p (at0 f (oN (newM n o) k))) (oN (newM n o) k)
    have hdv : ∀ k, k < n → ∀ j, vec K (dueR k) j = (if j = k then 1 else 0) + if j = n + oN (newM n o) k then ((invM p (at0 f (oN (newM n o) k)) : Int) : K) else 0 := fun k hk j => by
      obtain ⟨hn1, hn2⟩ := new_at ho hk
      show vec K (unitM n k ++ monoRow n _ _) j = _
      rw [vec_app, unitM_len]
      by_cases hj : j < n
      · rw [if_pos hj, vec_unit, if_neg (show ¬ j = n + oN (newM n o) k by omega)]
        by_cases e : j = k
        · rw [if_pos ⟨e, hk⟩, if_pos e]; grind
        · rw [if_neg (fun h => e h.1), if_neg e]; grind
      · rw [if_neg hj, vec_mono hn1, if_neg (show ¬ j = k by omega)]
        by_cases e : j = n + oN (newM n o) k
        · rw [if_pos (by omega), if_pos e]; grind
        · rw [if_neg (by omega), if_neg e]; grind
    have hie : ∀ k, k < n → 0 ≤ invM p (at0 f (oN (newM n o) k)) ∧ invM p (at0 f (oN (newM n o) k)) < p := fun k hk => by
      have h1 := hfe _ (new_at ho hk).1
      have h2 := hne _ (new_at ho hk).1
      exact (invM_mul hp (by omega) h1.2).2
    have hdr : Rws p (2 * n) ((List.range n).map dueR) := fun r hm => by
      obtain ⟨k, hk, rfl⟩ := List.mem_map.mp hm
      have hkn := List.mem_range.mp hk
      have h1 := unitM_ent hp.one n k
      have h2 := monoRow_ent (n := n) (q := oN (newM n o) k) (hie k hkn)
      refine ⟨by show (unitM n k ++ monoRow n _ _).length = _; rw [List.length_append, h1.1, h2.1]; omega, fun x hx => ?_⟩
      rcases List.mem_append.mp hx with hx | hx
      · exact h1.2 x hx
      · exact h2.2 x hx
    have hfm : ∀ k, k < n → fmL K ((List.range n).map dueR) k = vec K (dueR k) := fun k hk => by
      rw [fmL_lt (by simpa using hk)]; simp
    have hbase : baseM p (2 * n) (bothM (tabM n o f) n) = (List.range n).map dueR := by
      refine base_unique (K := K) (ld := fun k => k) hp hbr hdr ?_ (fun r hr => ?_) (fun r hr => ?_)
      · unfold RedL
        rw [List.length_map, List.length_range]
        refine ⟨fun i j h _ => h, fun i hi => ?_, fun i j hi hj hne => ?_, fun i x hi hx => ?_⟩
        · rw [hfm i hi, hdv i hi, if_pos rfl, if_neg (by omega)]; grind
        · rw [hfm i hi, hdv i hi, if_neg (fun h => hne h.symm), if_neg (by omega)]; grind
        · have hx : x < i := hx
          rw [hfm i hi, hdv i hi, if_neg (by omega), if_neg (by omega)]; grind
      · obtain ⟨i, hi, rfl⟩ := List.mem_iff_getElem.mp hr
        have hin : i < n := by rw [hbl] at hi; exact hi
        obtain ⟨h, e⟩ := both_get ht.2 hin
        -- f_i times the row o i
        have hoi := ho.lt i hin
        obtain ⟨m1, m2⟩ := new_at ho hoi
        have hni : oN (newM n o) (oN o i) = i := ho.inj _ _ m1 hin m2
        refine (Span.times ((at0 f i : Int) : K) (SpL.of (B := (List.range n).map dueR) (List.mem_map.mpr ⟨oN o i, List.mem_range.mpr hoi, rfl⟩))).cast fun j => ?_
        have hi1 := inv_cast (K := K) hp (hfe i hin) (hne i hin)
        obtain ⟨r', hr', hv'⟩ := hbv i hin
        have : vec K (bothM (tabM n o f) n)[i] j = (if j = oN o i then ((at0 f i : Int) : K) else 0) + if j = n + i then 1 else 0 := by
          rw [e, hget i (by rw [ht.2]; exact hin), vec_app, monoRow_len]
          by_cases hj : j < n
          · rw [if_pos hj, vec_mono hoi, if_neg (show ¬ j = n + i by omega)]; grind
          · rw [if_neg hj, vec_unit, if_neg (show ¬ j = oN o i by omega)]
            by_cases e2 : j = n + i
            · rw [if_pos ⟨by omega, hin⟩, if_pos e2]; grind
            · rw [if_neg (by omega), if_neg e2]; grind
        rw [this, hdv _ hoi, hni]
        by_cases e1 : j = oN o i
        · rw [if_pos e1, if_pos e1, if_neg (by omega), if_neg (by omega)]; grind
        · rw [if_neg e1, if_neg e1]
          by_cases e2 : j = n + i
          · rw [if_pos e2, if_pos e2]; grind
          · rw [if_neg e2, if_neg e2]; grind
      · obtain ⟨k, hk, rfl⟩ := List.mem_map.mp hr
        have hkn := List.mem_range.mp hk
        obtain ⟨m1, m2⟩ := new_at ho hkn
        obtain ⟨r', hr', hv'⟩ := hbv _ m1
        refine (Span.times ((invM p (at0 f (oN (newM n o) k)) : Int) : K) (SpL.of hr')).cast fun j => ?_
        have hi1 := inv_cast (K := K) hp (hfe _ m1) (hne _ m1)
        rw [hdv k hkn, hv', m2]
        by_cases e1 : j = k
        · rw [if_pos e1, if_pos e1, if_neg (by omega), if_neg (by omega)]; grind
        · rw [if_neg e1, if_neg e1]
          by_cases e2 : j = n + oN (newM n o) k
          · rw [if_pos e2, if_pos e2]; grind
          · rw [if_neg e2, if_neg e2]; grind
    unfold backM
    simp only
    rw [hbase, if_neg]
    · congr 1
      unfold tabM
      rw [List.map_map]
      refine List.map_congr_left fun k hk => ?_
      have hkn := List.mem_range.mp hk
      show (unitM n k ++ monoRow n _ _).drop n = _
      rw [List.drop_append, unitM_len, Nat.sub_self, List.drop_of_length_le (by rw [unitM_len]; exact Nat.le_refl _), List.nil_append, List.drop_zero, at0_map_range hkn]
    · rw [List.any_eq_true]
      rintro ⟨q, hq, hq2⟩
      rw [List.mem_zipIdx_iff_getElem?] at hq
      have hkn : q.2 < n := by
        have := List.getElem?_eq_some_iff.mp hq
        obtain ⟨h, _⟩ := this
        simpa using h
      rw [List.getElem?_map, List.getElem?_range hkn] at hq
      have hq : dueR q.2 = q.1 := Option.some.inj hq
      have : leadM q.1 = q.2 := by
        rw [← hq]
        have hent := (hdr (dueR q.2) (List.mem_map.mpr ⟨q.2, List.mem_range.mpr hkn, rfl⟩)).2
        refine leadM_eq (fun x hx => ?_) fun e => ?_
        · refine (vec_eq0 (K := K) hent hp.pos x).mp ?_
          rw [hdv _ hkn, if_neg (by omega), if_neg (by omega)]; grind
        · have h1 := (vec_eq0 (K := K) hent hp.pos q.2).mpr e
          rw [hdv _ hkn, if_pos rfl, if_neg (by omega)] at h1
          exact Fld.one_ne (K := K) (by grind)
      rw [this] at hq2
      simp at hq2
end EV
end

section
set_option linter.all false
set_option maxRecDepth 100000
set_option maxHeartbeats 1000000
/-! EQ, part 0: the evaluator's small steps as equations; walks over data. -/
namespace EV
open PySem L2
/-- not by definition alone -/
theorem nr {α : Sort _} {a b : α} (h : a = b) : a = b := h
/-! rules of the core library, not by definition -/
section
universe u
variable {α β : Type u} (x y : α) (l m : List α) (n : Nat)
theorem q_set0 : (x :: l).set 0 y = y :: l := nr rfl
theorem q_sets : (x :: l).set (n + 1) y = x :: l.set n y := nr rfl
theorem q_get0 : (x :: l)[0]? = some x := nr rfl
theorem q_gets : (x :: l)[n + 1]? = l[n]? := nr rfl
theorem q_getn : ([] : List α)[n]? = none := nr rfl
theorem q_mapc (f : α → β) : (x :: l).map f = f x :: l.map f := nr rfl
theorem q_mapn (f : α → β) : ([] : List α).map f = [] := nr rfl
theorem q_appc : (x :: l) ++ m = x :: (l ++ m) := nr rfl
theorem q_appn : [] ++ m = m := nr rfl
theorem q_reps : List.replicate (n + 1) x = x :: List.replicate n x := nr rfl
theorem q_rep0 : List.replicate 0 x = [] := nr rfl
theorem q_bb (o : Option α) (f : α → Option β) : (o >>= f) = o.bind f := nr rfl
theorem q_bs (f : α → Option β) : (some x).bind f = f x := nr rfl
theorem q_bn (f : α → Option β) : (none : Option α).bind f = none := nr rfl
theorem q_ms (f : α → β) : (some x).map f = some (f x) := nr rfl
theorem q_mn (f : α → β) : (none : Option α).map f = none := nr rfl
theorem q_lc : (x :: l).length = l.length + 1 := nr rfl
theorem q_ln : ([] : List α).length = 0 := nr rfl
theorem q_pure : (pure x : Option α) = some x := nr rfl
theorem q_ift [Decidable True] : (if True then x else y) = x := nr (if_pos trivial)
theorem q_iff [Decidable False] : (if False then x else y) = y := nr (if_neg not_false)
theorem q_ifb [Decidable (true = true)] : (if true = true then x else y) = x := nr (if_pos rfl)
theorem q_ifc [Decidable (false = true)] : (if false = true then x else y) = y := nr (if_neg Bool.false_ne_true)
end
/-- a def's run -/
theorem run_ {G : Nat → List D → Option Cell} {C : Nat → Option D} {d : Def} {xs : List D} (h : xs.length = d.n) : runD G C d xs = (evalS G C (xs.map .sh ++ List.replicate (d.vars.length - d.n) .no) d.core).bind outC := nr (if_pos h)
section
variable (a b c : D) (xs ys : List D) (i j : Int) (x y : Str) (p q : Bool) (env : List Cell)
theorem getD_sh : getD (some (.sh a)) = some a := nr rfl
theorem getD_ow : getD (some (.ow a)) = some a := nr rfl
theorem getB_b : getB (some (.sh (.bool p))) = some p := nr rfl
theorem getL_t : getL (some (.sh (.tuple xs))) = some xs := nr rfl
theorem d_sh : Cell.d? (.sh a) = some a := nr rfl
theorem d_ow : Cell.d? (.ow a) = some a := nr rfl
theorem getO_t (o : Option Cell) : getO true o = some none := nr rfl
theorem getO_f : getO false (some (.sh (.int i))) = some (some i) := nr rfl
theorem bindT_nm (n : Nat) : bindT (.nm n) a env = some (env.set n (.sh a)) := nr rfl
theorem bindT_tp (is : List Nat) : bindT (.tp is) (.tuple xs) env = setAll is xs env := nr rfl
theorem setAll_nil : setAll [] [] env = some env := nr rfl
theorem setAll_cons (n : Nat) (is : List Nat) : setAll (n :: is) (a :: xs) env = setAll is xs (env.set n (.sh a)) := nr rfl
theorem hide_nil : hide [] env = env := nr rfl
theorem hide_cons (n : Nat) (is : List Nat) : hide (n :: is) env = (hide is env).set n .no := nr rfl
theorem items_l : itemsOf (.list xs) = some xs := nr rfl
theorem items_t : itemsOf (.tuple xs) = some xs := nr rfl
theorem seq_l : seqOf (.list xs) = some xs := nr rfl
theorem seq_t : seqOf (.tuple xs) = some xs := nr rfl
theorem zipD2 : zipD [a, b] = (itemsOf a).bind fun xs => (itemsOf b).bind fun ys => some (zip2 xs ys) := by
  show (match itemsOf a, itemsOf b with
    | some xs, some ys => some (zip2 xs ys)
    | _, _ => none) = _
  cases itemsOf a <;> cases itemsOf b <;> rfl
theorem zipD3 : zipD [a, b, c] = (itemsOf a).bind fun xs => (itemsOf b).bind fun ys => (itemsOf c).bind fun zs => some (zip3 xs ys zs) := by
  show (match itemsOf a, itemsOf b, itemsOf c with
    | some xs, some ys, some zs => some (zip3 xs ys zs)
    | _, _, _ => none) = _
  cases itemsOf a <;> cases itemsOf b <;> cases itemsOf c <;> rfl
theorem enmD_ : enmD a = (itemsOf a).bind fun xs => some (enmFrom 0 xs) := by unfold enmD; cases itemsOf a <;> rfl
theorem rev_l : revD (.list xs) = some xs.reverse := nr rfl
theorem rev_t : revD (.tuple xs) = some xs.reverse := nr rfl
theorem len_l : bltD .len [.list xs] = some (.sh (.int xs.length)) := nr rfl
theorem len_t : bltD .len [.tuple xs] = some (.sh (.int xs.length)) := nr rfl
theorem len_s : bltD .len [.str x] = if x.length ≤ big then some (.sh (.int x.length)) else none := nr rfl
theorem sum_l : bltD .sum [.list xs] = (intsOf xs).map fun ns => .sh (.int ns.sum) := nr rfl
theorem all_l : bltD .all [.list xs] = (boolsOf xs).map fun bs => .sh (.bool (bs.all id)) := nr rfl
theorem any_l : bltD .any [.list xs] = (boolsOf xs).map fun bs => .sh (.bool (bs.any id)) := nr rfl
theorem tup_l : bltD .tup [.list xs] = some (.sh (.tuple xs)) := nr rfl
theorem tup_t : bltD .tup [.tuple xs] = some (.sh (.tuple xs)) := nr rfl
theorem lst_l : bltD .lst [.list xs] = some (.ow (.list xs)) := nr rfl
theorem lst_t : bltD .lst [.tuple xs] = some (.ow (.list xs)) := nr rfl
theorem min2_ : bltD .min2 [.int i, .int j] = some (.sh (.int (if j < i then j else i))) := nr rfl
theorem max2_ : bltD .max2 [.int i, .int j] = some (.sh (.int (if i < j then j else i))) := nr rfl
theorem int_i : bltD .int [.int i] = some (.sh (.int i)) := nr rfl
theorem int_b : bltD .int [.bool p] = some (.sh (.int (if p then 1 else 0))) := nr rfl
theorem abs_i : bltD .abs [.int i] = some (.sh (.int (if i < 0 then -i else i))) := nr rfl
theorem add_i : binD .add (.int i) (.int j) = some (.sh (.int (i + j))) := nr rfl
theorem add_s : binD .add (.str x) (.str y) = if x.length + y.length ≤ big then some (.sh (.str (x ++ y))) else none := nr rfl
theorem add_l : binD .add (.list xs) (.list ys) = if xs.length + ys.length ≤ big then some (.ow (.list (xs ++ ys))) else none := nr rfl
theorem add_t : binD .add (.tuple xs) (.tuple ys) = if xs.length + ys.length ≤ big then some (.sh (.tuple (xs ++ ys))) else none := nr rfl
theorem sub_i : binD .sub (.int i) (.int j) = some (.sh (.int (i - j))) := nr rfl
theorem mul_i : binD .mul (.int i) (.int j) = if mulOk i j = true then some (.sh (.int (i * j))) else none := nr rfl
theorem div_i : binD .div (.int i) (.int j) = if 0 < j ∧ j < 1073741824 then some (.sh (.int (i / j))) else none := nr rfl
theorem mod_i : binD .mod (.int i) (.int j) = if 0 < j then some (.sh (.int (i % j))) else none := nr rfl
theorem pow_i : binD .pow (.int i) (.int j) = if 0 ≤ j ∧ j ≤ 1000 ∧ i.natAbs < 2 ^ 64 then some (.sh (.int (i ^ j.toNat))) else none := nr rfl
theorem okEq_i : okEq (.int i) = true := nr rfl
theorem okEq_b : okEq (.bool p) = true := nr rfl
theorem okEq_n : okEq .none = true := nr rfl
theorem eqv_i : PyData.eqv (.int i) (.int j) = (i == j) := by unfold PyData.eqv; rfl
theorem eqv_s : PyData.eqv (.str x) (.str y) = (x == y) := by unfold PyData.eqv; rfl
theorem eq_i : cmpD .eq (.int i) (.int j) = some (decide (i = j)) := by
  show (if (okEq (.int i) && okEq (.int j)) = true then some (PyData.eqv (.int i) (.int j)) else none) = _
  rw [okEq_i, okEq_i, eqv_i]
  by_cases h : i = j <;> simp [h]
theorem ne_i : cmpD .ne (.int i) (.int j) = some (!decide (i = j)) := by
  show (if (okEq (.int i) && okEq (.int j)) = true then some (!PyData.eqv (.int i) (.int j)) else none) = _
  rw [okEq_i, okEq_i, eqv_i]
  by_cases h : i = j <;> simp [h]
theorem eq_d (h1 : okEq a = true) (h2 : okEq b = true) : cmpD .eq a b = some (PyData.eqv a b) := by
  show (if (okEq a && okEq b) = true then some (PyData.eqv a b) else none) = _
  rw [h1, h2]; rfl
theorem ne_d (h1 : okEq a = true) (h2 : okEq b = true) : cmpD .ne a b = some (!PyData.eqv a b) := by
  show (if (okEq a && okEq b) = true then some (!PyData.eqv a b) else none) = _
  rw [h1, h2]; rfl
theorem lt_i : cmpD .lt (.int i) (.int j) = some (decide (i < j)) := nr rfl
theorem le_i : cmpD .le (.int i) (.int j) = some (decide (i ≤ j)) := nr rfl
theorem gt_i : cmpD .gt (.int i) (.int j) = some (decide (j < i)) := nr rfl
theorem ge_i : cmpD .ge (.int i) (.int j) = some (decide (j ≤ i)) := nr rfl
theorem isi_i : isiD .int (.int i) = true := nr rfl
theorem isi_ib : isiD .bool (.int i) = false := nr rfl
theorem isi_b : isiD .bool (.bool p) = true := nr rfl
theorem isi_bi : isiD .int (.bool p) = true := nr rfl
theorem isi_tt : isiD .tuple (.tuple xs) = true := nr rfl
theorem isi_tn : isiD .tuple .none = false := nr rfl
theorem isi_tl : isiD .tuple (.list xs) = false := nr rfl
theorem isi_ll : isiD .list (.list xs) = true := nr rfl
theorem isi_lt : isiD .list (.tuple xs) = false := nr rfl
theorem isNon_n : isNon .none = true := nr rfl
theorem isNon_i : isNon (.int i) = false := nr rfl
theorem isNon_t : isNon (.tuple xs) = false := nr rfl
theorem isNon_l : isNon (.list xs) = false := nr rfl
theorem isDict_i : isDict (.int i) = false := nr rfl
theorem isDict_b : isDict (.bool p) = false := nr rfl
theorem isDict_t : isDict (.tuple xs) = false := nr rfl
theorem isDict_l : isDict (.list xs) = false := nr rfl
theorem isDict_n : isDict .none = false := nr rfl
theorem isDict_s : isDict (.str x) = false := nr rfl
theorem ix_l : ixD (.list xs) (.int i) = (atI xs i).map .sh := nr rfl
theorem ix_t : ixD (.tuple xs) (.int i) = (atI xs i).map .sh := nr rfl
theorem sl_l (l h : Option Int) : sliceD (.list xs) l h = some (.ow (.list (cutD xs l h))) := nr rfl
theorem sl_t (l h : Option Int) : sliceD (.tuple xs) l h = some (.sh (.tuple (cutD xs l h))) := nr rfl
theorem atI_nat (n : Nat) : atI xs (n : Int) = xs[n]? := by
  unfold atI ixN
  by_cases h : n < xs.length
  · simp [h]
  · simp [h]
theorem atI_0 : atI xs 0 = xs[0]? := atI_nat xs 0
theorem atI_1 : atI xs 1 = xs[1]? := atI_nat xs 1
theorem atI_2 : atI xs 2 = xs[2]? := atI_nat xs 2
theorem atI_3 : atI xs 3 = xs[3]? := atI_nat xs 3
theorem atI_4 : atI xs 4 = xs[4]? := atI_nat xs 4
theorem atI_5 : atI xs 5 = xs[5]? := atI_nat xs 5
theorem atI_6 : atI xs 6 = xs[6]? := atI_nat xs 6
theorem atI_7 : atI xs 7 = xs[7]? := atI_nat xs 7
theorem keep_sh : keep (.sh a) = noL a := nr rfl
theorem keep_l : keep (.ow (.list xs)) = noLs xs := nr rfl
theorem noL_i : noL (.int i) = true := nr rfl
theorem noL_b : noL (.bool p) = true := nr rfl
theorem noL_s : noL (.str x) = true := nr rfl
theorem noL_n : noL .none = true := nr rfl
theorem noL_t : noL (.tuple xs) = noLs xs := nr rfl
theorem noL_l : noL (.list xs) = false := nr rfl
theorem noLs_n : noLs [] = true := nr rfl
theorem noLs_c : noLs (a :: xs) = (noL a && noLs xs) := nr rfl
theorem isNil_nil : CE.nil.isNil = true := nr rfl
theorem out_rt (c : Cell) : outC (.rt c) = some c := nr rfl
theorem out_nx : outC (.nx env) = some (.sh .none) := nr rfl
end
theorem noLs_map {α : Type} {f : α → D} : ∀ {xs : List α}, (∀ x ∈ xs, noL (f x) = true) → noLs (xs.map f) = true
  | [], _ => rfl
  | x :: xs, h => by
    show (noL (f x) && noLs (xs.map f)) = true
    rw [h x (by simp), noLs_map fun y hy => h y (by simp [hy])]; rfl
abbrev encT (xs : List Int) : D := .tuple (xs.map .int)
abbrev encL (xs : List Int) : D := .list (xs.map .int)
theorem noLs_ints (xs : List Int) : noLs (xs.map .int) = true := noLs_map fun _ _ => rfl
theorem noLs_rows (xs : List (List Int)) : noLs (xs.map encT) = true := noLs_map fun x _ => noLs_ints x
theorem noLs_fi {α : Type} (f : α → Int) (xs : List α) : noLs (xs.map fun x => .int (f x)) = true := noLs_map fun _ _ => rfl
theorem rng_nat {n : Nat} (h : n ≤ 100000) : rngD [.int (n : Nat)] = some ((List.range n).map fun i => .int (i : Nat)) := by
  show (if (rngOk (n : Int) && decide ((n : Int) ≤ big)) = true then some ((List.range (n : Int).toNat).map fun i => PyData.int (i : Nat)) else none) = _
  have h1 : rngOk (n : Int) = true := by unfold rngOk; rw [decide_eq_true_eq]; omega
  have h2 : decide ((n : Int) ≤ big) = true := by rw [decide_eq_true_eq]; unfold big; omega
  rw [h1, h2]
  simp
/-! ### the evaluator, construct by construct -/
def varC : Option Cell → Option Cell
  | some (.sh d) => some (.sh d)
  | _ => none
def negC : Option D → Option Cell
  | some (.int i) => some (.sh (.int (-i)))
  | _ => none
def repC : Option Cell → Option D → Option Cell
  | some (.ow (.list xs)), some (.int k) => if xs.length * k.toNat ≤ big ∧ rngOk k = true then some (.ow (.list (List.replicate k.toNat xs).flatten)) else none
  | _, _ => none
def andC (a : Option Bool) (b : Option Bool) : Option Cell := match a with
  | some true => b.map fun r => .sh (.bool r)
  | some false => some (.sh (.bool false))
  | none => none
def orC (a : Option Bool) (b : Option Bool) : Option Cell := match a with
  | some true => some (.sh (.bool true))
  | some false => b.map fun r => .sh (.bool r)
  | none => none
def iteC (c : Option Bool) (a b : Option D) : Option Cell := match c with
  | some true => a.map .sh
  | some false => b.map .sh
  | none => none
def chainC (o p : COp) (x y : D) (z : Option D) : Option Cell := match cmpD o x y with
  | some true => z.bind fun z => (cmpD p y z).map fun r => .sh (.bool r)
  | some false => some (.sh (.bool false))
  | none => none
/-- a comprehension's turn -/
def lcT (G : Nat → List D → Option Cell) (C : Nat → Option D) (own : List Nat) (tg : Tgt) (c e : CE) (env : List Cell) (x : D) : Option (Option D) := do
  let env2 ← bindT tg x (hide own env)
  match ← (if c.isNil then some true else getB (evalE G C env2 c)) with
  | true => (getD (evalE G C env2 e)).map some
  | false => some none
/-- a loop's turn -/
def forF (G : Nat → List D → Option Cell) (C : Nat → Option D) (tg : Tgt) (b : CS) (x : D) (env' : List Cell) : Option Out := match bindT tg x env' with
  | some env2 => evalS G C env2 b
  | none => none
section
variable {G : Nat → List D → Option Cell} {C : Nat → Option D} {env : List Cell} {a b c e o as lo hi it : CE} {xs : List D} {fr own : List Nat} {tg : Tgt} {i j : Nat} {s r : CS}
theorem EE_var : evalE G C env (.var i) = varC env[i]? := by simp only [evalE]; rfl
theorem varC_sh (d : D) : varC (some (.sh d)) = some (.sh d) := nr rfl
theorem EE_cst : evalE G C env (.cst i) = (C i).map .sh := by simp only [evalE]
theorem EE_int (n : Int) : evalE G C env (.int n) = some (.sh (.int n)) := by simp only [evalE]
theorem EE_bl (n : Bool) : evalE G C env (.bl n) = some (.sh (.bool n)) := by simp only [evalE]
theorem EE_non : evalE G C env .non = some (.sh .none) := by simp only [evalE]
theorem EE_str (z : Str) : evalE G C env (.str z) = some (.sh (.str z)) := by simp only [evalE]
theorem EE_bin (p : BOp) : evalE G C env (.bin p a b) = (getD (evalE G C env a)).bind fun x => (getD (evalE G C env b)).bind fun y => binD p x y := by simp only [evalE]; rfl
theorem EE_rep : evalE G C env (.rep a b) = repC (evalE G C env a) (getD (evalE G C env b)) := by simp only [evalE]; rfl
theorem repC_l (zs : List D) (k : Int) : repC (some (.ow (.list zs))) (some (.int k)) = if zs.length * k.toNat ≤ big ∧ rngOk k = true then some (.ow (.list (List.replicate k.toNat zs).flatten)) else none := nr rfl
theorem EE_neg : evalE G C env (.neg a) = negC (getD (evalE G C env a)) := by simp only [evalE]; rfl
theorem negC_i (k : Int) : negC (some (.int k)) = some (.sh (.int (-k))) := nr rfl
theorem EE_is : evalE G C env (.cmp .is a b) = (getD (evalE G C env a)).map fun d => .sh (.bool (isNon d)) := by simp only [evalE]
theorem EE_isn : evalE G C env (.cmp .isn a b) = (getD (evalE G C env a)).map fun d => .sh (.bool (!isNon d)) := by simp only [evalE]
theorem EE_eq : evalE G C env (.cmp .eq a b) = (getD (evalE G C env a)).bind fun x => (getD (evalE G C env b)).bind fun y => (cmpD .eq x y).map fun r => .sh (.bool r) := by simp only [evalE]; rfl
theorem EE_ne : evalE G C env (.cmp .ne a b) = (getD (evalE G C env a)).bind fun x => (getD (evalE G C env b)).bind fun y => (cmpD .ne x y).map fun r => .sh (.bool r) := by simp only [evalE]; rfl
theorem EE_lt : evalE G C env (.cmp .lt a b) = (getD (evalE G C env a)).bind fun x => (getD (evalE G C env b)).bind fun y => (cmpD .lt x y).map fun r => .sh (.bool r) := by simp only [evalE]; rfl
theorem EE_le : evalE G C env (.cmp .le a b) = (getD (evalE G C env a)).bind fun x => (getD (evalE G C env b)).bind fun y => (cmpD .le x y).map fun r => .sh (.bool r) := by simp only [evalE]; rfl
theorem EE_gt : evalE G C env (.cmp .gt a b) = (getD (evalE G C env a)).bind fun x => (getD (evalE G C env b)).bind fun y => (cmpD .gt x y).map fun r => .sh (.bool r) := by simp only [evalE]; rfl
theorem EE_ge : evalE G C env (.cmp .ge a b) = (getD (evalE G C env a)).bind fun x => (getD (evalE G C env b)).bind fun y => (cmpD .ge x y).map fun r => .sh (.bool r) := by simp only [evalE]; rfl
theorem EE_inn : evalE G C env (.cmp .inn a b) = (getD (evalE G C env a)).bind fun x => (getD (evalE G C env b)).bind fun y => (cmpD .inn x y).map fun r => .sh (.bool r) := by simp only [evalE]; rfl
theorem EE_ni : evalE G C env (.cmp .ni a b) = (getD (evalE G C env a)).bind fun x => (getD (evalE G C env b)).bind fun y => (cmpD .ni x y).map fun r => .sh (.bool r) := by simp only [evalE]; rfl
theorem EE_chain (p q : COp) : evalE G C env (.chain p q a b c) = (getD (evalE G C env a)).bind fun x => (getD (evalE G C env b)).bind fun y => chainC p q x y (getD (evalE G C env c)) := by
  simp only [evalE]
  cases getD (evalE G C env a) with
  | none => rfl
  | some x =>
    cases getD (evalE G C env b) with
    | none => rfl
    | some y =>
      show ((cmpD p x y).bind fun t => match t with
        | true => (getD (evalE G C env c)).bind fun z => (cmpD q y z).map fun r => Cell.sh (.bool r)
        | false => some (.sh (.bool false))) = chainC p q x y (getD (evalE G C env c))
      unfold chainC
      cases cmpD p x y with
      | none => rfl
      | some t => cases t <;> rfl
theorem EE_and : evalE G C env (.and_ a b) = andC (getB (evalE G C env a)) (getB (evalE G C env b)) := by simp only [evalE]; rfl
theorem andC_t (x : Option Bool) : andC (some true) x = x.map fun r => .sh (.bool r) := nr rfl
theorem andC_f (x : Option Bool) : andC (some false) x = some (.sh (.bool false)) := nr rfl
theorem EE_or : evalE G C env (.or_ a b) = orC (getB (evalE G C env a)) (getB (evalE G C env b)) := by simp only [evalE]; rfl
theorem orC_t (x : Option Bool) : orC (some true) x = some (.sh (.bool true)) := nr rfl
theorem orC_f (x : Option Bool) : orC (some false) x = x.map fun r => .sh (.bool r) := nr rfl
theorem EE_not : evalE G C env (.not_ a) = (getB (evalE G C env a)).map fun r => .sh (.bool (!r)) := by simp only [evalE]
theorem EE_ite : evalE G C env (.ite c a b) = iteC (getB (evalE G C env c)) (getD (evalE G C env a)) (getD (evalE G C env b)) := by simp only [evalE]; rfl
theorem iteC_t (x y : Option D) : iteC (some true) x y = x.map .sh := nr rfl
theorem iteC_f (x y : Option D) : iteC (some false) x y = y.map .sh := nr rfl
theorem EE_nil : evalE G C env .nil = some (.sh (.tuple [])) := by simp only [evalE]
theorem EE_cons : evalE G C env (.cons a b) = (getD (evalE G C env a)).bind fun x => (getL (evalE G C env b)).bind fun xs => some (.sh (.tuple (x :: xs))) := by simp only [evalE]; rfl
theorem EE_tup : evalE G C env (.tup as) = (getL (evalE G C env as)).bind fun xs => some (.sh (.tuple xs)) := by simp only [evalE]; rfl
theorem EE_lst : evalE G C env (.lst as) = (getL (evalE G C env as)).bind fun xs => some (.ow (.list xs)) := by simp only [evalE]; rfl
theorem EE_call (f : Nat) : evalE G C env (.call f as) = (getL (evalE G C env as)).bind fun xs => G f xs := by simp only [evalE]; rfl
theorem EE_blt (f : Blt) : evalE G C env (.blt f as) = (getL (evalE G C env as)).bind fun xs => bltD f xs := by simp only [evalE]; rfl
theorem EE_isi (t : Ty) : evalE G C env (.isi t a) = (getD (evalE G C env a)).bind fun d => if isDict d then none else some (.sh (.bool (isiD t d))) := by simp only [evalE]
theorem EE_ix : evalE G C env (.ix a b) = (getD (evalE G C env a)).bind fun x => (getD (evalE G C env b)).bind fun y => ixD x y := by simp only [evalE]; rfl
theorem EE_sl : evalE G C env (.sl a lo hi) = (getD (evalE G C env a)).bind fun x => (getO lo.isNil (evalE G C env lo)).bind fun l => (getO hi.isNil (evalE G C env hi)).bind fun h => sliceD x l h := by simp only [evalE]; rfl
theorem EE_lc : evalE G C env (.lc own tg it c e) = ((getD (evalE G C env it)).bind itemsOf).bind fun xs => (lcGo (lcT G C own tg c e env) xs).bind fun rs => some (.ow (.list rs)) := by simp only [evalE]; rfl
theorem EE_rng : evalE G C env (.rng as) = (getL (evalE G C env as)).bind fun xs => (rngD xs).map fun ys => .sh (.list ys) := by simp only [evalE]; rfl
theorem EE_zip : evalE G C env (.zip as) = (getL (evalE G C env as)).bind fun xs => (zipD xs).map fun ys => .sh (.list ys) := by simp only [evalE]; rfl
theorem EE_enm : evalE G C env (.enm a) = (getD (evalE G C env a)).bind fun d => (enmD d).map fun ys => .sh (.list ys) := by simp only [evalE]; rfl
theorem EE_rev : evalE G C env (.rev a) = (getD (evalE G C env a)).bind fun d => (revD d).map fun ys => .sh (.list ys) := by simp only [evalE]; rfl
theorem EE_bm (m : BM) : evalE G C env (.bm m o as) = (getD (evalE G C env o)).bind fun d => (getL (evalE G C env as)).bind fun xs => bmD m d xs := by
  simp only [evalE]
  cases getD (evalE G C env o) with
  | none => rfl
  | some d => cases getL (evalE G C env as) <;> rfl
theorem EE_srt : evalE G C env (.srt a) = (getD (evalE G C env a)).bind srtD := by simp only [evalE]
/-- a comprehension without a test -/
theorem lcF_all {x : D} : lcT G C own tg .nil e env x = (bindT tg x (hide own env)).bind fun env2 => (getD (evalE G C env2 e)).map some := nr rfl
/-- a comprehension with a test -/
theorem lcF_if {x : D} (h : c.isNil = false) : lcT G C own tg c e env x = (bindT tg x (hide own env)).bind fun env2 => (getB (evalE G C env2 c)).bind fun t => if t = true then (getD (evalE G C env2 e)).map some else some none := by
  unfold lcT
  rw [h]
  cases bindT tg x (hide own env) with
  | none => rfl
  | some env2 =>
    show ((getB (evalE G C env2 c)).bind fun t => match t with
      | true => (getD (evalE G C env2 e)).map some
      | false => some none) = (getB (evalE G C env2 c)).bind fun t => if t = true then (getD (evalE G C env2 e)).map some else some none
    cases getB (evalE G C env2 c) with
    | none => rfl
    | some t => cases t <;> rfl
/-! statements -/
def seqR (G : Nat → List D → Option Cell) (C : Nat → Option D) (x : Option Out) (r : CS) : Option Out := match x with
  | some (.nx env') => evalS G C env' r
  | o => o
theorem seqR_nx : seqR G C (some (.nx env)) r = evalS G C env r := nr rfl
theorem seqR_rt (z : Cell) : seqR G C (some (.rt z)) r = some (.rt z) := nr rfl
theorem seqR_bk : seqR G C (some (.bk env)) r = some (.bk env) := nr rfl
theorem seqR_ct : seqR G C (some (.ct env)) r = some (.ct env) := nr rfl
theorem seqR_no : seqR G C none r = none := nr rfl
def iffR (G : Nat → List D → Option Cell) (C : Nat → Option D) (x : Option (Cell × List Cell)) (s r : CS) : Option Out := match x with
  | some (.sh (.bool true), env') => evalS G C env' s
  | some (.sh (.bool false), env') => evalS G C env' r
  | _ => none
theorem iffR_t : iffR G C (some (.sh (.bool true), env)) s r = evalS G C env s := nr rfl
theorem iffR_f : iffR G C (some (.sh (.bool false), env)) s r = evalS G C env r := nr rfl
theorem iffR_b (t : Bool) : iffR G C (some (.sh (.bool t), env)) s r = if t = true then evalS G C env s else evalS G C env r := by cases t <;> rfl
def appC (i : Nat) (x : Option D) (z : Option Cell) (env' : List Cell) : Option Out := match x, z with
  | some x, some (.ow (.list ds)) => if ds.length < big then some (.nx (env'.set i (.ow (.list (ds ++ [x]))))) else none
  | _, _ => none
theorem appC_l (x : D) (ds : List D) : appC i (some x) (some (.ow (.list ds))) env = if ds.length < big then some (.nx (env.set i (.ow (.list (ds ++ [x]))))) else none := nr rfl
def extC (i : Nat) (x : Option (List D)) (z : Option Cell) (env' : List Cell) : Option Out := match x, z with
  | some xs, some (.ow (.list ds)) => if ds.length + xs.length < big then some (.nx (env'.set i (.ow (.list (ds ++ xs))))) else none
  | _, _ => none
theorem extC_l (ds : List D) : extC i (some xs) (some (.ow (.list ds))) env = if ds.length + xs.length < big then some (.nx (env.set i (.ow (.list (ds ++ xs))))) else none := nr rfl
def putC (i : Nat) (x : Option D) (z : Option Cell) (j : Int) (env2 : List Cell) : Option Out := match x, z with
  | some x, some (.ow (.list ds)) => match ixN ds.length j with
    | some n => some (.nx (env2.set i (.ow (.list (ds.set n x)))))
    | none => none
  | _, _ => none
theorem putC_l (x : D) (ds : List D) (j : Int) : putC i (some x) (some (.ow (.list ds))) j env = (ixN ds.length j).bind fun n => some (.nx (env.set i (.ow (.list (ds.set n x))))) := by
  show (match ixN ds.length j with
    | some n => some (Out.nx (env.set i (.ow (.list (ds.set n x)))))
    | none => none) = _
  cases ixN ds.length j <;> rfl
def putX (f : Int → List Cell → Option Out) : Option (Cell × List Cell) → Option Out
  | some (.sh (.int j), env2) => f j env2
  | _ => none
theorem putX_i (f : Int → List Cell → Option Out) (n : Int) : putX f (some (.sh (.int n), env)) = f n env := nr rfl
def popC (j i : Nat) (n : Int) (z : Option Cell) (env' : List Cell) : Option Out := match z with
  | some (.ow (.list ds)) => if 0 ≤ n ∧ n < big then match ds[n.toNat]? with
      | some x => some (.nx ((env'.set i (.ow (.list (ds.eraseIdx n.toNat)))).set j (.sh x)))
      | none => none
    else none
  | _ => none
theorem popC_l (n : Int) (ds : List D) : popC j i n (some (.ow (.list ds))) env = if 0 ≤ n ∧ n < big then (ds[n.toNat]?).bind fun x => some (.nx ((env.set i (.ow (.list (ds.eraseIdx n.toNat)))).set j (.sh x))) else none := by
  show (if 0 ≤ n ∧ n < big then match ds[n.toNat]? with
      | some x => some (Out.nx ((env.set i (.ow (.list (ds.eraseIdx n.toNat)))).set j (.sh x)))
      | none => none
    else none) = _
  cases ds[n.toNat]? <;> rfl
def insC (i : Nat) (j : Int) (x : Option D) (z : Option Cell) (env2 : List Cell) : Option Out := match x, z with
  | some x, some (.ow (.list ds)) => if ds.length < big ∧ 0 ≤ j ∧ j < big then some (.nx (env2.set i (.ow (.list (ds.take j.toNat ++ [x] ++ ds.drop j.toNat))))) else none
  | _, _ => none
theorem insC_l (n : Int) (x : D) (ds : List D) : insC i n (some x) (some (.ow (.list ds))) env = if ds.length < big ∧ 0 ≤ n ∧ n < big then some (.nx (env.set i (.ow (.list (ds.take n.toNat ++ [x] ++ ds.drop n.toNat))))) else none := nr rfl
def reto (z : Option Cell) : Option Out := match z with
  | some (.ow d) => some (.rt (.ow d))
  | some (.sh d) => some (.rt (.sh d))
  | _ => none
theorem reto_o (d : D) : reto (some (.ow d)) = some (.rt (.ow d)) := nr rfl
theorem reto_s (d : D) : reto (some (.sh d)) = some (.rt (.sh d)) := nr rfl
def unpC (is : List Nat) (env' : List Cell) : Option D → Option Out
  | some (.tuple xs) => (setAll is xs env').map .nx
  | _ => none
theorem unpC_t (is : List Nat) : unpC is env (some (.tuple xs)) = (setAll is xs env).map .nx := nr rfl
def rvsC (i : Nat) (env : List Cell) : Option Cell → Option Out
  | some (.ow (.list ds)) => some (.nx (env.set i (.ow (.list ds.reverse))))
  | _ => none
theorem rvsC_l (ds : List D) : rvsC i env (some (.ow (.list ds))) = some (.nx (env.set i (.ow (.list ds.reverse)))) := nr rfl
theorem EX : evalX G C env fr e = (evalE G C (shareAll fr env) e).bind fun c => some (c, after fr env (shareAll fr env) c) := by
  unfold evalX
  cases evalE G C (shareAll fr env) e <;> rfl
theorem ES_nil : evalS G C env .nil = some (.nx env) := by simp only [evalS]
theorem ES_seq : evalS G C env (.seq s r) = seqR G C (evalS G C env s) r := by simp only [evalS]; rfl
theorem ES_asg : evalS G C env (.asg i fr e) = (evalX G C env fr e).bind fun q => some (.nx (q.2.set i q.1)) := by
  simp only [evalS]
  cases evalX G C env fr e <;> rfl
theorem ES_unp (is : List Nat) : evalS G C env (.unp is fr e) = (evalX G C env fr e).bind fun q => unpC is q.2 q.1.d? := by
  simp only [evalS]
  cases evalX G C env fr e <;> rfl
theorem ES_app : evalS G C env (.app i fr e) = (evalX G C env fr e).bind fun q => appC i q.1.d? q.2[i]? q.2 := by
  simp only [evalS]
  cases evalX G C env fr e <;> rfl
theorem ES_ext : evalS G C env (.ext i fr e) = (evalX G C env fr e).bind fun q => extC i (q.1.d?.bind seqOf) q.2[i]? q.2 := by
  simp only [evalS]
  cases evalX G C env fr e <;> rfl
theorem ES_put : evalS G C env (.put i fr a e) = (evalX G C env fr e).bind fun q => putX (fun n env2 => putC i q.1.d? env2[i]? n env2) (evalX G C q.2 fr a) := by
  simp only [evalS]
  cases evalX G C env fr e <;> rfl
theorem ES_pop : evalS G C env (.pop j i fr a) = putX (fun n env' => popC j i n env'[i]? env') (evalX G C env fr a) := by simp only [evalS]; rfl
theorem ES_rvs : evalS G C env (.rvs i) = rvsC i env env[i]? := by simp only [evalS]; rfl
theorem ES_ins : evalS G C env (.ins i fr a e) = putX (fun n env' => (evalX G C env' fr e).bind fun q => insC i n q.1.d? q.2[i]? q.2) (evalX G C env fr a) := by
  simp only [evalS]
  cases evalX G C env fr a with
  | none => rfl
  | some q =>
    obtain ⟨z, env2⟩ := q
    cases z with
    | no => rfl
    | ow _ => rfl
    | sh d =>
      cases d <;> first | rfl | skip
      rename_i n
      show (match evalX G C env2 fr e with
        | some (c, env2) => match c.d?, env2[i]? with
          | some x, some (.ow (.list ds)) => if ds.length < big ∧ 0 ≤ n ∧ n < (big : Int) then some (Out.nx (env2.set i (.ow (.list (ds.take n.toNat ++ [x] ++ ds.drop n.toNat))))) else none
          | _, _ => none
        | none => none) = (evalX G C env2 fr e).bind fun q => insC i n q.1.d? q.2[i]? q.2
      cases evalX G C env2 fr e <;> rfl
theorem ES_ife : evalS G C env (.ife fr c s r) = iffR G C (evalX G C env fr c) s r := by simp only [evalS]; rfl
theorem ES_ret : evalS G C env (.ret fr e) = (evalX G C env fr e).bind fun q => some (.rt q.1) := by
  simp only [evalS]
  cases evalX G C env fr e <;> rfl
theorem ES_reto : evalS G C env (.reto i) = reto env[i]? := by simp only [evalS]; rfl
theorem ES_retn : evalS G C env .retn = some (.rt (.sh .none)) := by simp only [evalS]
theorem ES_for : evalS G C env (.for_ fr tg it s) = ((evalE G C (shareAll fr env) it).bind fun c => c.d?.bind itemsOf).bind fun xs => forGo (forF G C tg s) xs (shareAll fr env) := by
  simp only [evalS]
  cases evalE G C (shareAll fr env) it with
  | none => rfl
  | some c =>
    show (match c.d?.bind itemsOf with
      | some xs => forGo (forF G C tg s) xs (shareAll fr env)
      | none => none) = (c.d?.bind itemsOf).bind fun xs => forGo (forF G C tg s) xs (shareAll fr env)
    cases c.d?.bind itemsOf <;> rfl
theorem ES_brk : evalS G C env .brk = some (.bk env) := by simp only [evalS]
theorem ES_cnt : evalS G C env .cnt = some (.ct env) := by simp only [evalS]
theorem ES_drp : evalS G C env (.drp fr e) = (evalX G C env fr e).bind fun q => some (.nx q.2) := by
  simp only [evalS]
  cases evalX G C env fr e <;> rfl
theorem forF_ {x : D} : forF G C tg s x env = (bindT tg x env).bind fun env2 => evalS G C env2 s := by
  unfold forF
  cases bindT tg x env <;> rfl
theorem shareAll_n : shareAll [] env = env := nr rfl
theorem shareAll_c : shareAll (i :: fr) env = shareAll fr (shareAt i env) := nr rfl
def shC (i : Nat) (env : List Cell) : Option Cell → List Cell
  | some (.ow d) => env.set i (.sh d)
  | _ => env
theorem shareAt_ : shareAt i env = shC i env env[i]? := nr rfl
theorem shC_o (d : D) : shC i env (some (.ow d)) = env.set i (.sh d) := nr rfl
theorem shC_s (d : D) : shC i env (some (.sh d)) = env := nr rfl
theorem shC_n : shC i env (some .no) = env := nr rfl
theorem shC_x : shC i env none = env := nr rfl
def memN (n : Nat) : List Nat → Bool
  | [] => false
  | i :: r => if n = i then true else memN n r
theorem memN_n (n : Nat) : memN n [] = false := nr rfl
theorem memN_c (n i : Nat) (r : List Nat) : memN n (i :: r) = if n = i then true else memN n r := nr rfl
theorem after_ (env1 : List Cell) (z : Cell) : after fr env env1 z = if memN 999 fr = true then (if flatC z = true then env else env1) else if keep z = true then env else env1 := by
  have e : ∀ l : List Nat, l.contains 999 = memN 999 l := fun l => by
    induction l with
    | nil => rfl
    | cons i r ih =>
      rw [memN_c, List.contains_cons, ih]
      by_cases h : 999 = i
      · rw [if_pos h, ← h]; rfl
      · rw [if_neg h, beq_eq_false_iff_ne.mpr h, Bool.false_or]
  unfold after kpt
  rw [e]
  by_cases h : memN 999 fr = true
  · rw [if_pos h, if_pos h]
  · rw [if_neg h, if_neg h]
theorem flatC_o (d : D) : flatC (.ow d) = false := nr rfl
theorem flatC_s (d : D) : flatC (.sh d) = flat d := nr rfl
theorem flat_i (n : Int) : flat (.int n) = true := nr rfl
theorem flat_b (n : Bool) : flat (.bool n) = true := nr rfl
theorem flat_s (n : Str) : flat (.str n) = true := nr rfl
theorem flat_n : flat .none = true := nr rfl
theorem flat_l : flat (.list xs) = false := nr rfl
theorem flat_t : flat (.tuple xs) = false := nr rfl
end
theorem lcGo_map {α : Type} {enc g : α → D} {f : D → Option (Option D)} : ∀ {xs : List α}, (∀ x ∈ xs, f (enc x) = some (some (g x))) → lcGo f (xs.map enc) = some (xs.map g)
  | [], _ => rfl
  | x :: xs, h => by
    show (match f (enc x) with
      | none => none
      | some none => lcGo f (xs.map enc)
      | some (some y) => match lcGo f (xs.map enc) with
        | some r => some (y :: r)
        | none => none) = _
    rw [h x (by simp), lcGo_map fun y hy => h y (by simp [hy])]
    rfl
theorem lcGo_filter {α : Type} {enc g : α → D} {p : α → Bool} {f : D → Option (Option D)} : ∀ {xs : List α}, (∀ x ∈ xs, f (enc x) = some (if p x then some (g x) else none)) → lcGo f (xs.map enc) = some ((xs.filter p).map g)
  | [], _ => rfl
  | x :: xs, h => by
    show (match f (enc x) with
      | none => none
      | some none => lcGo f (xs.map enc)
      | some (some y) => match lcGo f (xs.map enc) with
        | some r => some (y :: r)
        | none => none) = _
    rw [h x (by simp), lcGo_filter fun y hy => h y (by simp [hy])]
    cases hp : p x <;> simp [hp, List.filter_cons]
theorem forGo_fold {α β : Type} {enc : α → D} {st : β → List Cell} {step : β → α → β} {I : β → Prop} {f : D → List Cell → Option Out} : ∀ {xs : List α} {b : β}, I b → (∀ x ∈ xs, ∀ b, I b → f (enc x) (st b) = some (.nx (st (step b x))) ∧ I (step b x)) → forGo f (xs.map enc) (st b) = some (.nx (st (xs.foldl step b))) ∧ I (xs.foldl step b)
  | [], b, hb, _ => ⟨rfl, hb⟩
  | x :: xs, b, hb, h => by
    obtain ⟨h1, h2⟩ := h x (by simp) b hb
    show (match f (enc x) (st b) with
      | some (.nx env') => forGo f (xs.map enc) env'
      | some (.ct env') => forGo f (xs.map enc) env'
      | some (.bk env') => some (.nx env')
      | some (.rt c) => some (.rt c)
      | none => none) = _ ∧ _
    rw [h1]
    exact forGo_fold (xs := xs) h2 fun y hy => h y (by simp [hy])
theorem forGo_inv {α β : Type} {enc : α → D} {R : β → List Cell → Prop} {step : β → α → β} {f : D → List Cell → Option Out} : ∀ {xs : List α} {b : β} {env : List Cell}, R b env → (∀ x ∈ xs, ∀ b env, R b env → ∃ env', f (enc x) env = some (.nx env') ∧ R (step b x) env') → ∃ env', forGo f (xs.map enc) env = some (.nx env') ∧ R (xs.foldl step b) env'
  | [], b, env, hb, _ => ⟨env, rfl, hb⟩
  | x :: xs, b, env, hb, h => by
    obtain ⟨env1, h1, h2⟩ := h x (by simp) b env hb
    obtain ⟨env2, h3, h4⟩ := forGo_inv (xs := xs) (step := step) h2 fun y hy => h y (by simp [hy])
    refine ⟨env2, ?_, h4⟩
    show (match f (enc x) env with
      | some (.nx env') => forGo f (xs.map enc) env'
      | some (.ct env') => forGo f (xs.map enc) env'
      | some (.bk env') => some (.nx env')
      | some (.rt c) => some (.rt c)
      | none => none) = _
    rw [h1]
    exact h3
/-- a walk that is left at the first item of a kind -/
theorem forGo_find {α : Type} {enc : α → D} {R : List Cell → Prop} {p : α → Bool} {c : α → Cell} {f : D → List Cell → Option Out} : ∀ {xs : List α} {env : List Cell}, R env → (∀ x ∈ xs, ∀ env, R env → (p x = true → f (enc x) env = some (.rt (c x))) ∧ (p x = false → ∃ env', f (enc x) env = some (.nx env') ∧ R env')) →
    (∃ x, xs.find? p = some x ∧ forGo f (xs.map enc) env = some (.rt (c x))) ∨ (xs.find? p = none ∧ ∃ env', forGo f (xs.map enc) env = some (.nx env') ∧ R env')
  | [], env, hb, _ => .inr ⟨rfl, env, rfl, hb⟩
  | x :: xs, env, hb, h => by
    obtain ⟨h1, h2⟩ := h x (by simp) env hb
    have e : forGo f ((x :: xs).map enc) env = (match f (enc x) env with
      | some (.nx env') => forGo f (xs.map enc) env'
      | some (.ct env') => forGo f (xs.map enc) env'
      | some (.bk env') => some (.nx env')
      | some (.rt c) => some (.rt c)
      | none => none) := rfl
    rw [e]
    cases hp : p x with
    | true =>
      rw [h1 hp]
      exact .inl ⟨x, by rw [List.find?_cons, hp], rfl⟩
    | false =>
      obtain ⟨env1, h3, h4⟩ := h2 hp
      rw [h3, List.find?_cons, hp]
      exact forGo_find (xs := xs) h4 fun y hy => h y (by simp [hy])
theorem intsOf_ok : ∀ xs : List Int, intsOf (xs.map .int) = some xs
  | [] => rfl
  | x :: xs => by
    show (intsOf (xs.map .int)).map (x :: ·) = _
    rw [intsOf_ok xs]; rfl
theorem intsOf_f {α : Type} (f : α → Int) (xs : List α) : intsOf (xs.map fun x => .int (f x)) = some (xs.map f) := by
  have := intsOf_ok (xs.map f)
  rwa [List.map_map] at this
theorem boolsOf_f {α : Type} (f : α → Bool) : ∀ xs : List α, boolsOf (xs.map fun x => .bool (f x)) = some (xs.map f)
  | [] => rfl
  | x :: xs => by
    show (boolsOf (xs.map fun x => .bool (f x))).map (f x :: ·) = _
    rw [boolsOf_f f xs]; rfl
theorem zip2_map {α β : Type} (f : α → D) (g : β → D) : ∀ (xs : List α) (ys : List β), zip2 (xs.map f) (ys.map g) = (xs.zip ys).map fun q => .tuple [f q.1, g q.2]
  | [], _ => by simp [zip2]
  | _ :: _, [] => by simp [zip2]
  | x :: xs, y :: ys => by simp [zip2, zip2_map f g xs ys]
theorem enmFrom_map {α : Type} (f : α → D) : ∀ (xs : List α) (n : Nat), enmFrom n (xs.map f) = (xs.zipIdx n).map fun q => .tuple [.int (q.2 : Nat), f q.1]
  | [], _ => rfl
  | x :: xs, n => by simp [enmFrom, enmFrom_map f xs]
theorem mulOk_l {a b : Int} (h : 0 ≤ a ∧ a < 1000) : mulOk a b = true := by
  unfold mulOk
  simp only [Bool.or_eq_true, decide_eq_true_eq]
  exact .inl ⟨by omega, by omega⟩
section
variable {G : Nat → List D → Option Cell} {C : Nat → Option D}
theorem summed_eq {p : Int} {r l : D} {row load : List Int} (hr : itemsOf r = some (row.map .int)) (hl : itemsOf l = some (load.map .int)) (hp : 0 < p) (hs : Sm row) : runD G C c_summed [.int p, r, l] = some (.sh (.int (dot row load % p))) := by
  have h1 : ∀ env, lcGo (lcT G C [3, 4] (.tp [3, 4]) .nil c_summed_e1 (Cell.sh (.int p) :: Cell.sh r :: Cell.sh l :: Cell.no :: Cell.no :: env)) ((row.zip load).map fun q => PyData.tuple [PyData.int q.1, PyData.int q.2]) = some ((row.zip load).map fun q => .int (q.1 * q.2)) := fun env => by
    refine lcGo_map fun q hq => ?_
    have hm : mulOk q.1 q.2 = true := mulOk_l (hs q.1 (List.of_mem_zip hq).1)
    simp only [lcF_all, c_summed_e1, runD, getD_sh, getD_ow, getB_b, getL_t, d_sh, d_ow, getO_t, getO_f, bindT_nm, bindT_tp, setAll_nil, setAll_cons, hide_nil, hide_cons, items_l, items_t, seq_l, seq_t, zipD2, zipD3, enmD_, rev_l, rev_t, len_l, len_t, len_s, sum_l, all_l, any_l, tup_l, tup_t, lst_l, lst_t, min2_, max2_, int_i, int_b, abs_i, add_i, add_s, add_l, add_t, sub_i, mul_i, div_i, mod_i, pow_i, eq_i, ne_i, lt_i, le_i, gt_i, ge_i, isi_i, isi_ib, isi_b, isi_bi, isi_tt, isi_tn, isi_tl, isi_ll, isi_lt, isNon_n, isNon_i, isNon_t, isNon_l, isDict_i, isDict_b, isDict_t, isDict_l, isDict_n, isDict_s, ix_l, ix_t, sl_l, sl_t, atI_nat, atI_0, atI_1, atI_2, atI_3, atI_4, atI_5, atI_6, atI_7, keep_sh, keep_l, noL_i, noL_b, noL_s, noL_n, noL_t, noL_l, noLs_n, noLs_c, isNil_nil, out_rt, out_nx, ↓EE_var, varC_sh, ↓EE_cst, ↓EE_int, ↓EE_bl, ↓EE_non, ↓EE_str, ↓EE_bin, ↓EE_rep, repC_l, ↓EE_neg, negC_i, ↓EE_is, ↓EE_isn, ↓EE_eq, ↓EE_ne, ↓EE_lt, ↓EE_le, ↓EE_gt, ↓EE_ge, ↓EE_inn, ↓EE_ni, ↓EE_chain, ↓EE_and, andC_t, andC_f, ↓EE_or, orC_t, orC_f, ↓EE_not, ↓EE_ite, iteC_t, iteC_f, ↓EE_nil, ↓EE_cons, ↓EE_tup, ↓EE_lst, ↓EE_call, ↓EE_blt, ↓EE_isi, ↓EE_ix, ↓EE_sl, ↓EE_lc, ↓EE_rng, ↓EE_zip, ↓EE_enm, ↓EE_rev, ↓EE_bm, ↓EE_srt, seqR_nx, seqR_rt, seqR_bk, seqR_ct, seqR_no, iffR_t, iffR_f, appC_l, extC_l, putC_l, putX_i, popC_l, insC_l, reto_o, reto_s, unpC_t, rvsC_l, ↓EX, ↓ES_nil, ↓ES_seq, ↓ES_asg, ↓ES_unp, ↓ES_app, ↓ES_ext, ↓ES_put, ↓ES_pop, ↓ES_rvs, ↓ES_ins, ↓ES_ife, ↓ES_ret, ↓ES_reto, ↓ES_retn, ↓ES_for, ↓ES_brk, ↓ES_cnt, ↓ES_drp, forF_, shareAll_n, shareAll_c, shareAt_, shC_o, shC_s, shC_n, shC_x, memN_n, memN_c, after_, flatC_o, flatC_s, flat_i, flat_b, flat_s, flat_n, flat_l, flat_t, noLs_ints, noLs_rows, noLs_fi, q_set0, q_sets, q_get0, q_gets, q_getn, q_mapc, q_mapn, q_appc, q_appn, q_reps, q_rep0, q_bb, q_bs, q_bn, q_ms, q_mn, Nat.reduceAdd, Nat.reduceSub, q_lc, q_ln, q_pure, Bool.false_eq_true, q_ift, q_iff, q_ifb, q_ifc, ite_self, reduceCtorEq, Bool.and_true, Bool.true_and, Bool.and_false, Bool.false_and, Bool.and_self, Bool.not_true, Bool.not_false, CE.isNil, Nat.reduceEqDiff, and_self, decide_true, decide_false, hm]
  simp only [c_summed, runD, getD_sh, getD_ow, getB_b, getL_t, d_sh, d_ow, getO_t, getO_f, bindT_nm, bindT_tp, setAll_nil, setAll_cons, hide_nil, hide_cons, items_l, items_t, seq_l, seq_t, zipD2, zipD3, enmD_, rev_l, rev_t, len_l, len_t, len_s, sum_l, all_l, any_l, tup_l, tup_t, lst_l, lst_t, min2_, max2_, int_i, int_b, abs_i, add_i, add_s, add_l, add_t, sub_i, mul_i, div_i, mod_i, pow_i, eq_i, ne_i, lt_i, le_i, gt_i, ge_i, isi_i, isi_ib, isi_b, isi_bi, isi_tt, isi_tn, isi_tl, isi_ll, isi_lt, isNon_n, isNon_i, isNon_t, isNon_l, isDict_i, isDict_b, isDict_t, isDict_l, isDict_n, isDict_s, ix_l, ix_t, sl_l, sl_t, atI_nat, atI_0, atI_1, atI_2, atI_3, atI_4, atI_5, atI_6, atI_7, keep_sh, keep_l, noL_i, noL_b, noL_s, noL_n, noL_t, noL_l, noLs_n, noLs_c, isNil_nil, out_rt, out_nx, ↓EE_var, varC_sh, ↓EE_cst, ↓EE_int, ↓EE_bl, ↓EE_non, ↓EE_str, ↓EE_bin, ↓EE_rep, repC_l, ↓EE_neg, negC_i, ↓EE_is, ↓EE_isn, ↓EE_eq, ↓EE_ne, ↓EE_lt, ↓EE_le, ↓EE_gt, ↓EE_ge, ↓EE_inn, ↓EE_ni, ↓EE_chain, ↓EE_and, andC_t, andC_f, ↓EE_or, orC_t, orC_f, ↓EE_not, ↓EE_ite, iteC_t, iteC_f, ↓EE_nil, ↓EE_cons, ↓EE_tup, ↓EE_lst, ↓EE_call, ↓EE_blt, ↓EE_isi, ↓EE_ix, ↓EE_sl, ↓EE_lc, ↓EE_rng, ↓EE_zip, ↓EE_enm, ↓EE_rev, ↓EE_bm, ↓EE_srt, seqR_nx, seqR_rt, seqR_bk, seqR_ct, seqR_no, iffR_t, iffR_f, appC_l, extC_l, putC_l, putX_i, popC_l, insC_l, reto_o, reto_s, unpC_t, rvsC_l, ↓EX, ↓ES_nil, ↓ES_seq, ↓ES_asg, ↓ES_unp, ↓ES_app, ↓ES_ext, ↓ES_put, ↓ES_pop, ↓ES_rvs, ↓ES_ins, ↓ES_ife, ↓ES_ret, ↓ES_reto, ↓ES_retn, ↓ES_for, ↓ES_brk, ↓ES_cnt, ↓ES_drp, forF_, shareAll_n, shareAll_c, shareAt_, shC_o, shC_s, shC_n, shC_x, memN_n, memN_c, after_, flatC_o, flatC_s, flat_i, flat_b, flat_s, flat_n, flat_l, flat_t, noLs_ints, noLs_rows, noLs_fi, q_set0, q_sets, q_get0, q_gets, q_getn, q_mapc, q_mapn, q_appc, q_appn, q_reps, q_rep0, q_bb, q_bs, q_bn, q_ms, q_mn, Nat.reduceAdd, Nat.reduceSub, q_lc, q_ln, q_pure, Bool.false_eq_true, q_ift, q_iff, q_ifb, q_ifc, ite_self, reduceCtorEq, Bool.and_true, Bool.true_and, Bool.and_false, Bool.false_and, Bool.and_self, Bool.not_true, Bool.not_false, CE.isNil, Nat.reduceEqDiff, and_self, decide_true, decide_false, hr, hl, zip2_map, h1, intsOf_f, hp]
  rfl
end
end EV
end

section
set_option linter.all false
set_option maxRecDepth 100000
set_option maxHeartbeats 2000000
/-! EQ, part 1: tables and bases: the program's functions as functions of lists of ints. -/
namespace EV
open PySem L2
/-- the program's defs stand in the table -/
structure PT (tab : Nat → Option Def) : Prop where
  go : ∀ f d, progTab f = some d → tab f = some d
theorem gg {tab : Nat → Option Def} {C : Nat → Option D} {k f : Nat} {d : Def} (h : tab f = some d) (xs : List D) : GG tab C (k + 1) f xs = runD (GG tab C k) C d xs := by
  show (match tab f with
    | some d => runD (GG tab C k) C d xs
    | none => none) = _
  rw [h]
theorem at0_get {row : List Int} {k : Nat} (h : k < row.length) : (row.map PyData.int)[k]? = some (.int (at0 row k)) := by
  rw [List.getElem?_map, List.getElem?_eq_getElem h, at0_lt h]; rfl
section
variable {tab : Nat → Option Def} {C : Nat → Option D} (T : PT tab) {k : Nat}
include T
theorem summed_g {p : Int} {r l : D} {row load : List Int} (hr : itemsOf r = some (row.map .int)) (hl : itemsOf l = some (load.map .int)) (hp : 0 < p) (hs : Sm row) : GG tab C (k + 1) 0 [.int p, r, l] = some (.sh (.int (dot row load % p))) := by
  rw [gg (T.go 0 _ rfl)]
  exact summed_eq hr hl hp hs
theorem less_g {p t : Int} {r l : D} {row load : List Int} (hr : itemsOf r = some (row.map .int)) (hl : itemsOf l = some (load.map .int)) (hp : 0 < p) (ht : 0 ≤ t ∧ t < 1000) : GG tab C (k + 1) 6 [.int p, r, l, .int t] = some (.ow (encL (lessM p row load t))) := by
  rw [gg (T.go 6 _ rfl)]
  have h1 : ∀ env, lcGo (lcT (GG tab C k) C [4, 5] (.tp [4, 5]) .nil c_less_e1 (Cell.sh (.int p) :: Cell.sh r :: Cell.sh l :: Cell.sh (.int t) :: Cell.no :: Cell.no :: env)) ((row.zip load).map fun q => PyData.tuple [PyData.int q.1, PyData.int q.2]) = some ((row.zip load).map fun q => .int ((q.1 - t * q.2) % p)) := fun env => by
    refine lcGo_map fun q hq => ?_
    have hm : mulOk t q.2 = true := mulOk_l ht
    simp only [lcF_all, c_less_e1, runD, getD_sh, getD_ow, getB_b, getL_t, d_sh, d_ow, getO_t, getO_f, bindT_nm, bindT_tp, setAll_nil, setAll_cons, hide_nil, hide_cons, items_l, items_t, seq_l, seq_t, zipD2, zipD3, enmD_, rev_l, rev_t, len_l, len_t, len_s, sum_l, all_l, any_l, tup_l, tup_t, lst_l, lst_t, min2_, max2_, int_i, int_b, abs_i, add_i, add_s, add_l, add_t, sub_i, mul_i, div_i, mod_i, pow_i, eq_i, ne_i, lt_i, le_i, gt_i, ge_i, isi_i, isi_ib, isi_b, isi_bi, isi_tt, isi_tn, isi_tl, isi_ll, isi_lt, isNon_n, isNon_i, isNon_t, isNon_l, isDict_i, isDict_b, isDict_t, isDict_l, isDict_n, isDict_s, ix_l, ix_t, sl_l, sl_t, atI_nat, atI_0, atI_1, atI_2, atI_3, atI_4, atI_5, atI_6, atI_7, keep_sh, keep_l, noL_i, noL_b, noL_s, noL_n, noL_t, noL_l, noLs_n, noLs_c, isNil_nil, out_rt, out_nx, ↓EE_var, varC_sh, ↓EE_cst, ↓EE_int, ↓EE_bl, ↓EE_non, ↓EE_str, ↓EE_bin, ↓EE_rep, repC_l, ↓EE_neg, negC_i, ↓EE_is, ↓EE_isn, ↓EE_eq, ↓EE_ne, ↓EE_lt, ↓EE_le, ↓EE_gt, ↓EE_ge, ↓EE_inn, ↓EE_ni, ↓EE_chain, ↓EE_and, andC_t, andC_f, ↓EE_or, orC_t, orC_f, ↓EE_not, ↓EE_ite, iteC_t, iteC_f, ↓EE_nil, ↓EE_cons, ↓EE_tup, ↓EE_lst, ↓EE_call, ↓EE_blt, ↓EE_isi, ↓EE_ix, ↓EE_sl, ↓EE_lc, ↓EE_rng, ↓EE_zip, ↓EE_enm, ↓EE_rev, ↓EE_bm, ↓EE_srt, seqR_nx, seqR_rt, seqR_bk, seqR_ct, seqR_no, iffR_t, iffR_f, appC_l, extC_l, putC_l, putX_i, popC_l, insC_l, reto_o, reto_s, unpC_t, rvsC_l, ↓EX, ↓ES_nil, ↓ES_seq, ↓ES_asg, ↓ES_unp, ↓ES_app, ↓ES_ext, ↓ES_put, ↓ES_pop, ↓ES_rvs, ↓ES_ins, ↓ES_ife, ↓ES_ret, ↓ES_reto, ↓ES_retn, ↓ES_for, ↓ES_brk, ↓ES_cnt, ↓ES_drp, forF_, shareAll_n, shareAll_c, shareAt_, shC_o, shC_s, shC_n, shC_x, memN_n, memN_c, after_, flatC_o, flatC_s, flat_i, flat_b, flat_s, flat_n, flat_l, flat_t, noLs_ints, noLs_rows, noLs_fi, q_set0, q_sets, q_get0, q_gets, q_getn, q_mapc, q_mapn, q_appc, q_appn, q_reps, q_rep0, q_bb, q_bs, q_bn, q_ms, q_mn, Nat.reduceAdd, Nat.reduceSub, q_lc, q_ln, q_pure, Bool.false_eq_true, q_ift, q_iff, q_ifb, q_ifc, ite_self, reduceCtorEq, Bool.and_true, Bool.true_and, Bool.and_false, Bool.false_and, Bool.and_self, Bool.not_true, Bool.not_false, CE.isNil, Nat.reduceEqDiff, and_self, decide_true, decide_false, hm, hp]
  simp only [c_less, runD, getD_sh, getD_ow, getB_b, getL_t, d_sh, d_ow, getO_t, getO_f, bindT_nm, bindT_tp, setAll_nil, setAll_cons, hide_nil, hide_cons, items_l, items_t, seq_l, seq_t, zipD2, zipD3, enmD_, rev_l, rev_t, len_l, len_t, len_s, sum_l, all_l, any_l, tup_l, tup_t, lst_l, lst_t, min2_, max2_, int_i, int_b, abs_i, add_i, add_s, add_l, add_t, sub_i, mul_i, div_i, mod_i, pow_i, eq_i, ne_i, lt_i, le_i, gt_i, ge_i, isi_i, isi_ib, isi_b, isi_bi, isi_tt, isi_tn, isi_tl, isi_ll, isi_lt, isNon_n, isNon_i, isNon_t, isNon_l, isDict_i, isDict_b, isDict_t, isDict_l, isDict_n, isDict_s, ix_l, ix_t, sl_l, sl_t, atI_nat, atI_0, atI_1, atI_2, atI_3, atI_4, atI_5, atI_6, atI_7, keep_sh, keep_l, noL_i, noL_b, noL_s, noL_n, noL_t, noL_l, noLs_n, noLs_c, isNil_nil, out_rt, out_nx, ↓EE_var, varC_sh, ↓EE_cst, ↓EE_int, ↓EE_bl, ↓EE_non, ↓EE_str, ↓EE_bin, ↓EE_rep, repC_l, ↓EE_neg, negC_i, ↓EE_is, ↓EE_isn, ↓EE_eq, ↓EE_ne, ↓EE_lt, ↓EE_le, ↓EE_gt, ↓EE_ge, ↓EE_inn, ↓EE_ni, ↓EE_chain, ↓EE_and, andC_t, andC_f, ↓EE_or, orC_t, orC_f, ↓EE_not, ↓EE_ite, iteC_t, iteC_f, ↓EE_nil, ↓EE_cons, ↓EE_tup, ↓EE_lst, ↓EE_call, ↓EE_blt, ↓EE_isi, ↓EE_ix, ↓EE_sl, ↓EE_lc, ↓EE_rng, ↓EE_zip, ↓EE_enm, ↓EE_rev, ↓EE_bm, ↓EE_srt, seqR_nx, seqR_rt, seqR_bk, seqR_ct, seqR_no, iffR_t, iffR_f, appC_l, extC_l, putC_l, putX_i, popC_l, insC_l, reto_o, reto_s, unpC_t, rvsC_l, ↓EX, ↓ES_nil, ↓ES_seq, ↓ES_asg, ↓ES_unp, ↓ES_app, ↓ES_ext, ↓ES_put, ↓ES_pop, ↓ES_rvs, ↓ES_ins, ↓ES_ife, ↓ES_ret, ↓ES_reto, ↓ES_retn, ↓ES_for, ↓ES_brk, ↓ES_cnt, ↓ES_drp, forF_, shareAll_n, shareAll_c, shareAt_, shC_o, shC_s, shC_n, shC_x, memN_n, memN_c, after_, flatC_o, flatC_s, flat_i, flat_b, flat_s, flat_n, flat_l, flat_t, noLs_ints, noLs_rows, noLs_fi, q_set0, q_sets, q_get0, q_gets, q_getn, q_mapc, q_mapn, q_appc, q_appn, q_reps, q_rep0, q_bb, q_bs, q_bn, q_ms, q_mn, Nat.reduceAdd, Nat.reduceSub, q_lc, q_ln, q_pure, Bool.false_eq_true, q_ift, q_iff, q_ifb, q_ifc, ite_self, reduceCtorEq, Bool.and_true, Bool.true_and, Bool.and_false, Bool.false_and, Bool.and_self, Bool.not_true, Bool.not_false, CE.isNil, Nat.reduceEqDiff, and_self, decide_true, decide_false, hr, hl, zip2_map, h1, lessM, encL, List.map_map, Function.comp_def]
theorem led_g {p : Int} {l : D} {load : List Int} {high wide : D} {rows : List (List Int)} (hl : itemsOf l = some (load.map .int)) (hp : 0 < p) (hs : ∀ r ∈ rows, Sm r) :
    GG tab C (k + 2) 5 [.int p, .tuple [high, wide, .tuple (rows.map encT)], l] = some (.sh (encT (ledM p rows load))) := by
  rw [gg (T.go 5 _ rfl)]
  have h1 : ∀ env, lcGo (lcT (GG tab C (k + 1)) C [3] (.nm 3) .nil c_led_e1 (Cell.sh (.int p) :: Cell.sh (.tuple [high, wide, .tuple (rows.map encT)]) :: Cell.sh l :: Cell.no :: env)) (rows.map encT) = some (rows.map fun r => .int (dot r load % p)) := fun env => by
    refine lcGo_map fun r hr => ?_
    have hG := summed_g T (C := C) (k := k) (r := encT r) (row := r) rfl hl hp (hs r hr)
    simp only [lcF_all, c_led_e1, runD, getD_sh, getD_ow, getB_b, getL_t, d_sh, d_ow, getO_t, getO_f, bindT_nm, bindT_tp, setAll_nil, setAll_cons, hide_nil, hide_cons, items_l, items_t, seq_l, seq_t, zipD2, zipD3, enmD_, rev_l, rev_t, len_l, len_t, len_s, sum_l, all_l, any_l, tup_l, tup_t, lst_l, lst_t, min2_, max2_, int_i, int_b, abs_i, add_i, add_s, add_l, add_t, sub_i, mul_i, div_i, mod_i, pow_i, eq_i, ne_i, lt_i, le_i, gt_i, ge_i, isi_i, isi_ib, isi_b, isi_bi, isi_tt, isi_tn, isi_tl, isi_ll, isi_lt, isNon_n, isNon_i, isNon_t, isNon_l, isDict_i, isDict_b, isDict_t, isDict_l, isDict_n, isDict_s, ix_l, ix_t, sl_l, sl_t, atI_nat, atI_0, atI_1, atI_2, atI_3, atI_4, atI_5, atI_6, atI_7, keep_sh, keep_l, noL_i, noL_b, noL_s, noL_n, noL_t, noL_l, noLs_n, noLs_c, isNil_nil, out_rt, out_nx, ↓EE_var, varC_sh, ↓EE_cst, ↓EE_int, ↓EE_bl, ↓EE_non, ↓EE_str, ↓EE_bin, ↓EE_rep, repC_l, ↓EE_neg, negC_i, ↓EE_is, ↓EE_isn, ↓EE_eq, ↓EE_ne, ↓EE_lt, ↓EE_le, ↓EE_gt, ↓EE_ge, ↓EE_inn, ↓EE_ni, ↓EE_chain, ↓EE_and, andC_t, andC_f, ↓EE_or, orC_t, orC_f, ↓EE_not, ↓EE_ite, iteC_t, iteC_f, ↓EE_nil, ↓EE_cons, ↓EE_tup, ↓EE_lst, ↓EE_call, ↓EE_blt, ↓EE_isi, ↓EE_ix, ↓EE_sl, ↓EE_lc, ↓EE_rng, ↓EE_zip, ↓EE_enm, ↓EE_rev, ↓EE_bm, ↓EE_srt, seqR_nx, seqR_rt, seqR_bk, seqR_ct, seqR_no, iffR_t, iffR_f, appC_l, extC_l, putC_l, putX_i, popC_l, insC_l, reto_o, reto_s, unpC_t, rvsC_l, ↓EX, ↓ES_nil, ↓ES_seq, ↓ES_asg, ↓ES_unp, ↓ES_app, ↓ES_ext, ↓ES_put, ↓ES_pop, ↓ES_rvs, ↓ES_ins, ↓ES_ife, ↓ES_ret, ↓ES_reto, ↓ES_retn, ↓ES_for, ↓ES_brk, ↓ES_cnt, ↓ES_drp, forF_, shareAll_n, shareAll_c, shareAt_, shC_o, shC_s, shC_n, shC_x, memN_n, memN_c, after_, flatC_o, flatC_s, flat_i, flat_b, flat_s, flat_n, flat_l, flat_t, noLs_ints, noLs_rows, noLs_fi, q_set0, q_sets, q_get0, q_gets, q_getn, q_mapc, q_mapn, q_appc, q_appn, q_reps, q_rep0, q_bb, q_bs, q_bn, q_ms, q_mn, Nat.reduceAdd, Nat.reduceSub, q_lc, q_ln, q_pure, Bool.false_eq_true, q_ift, q_iff, q_ifb, q_ifc, ite_self, reduceCtorEq, Bool.and_true, Bool.true_and, Bool.and_false, Bool.false_and, Bool.and_self, Bool.not_true, Bool.not_false, CE.isNil, Nat.reduceEqDiff, and_self, decide_true, decide_false, hG]
  simp only [c_led, runD, getD_sh, getD_ow, getB_b, getL_t, d_sh, d_ow, getO_t, getO_f, bindT_nm, bindT_tp, setAll_nil, setAll_cons, hide_nil, hide_cons, items_l, items_t, seq_l, seq_t, zipD2, zipD3, enmD_, rev_l, rev_t, len_l, len_t, len_s, sum_l, all_l, any_l, tup_l, tup_t, lst_l, lst_t, min2_, max2_, int_i, int_b, abs_i, add_i, add_s, add_l, add_t, sub_i, mul_i, div_i, mod_i, pow_i, eq_i, ne_i, lt_i, le_i, gt_i, ge_i, isi_i, isi_ib, isi_b, isi_bi, isi_tt, isi_tn, isi_tl, isi_ll, isi_lt, isNon_n, isNon_i, isNon_t, isNon_l, isDict_i, isDict_b, isDict_t, isDict_l, isDict_n, isDict_s, ix_l, ix_t, sl_l, sl_t, atI_nat, atI_0, atI_1, atI_2, atI_3, atI_4, atI_5, atI_6, atI_7, keep_sh, keep_l, noL_i, noL_b, noL_s, noL_n, noL_t, noL_l, noLs_n, noLs_c, isNil_nil, out_rt, out_nx, ↓EE_var, varC_sh, ↓EE_cst, ↓EE_int, ↓EE_bl, ↓EE_non, ↓EE_str, ↓EE_bin, ↓EE_rep, repC_l, ↓EE_neg, negC_i, ↓EE_is, ↓EE_isn, ↓EE_eq, ↓EE_ne, ↓EE_lt, ↓EE_le, ↓EE_gt, ↓EE_ge, ↓EE_inn, ↓EE_ni, ↓EE_chain, ↓EE_and, andC_t, andC_f, ↓EE_or, orC_t, orC_f, ↓EE_not, ↓EE_ite, iteC_t, iteC_f, ↓EE_nil, ↓EE_cons, ↓EE_tup, ↓EE_lst, ↓EE_call, ↓EE_blt, ↓EE_isi, ↓EE_ix, ↓EE_sl, ↓EE_lc, ↓EE_rng, ↓EE_zip, ↓EE_enm, ↓EE_rev, ↓EE_bm, ↓EE_srt, seqR_nx, seqR_rt, seqR_bk, seqR_ct, seqR_no, iffR_t, iffR_f, appC_l, extC_l, putC_l, putX_i, popC_l, insC_l, reto_o, reto_s, unpC_t, rvsC_l, ↓EX, ↓ES_nil, ↓ES_seq, ↓ES_asg, ↓ES_unp, ↓ES_app, ↓ES_ext, ↓ES_put, ↓ES_pop, ↓ES_rvs, ↓ES_ins, ↓ES_ife, ↓ES_ret, ↓ES_reto, ↓ES_retn, ↓ES_for, ↓ES_brk, ↓ES_cnt, ↓ES_drp, forF_, shareAll_n, shareAll_c, shareAt_, shC_o, shC_s, shC_n, shC_x, memN_n, memN_c, after_, flatC_o, flatC_s, flat_i, flat_b, flat_s, flat_n, flat_l, flat_t, noLs_ints, noLs_rows, noLs_fi, q_set0, q_sets, q_get0, q_gets, q_getn, q_mapc, q_mapn, q_appc, q_appn, q_reps, q_rep0, q_bb, q_bs, q_bn, q_ms, q_mn, Nat.reduceAdd, Nat.reduceSub, q_lc, q_ln, q_pure, Bool.false_eq_true, q_ift, q_iff, q_ifb, q_ifc, ite_self, reduceCtorEq, Bool.and_true, Bool.true_and, Bool.and_false, Bool.false_and, Bool.and_self, Bool.not_true, Bool.not_false, CE.isNil, Nat.reduceEqDiff, and_self, decide_true, decide_false, h1, ledM, encT, List.map_map, Function.comp_def]
theorem inverse_g {p x : Int} (hp : P4 p) (h0 : 0 < x) (h1 : x < p) : GG tab C (k + 1) 4 [.int p, .int x] = some (.sh (.int (invM p x))) := by
  rw [gg (T.go 4 _ rfl)]
  rcases hp with rfl | rfl | rfl | rfl
  · obtain rfl : x = 1 := by omega
    rfl
  · have : x = 1 ∨ x = 2 := by omega
    rcases this with rfl | rfl <;> rfl
  · have : x = 1 ∨ x = 2 ∨ x = 3 ∨ x = 4 := by omega
    rcases this with rfl | rfl | rfl | rfl <;> rfl
  · have : x = 1 ∨ x = 2 ∨ x = 3 ∨ x = 4 ∨ x = 5 ∨ x = 6 := by omega
    rcases this with rfl | rfl | rfl | rfl | rfl | rfl <;> rfl
theorem first_g {rows : List (List Int)} {place : Nat} (hl : ∀ r ∈ rows, place < r.length) : GG tab C (k + 1) 7 [.list (rows.map encL), .int (place : Nat)] = some (.sh (match firstM rows place with
    | some k => .int (k : Nat)
    | none => .none)) := by
  rw [gg (T.go 7 _ rfl)]
  have h := forGo_find (xs := rows.zipIdx) (env := [Cell.sh (.list (rows.map encL)), Cell.sh (.int (place : Nat)), Cell.no, Cell.no]) (enc := fun q => PyData.tuple [.int (q.2 : Nat), encL q.1]) (R := fun env => ∃ a b, env = [Cell.sh (.list (rows.map encL)), Cell.sh (.int (place : Nat)), a, b]) (p := fun q => decide (at0 q.1 place ≠ 0)) (c := fun q => Cell.sh (.int (q.2 : Nat)))
    (f := forF (GG tab C k) C (.tp [2, 3]) c_first_with_b1) ⟨_, _, rfl⟩ fun q hq env hR => by
      obtain ⟨a, b, rfl⟩ := hR
      have hlt : place < q.1.length := hl q.1 (by
        have := List.mem_zipIdx hq
        rw [this.2.2]; exact List.getElem_mem _)
      refine ⟨fun hp => ?_, fun hp => ⟨[Cell.sh (.list (rows.map encL)), Cell.sh (.int (place : Nat)), .sh (.int (q.2 : Nat)), .sh (encL q.1)], ?_, _, _, rfl⟩⟩
      · have hp : at0 q.1 place ≠ 0 := by simpa using hp
        simp only [c_first_with_b1, runD, getD_sh, getD_ow, getB_b, getL_t, d_sh, d_ow, getO_t, getO_f, bindT_nm, bindT_tp, setAll_nil, setAll_cons, hide_nil, hide_cons, items_l, items_t, seq_l, seq_t, zipD2, zipD3, enmD_, rev_l, rev_t, len_l, len_t, len_s, sum_l, all_l, any_l, tup_l, tup_t, lst_l, lst_t, min2_, max2_, int_i, int_b, abs_i, add_i, add_s, add_l, add_t, sub_i, mul_i, div_i, mod_i, pow_i, eq_i, ne_i, lt_i, le_i, gt_i, ge_i, isi_i, isi_ib, isi_b, isi_bi, isi_tt, isi_tn, isi_tl, isi_ll, isi_lt, isNon_n, isNon_i, isNon_t, isNon_l, isDict_i, isDict_b, isDict_t, isDict_l, isDict_n, isDict_s, ix_l, ix_t, sl_l, sl_t, atI_nat, atI_0, atI_1, atI_2, atI_3, atI_4, atI_5, atI_6, atI_7, keep_sh, keep_l, noL_i, noL_b, noL_s, noL_n, noL_t, noL_l, noLs_n, noLs_c, isNil_nil, out_rt, out_nx, ↓EE_var, varC_sh, ↓EE_cst, ↓EE_int, ↓EE_bl, ↓EE_non, ↓EE_str, ↓EE_bin, ↓EE_rep, repC_l, ↓EE_neg, negC_i, ↓EE_is, ↓EE_isn, ↓EE_eq, ↓EE_ne, ↓EE_lt, ↓EE_le, ↓EE_gt, ↓EE_ge, ↓EE_inn, ↓EE_ni, ↓EE_chain, ↓EE_and, andC_t, andC_f, ↓EE_or, orC_t, orC_f, ↓EE_not, ↓EE_ite, iteC_t, iteC_f, ↓EE_nil, ↓EE_cons, ↓EE_tup, ↓EE_lst, ↓EE_call, ↓EE_blt, ↓EE_isi, ↓EE_ix, ↓EE_sl, ↓EE_lc, ↓EE_rng, ↓EE_zip, ↓EE_enm, ↓EE_rev, ↓EE_bm, ↓EE_srt, seqR_nx, seqR_rt, seqR_bk, seqR_ct, seqR_no, iffR_t, iffR_f, appC_l, extC_l, putC_l, putX_i, popC_l, insC_l, reto_o, reto_s, unpC_t, rvsC_l, ↓EX, ↓ES_nil, ↓ES_seq, ↓ES_asg, ↓ES_unp, ↓ES_app, ↓ES_ext, ↓ES_put, ↓ES_pop, ↓ES_rvs, ↓ES_ins, ↓ES_ife, ↓ES_ret, ↓ES_reto, ↓ES_retn, ↓ES_for, ↓ES_brk, ↓ES_cnt, ↓ES_drp, forF_, shareAll_n, shareAll_c, shareAt_, shC_o, shC_s, shC_n, shC_x, memN_n, memN_c, after_, flatC_o, flatC_s, flat_i, flat_b, flat_s, flat_n, flat_l, flat_t, noLs_ints, noLs_rows, noLs_fi, q_set0, q_sets, q_get0, q_gets, q_getn, q_mapc, q_mapn, q_appc, q_appn, q_reps, q_rep0, q_bb, q_bs, q_bn, q_ms, q_mn, Nat.reduceAdd, Nat.reduceSub, q_lc, q_ln, q_pure, Bool.false_eq_true, q_ift, q_iff, q_ifb, q_ifc, ite_self, reduceCtorEq, Bool.and_true, Bool.true_and, Bool.and_false, Bool.false_and, Bool.and_self, Bool.not_true, Bool.not_false, CE.isNil, Nat.reduceEqDiff, and_self, decide_true, decide_false, atI_nat, at0_get hlt, hp, decide_false]
      · have hp : at0 q.1 place = 0 := by simpa using hp
        simp only [c_first_with_b1, runD, getD_sh, getD_ow, getB_b, getL_t, d_sh, d_ow, getO_t, getO_f, bindT_nm, bindT_tp, setAll_nil, setAll_cons, hide_nil, hide_cons, items_l, items_t, seq_l, seq_t, zipD2, zipD3, enmD_, rev_l, rev_t, len_l, len_t, len_s, sum_l, all_l, any_l, tup_l, tup_t, lst_l, lst_t, min2_, max2_, int_i, int_b, abs_i, add_i, add_s, add_l, add_t, sub_i, mul_i, div_i, mod_i, pow_i, eq_i, ne_i, lt_i, le_i, gt_i, ge_i, isi_i, isi_ib, isi_b, isi_bi, isi_tt, isi_tn, isi_tl, isi_ll, isi_lt, isNon_n, isNon_i, isNon_t, isNon_l, isDict_i, isDict_b, isDict_t, isDict_l, isDict_n, isDict_s, ix_l, ix_t, sl_l, sl_t, atI_nat, atI_0, atI_1, atI_2, atI_3, atI_4, atI_5, atI_6, atI_7, keep_sh, keep_l, noL_i, noL_b, noL_s, noL_n, noL_t, noL_l, noLs_n, noLs_c, isNil_nil, out_rt, out_nx, ↓EE_var, varC_sh, ↓EE_cst, ↓EE_int, ↓EE_bl, ↓EE_non, ↓EE_str, ↓EE_bin, ↓EE_rep, repC_l, ↓EE_neg, negC_i, ↓EE_is, ↓EE_isn, ↓EE_eq, ↓EE_ne, ↓EE_lt, ↓EE_le, ↓EE_gt, ↓EE_ge, ↓EE_inn, ↓EE_ni, ↓EE_chain, ↓EE_and, andC_t, andC_f, ↓EE_or, orC_t, orC_f, ↓EE_not, ↓EE_ite, iteC_t, iteC_f, ↓EE_nil, ↓EE_cons, ↓EE_tup, ↓EE_lst, ↓EE_call, ↓EE_blt, ↓EE_isi, ↓EE_ix, ↓EE_sl, ↓EE_lc, ↓EE_rng, ↓EE_zip, ↓EE_enm, ↓EE_rev, ↓EE_bm, ↓EE_srt, seqR_nx, seqR_rt, seqR_bk, seqR_ct, seqR_no, iffR_t, iffR_f, appC_l, extC_l, putC_l, putX_i, popC_l, insC_l, reto_o, reto_s, unpC_t, rvsC_l, ↓EX, ↓ES_nil, ↓ES_seq, ↓ES_asg, ↓ES_unp, ↓ES_app, ↓ES_ext, ↓ES_put, ↓ES_pop, ↓ES_rvs, ↓ES_ins, ↓ES_ife, ↓ES_ret, ↓ES_reto, ↓ES_retn, ↓ES_for, ↓ES_brk, ↓ES_cnt, ↓ES_drp, forF_, shareAll_n, shareAll_c, shareAt_, shC_o, shC_s, shC_n, shC_x, memN_n, memN_c, after_, flatC_o, flatC_s, flat_i, flat_b, flat_s, flat_n, flat_l, flat_t, noLs_ints, noLs_rows, noLs_fi, q_set0, q_sets, q_get0, q_gets, q_getn, q_mapc, q_mapn, q_appc, q_appn, q_reps, q_rep0, q_bb, q_bs, q_bn, q_ms, q_mn, Nat.reduceAdd, Nat.reduceSub, q_lc, q_ln, q_pure, Bool.false_eq_true, q_ift, q_iff, q_ifb, q_ifc, ite_self, reduceCtorEq, Bool.and_true, Bool.true_and, Bool.and_false, Bool.false_and, Bool.and_self, Bool.not_true, Bool.not_false, CE.isNil, Nat.reduceEqDiff, and_self, decide_true, decide_false, atI_nat, at0_get hlt, hp, decide_true]
  simp only [c_first_with, runD, getD_sh, getD_ow, getB_b, getL_t, d_sh, d_ow, getO_t, getO_f, bindT_nm, bindT_tp, setAll_nil, setAll_cons, hide_nil, hide_cons, items_l, items_t, seq_l, seq_t, zipD2, zipD3, enmD_, rev_l, rev_t, len_l, len_t, len_s, sum_l, all_l, any_l, tup_l, tup_t, lst_l, lst_t, min2_, max2_, int_i, int_b, abs_i, add_i, add_s, add_l, add_t, sub_i, mul_i, div_i, mod_i, pow_i, eq_i, ne_i, lt_i, le_i, gt_i, ge_i, isi_i, isi_ib, isi_b, isi_bi, isi_tt, isi_tn, isi_tl, isi_ll, isi_lt, isNon_n, isNon_i, isNon_t, isNon_l, isDict_i, isDict_b, isDict_t, isDict_l, isDict_n, isDict_s, ix_l, ix_t, sl_l, sl_t, atI_nat, atI_0, atI_1, atI_2, atI_3, atI_4, atI_5, atI_6, atI_7, keep_sh, keep_l, noL_i, noL_b, noL_s, noL_n, noL_t, noL_l, noLs_n, noLs_c, isNil_nil, out_rt, out_nx, ↓EE_var, varC_sh, ↓EE_cst, ↓EE_int, ↓EE_bl, ↓EE_non, ↓EE_str, ↓EE_bin, ↓EE_rep, repC_l, ↓EE_neg, negC_i, ↓EE_is, ↓EE_isn, ↓EE_eq, ↓EE_ne, ↓EE_lt, ↓EE_le, ↓EE_gt, ↓EE_ge, ↓EE_inn, ↓EE_ni, ↓EE_chain, ↓EE_and, andC_t, andC_f, ↓EE_or, orC_t, orC_f, ↓EE_not, ↓EE_ite, iteC_t, iteC_f, ↓EE_nil, ↓EE_cons, ↓EE_tup, ↓EE_lst, ↓EE_call, ↓EE_blt, ↓EE_isi, ↓EE_ix, ↓EE_sl, ↓EE_lc, ↓EE_rng, ↓EE_zip, ↓EE_enm, ↓EE_rev, ↓EE_bm, ↓EE_srt, seqR_nx, seqR_rt, seqR_bk, seqR_ct, seqR_no, iffR_t, iffR_f, appC_l, extC_l, putC_l, putX_i, popC_l, insC_l, reto_o, reto_s, unpC_t, rvsC_l, ↓EX, ↓ES_nil, ↓ES_seq, ↓ES_asg, ↓ES_unp, ↓ES_app, ↓ES_ext, ↓ES_put, ↓ES_pop, ↓ES_rvs, ↓ES_ins, ↓ES_ife, ↓ES_ret, ↓ES_reto, ↓ES_retn, ↓ES_for, ↓ES_brk, ↓ES_cnt, ↓ES_drp, forF_, shareAll_n, shareAll_c, shareAt_, shC_o, shC_s, shC_n, shC_x, memN_n, memN_c, after_, flatC_o, flatC_s, flat_i, flat_b, flat_s, flat_n, flat_l, flat_t, noLs_ints, noLs_rows, noLs_fi, q_set0, q_sets, q_get0, q_gets, q_getn, q_mapc, q_mapn, q_appc, q_appn, q_reps, q_rep0, q_bb, q_bs, q_bn, q_ms, q_mn, Nat.reduceAdd, Nat.reduceSub, q_lc, q_ln, q_pure, Bool.false_eq_true, q_ift, q_iff, q_ifb, q_ifc, ite_self, reduceCtorEq, Bool.and_true, Bool.true_and, Bool.and_false, Bool.false_and, Bool.and_self, Bool.not_true, Bool.not_false, CE.isNil, Nat.reduceEqDiff, and_self, decide_true, decide_false, enmFrom_map]
  rcases h with ⟨q, h1, h2⟩ | ⟨h1, env', h2, a, b, rfl⟩
  · simp only [h2, runD, getD_sh, getD_ow, getB_b, getL_t, d_sh, d_ow, getO_t, getO_f, bindT_nm, bindT_tp, setAll_nil, setAll_cons, hide_nil, hide_cons, items_l, items_t, seq_l, seq_t, zipD2, zipD3, enmD_, rev_l, rev_t, len_l, len_t, len_s, sum_l, all_l, any_l, tup_l, tup_t, lst_l, lst_t, min2_, max2_, int_i, int_b, abs_i, add_i, add_s, add_l, add_t, sub_i, mul_i, div_i, mod_i, pow_i, eq_i, ne_i, lt_i, le_i, gt_i, ge_i, isi_i, isi_ib, isi_b, isi_bi, isi_tt, isi_tn, isi_tl, isi_ll, isi_lt, isNon_n, isNon_i, isNon_t, isNon_l, isDict_i, isDict_b, isDict_t, isDict_l, isDict_n, isDict_s, ix_l, ix_t, sl_l, sl_t, atI_nat, atI_0, atI_1, atI_2, atI_3, atI_4, atI_5, atI_6, atI_7, keep_sh, keep_l, noL_i, noL_b, noL_s, noL_n, noL_t, noL_l, noLs_n, noLs_c, isNil_nil, out_rt, out_nx, ↓EE_var, varC_sh, ↓EE_cst, ↓EE_int, ↓EE_bl, ↓EE_non, ↓EE_str, ↓EE_bin, ↓EE_rep, repC_l, ↓EE_neg, negC_i, ↓EE_is, ↓EE_isn, ↓EE_eq, ↓EE_ne, ↓EE_lt, ↓EE_le, ↓EE_gt, ↓EE_ge, ↓EE_inn, ↓EE_ni, ↓EE_chain, ↓EE_and, andC_t, andC_f, ↓EE_or, orC_t, orC_f, ↓EE_not, ↓EE_ite, iteC_t, iteC_f, ↓EE_nil, ↓EE_cons, ↓EE_tup, ↓EE_lst, ↓EE_call, ↓EE_blt, ↓EE_isi, ↓EE_ix, ↓EE_sl, ↓EE_lc, ↓EE_rng, ↓EE_zip, ↓EE_enm, ↓EE_rev, ↓EE_bm, ↓EE_srt, seqR_nx, seqR_rt, seqR_bk, seqR_ct, seqR_no, iffR_t, iffR_f, appC_l, extC_l, putC_l, putX_i, popC_l, insC_l, reto_o, reto_s, unpC_t, rvsC_l, ↓EX, ↓ES_nil, ↓ES_seq, ↓ES_asg, ↓ES_unp, ↓ES_app, ↓ES_ext, ↓ES_put, ↓ES_pop, ↓ES_rvs, ↓ES_ins, ↓ES_ife, ↓ES_ret, ↓ES_reto, ↓ES_retn, ↓ES_for, ↓ES_brk, ↓ES_cnt, ↓ES_drp, forF_, shareAll_n, shareAll_c, shareAt_, shC_o, shC_s, shC_n, shC_x, memN_n, memN_c, after_, flatC_o, flatC_s, flat_i, flat_b, flat_s, flat_n, flat_l, flat_t, noLs_ints, noLs_rows, noLs_fi, q_set0, q_sets, q_get0, q_gets, q_getn, q_mapc, q_mapn, q_appc, q_appn, q_reps, q_rep0, q_bb, q_bs, q_bn, q_ms, q_mn, Nat.reduceAdd, Nat.reduceSub, q_lc, q_ln, q_pure, Bool.false_eq_true, q_ift, q_iff, q_ifb, q_ifc, ite_self, reduceCtorEq, Bool.and_true, Bool.true_and, Bool.and_false, Bool.false_and, Bool.and_self, Bool.not_true, Bool.not_false, CE.isNil, Nat.reduceEqDiff, and_self, decide_true, decide_false, firstM, h1]
  · simp only [h2, runD, getD_sh, getD_ow, getB_b, getL_t, d_sh, d_ow, getO_t, getO_f, bindT_nm, bindT_tp, setAll_nil, setAll_cons, hide_nil, hide_cons, items_l, items_t, seq_l, seq_t, zipD2, zipD3, enmD_, rev_l, rev_t, len_l, len_t, len_s, sum_l, all_l, any_l, tup_l, tup_t, lst_l, lst_t, min2_, max2_, int_i, int_b, abs_i, add_i, add_s, add_l, add_t, sub_i, mul_i, div_i, mod_i, pow_i, eq_i, ne_i, lt_i, le_i, gt_i, ge_i, isi_i, isi_ib, isi_b, isi_bi, isi_tt, isi_tn, isi_tl, isi_ll, isi_lt, isNon_n, isNon_i, isNon_t, isNon_l, isDict_i, isDict_b, isDict_t, isDict_l, isDict_n, isDict_s, ix_l, ix_t, sl_l, sl_t, atI_nat, atI_0, atI_1, atI_2, atI_3, atI_4, atI_5, atI_6, atI_7, keep_sh, keep_l, noL_i, noL_b, noL_s, noL_n, noL_t, noL_l, noLs_n, noLs_c, isNil_nil, out_rt, out_nx, ↓EE_var, varC_sh, ↓EE_cst, ↓EE_int, ↓EE_bl, ↓EE_non, ↓EE_str, ↓EE_bin, ↓EE_rep, repC_l, ↓EE_neg, negC_i, ↓EE_is, ↓EE_isn, ↓EE_eq, ↓EE_ne, ↓EE_lt, ↓EE_le, ↓EE_gt, ↓EE_ge, ↓EE_inn, ↓EE_ni, ↓EE_chain, ↓EE_and, andC_t, andC_f, ↓EE_or, orC_t, orC_f, ↓EE_not, ↓EE_ite, iteC_t, iteC_f, ↓EE_nil, ↓EE_cons, ↓EE_tup, ↓EE_lst, ↓EE_call, ↓EE_blt, ↓EE_isi, ↓EE_ix, ↓EE_sl, ↓EE_lc, ↓EE_rng, ↓EE_zip, ↓EE_enm, ↓EE_rev, ↓EE_bm, ↓EE_srt, seqR_nx, seqR_rt, seqR_bk, seqR_ct, seqR_no, iffR_t, iffR_f, appC_l, extC_l, putC_l, putX_i, popC_l, insC_l, reto_o, reto_s, unpC_t, rvsC_l, ↓EX, ↓ES_nil, ↓ES_seq, ↓ES_asg, ↓ES_unp, ↓ES_app, ↓ES_ext, ↓ES_put, ↓ES_pop, ↓ES_rvs, ↓ES_ins, ↓ES_ife, ↓ES_ret, ↓ES_reto, ↓ES_retn, ↓ES_for, ↓ES_brk, ↓ES_cnt, ↓ES_drp, forF_, shareAll_n, shareAll_c, shareAt_, shC_o, shC_s, shC_n, shC_x, memN_n, memN_c, after_, flatC_o, flatC_s, flat_i, flat_b, flat_s, flat_n, flat_l, flat_t, noLs_ints, noLs_rows, noLs_fi, q_set0, q_sets, q_get0, q_gets, q_getn, q_mapc, q_mapn, q_appc, q_appn, q_reps, q_rep0, q_bb, q_bs, q_bn, q_ms, q_mn, Nat.reduceAdd, Nat.reduceSub, q_lc, q_ln, q_pure, Bool.false_eq_true, q_ift, q_iff, q_ifb, q_ifc, ite_self, reduceCtorEq, Bool.and_true, Bool.true_and, Bool.and_false, Bool.false_and, Bool.and_self, Bool.not_true, Bool.not_false, CE.isNil, Nat.reduceEqDiff, and_self, decide_true, decide_false, firstM, h1]
omit T in
/-- the state of base_of's loop -/
def BR (p : Int) (L n : Nat) (l : D) (b : BS) (env : List Cell) : Prop := BInv p L n b ∧ ∃ c1 c4 c6 c7 c8 c9 c10 c11, env = [Cell.sh (.int p), c1, Cell.sh l, .ow (.list (b.rows.map encL)), c4, .ow (.list (b.base.map encL)), c6, c7, c8, c9, c10, c11]
theorem base_turn {p : Int} {L n : Nat} {l : D} (hp : P4 p) (hn : n ≤ 1000)
    {b : BS} {place : Nat} {env : List Cell} (hpl : place < L) (hR : BR p L n l b env) : ∃ env', forF (GG tab C (k + 1)) C (.nm 6) c_base_of_b5 (.int (place : Nat)) env = some (.nx env') ∧ BR p L n l (stepM p b place) env' := by
  obtain ⟨hb, c1, c4, c6, c7, c8, c9, c10, c11, rfl⟩ := hR
  have hfr := first_g T (C := C) (k := k) (rows := b.rows) (place := place) fun r hr => by rw [(hb.rows r hr).1]; exact hpl
  have hinv2 := stepM_inv (place := place) hp hb
  unfold stepM at hinv2 ⊢
  cases hf : firstM b.rows place with
  | none =>
    rw [hf] at hfr
    simp only [c_base_of_b5, runD, getD_sh, getD_ow, getB_b, getL_t, d_sh, d_ow, getO_t, getO_f, bindT_nm, bindT_tp, setAll_nil, setAll_cons, hide_nil, hide_cons, items_l, items_t, seq_l, seq_t, zipD2, zipD3, enmD_, rev_l, rev_t, len_l, len_t, len_s, sum_l, all_l, any_l, tup_l, tup_t, lst_l, lst_t, min2_, max2_, int_i, int_b, abs_i, add_i, add_s, add_l, add_t, sub_i, mul_i, div_i, mod_i, pow_i, eq_i, ne_i, lt_i, le_i, gt_i, ge_i, isi_i, isi_ib, isi_b, isi_bi, isi_tt, isi_tn, isi_tl, isi_ll, isi_lt, isNon_n, isNon_i, isNon_t, isNon_l, isDict_i, isDict_b, isDict_t, isDict_l, isDict_n, isDict_s, ix_l, ix_t, sl_l, sl_t, atI_nat, atI_0, atI_1, atI_2, atI_3, atI_4, atI_5, atI_6, atI_7, keep_sh, keep_l, noL_i, noL_b, noL_s, noL_n, noL_t, noL_l, noLs_n, noLs_c, isNil_nil, out_rt, out_nx, ↓EE_var, varC_sh, ↓EE_cst, ↓EE_int, ↓EE_bl, ↓EE_non, ↓EE_str, ↓EE_bin, ↓EE_rep, repC_l, ↓EE_neg, negC_i, ↓EE_is, ↓EE_isn, ↓EE_eq, ↓EE_ne, ↓EE_lt, ↓EE_le, ↓EE_gt, ↓EE_ge, ↓EE_inn, ↓EE_ni, ↓EE_chain, ↓EE_and, andC_t, andC_f, ↓EE_or, orC_t, orC_f, ↓EE_not, ↓EE_ite, iteC_t, iteC_f, ↓EE_nil, ↓EE_cons, ↓EE_tup, ↓EE_lst, ↓EE_call, ↓EE_blt, ↓EE_isi, ↓EE_ix, ↓EE_sl, ↓EE_lc, ↓EE_rng, ↓EE_zip, ↓EE_enm, ↓EE_rev, ↓EE_bm, ↓EE_srt, seqR_nx, seqR_rt, seqR_bk, seqR_ct, seqR_no, iffR_t, iffR_f, appC_l, extC_l, putC_l, putX_i, popC_l, insC_l, reto_o, reto_s, unpC_t, rvsC_l, ↓EX, ↓ES_nil, ↓ES_seq, ↓ES_asg, ↓ES_unp, ↓ES_app, ↓ES_ext, ↓ES_put, ↓ES_pop, ↓ES_rvs, ↓ES_ins, ↓ES_ife, ↓ES_ret, ↓ES_reto, ↓ES_retn, ↓ES_for, ↓ES_brk, ↓ES_cnt, ↓ES_drp, forF_, shareAll_n, shareAll_c, shareAt_, shC_o, shC_s, shC_n, shC_x, memN_n, memN_c, after_, flatC_o, flatC_s, flat_i, flat_b, flat_s, flat_n, flat_l, flat_t, noLs_ints, noLs_rows, noLs_fi, q_set0, q_sets, q_get0, q_gets, q_getn, q_mapc, q_mapn, q_appc, q_appn, q_reps, q_rep0, q_bb, q_bs, q_bn, q_ms, q_mn, Nat.reduceAdd, Nat.reduceSub, q_lc, q_ln, q_pure, Bool.false_eq_true, q_ift, q_iff, q_ifb, q_ifc, ite_self, reduceCtorEq, Bool.and_true, Bool.true_and, Bool.and_false, Bool.false_and, Bool.and_self, Bool.not_true, Bool.not_false, CE.isNil, Nat.reduceEqDiff, and_self, decide_true, decide_false, hfr]
    exact ⟨_, rfl, hb, _, _, _, _, _, _, _, _, rfl⟩
  | some j =>
    rw [hf] at hfr hinv2
    simp only at hinv2 ⊢
    obtain ⟨hk, hne⟩ := firstM_some hf
    have e0 : b.rows.getD j [] = b.rows[j] := by rw [List.getD_eq_getElem?_getD, List.getElem?_eq_getElem hk]; rfl
    rw [e0] at hinv2 ⊢
    generalize hc0 : b.rows[j] = c0 at *
    have hc0l : c0.length = L ∧ Ent p c0 := by rw [← hc0]; exact hb.rows _ (List.getElem_mem hk)
    have hx := hc0l.2 _ (at0_mem (k := place) (by rw [hc0l.1]; exact hpl))
    have hx0 : 0 < at0 c0 place := by omega
    have hiv := inverse_g T (C := C) (k := k) hp hx0 hx.2
    have him := invM_mul hp hx0 hx.2
    have hat : (b.rows.map encL)[j]? = some (encL c0) := by rw [List.getElem?_map, List.getElem?_eq_getElem hk, hc0]; rfl
    generalize hiM : invM p (at0 c0 place) = iv at *
    have hplt := hp.lt
    have hk2 : 0 ≤ (j : Int) ∧ (j : Int) < (big : Int) := ⟨by omega, by
      have h1 := hb.few
      have h2 : (big : Int) = 1000000 := rfl
      omega⟩
    generalize hc : c0.map (fun n => iv * n % p) = c at *
    have hcl : c.length = L := by rw [← hc, List.length_map]; exact hc0l.1
    have hpl0 : place < c0.length := by rw [hc0l.1]; exact hpl
    have h4 : ∀ d1 d2 d3 d4 d5 d6 d7 d8 d9 d10, lcGo (lcT (GG tab C (k + 1)) C [7] (.nm 7) .nil c_base_of_e4 [Cell.sh (.int p), d1, d2, d3, d4, d5, d6, d7, d8, d9, d10, .sh (.int iv)]) (c0.map .int) = some (c.map .int) := fun d1 d2 d3 d4 d5 d6 d7 d8 d9 d10 => by
      rw [← hc, List.map_map]
      refine lcGo_map (g := fun n => PyData.int (iv * n % p)) fun n hn => ?_
      have hm : mulOk iv n = true := mulOk_l ⟨him.2.1, by omega⟩
      simp only [lcF_all, c_base_of_e4, runD, getD_sh, getD_ow, getB_b, getL_t, d_sh, d_ow, getO_t, getO_f, bindT_nm, bindT_tp, setAll_nil, setAll_cons, hide_nil, hide_cons, items_l, items_t, seq_l, seq_t, zipD2, zipD3, enmD_, rev_l, rev_t, len_l, len_t, len_s, sum_l, all_l, any_l, tup_l, tup_t, lst_l, lst_t, min2_, max2_, int_i, int_b, abs_i, add_i, add_s, add_l, add_t, sub_i, mul_i, div_i, mod_i, pow_i, eq_i, ne_i, lt_i, le_i, gt_i, ge_i, isi_i, isi_ib, isi_b, isi_bi, isi_tt, isi_tn, isi_tl, isi_ll, isi_lt, isNon_n, isNon_i, isNon_t, isNon_l, isDict_i, isDict_b, isDict_t, isDict_l, isDict_n, isDict_s, ix_l, ix_t, sl_l, sl_t, atI_nat, atI_0, atI_1, atI_2, atI_3, atI_4, atI_5, atI_6, atI_7, keep_sh, keep_l, noL_i, noL_b, noL_s, noL_n, noL_t, noL_l, noLs_n, noLs_c, isNil_nil, out_rt, out_nx, ↓EE_var, varC_sh, ↓EE_cst, ↓EE_int, ↓EE_bl, ↓EE_non, ↓EE_str, ↓EE_bin, ↓EE_rep, repC_l, ↓EE_neg, negC_i, ↓EE_is, ↓EE_isn, ↓EE_eq, ↓EE_ne, ↓EE_lt, ↓EE_le, ↓EE_gt, ↓EE_ge, ↓EE_inn, ↓EE_ni, ↓EE_chain, ↓EE_and, andC_t, andC_f, ↓EE_or, orC_t, orC_f, ↓EE_not, ↓EE_ite, iteC_t, iteC_f, ↓EE_nil, ↓EE_cons, ↓EE_tup, ↓EE_lst, ↓EE_call, ↓EE_blt, ↓EE_isi, ↓EE_ix, ↓EE_sl, ↓EE_lc, ↓EE_rng, ↓EE_zip, ↓EE_enm, ↓EE_rev, ↓EE_bm, ↓EE_srt, seqR_nx, seqR_rt, seqR_bk, seqR_ct, seqR_no, iffR_t, iffR_f, appC_l, extC_l, putC_l, putX_i, popC_l, insC_l, reto_o, reto_s, unpC_t, rvsC_l, ↓EX, ↓ES_nil, ↓ES_seq, ↓ES_asg, ↓ES_unp, ↓ES_app, ↓ES_ext, ↓ES_put, ↓ES_pop, ↓ES_rvs, ↓ES_ins, ↓ES_ife, ↓ES_ret, ↓ES_reto, ↓ES_retn, ↓ES_for, ↓ES_brk, ↓ES_cnt, ↓ES_drp, forF_, shareAll_n, shareAll_c, shareAt_, shC_o, shC_s, shC_n, shC_x, memN_n, memN_c, after_, flatC_o, flatC_s, flat_i, flat_b, flat_s, flat_n, flat_l, flat_t, noLs_ints, noLs_rows, noLs_fi, q_set0, q_sets, q_get0, q_gets, q_getn, q_mapc, q_mapn, q_appc, q_appn, q_reps, q_rep0, q_bb, q_bs, q_bn, q_ms, q_mn, Nat.reduceAdd, Nat.reduceSub, q_lc, q_ln, q_pure, Bool.false_eq_true, q_ift, q_iff, q_ifb, q_ifc, ite_self, reduceCtorEq, Bool.and_true, Bool.true_and, Bool.and_false, Bool.false_and, Bool.and_self, Bool.not_true, Bool.not_false, CE.isNil, Nat.reduceEqDiff, and_self, decide_true, decide_false, hm, hp.pos]
    have turn : ∀ (r : List Int), r.length = L ∧ Ent p r → ∀ d1 d2 d3 d4 d5 d7 d8 d9 d11 (e : CE), e = c_base_of_e3 → lcT (GG tab C (k + 1)) C [8] (.nm 8) .nil e [Cell.sh (.int p), d1, d2, d3, d4, d5, .sh (.int (place : Nat)), d7, d8, d9, .sh (.list (c.map .int)), d11] (encL r) = some (some (encL (lessM p r c (at0 r place)))) := fun r hr d1 d2 d3 d4 d5 d7 d8 d9 d11 e he => by
      have hpr : place < r.length := by rw [hr.1]; exact hpl
      have hx := hr.2 _ (at0_mem hpr)
      have hG := less_g T (C := C) (k := k) (r := encL r) (row := r) (l := encL c) (load := c) (t := at0 r place) rfl rfl hp.pos ⟨hx.1, by omega⟩
      subst he
      simp only [lcF_all, c_base_of_e3, runD, getD_sh, getD_ow, getB_b, getL_t, d_sh, d_ow, getO_t, getO_f, bindT_nm, bindT_tp, setAll_nil, setAll_cons, hide_nil, hide_cons, items_l, items_t, seq_l, seq_t, zipD2, zipD3, enmD_, rev_l, rev_t, len_l, len_t, len_s, sum_l, all_l, any_l, tup_l, tup_t, lst_l, lst_t, min2_, max2_, int_i, int_b, abs_i, add_i, add_s, add_l, add_t, sub_i, mul_i, div_i, mod_i, pow_i, eq_i, ne_i, lt_i, le_i, gt_i, ge_i, isi_i, isi_ib, isi_b, isi_bi, isi_tt, isi_tn, isi_tl, isi_ll, isi_lt, isNon_n, isNon_i, isNon_t, isNon_l, isDict_i, isDict_b, isDict_t, isDict_l, isDict_n, isDict_s, ix_l, ix_t, sl_l, sl_t, atI_nat, atI_0, atI_1, atI_2, atI_3, atI_4, atI_5, atI_6, atI_7, keep_sh, keep_l, noL_i, noL_b, noL_s, noL_n, noL_t, noL_l, noLs_n, noLs_c, isNil_nil, out_rt, out_nx, ↓EE_var, varC_sh, ↓EE_cst, ↓EE_int, ↓EE_bl, ↓EE_non, ↓EE_str, ↓EE_bin, ↓EE_rep, repC_l, ↓EE_neg, negC_i, ↓EE_is, ↓EE_isn, ↓EE_eq, ↓EE_ne, ↓EE_lt, ↓EE_le, ↓EE_gt, ↓EE_ge, ↓EE_inn, ↓EE_ni, ↓EE_chain, ↓EE_and, andC_t, andC_f, ↓EE_or, orC_t, orC_f, ↓EE_not, ↓EE_ite, iteC_t, iteC_f, ↓EE_nil, ↓EE_cons, ↓EE_tup, ↓EE_lst, ↓EE_call, ↓EE_blt, ↓EE_isi, ↓EE_ix, ↓EE_sl, ↓EE_lc, ↓EE_rng, ↓EE_zip, ↓EE_enm, ↓EE_rev, ↓EE_bm, ↓EE_srt, seqR_nx, seqR_rt, seqR_bk, seqR_ct, seqR_no, iffR_t, iffR_f, appC_l, extC_l, putC_l, putX_i, popC_l, insC_l, reto_o, reto_s, unpC_t, rvsC_l, ↓EX, ↓ES_nil, ↓ES_seq, ↓ES_asg, ↓ES_unp, ↓ES_app, ↓ES_ext, ↓ES_put, ↓ES_pop, ↓ES_rvs, ↓ES_ins, ↓ES_ife, ↓ES_ret, ↓ES_reto, ↓ES_retn, ↓ES_for, ↓ES_brk, ↓ES_cnt, ↓ES_drp, forF_, shareAll_n, shareAll_c, shareAt_, shC_o, shC_s, shC_n, shC_x, memN_n, memN_c, after_, flatC_o, flatC_s, flat_i, flat_b, flat_s, flat_n, flat_l, flat_t, noLs_ints, noLs_rows, noLs_fi, q_set0, q_sets, q_get0, q_gets, q_getn, q_mapc, q_mapn, q_appc, q_appn, q_reps, q_rep0, q_bb, q_bs, q_bn, q_ms, q_mn, Nat.reduceAdd, Nat.reduceSub, q_lc, q_ln, q_pure, Bool.false_eq_true, q_ift, q_iff, q_ifb, q_ifc, ite_self, reduceCtorEq, Bool.and_true, Bool.true_and, Bool.and_false, Bool.false_and, Bool.and_self, Bool.not_true, Bool.not_false, CE.isNil, Nat.reduceEqDiff, and_self, decide_true, decide_false, atI_nat, at0_get hpr, hG]
    have h5 : ∀ d1 d2 d3 d4 d5 d7 d8 d9 d11, lcGo (lcT (GG tab C (k + 1)) C [8] (.nm 8) .nil c_base_of_e3 [Cell.sh (.int p), d1, d2, d3, d4, d5, .sh (.int (place : Nat)), d7, d8, d9, .sh (.list (c.map .int)), d11]) ((b.rows.map encL).eraseIdx j) = some ((b.rows.eraseIdx j).map fun r => encL (lessM p r c (at0 r place))) := fun d1 d2 d3 d4 d5 d7 d8 d9 d11 => by
      rw [map_erase]
      exact lcGo_map fun r hr => turn r (hb.rows r (List.mem_of_mem_eraseIdx hr)) d1 d2 d3 d4 d5 d7 d8 d9 d11 _ rfl
    have h6 : ∀ d1 d2 d3 d4 d5 d7 d8 d9 d11, lcGo (lcT (GG tab C (k + 1)) C [8] (.nm 8) .nil c_base_of_e2 [Cell.sh (.int p), d1, d2, d3, d4, d5, .sh (.int (place : Nat)), d7, d8, d9, .sh (.list (c.map .int)), d11]) (b.base.map encL) = some (b.base.map fun r => encL (lessM p r c (at0 r place))) := fun d1 d2 d3 d4 d5 d7 d8 d9 d11 =>
      lcGo_map fun r hr => turn r (hb.base r hr) d1 d2 d3 d4 d5 d7 d8 d9 d11 _ rfl
    have hlen : b.base.length + 1 ≤ big := by
      have h1 := hb.few
      have h2 : big = 1000000 := rfl
      omega
    simp only [c_base_of_b5, runD, getD_sh, getD_ow, getB_b, getL_t, d_sh, d_ow, getO_t, getO_f, bindT_nm, bindT_tp, setAll_nil, setAll_cons, hide_nil, hide_cons, items_l, items_t, seq_l, seq_t, zipD2, zipD3, enmD_, rev_l, rev_t, len_l, len_t, len_s, sum_l, all_l, any_l, tup_l, tup_t, lst_l, lst_t, min2_, max2_, int_i, int_b, abs_i, add_i, add_s, add_l, add_t, sub_i, mul_i, div_i, mod_i, pow_i, eq_i, ne_i, lt_i, le_i, gt_i, ge_i, isi_i, isi_ib, isi_b, isi_bi, isi_tt, isi_tn, isi_tl, isi_ll, isi_lt, isNon_n, isNon_i, isNon_t, isNon_l, isDict_i, isDict_b, isDict_t, isDict_l, isDict_n, isDict_s, ix_l, ix_t, sl_l, sl_t, atI_nat, atI_0, atI_1, atI_2, atI_3, atI_4, atI_5, atI_6, atI_7, keep_sh, keep_l, noL_i, noL_b, noL_s, noL_n, noL_t, noL_l, noLs_n, noLs_c, isNil_nil, out_rt, out_nx, ↓EE_var, varC_sh, ↓EE_cst, ↓EE_int, ↓EE_bl, ↓EE_non, ↓EE_str, ↓EE_bin, ↓EE_rep, repC_l, ↓EE_neg, negC_i, ↓EE_is, ↓EE_isn, ↓EE_eq, ↓EE_ne, ↓EE_lt, ↓EE_le, ↓EE_gt, ↓EE_ge, ↓EE_inn, ↓EE_ni, ↓EE_chain, ↓EE_and, andC_t, andC_f, ↓EE_or, orC_t, orC_f, ↓EE_not, ↓EE_ite, iteC_t, iteC_f, ↓EE_nil, ↓EE_cons, ↓EE_tup, ↓EE_lst, ↓EE_call, ↓EE_blt, ↓EE_isi, ↓EE_ix, ↓EE_sl, ↓EE_lc, ↓EE_rng, ↓EE_zip, ↓EE_enm, ↓EE_rev, ↓EE_bm, ↓EE_srt, seqR_nx, seqR_rt, seqR_bk, seqR_ct, seqR_no, iffR_t, iffR_f, appC_l, extC_l, putC_l, putX_i, popC_l, insC_l, reto_o, reto_s, unpC_t, rvsC_l, ↓EX, ↓ES_nil, ↓ES_seq, ↓ES_asg, ↓ES_unp, ↓ES_app, ↓ES_ext, ↓ES_put, ↓ES_pop, ↓ES_rvs, ↓ES_ins, ↓ES_ife, ↓ES_ret, ↓ES_reto, ↓ES_retn, ↓ES_for, ↓ES_brk, ↓ES_cnt, ↓ES_drp, forF_, shareAll_n, shareAll_c, shareAt_, shC_o, shC_s, shC_n, shC_x, memN_n, memN_c, after_, flatC_o, flatC_s, flat_i, flat_b, flat_s, flat_n, flat_l, flat_t, noLs_ints, noLs_rows, noLs_fi, q_set0, q_sets, q_get0, q_gets, q_getn, q_mapc, q_mapn, q_appc, q_appn, q_reps, q_rep0, q_bb, q_bs, q_bn, q_ms, q_mn, Nat.reduceAdd, Nat.reduceSub, q_lc, q_ln, q_pure, Bool.false_eq_true, q_ift, q_iff, q_ifb, q_ifc, ite_self, reduceCtorEq, Bool.and_true, Bool.true_and, Bool.and_false, Bool.false_and, Bool.and_self, Bool.not_true, Bool.not_false, CE.isNil, Nat.reduceEqDiff, and_self, decide_true, decide_false, hfr, hat, hk2, Int.toNat_natCast, atI_nat, at0_get hpl0, hiv, h4, h5, h6, List.length_map, Nat.zero_add, hlen]
    refine ⟨_, rfl, hinv2, c1, c4, .sh (.int (place : Nat)), c7, c8, .sh (.int (j : Nat)), .sh (.list (c.map .int)), .sh (.int iv), ?_⟩
    have e3 : (b.rows.eraseIdx j).map (fun r => encL (lessM p r c (at0 r place))) = ((b.rows.eraseIdx j).map fun row => lessM p row c (at0 row place)).map encL := by rw [List.map_map]; rfl
    have e5 : b.base.map (fun r => encL (lessM p r c (at0 r place))) ++ [PyData.list (c.map .int)] = ((b.base.map fun row => lessM p row c (at0 row place)) ++ [c]).map encL := by rw [List.map_append, List.map_map]; rfl
    rw [e3, e5]
/-- the base of loads, a list or a tuple of tuples or lists -/
theorem base_f {p : Int} {L n long : Nat} {ls : D} {loads : List (List Int)} {f : List Int → D} (hf : f = encT ∨ f = encL) (hp : P4 p) (hn : n ≤ 1000) (hi : itemsOf ls = some (loads.map f)) (hr : Rws p L loads) (hl : loads.length ≤ n) (hL : long ≤ L) (hb : long ≤ 1000) :
    GG tab C (k + 2) 8 [.int p, .int (long : Nat), ls] = some (.ow (.list ((baseM p long loads).map encT))) := by
  rw [gg (T.go 8 _ rfl)]
  have hloop : ∀ env, BR p L n ls ⟨loads, []⟩ env → ∃ env', forGo (forF (GG tab C (k + 1)) C (.nm 6) c_base_of_b5) ((List.range long).map fun i => PyData.int (i : Nat)) env = some (.nx env') ∧ BR p L n ls ((List.range long).foldl (stepM p) ⟨loads, []⟩) env' := fun env h =>
    forGo_inv (enc := fun i : Nat => PyData.int (i : Nat)) (R := BR p L n ls) (step := stepM p) (xs := List.range long) h fun x hx b env hR => base_turn T hp hn (by have := List.mem_range.mp hx; omega) hR
  obtain ⟨env', e1, hinv', c1, c4, c6, c7, c8, c9, c10, c11, e2⟩ := hloop [Cell.sh (.int p), .sh (.int (long : Nat)), Cell.sh ls, .ow (.list (loads.map encL)), .no, .ow (.list []), .no, .no, .no, .no, .no, .no] ⟨⟨hr, (fun _ h => by cases h), by simpa using hl⟩, _, _, _, _, _, _, _, _, rfl⟩
  have hd : ∀ a b c d env, lcGo (lcT (GG tab C (k + 1)) C [4] (.nm 4) .nil c_base_of_e6 (Cell.sh (.int p) :: a :: b :: c :: d :: env)) (loads.map f) = some (loads.map encL) := fun a b c d env =>
    lcGo_map fun r _ => by rcases hf with rfl | rfl <;> simp only [lcF_all, c_base_of_e6, runD, getD_sh, getD_ow, getB_b, getL_t, d_sh, d_ow, getO_t, getO_f, bindT_nm, bindT_tp, setAll_nil, setAll_cons, hide_nil, hide_cons, items_l, items_t, seq_l, seq_t, zipD2, zipD3, enmD_, rev_l, rev_t, len_l, len_t, len_s, sum_l, all_l, any_l, tup_l, tup_t, lst_l, lst_t, min2_, max2_, int_i, int_b, abs_i, add_i, add_s, add_l, add_t, sub_i, mul_i, div_i, mod_i, pow_i, eq_i, ne_i, lt_i, le_i, gt_i, ge_i, isi_i, isi_ib, isi_b, isi_bi, isi_tt, isi_tn, isi_tl, isi_ll, isi_lt, isNon_n, isNon_i, isNon_t, isNon_l, isDict_i, isDict_b, isDict_t, isDict_l, isDict_n, isDict_s, ix_l, ix_t, sl_l, sl_t, atI_nat, atI_0, atI_1, atI_2, atI_3, atI_4, atI_5, atI_6, atI_7, keep_sh, keep_l, noL_i, noL_b, noL_s, noL_n, noL_t, noL_l, noLs_n, noLs_c, isNil_nil, out_rt, out_nx, ↓EE_var, varC_sh, ↓EE_cst, ↓EE_int, ↓EE_bl, ↓EE_non, ↓EE_str, ↓EE_bin, ↓EE_rep, repC_l, ↓EE_neg, negC_i, ↓EE_is, ↓EE_isn, ↓EE_eq, ↓EE_ne, ↓EE_lt, ↓EE_le, ↓EE_gt, ↓EE_ge, ↓EE_inn, ↓EE_ni, ↓EE_chain, ↓EE_and, andC_t, andC_f, ↓EE_or, orC_t, orC_f, ↓EE_not, ↓EE_ite, iteC_t, iteC_f, ↓EE_nil, ↓EE_cons, ↓EE_tup, ↓EE_lst, ↓EE_call, ↓EE_blt, ↓EE_isi, ↓EE_ix, ↓EE_sl, ↓EE_lc, ↓EE_rng, ↓EE_zip, ↓EE_enm, ↓EE_rev, ↓EE_bm, ↓EE_srt, seqR_nx, seqR_rt, seqR_bk, seqR_ct, seqR_no, iffR_t, iffR_f, appC_l, extC_l, putC_l, putX_i, popC_l, insC_l, reto_o, reto_s, unpC_t, rvsC_l, ↓EX, ↓ES_nil, ↓ES_seq, ↓ES_asg, ↓ES_unp, ↓ES_app, ↓ES_ext, ↓ES_put, ↓ES_pop, ↓ES_rvs, ↓ES_ins, ↓ES_ife, ↓ES_ret, ↓ES_reto, ↓ES_retn, ↓ES_for, ↓ES_brk, ↓ES_cnt, ↓ES_drp, forF_, shareAll_n, shareAll_c, shareAt_, shC_o, shC_s, shC_n, shC_x, memN_n, memN_c, after_, flatC_o, flatC_s, flat_i, flat_b, flat_s, flat_n, flat_l, flat_t, noLs_ints, noLs_rows, noLs_fi, q_set0, q_sets, q_get0, q_gets, q_getn, q_mapc, q_mapn, q_appc, q_appn, q_reps, q_rep0, q_bb, q_bs, q_bn, q_ms, q_mn, Nat.reduceAdd, Nat.reduceSub, q_lc, q_ln, q_pure, Bool.false_eq_true, q_ift, q_iff, q_ifb, q_ifc, ite_self, reduceCtorEq, Bool.and_true, Bool.true_and, Bool.and_false, Bool.false_and, Bool.and_self, Bool.not_true, Bool.not_false, CE.isNil, Nat.reduceEqDiff, and_self, decide_true, decide_false]
  have hb' : ∀ (env : List Cell) (rows : List (List Int)), lcGo (lcT (GG tab C (k + 1)) C [8] (.nm 8) .nil c_base_of_e1 (Cell.sh (.int p) :: c1 :: Cell.sh ls :: .ow (.list (((List.range long).foldl (stepM p) ⟨loads, []⟩).rows.map encL)) :: c4 :: .sh (.list (rows.map encL)) :: c6 :: c7 :: c8 :: env)) (rows.map encL) = some (rows.map encT) := fun env rows =>
    lcGo_map fun r _ => by simp only [lcF_all, c_base_of_e1, runD, getD_sh, getD_ow, getB_b, getL_t, d_sh, d_ow, getO_t, getO_f, bindT_nm, bindT_tp, setAll_nil, setAll_cons, hide_nil, hide_cons, items_l, items_t, seq_l, seq_t, zipD2, zipD3, enmD_, rev_l, rev_t, len_l, len_t, len_s, sum_l, all_l, any_l, tup_l, tup_t, lst_l, lst_t, min2_, max2_, int_i, int_b, abs_i, add_i, add_s, add_l, add_t, sub_i, mul_i, div_i, mod_i, pow_i, eq_i, ne_i, lt_i, le_i, gt_i, ge_i, isi_i, isi_ib, isi_b, isi_bi, isi_tt, isi_tn, isi_tl, isi_ll, isi_lt, isNon_n, isNon_i, isNon_t, isNon_l, isDict_i, isDict_b, isDict_t, isDict_l, isDict_n, isDict_s, ix_l, ix_t, sl_l, sl_t, atI_nat, atI_0, atI_1, atI_2, atI_3, atI_4, atI_5, atI_6, atI_7, keep_sh, keep_l, noL_i, noL_b, noL_s, noL_n, noL_t, noL_l, noLs_n, noLs_c, isNil_nil, out_rt, out_nx, ↓EE_var, varC_sh, ↓EE_cst, ↓EE_int, ↓EE_bl, ↓EE_non, ↓EE_str, ↓EE_bin, ↓EE_rep, repC_l, ↓EE_neg, negC_i, ↓EE_is, ↓EE_isn, ↓EE_eq, ↓EE_ne, ↓EE_lt, ↓EE_le, ↓EE_gt, ↓EE_ge, ↓EE_inn, ↓EE_ni, ↓EE_chain, ↓EE_and, andC_t, andC_f, ↓EE_or, orC_t, orC_f, ↓EE_not, ↓EE_ite, iteC_t, iteC_f, ↓EE_nil, ↓EE_cons, ↓EE_tup, ↓EE_lst, ↓EE_call, ↓EE_blt, ↓EE_isi, ↓EE_ix, ↓EE_sl, ↓EE_lc, ↓EE_rng, ↓EE_zip, ↓EE_enm, ↓EE_rev, ↓EE_bm, ↓EE_srt, seqR_nx, seqR_rt, seqR_bk, seqR_ct, seqR_no, iffR_t, iffR_f, appC_l, extC_l, putC_l, putX_i, popC_l, insC_l, reto_o, reto_s, unpC_t, rvsC_l, ↓EX, ↓ES_nil, ↓ES_seq, ↓ES_asg, ↓ES_unp, ↓ES_app, ↓ES_ext, ↓ES_put, ↓ES_pop, ↓ES_rvs, ↓ES_ins, ↓ES_ife, ↓ES_ret, ↓ES_reto, ↓ES_retn, ↓ES_for, ↓ES_brk, ↓ES_cnt, ↓ES_drp, forF_, shareAll_n, shareAll_c, shareAt_, shC_o, shC_s, shC_n, shC_x, memN_n, memN_c, after_, flatC_o, flatC_s, flat_i, flat_b, flat_s, flat_n, flat_l, flat_t, noLs_ints, noLs_rows, noLs_fi, q_set0, q_sets, q_get0, q_gets, q_getn, q_mapc, q_mapn, q_appc, q_appn, q_reps, q_rep0, q_bb, q_bs, q_bn, q_ms, q_mn, Nat.reduceAdd, Nat.reduceSub, q_lc, q_ln, q_pure, Bool.false_eq_true, q_ift, q_iff, q_ifb, q_ifc, ite_self, reduceCtorEq, Bool.and_true, Bool.true_and, Bool.and_false, Bool.false_and, Bool.and_self, Bool.not_true, Bool.not_false, CE.isNil, Nat.reduceEqDiff, and_self, decide_true, decide_false]
  have hbig : long ≤ 100000 := by omega
  simp only [c_base_of, runD, getD_sh, getD_ow, getB_b, getL_t, d_sh, d_ow, getO_t, getO_f, bindT_nm, bindT_tp, setAll_nil, setAll_cons, hide_nil, hide_cons, items_l, items_t, seq_l, seq_t, zipD2, zipD3, enmD_, rev_l, rev_t, len_l, len_t, len_s, sum_l, all_l, any_l, tup_l, tup_t, lst_l, lst_t, min2_, max2_, int_i, int_b, abs_i, add_i, add_s, add_l, add_t, sub_i, mul_i, div_i, mod_i, pow_i, eq_i, ne_i, lt_i, le_i, gt_i, ge_i, isi_i, isi_ib, isi_b, isi_bi, isi_tt, isi_tn, isi_tl, isi_ll, isi_lt, isNon_n, isNon_i, isNon_t, isNon_l, isDict_i, isDict_b, isDict_t, isDict_l, isDict_n, isDict_s, ix_l, ix_t, sl_l, sl_t, atI_nat, atI_0, atI_1, atI_2, atI_3, atI_4, atI_5, atI_6, atI_7, keep_sh, keep_l, noL_i, noL_b, noL_s, noL_n, noL_t, noL_l, noLs_n, noLs_c, isNil_nil, out_rt, out_nx, ↓EE_var, varC_sh, ↓EE_cst, ↓EE_int, ↓EE_bl, ↓EE_non, ↓EE_str, ↓EE_bin, ↓EE_rep, repC_l, ↓EE_neg, negC_i, ↓EE_is, ↓EE_isn, ↓EE_eq, ↓EE_ne, ↓EE_lt, ↓EE_le, ↓EE_gt, ↓EE_ge, ↓EE_inn, ↓EE_ni, ↓EE_chain, ↓EE_and, andC_t, andC_f, ↓EE_or, orC_t, orC_f, ↓EE_not, ↓EE_ite, iteC_t, iteC_f, ↓EE_nil, ↓EE_cons, ↓EE_tup, ↓EE_lst, ↓EE_call, ↓EE_blt, ↓EE_isi, ↓EE_ix, ↓EE_sl, ↓EE_lc, ↓EE_rng, ↓EE_zip, ↓EE_enm, ↓EE_rev, ↓EE_bm, ↓EE_srt, seqR_nx, seqR_rt, seqR_bk, seqR_ct, seqR_no, iffR_t, iffR_f, appC_l, extC_l, putC_l, putX_i, popC_l, insC_l, reto_o, reto_s, unpC_t, rvsC_l, ↓EX, ↓ES_nil, ↓ES_seq, ↓ES_asg, ↓ES_unp, ↓ES_app, ↓ES_ext, ↓ES_put, ↓ES_pop, ↓ES_rvs, ↓ES_ins, ↓ES_ife, ↓ES_ret, ↓ES_reto, ↓ES_retn, ↓ES_for, ↓ES_brk, ↓ES_cnt, ↓ES_drp, forF_, shareAll_n, shareAll_c, shareAt_, shC_o, shC_s, shC_n, shC_x, memN_n, memN_c, after_, flatC_o, flatC_s, flat_i, flat_b, flat_s, flat_n, flat_l, flat_t, noLs_ints, noLs_rows, noLs_fi, q_set0, q_sets, q_get0, q_gets, q_getn, q_mapc, q_mapn, q_appc, q_appn, q_reps, q_rep0, q_bb, q_bs, q_bn, q_ms, q_mn, Nat.reduceAdd, Nat.reduceSub, q_lc, q_ln, q_pure, Bool.false_eq_true, q_ift, q_iff, q_ifb, q_ifc, ite_self, reduceCtorEq, Bool.and_true, Bool.true_and, Bool.and_false, Bool.false_and, Bool.and_self, Bool.not_true, Bool.not_false, CE.isNil, Nat.reduceEqDiff, and_self, decide_true, decide_false, hi, hd, rng_nat hbig, e1, e2, hb', baseM]
theorem base_g {p : Int} {L n long : Nat} {ls : D} {loads : List (List Int)} (hp : P4 p) (hn : n ≤ 1000) (hi : itemsOf ls = some (loads.map encT)) (hr : Rws p L loads) (hl : loads.length ≤ n) (hL : long ≤ L) (hb : long ≤ 1000) :
    GG tab C (k + 2) 8 [.int p, .int (long : Nat), ls] = some (.ow (.list ((baseM p long loads).map encT))) := base_f T (.inl rfl) hp hn hi hr hl hL hb
end
end EV
end

section
set_option linter.all false
set_option maxRecDepth 100000
set_option maxHeartbeats 2000000
/-! EQ, part 2: equality; kernels, spaces carried. -/
namespace EV
open PySem L2
/-! ### equality of data -/
def Okn (n : Nat) (d : D) : Prop := d.canLay0 = true ∧ d.depth ≤ n
theorem Okn.ok {n : Nat} {d : D} (h : Okn n d) (hn : n ≤ 64) : okEq d = true := by
  show (d.canLay0 && decide (d.depth ≤ 64)) = true
  rw [h.1, decide_eq_true (Nat.le_trans h.2 hn)]; rfl
theorem okn_all {n : Nat} : ∀ {xs : List D}, (∀ x ∈ xs, Okn n x) → PyData.canLayAll0 xs = true ∧ PyData.depthAll xs ≤ n
  | [], _ => ⟨by unfold PyData.canLayAll0; rfl, by unfold PyData.depthAll; omega⟩
  | x :: xs, h => by
    obtain ⟨h1, h2⟩ := okn_all fun y hy => h y (List.mem_cons_of_mem _ hy)
    obtain ⟨h3, h4⟩ := h x (List.mem_cons_self ..)
    refine ⟨by unfold PyData.canLayAll0; rw [h3, h1]; rfl, ?_⟩
    unfold PyData.depthAll
    omega
theorem okn_int (n : Nat) (i : Int) : Okn n (.int i) := ⟨by unfold PyData.canLay0; rfl, by unfold PyData.depth; omega⟩
theorem okn_bool (n : Nat) (i : Bool) : Okn n (.bool i) := ⟨by unfold PyData.canLay0; rfl, by unfold PyData.depth; omega⟩
theorem okn_none (n : Nat) : Okn n .none := ⟨by unfold PyData.canLay0; rfl, by unfold PyData.depth; omega⟩
theorem okn_list {n : Nat} {xs : List D} (h : ∀ x ∈ xs, Okn n x) : Okn (n + 1) (.list xs) := by
  obtain ⟨h1, h2⟩ := okn_all h
  exact ⟨by unfold PyData.canLay0; exact h1, by unfold PyData.depth; omega⟩
theorem okn_tup {n : Nat} {xs : List D} (h : ∀ x ∈ xs, Okn n x) : Okn (n + 1) (.tuple xs) := by
  obtain ⟨h1, h2⟩ := okn_all h
  exact ⟨by unfold PyData.canLay0; exact h1, by unfold PyData.depth; omega⟩
theorem okn_map {α : Type} {n : Nat} {xs : List α} {f : α → D} (h : ∀ x ∈ xs, Okn n (f x)) : ∀ y ∈ xs.map f, Okn n y := fun y hy => by
  obtain ⟨x, hx, rfl⟩ := List.mem_map.mp hy
  exact h x hx
theorem okn_encT (n : Nat) (xs : List Int) : Okn (n + 1) (encT xs) := okn_tup (okn_map fun x _ => okn_int n x)
theorem okn_encL (n : Nat) (xs : List Int) : Okn (n + 1) (encL xs) := okn_list (okn_map fun x _ => okn_int n x)
theorem eqvAll_map {α : Type} [DecidableEq α] {f : α → D} (h : ∀ x y, PyData.eqv (f x) (f y) = decide (x = y)) : ∀ xs ys : List α, PyData.eqvAll (xs.map f) (ys.map f) = decide (xs = ys)
  | [], [] => by unfold PyData.eqvAll; rfl
  | [], y :: ys => by simp only [List.map_cons, List.map_nil]; unfold PyData.eqvAll; rfl
  | x :: xs, [] => by simp only [List.map_cons, List.map_nil]; unfold PyData.eqvAll; rfl
  | x :: xs, y :: ys => by
    simp only [List.map_cons]
    unfold PyData.eqvAll
    rw [h, eqvAll_map h xs ys]
    by_cases e : x = y
    · by_cases e2 : xs = ys <;> simp [e, e2]
    · simp [e]
theorem eqv_int (i j : Int) : PyData.eqv (.int i) (.int j) = decide (i = j) := by
  rw [eqv_i]; by_cases h : i = j <;> simp [h]
theorem eqv_encT (xs ys : List Int) : PyData.eqv (encT xs) (encT ys) = decide (xs = ys) := by
  unfold encT PyData.eqv; exact eqvAll_map eqv_int xs ys
theorem eqv_encL (xs ys : List Int) : PyData.eqv (encL xs) (encL ys) = decide (xs = ys) := by
  unfold encL PyData.eqv; exact eqvAll_map eqv_int xs ys
mutual
theorem eqv_refl : ∀ d : D, d.canLay0 = true → PyData.eqv d d = true
  | .none, _ => by unfold PyData.eqv; rfl
  | .bool b, _ => by unfold PyData.eqv; simp
  | .int b, _ => by unfold PyData.eqv; simp
  | .str b, _ => by unfold PyData.eqv; simp
  | .list xs, h => by
    unfold PyData.canLay0 at h
    unfold PyData.eqv
    exact eqvAll_refl xs h
  | .tuple xs, h => by
    unfold PyData.canLay0 at h
    unfold PyData.eqv
    exact eqvAll_refl xs h
  | .dict _, h => by unfold PyData.canLay0 at h; cases h
theorem eqvAll_refl : ∀ xs : List D, PyData.canLayAll0 xs = true → PyData.eqvAll xs xs = true
  | [], _ => by unfold PyData.eqvAll; rfl
  | x :: xs, h => by
    unfold PyData.canLayAll0 at h
    rw [Bool.and_eq_true] at h
    unfold PyData.eqvAll
    rw [eqv_refl x h.1, eqvAll_refl xs h.2]; rfl
end
theorem any_ints (xs : List Int) (x : Int) : (xs.map PyData.int).any (fun z => PyData.eqv z (.int x)) = xs.contains x := by
  induction xs with
  | nil => rfl
  | cons y ys ih =>
    rw [List.map_cons, List.any_cons, ih, eqv_int, List.contains_cons]
    by_cases e : y = x
    · simp [e]
    · have e2 : ¬ x = y := fun h => e h.symm
      simp [e, e2]
theorem in_ints (xs : List Int) (x : Int) : cmpD .inn (.int x) (.list (xs.map .int)) = some (xs.contains x) := by
  show (if (okEq (.int x) && okEq (.list (xs.map .int))) = true then some ((xs.map PyData.int).any fun z => PyData.eqv z (.int x)) else none) = _
  rw [(okn_encL 0 xs).ok (by omega), (okn_int 0 x).ok (by omega), any_ints]; rfl
theorem ni_ints (xs : List Int) (x : Int) : cmpD .ni (.int x) (.list (xs.map .int)) = some (!xs.contains x) := by
  show (if (okEq (.int x) && okEq (.list (xs.map .int))) = true then some (!(xs.map PyData.int).any fun z => PyData.eqv z (.int x)) else none) = _
  rw [(okn_encL 0 xs).ok (by omega), (okn_int 0 x).ok (by omega), any_ints]; rfl
theorem contains_cast (xs : List Nat) (x : Nat) : (xs.map fun n => ((n : Nat) : Int)).contains (x : Int) = xs.contains x := by
  induction xs with
  | nil => rfl
  | cons y ys ih =>
    rw [List.map_cons, List.contains_cons, List.contains_cons, ih]
    have : ((x : Int) == (y : Int)) = (x == y) := by
      by_cases e : x = y
      · subst e; simp
      · have e2 : ¬ (x : Int) = (y : Int) := by omega
        rw [beq_eq_false_iff_ne.mpr e, beq_eq_false_iff_ne.mpr e2]
    rw [this]
theorem ni_nats (xs : List Nat) (x : Nat) : cmpD .ni (.int (x : Nat)) (.list (xs.map fun n => .int (n : Nat))) = some (!xs.contains x) := by
  have := ni_ints (xs.map fun n => ((n : Nat) : Int)) x
  rwa [contains_cast, List.map_map] at this
theorem in_nats (xs : List Nat) (x : Nat) : cmpD .inn (.int (x : Nat)) (.list (xs.map fun n => .int (n : Nat))) = some (xs.contains x) := by
  have := in_ints (xs.map fun n => ((n : Nat) : Int)) x
  rwa [contains_cast, List.map_map] at this
/-! ### mirrors -/
abbrev encTab (high wide : Nat) (rows : List (List Int)) : D := .tuple [.int (high : Nat), .int (wide : Nat), .tuple (rows.map encT)]
abbrev encB (rows : List (List Int)) : D := .list (rows.map encT)
theorem find_lead : ∀ (r : List Int) (n : Nat), (r.zipIdx n).find? (fun q => decide (q.1 ≠ 0)) = if leadM r < r.length then some (at0 r (leadM r), n + leadM r) else none
  | [], n => rfl
  | x :: r, n => by
    rw [List.zipIdx_cons, List.find?_cons]
    unfold leadM
    by_cases hx : x = 0
    · subst hx
      simp only [ne_eq, not_true_eq_false, decide_false, if_false]
      have := find_lead r (n + 1)
      simp only [ne_eq] at this
      rw [this]
      by_cases hl : leadM r < r.length
      · rw [if_pos hl, if_pos (by simpa using hl)]
        have e2 : n + 1 + leadM r = n + (leadM r + 1) := by omega
        rw [e2]; rfl
      · rw [if_neg hl, if_neg (by simpa using hl)]
    · simp [hx, at0]
theorem getD_map_int {rows : List (List Int)} {j : Nat} (h : j < rows.length) : (rows.map encT)[j]? = some (encT (rows.getD j [])) := by simp [h]
section
variable {tab : Nat → Option Def} {C : Nat → Option D} (T : PT tab) {k : Nat}
include T
theorem columns_g {high : D} {wide : Nat} {rows : List (List Int)} (hr : ∀ r ∈ rows, wide ≤ r.length) (hw : wide ≤ 100000) : GG tab C (k + 1) 1 [.tuple [high, .int (wide : Nat), .tuple (rows.map encT)]] = some (.ow (encB (colsM wide rows))) := by
  rw [gg (T.go 1 _ rfl)]
  have h2 : ∀ pl, pl < wide → ∀ a env, lcGo (lcT (GG tab C k) C [2] (.nm 2) .nil c_columns_of_e1 (a :: Cell.sh (.int (pl : Nat)) :: Cell.no :: env)) (rows.map encT) = some (rows.map fun r => .int (at0 r pl)) := fun pl hpl a env => by
    refine lcGo_map fun r hrr => ?_
    have := hr r hrr
    simp only [lcF_all, c_columns_of_e1, runD, getD_sh, getD_ow, getB_b, getL_t, d_sh, d_ow, getO_t, getO_f, bindT_nm, bindT_tp, setAll_nil, setAll_cons, hide_nil, hide_cons, items_l, items_t, seq_l, seq_t, zipD2, zipD3, enmD_, rev_l, rev_t, len_l, len_t, len_s, sum_l, all_l, any_l, tup_l, tup_t, lst_l, lst_t, min2_, max2_, int_i, int_b, abs_i, add_i, add_s, add_l, add_t, sub_i, mul_i, div_i, mod_i, pow_i, eq_i, ne_i, lt_i, le_i, gt_i, ge_i, isi_i, isi_ib, isi_b, isi_bi, isi_tt, isi_tn, isi_tl, isi_ll, isi_lt, isNon_n, isNon_i, isNon_t, isNon_l, isDict_i, isDict_b, isDict_t, isDict_l, isDict_n, isDict_s, ix_l, ix_t, sl_l, sl_t, atI_nat, atI_0, atI_1, atI_2, atI_3, atI_4, atI_5, atI_6, atI_7, keep_sh, keep_l, noL_i, noL_b, noL_s, noL_n, noL_t, noL_l, noLs_n, noLs_c, isNil_nil, out_rt, out_nx, ↓EE_var, varC_sh, ↓EE_cst, ↓EE_int, ↓EE_bl, ↓EE_non, ↓EE_str, ↓EE_bin, ↓EE_rep, repC_l, ↓EE_neg, negC_i, ↓EE_is, ↓EE_isn, ↓EE_eq, ↓EE_ne, ↓EE_lt, ↓EE_le, ↓EE_gt, ↓EE_ge, ↓EE_inn, ↓EE_ni, ↓EE_chain, ↓EE_and, andC_t, andC_f, ↓EE_or, orC_t, orC_f, ↓EE_not, ↓EE_ite, iteC_t, iteC_f, ↓EE_nil, ↓EE_cons, ↓EE_tup, ↓EE_lst, ↓EE_call, ↓EE_blt, ↓EE_isi, ↓EE_ix, ↓EE_sl, ↓EE_lc, ↓EE_rng, ↓EE_zip, ↓EE_enm, ↓EE_rev, ↓EE_bm, ↓EE_srt, seqR_nx, seqR_rt, seqR_bk, seqR_ct, seqR_no, iffR_t, iffR_f, appC_l, extC_l, putC_l, putX_i, popC_l, insC_l, reto_o, reto_s, unpC_t, rvsC_l, ↓EX, ↓ES_nil, ↓ES_seq, ↓ES_asg, ↓ES_unp, ↓ES_app, ↓ES_ext, ↓ES_put, ↓ES_pop, ↓ES_rvs, ↓ES_ins, ↓ES_ife, ↓ES_ret, ↓ES_reto, ↓ES_retn, ↓ES_for, ↓ES_brk, ↓ES_cnt, ↓ES_drp, forF_, shareAll_n, shareAll_c, shareAt_, shC_o, shC_s, shC_n, shC_x, memN_n, memN_c, after_, flatC_o, flatC_s, flat_i, flat_b, flat_s, flat_n, flat_l, flat_t, noLs_ints, noLs_rows, noLs_fi, q_set0, q_sets, q_get0, q_gets, q_getn, q_mapc, q_mapn, q_appc, q_appn, q_reps, q_rep0, q_bb, q_bs, q_bn, q_ms, q_mn, Nat.reduceAdd, Nat.reduceSub, q_lc, q_ln, q_pure, Bool.false_eq_true, q_ift, q_iff, q_ifb, q_ifc, ite_self, reduceCtorEq, Bool.and_true, Bool.true_and, Bool.and_false, Bool.false_and, Bool.and_self, Bool.not_true, Bool.not_false, CE.isNil, Nat.reduceEqDiff, and_self, decide_true, decide_false, atI_nat, at0_get (show pl < r.length by omega)]
  have h1 : ∀ b env, lcGo (lcT (GG tab C k) C [1] (.nm 1) .nil c_columns_of_e2 (Cell.sh (.tuple [high, .int (wide : Nat), .tuple (rows.map encT)]) :: b :: Cell.no :: env)) ((List.range wide).map fun i => PyData.int (i : Nat)) = some ((List.range wide).map fun pl => encT (rows.map fun r => at0 r pl)) := fun b env => by
    refine lcGo_map fun pl hpl => ?_
    simp only [lcF_all, c_columns_of_e2, runD, getD_sh, getD_ow, getB_b, getL_t, d_sh, d_ow, getO_t, getO_f, bindT_nm, bindT_tp, setAll_nil, setAll_cons, hide_nil, hide_cons, items_l, items_t, seq_l, seq_t, zipD2, zipD3, enmD_, rev_l, rev_t, len_l, len_t, len_s, sum_l, all_l, any_l, tup_l, tup_t, lst_l, lst_t, min2_, max2_, int_i, int_b, abs_i, add_i, add_s, add_l, add_t, sub_i, mul_i, div_i, mod_i, pow_i, eq_i, ne_i, lt_i, le_i, gt_i, ge_i, isi_i, isi_ib, isi_b, isi_bi, isi_tt, isi_tn, isi_tl, isi_ll, isi_lt, isNon_n, isNon_i, isNon_t, isNon_l, isDict_i, isDict_b, isDict_t, isDict_l, isDict_n, isDict_s, ix_l, ix_t, sl_l, sl_t, atI_nat, atI_0, atI_1, atI_2, atI_3, atI_4, atI_5, atI_6, atI_7, keep_sh, keep_l, noL_i, noL_b, noL_s, noL_n, noL_t, noL_l, noLs_n, noLs_c, isNil_nil, out_rt, out_nx, ↓EE_var, varC_sh, ↓EE_cst, ↓EE_int, ↓EE_bl, ↓EE_non, ↓EE_str, ↓EE_bin, ↓EE_rep, repC_l, ↓EE_neg, negC_i, ↓EE_is, ↓EE_isn, ↓EE_eq, ↓EE_ne, ↓EE_lt, ↓EE_le, ↓EE_gt, ↓EE_ge, ↓EE_inn, ↓EE_ni, ↓EE_chain, ↓EE_and, andC_t, andC_f, ↓EE_or, orC_t, orC_f, ↓EE_not, ↓EE_ite, iteC_t, iteC_f, ↓EE_nil, ↓EE_cons, ↓EE_tup, ↓EE_lst, ↓EE_call, ↓EE_blt, ↓EE_isi, ↓EE_ix, ↓EE_sl, ↓EE_lc, ↓EE_rng, ↓EE_zip, ↓EE_enm, ↓EE_rev, ↓EE_bm, ↓EE_srt, seqR_nx, seqR_rt, seqR_bk, seqR_ct, seqR_no, iffR_t, iffR_f, appC_l, extC_l, putC_l, putX_i, popC_l, insC_l, reto_o, reto_s, unpC_t, rvsC_l, ↓EX, ↓ES_nil, ↓ES_seq, ↓ES_asg, ↓ES_unp, ↓ES_app, ↓ES_ext, ↓ES_put, ↓ES_pop, ↓ES_rvs, ↓ES_ins, ↓ES_ife, ↓ES_ret, ↓ES_reto, ↓ES_retn, ↓ES_for, ↓ES_brk, ↓ES_cnt, ↓ES_drp, forF_, shareAll_n, shareAll_c, shareAt_, shC_o, shC_s, shC_n, shC_x, memN_n, memN_c, after_, flatC_o, flatC_s, flat_i, flat_b, flat_s, flat_n, flat_l, flat_t, noLs_ints, noLs_rows, noLs_fi, q_set0, q_sets, q_get0, q_gets, q_getn, q_mapc, q_mapn, q_appc, q_appn, q_reps, q_rep0, q_bb, q_bs, q_bn, q_ms, q_mn, Nat.reduceAdd, Nat.reduceSub, q_lc, q_ln, q_pure, Bool.false_eq_true, q_ift, q_iff, q_ifb, q_ifc, ite_self, reduceCtorEq, Bool.and_true, Bool.true_and, Bool.and_false, Bool.false_and, Bool.and_self, Bool.not_true, Bool.not_false, CE.isNil, Nat.reduceEqDiff, and_self, decide_true, decide_false, h2 pl (List.mem_range.mp hpl), encT, List.map_map, Function.comp_def]
  simp only [c_columns_of, runD, getD_sh, getD_ow, getB_b, getL_t, d_sh, d_ow, getO_t, getO_f, bindT_nm, bindT_tp, setAll_nil, setAll_cons, hide_nil, hide_cons, items_l, items_t, seq_l, seq_t, zipD2, zipD3, enmD_, rev_l, rev_t, len_l, len_t, len_s, sum_l, all_l, any_l, tup_l, tup_t, lst_l, lst_t, min2_, max2_, int_i, int_b, abs_i, add_i, add_s, add_l, add_t, sub_i, mul_i, div_i, mod_i, pow_i, eq_i, ne_i, lt_i, le_i, gt_i, ge_i, isi_i, isi_ib, isi_b, isi_bi, isi_tt, isi_tn, isi_tl, isi_ll, isi_lt, isNon_n, isNon_i, isNon_t, isNon_l, isDict_i, isDict_b, isDict_t, isDict_l, isDict_n, isDict_s, ix_l, ix_t, sl_l, sl_t, atI_nat, atI_0, atI_1, atI_2, atI_3, atI_4, atI_5, atI_6, atI_7, keep_sh, keep_l, noL_i, noL_b, noL_s, noL_n, noL_t, noL_l, noLs_n, noLs_c, isNil_nil, out_rt, out_nx, ↓EE_var, varC_sh, ↓EE_cst, ↓EE_int, ↓EE_bl, ↓EE_non, ↓EE_str, ↓EE_bin, ↓EE_rep, repC_l, ↓EE_neg, negC_i, ↓EE_is, ↓EE_isn, ↓EE_eq, ↓EE_ne, ↓EE_lt, ↓EE_le, ↓EE_gt, ↓EE_ge, ↓EE_inn, ↓EE_ni, ↓EE_chain, ↓EE_and, andC_t, andC_f, ↓EE_or, orC_t, orC_f, ↓EE_not, ↓EE_ite, iteC_t, iteC_f, ↓EE_nil, ↓EE_cons, ↓EE_tup, ↓EE_lst, ↓EE_call, ↓EE_blt, ↓EE_isi, ↓EE_ix, ↓EE_sl, ↓EE_lc, ↓EE_rng, ↓EE_zip, ↓EE_enm, ↓EE_rev, ↓EE_bm, ↓EE_srt, seqR_nx, seqR_rt, seqR_bk, seqR_ct, seqR_no, iffR_t, iffR_f, appC_l, extC_l, putC_l, putX_i, popC_l, insC_l, reto_o, reto_s, unpC_t, rvsC_l, ↓EX, ↓ES_nil, ↓ES_seq, ↓ES_asg, ↓ES_unp, ↓ES_app, ↓ES_ext, ↓ES_put, ↓ES_pop, ↓ES_rvs, ↓ES_ins, ↓ES_ife, ↓ES_ret, ↓ES_reto, ↓ES_retn, ↓ES_for, ↓ES_brk, ↓ES_cnt, ↓ES_drp, forF_, shareAll_n, shareAll_c, shareAt_, shC_o, shC_s, shC_n, shC_x, memN_n, memN_c, after_, flatC_o, flatC_s, flat_i, flat_b, flat_s, flat_n, flat_l, flat_t, noLs_ints, noLs_rows, noLs_fi, q_set0, q_sets, q_get0, q_gets, q_getn, q_mapc, q_mapn, q_appc, q_appn, q_reps, q_rep0, q_bb, q_bs, q_bn, q_ms, q_mn, Nat.reduceAdd, Nat.reduceSub, q_lc, q_ln, q_pure, Bool.false_eq_true, q_ift, q_iff, q_ifb, q_ifc, ite_self, reduceCtorEq, Bool.and_true, Bool.true_and, Bool.and_false, Bool.false_and, Bool.and_self, Bool.not_true, Bool.not_false, CE.isNil, Nat.reduceEqDiff, and_self, decide_true, decide_false, rng_nat hw, h1, colsM, encB, List.map_map, Function.comp_def]
theorem lead_g {r : List Int} {d : D} (hd : d = encT r ∨ d = encL r) : GG tab C (k + 1) 9 [d] = some (.sh (.int (leadM r : Nat))) := by
  rw [gg (T.go 9 _ rfl)]
  have h := forGo_find (xs := r.zipIdx) (env := [Cell.sh d, Cell.no, Cell.no]) (enc := fun q => PyData.tuple [.int (q.2 : Nat), .int q.1]) (R := fun env => ∃ a b, env = [Cell.sh d, a, b]) (p := fun q => decide (q.1 ≠ 0)) (c := fun q => Cell.sh (.int (q.2 : Nat)))
    (f := forF (GG tab C k) C (.tp [1, 2]) c_lead_of_b1) ⟨_, _, rfl⟩ fun q hq env hR => by
      obtain ⟨a, b, rfl⟩ := hR
      refine ⟨fun hp => ?_, fun hp => ⟨[Cell.sh d, .sh (.int (q.2 : Nat)), .sh (.int q.1)], ?_, _, _, rfl⟩⟩
      · have hp : q.1 ≠ 0 := by simpa using hp
        simp only [c_lead_of_b1, runD, getD_sh, getD_ow, getB_b, getL_t, d_sh, d_ow, getO_t, getO_f, bindT_nm, bindT_tp, setAll_nil, setAll_cons, hide_nil, hide_cons, items_l, items_t, seq_l, seq_t, zipD2, zipD3, enmD_, rev_l, rev_t, len_l, len_t, len_s, sum_l, all_l, any_l, tup_l, tup_t, lst_l, lst_t, min2_, max2_, int_i, int_b, abs_i, add_i, add_s, add_l, add_t, sub_i, mul_i, div_i, mod_i, pow_i, eq_i, ne_i, lt_i, le_i, gt_i, ge_i, isi_i, isi_ib, isi_b, isi_bi, isi_tt, isi_tn, isi_tl, isi_ll, isi_lt, isNon_n, isNon_i, isNon_t, isNon_l, isDict_i, isDict_b, isDict_t, isDict_l, isDict_n, isDict_s, ix_l, ix_t, sl_l, sl_t, atI_nat, atI_0, atI_1, atI_2, atI_3, atI_4, atI_5, atI_6, atI_7, keep_sh, keep_l, noL_i, noL_b, noL_s, noL_n, noL_t, noL_l, noLs_n, noLs_c, isNil_nil, out_rt, out_nx, ↓EE_var, varC_sh, ↓EE_cst, ↓EE_int, ↓EE_bl, ↓EE_non, ↓EE_str, ↓EE_bin, ↓EE_rep, repC_l, ↓EE_neg, negC_i, ↓EE_is, ↓EE_isn, ↓EE_eq, ↓EE_ne, ↓EE_lt, ↓EE_le, ↓EE_gt, ↓EE_ge, ↓EE_inn, ↓EE_ni, ↓EE_chain, ↓EE_and, andC_t, andC_f, ↓EE_or, orC_t, orC_f, ↓EE_not, ↓EE_ite, iteC_t, iteC_f, ↓EE_nil, ↓EE_cons, ↓EE_tup, ↓EE_lst, ↓EE_call, ↓EE_blt, ↓EE_isi, ↓EE_ix, ↓EE_sl, ↓EE_lc, ↓EE_rng, ↓EE_zip, ↓EE_enm, ↓EE_rev, ↓EE_bm, ↓EE_srt, seqR_nx, seqR_rt, seqR_bk, seqR_ct, seqR_no, iffR_t, iffR_f, appC_l, extC_l, putC_l, putX_i, popC_l, insC_l, reto_o, reto_s, unpC_t, rvsC_l, ↓EX, ↓ES_nil, ↓ES_seq, ↓ES_asg, ↓ES_unp, ↓ES_app, ↓ES_ext, ↓ES_put, ↓ES_pop, ↓ES_rvs, ↓ES_ins, ↓ES_ife, ↓ES_ret, ↓ES_reto, ↓ES_retn, ↓ES_for, ↓ES_brk, ↓ES_cnt, ↓ES_drp, forF_, shareAll_n, shareAll_c, shareAt_, shC_o, shC_s, shC_n, shC_x, memN_n, memN_c, after_, flatC_o, flatC_s, flat_i, flat_b, flat_s, flat_n, flat_l, flat_t, noLs_ints, noLs_rows, noLs_fi, q_set0, q_sets, q_get0, q_gets, q_getn, q_mapc, q_mapn, q_appc, q_appn, q_reps, q_rep0, q_bb, q_bs, q_bn, q_ms, q_mn, Nat.reduceAdd, Nat.reduceSub, q_lc, q_ln, q_pure, Bool.false_eq_true, q_ift, q_iff, q_ifb, q_ifc, ite_self, reduceCtorEq, Bool.and_true, Bool.true_and, Bool.and_false, Bool.false_and, Bool.and_self, Bool.not_true, Bool.not_false, CE.isNil, Nat.reduceEqDiff, and_self, decide_true, decide_false, hp, decide_false]
      · have hp : q.1 = 0 := by simpa using hp
        simp only [c_lead_of_b1, runD, getD_sh, getD_ow, getB_b, getL_t, d_sh, d_ow, getO_t, getO_f, bindT_nm, bindT_tp, setAll_nil, setAll_cons, hide_nil, hide_cons, items_l, items_t, seq_l, seq_t, zipD2, zipD3, enmD_, rev_l, rev_t, len_l, len_t, len_s, sum_l, all_l, any_l, tup_l, tup_t, lst_l, lst_t, min2_, max2_, int_i, int_b, abs_i, add_i, add_s, add_l, add_t, sub_i, mul_i, div_i, mod_i, pow_i, eq_i, ne_i, lt_i, le_i, gt_i, ge_i, isi_i, isi_ib, isi_b, isi_bi, isi_tt, isi_tn, isi_tl, isi_ll, isi_lt, isNon_n, isNon_i, isNon_t, isNon_l, isDict_i, isDict_b, isDict_t, isDict_l, isDict_n, isDict_s, ix_l, ix_t, sl_l, sl_t, atI_nat, atI_0, atI_1, atI_2, atI_3, atI_4, atI_5, atI_6, atI_7, keep_sh, keep_l, noL_i, noL_b, noL_s, noL_n, noL_t, noL_l, noLs_n, noLs_c, isNil_nil, out_rt, out_nx, ↓EE_var, varC_sh, ↓EE_cst, ↓EE_int, ↓EE_bl, ↓EE_non, ↓EE_str, ↓EE_bin, ↓EE_rep, repC_l, ↓EE_neg, negC_i, ↓EE_is, ↓EE_isn, ↓EE_eq, ↓EE_ne, ↓EE_lt, ↓EE_le, ↓EE_gt, ↓EE_ge, ↓EE_inn, ↓EE_ni, ↓EE_chain, ↓EE_and, andC_t, andC_f, ↓EE_or, orC_t, orC_f, ↓EE_not, ↓EE_ite, iteC_t, iteC_f, ↓EE_nil, ↓EE_cons, ↓EE_tup, ↓EE_lst, ↓EE_call, ↓EE_blt, ↓EE_isi, ↓EE_ix, ↓EE_sl, ↓EE_lc, ↓EE_rng, ↓EE_zip, ↓EE_enm, ↓EE_rev, ↓EE_bm, ↓EE_srt, seqR_nx, seqR_rt, seqR_bk, seqR_ct, seqR_no, iffR_t, iffR_f, appC_l, extC_l, putC_l, putX_i, popC_l, insC_l, reto_o, reto_s, unpC_t, rvsC_l, ↓EX, ↓ES_nil, ↓ES_seq, ↓ES_asg, ↓ES_unp, ↓ES_app, ↓ES_ext, ↓ES_put, ↓ES_pop, ↓ES_rvs, ↓ES_ins, ↓ES_ife, ↓ES_ret, ↓ES_reto, ↓ES_retn, ↓ES_for, ↓ES_brk, ↓ES_cnt, ↓ES_drp, forF_, shareAll_n, shareAll_c, shareAt_, shC_o, shC_s, shC_n, shC_x, memN_n, memN_c, after_, flatC_o, flatC_s, flat_i, flat_b, flat_s, flat_n, flat_l, flat_t, noLs_ints, noLs_rows, noLs_fi, q_set0, q_sets, q_get0, q_gets, q_getn, q_mapc, q_mapn, q_appc, q_appn, q_reps, q_rep0, q_bb, q_bs, q_bn, q_ms, q_mn, Nat.reduceAdd, Nat.reduceSub, q_lc, q_ln, q_pure, Bool.false_eq_true, q_ift, q_iff, q_ifb, q_ifc, ite_self, reduceCtorEq, Bool.and_true, Bool.true_and, Bool.and_false, Bool.false_and, Bool.and_self, Bool.not_true, Bool.not_false, CE.isNil, Nat.reduceEqDiff, and_self, decide_true, decide_false, hp, decide_true]
  have hi : itemsOf d = some (r.map .int) := by rcases hd with rfl | rfl <;> rfl
  have hlen : bltD .len [d] = some (.sh (.int r.length)) := by rcases hd with rfl | rfl <;> simp only [encT, encL, len_l, len_t, List.length_map]
  have hle := (leadM_spec r).2.1
  have hf := find_lead r 0
  simp only [c_lead_of, runD, getD_sh, getD_ow, getB_b, getL_t, d_sh, d_ow, getO_t, getO_f, bindT_nm, bindT_tp, setAll_nil, setAll_cons, hide_nil, hide_cons, items_l, items_t, seq_l, seq_t, zipD2, zipD3, enmD_, rev_l, rev_t, len_l, len_t, len_s, sum_l, all_l, any_l, tup_l, tup_t, lst_l, lst_t, min2_, max2_, int_i, int_b, abs_i, add_i, add_s, add_l, add_t, sub_i, mul_i, div_i, mod_i, pow_i, eq_i, ne_i, lt_i, le_i, gt_i, ge_i, isi_i, isi_ib, isi_b, isi_bi, isi_tt, isi_tn, isi_tl, isi_ll, isi_lt, isNon_n, isNon_i, isNon_t, isNon_l, isDict_i, isDict_b, isDict_t, isDict_l, isDict_n, isDict_s, ix_l, ix_t, sl_l, sl_t, atI_nat, atI_0, atI_1, atI_2, atI_3, atI_4, atI_5, atI_6, atI_7, keep_sh, keep_l, noL_i, noL_b, noL_s, noL_n, noL_t, noL_l, noLs_n, noLs_c, isNil_nil, out_rt, out_nx, ↓EE_var, varC_sh, ↓EE_cst, ↓EE_int, ↓EE_bl, ↓EE_non, ↓EE_str, ↓EE_bin, ↓EE_rep, repC_l, ↓EE_neg, negC_i, ↓EE_is, ↓EE_isn, ↓EE_eq, ↓EE_ne, ↓EE_lt, ↓EE_le, ↓EE_gt, ↓EE_ge, ↓EE_inn, ↓EE_ni, ↓EE_chain, ↓EE_and, andC_t, andC_f, ↓EE_or, orC_t, orC_f, ↓EE_not, ↓EE_ite, iteC_t, iteC_f, ↓EE_nil, ↓EE_cons, ↓EE_tup, ↓EE_lst, ↓EE_call, ↓EE_blt, ↓EE_isi, ↓EE_ix, ↓EE_sl, ↓EE_lc, ↓EE_rng, ↓EE_zip, ↓EE_enm, ↓EE_rev, ↓EE_bm, ↓EE_srt, seqR_nx, seqR_rt, seqR_bk, seqR_ct, seqR_no, iffR_t, iffR_f, appC_l, extC_l, putC_l, putX_i, popC_l, insC_l, reto_o, reto_s, unpC_t, rvsC_l, ↓EX, ↓ES_nil, ↓ES_seq, ↓ES_asg, ↓ES_unp, ↓ES_app, ↓ES_ext, ↓ES_put, ↓ES_pop, ↓ES_rvs, ↓ES_ins, ↓ES_ife, ↓ES_ret, ↓ES_reto, ↓ES_retn, ↓ES_for, ↓ES_brk, ↓ES_cnt, ↓ES_drp, forF_, shareAll_n, shareAll_c, shareAt_, shC_o, shC_s, shC_n, shC_x, memN_n, memN_c, after_, flatC_o, flatC_s, flat_i, flat_b, flat_s, flat_n, flat_l, flat_t, noLs_ints, noLs_rows, noLs_fi, q_set0, q_sets, q_get0, q_gets, q_getn, q_mapc, q_mapn, q_appc, q_appn, q_reps, q_rep0, q_bb, q_bs, q_bn, q_ms, q_mn, Nat.reduceAdd, Nat.reduceSub, q_lc, q_ln, q_pure, Bool.false_eq_true, q_ift, q_iff, q_ifb, q_ifc, ite_self, reduceCtorEq, Bool.and_true, Bool.true_and, Bool.and_false, Bool.false_and, Bool.and_self, Bool.not_true, Bool.not_false, CE.isNil, Nat.reduceEqDiff, and_self, decide_true, decide_false, hi, enmFrom_map]
  rcases h with ⟨q, h1, h2⟩ | ⟨h1, env', h2, a, b, rfl⟩
  · rw [hf] at h1
    split at h1
    · cases h1
      simp only [h2, runD, getD_sh, getD_ow, getB_b, getL_t, d_sh, d_ow, getO_t, getO_f, bindT_nm, bindT_tp, setAll_nil, setAll_cons, hide_nil, hide_cons, items_l, items_t, seq_l, seq_t, zipD2, zipD3, enmD_, rev_l, rev_t, len_l, len_t, len_s, sum_l, all_l, any_l, tup_l, tup_t, lst_l, lst_t, min2_, max2_, int_i, int_b, abs_i, add_i, add_s, add_l, add_t, sub_i, mul_i, div_i, mod_i, pow_i, eq_i, ne_i, lt_i, le_i, gt_i, ge_i, isi_i, isi_ib, isi_b, isi_bi, isi_tt, isi_tn, isi_tl, isi_ll, isi_lt, isNon_n, isNon_i, isNon_t, isNon_l, isDict_i, isDict_b, isDict_t, isDict_l, isDict_n, isDict_s, ix_l, ix_t, sl_l, sl_t, atI_nat, atI_0, atI_1, atI_2, atI_3, atI_4, atI_5, atI_6, atI_7, keep_sh, keep_l, noL_i, noL_b, noL_s, noL_n, noL_t, noL_l, noLs_n, noLs_c, isNil_nil, out_rt, out_nx, ↓EE_var, varC_sh, ↓EE_cst, ↓EE_int, ↓EE_bl, ↓EE_non, ↓EE_str, ↓EE_bin, ↓EE_rep, repC_l, ↓EE_neg, negC_i, ↓EE_is, ↓EE_isn, ↓EE_eq, ↓EE_ne, ↓EE_lt, ↓EE_le, ↓EE_gt, ↓EE_ge, ↓EE_inn, ↓EE_ni, ↓EE_chain, ↓EE_and, andC_t, andC_f, ↓EE_or, orC_t, orC_f, ↓EE_not, ↓EE_ite, iteC_t, iteC_f, ↓EE_nil, ↓EE_cons, ↓EE_tup, ↓EE_lst, ↓EE_call, ↓EE_blt, ↓EE_isi, ↓EE_ix, ↓EE_sl, ↓EE_lc, ↓EE_rng, ↓EE_zip, ↓EE_enm, ↓EE_rev, ↓EE_bm, ↓EE_srt, seqR_nx, seqR_rt, seqR_bk, seqR_ct, seqR_no, iffR_t, iffR_f, appC_l, extC_l, putC_l, putX_i, popC_l, insC_l, reto_o, reto_s, unpC_t, rvsC_l, ↓EX, ↓ES_nil, ↓ES_seq, ↓ES_asg, ↓ES_unp, ↓ES_app, ↓ES_ext, ↓ES_put, ↓ES_pop, ↓ES_rvs, ↓ES_ins, ↓ES_ife, ↓ES_ret, ↓ES_reto, ↓ES_retn, ↓ES_for, ↓ES_brk, ↓ES_cnt, ↓ES_drp, forF_, shareAll_n, shareAll_c, shareAt_, shC_o, shC_s, shC_n, shC_x, memN_n, memN_c, after_, flatC_o, flatC_s, flat_i, flat_b, flat_s, flat_n, flat_l, flat_t, noLs_ints, noLs_rows, noLs_fi, q_set0, q_sets, q_get0, q_gets, q_getn, q_mapc, q_mapn, q_appc, q_appn, q_reps, q_rep0, q_bb, q_bs, q_bn, q_ms, q_mn, Nat.reduceAdd, Nat.reduceSub, q_lc, q_ln, q_pure, Bool.false_eq_true, q_ift, q_iff, q_ifb, q_ifc, ite_self, reduceCtorEq, Bool.and_true, Bool.true_and, Bool.and_false, Bool.false_and, Bool.and_self, Bool.not_true, Bool.not_false, CE.isNil, Nat.reduceEqDiff, and_self, decide_true, decide_false, Nat.zero_add]
    · cases h1
  · rw [hf] at h1
    split at h1
    · cases h1
    · have : leadM r = r.length := by omega
      simp only [h2, runD, getD_sh, getD_ow, getB_b, getL_t, d_sh, d_ow, getO_t, getO_f, bindT_nm, bindT_tp, setAll_nil, setAll_cons, hide_nil, hide_cons, items_l, items_t, seq_l, seq_t, zipD2, zipD3, enmD_, rev_l, rev_t, len_l, len_t, len_s, sum_l, all_l, any_l, tup_l, tup_t, lst_l, lst_t, min2_, max2_, int_i, int_b, abs_i, add_i, add_s, add_l, add_t, sub_i, mul_i, div_i, mod_i, pow_i, eq_i, ne_i, lt_i, le_i, gt_i, ge_i, isi_i, isi_ib, isi_b, isi_bi, isi_tt, isi_tn, isi_tl, isi_ll, isi_lt, isNon_n, isNon_i, isNon_t, isNon_l, isDict_i, isDict_b, isDict_t, isDict_l, isDict_n, isDict_s, ix_l, ix_t, sl_l, sl_t, atI_nat, atI_0, atI_1, atI_2, atI_3, atI_4, atI_5, atI_6, atI_7, keep_sh, keep_l, noL_i, noL_b, noL_s, noL_n, noL_t, noL_l, noLs_n, noLs_c, isNil_nil, out_rt, out_nx, ↓EE_var, varC_sh, ↓EE_cst, ↓EE_int, ↓EE_bl, ↓EE_non, ↓EE_str, ↓EE_bin, ↓EE_rep, repC_l, ↓EE_neg, negC_i, ↓EE_is, ↓EE_isn, ↓EE_eq, ↓EE_ne, ↓EE_lt, ↓EE_le, ↓EE_gt, ↓EE_ge, ↓EE_inn, ↓EE_ni, ↓EE_chain, ↓EE_and, andC_t, andC_f, ↓EE_or, orC_t, orC_f, ↓EE_not, ↓EE_ite, iteC_t, iteC_f, ↓EE_nil, ↓EE_cons, ↓EE_tup, ↓EE_lst, ↓EE_call, ↓EE_blt, ↓EE_isi, ↓EE_ix, ↓EE_sl, ↓EE_lc, ↓EE_rng, ↓EE_zip, ↓EE_enm, ↓EE_rev, ↓EE_bm, ↓EE_srt, seqR_nx, seqR_rt, seqR_bk, seqR_ct, seqR_no, iffR_t, iffR_f, appC_l, extC_l, putC_l, putX_i, popC_l, insC_l, reto_o, reto_s, unpC_t, rvsC_l, ↓EX, ↓ES_nil, ↓ES_seq, ↓ES_asg, ↓ES_unp, ↓ES_app, ↓ES_ext, ↓ES_put, ↓ES_pop, ↓ES_rvs, ↓ES_ins, ↓ES_ife, ↓ES_ret, ↓ES_reto, ↓ES_retn, ↓ES_for, ↓ES_brk, ↓ES_cnt, ↓ES_drp, forF_, shareAll_n, shareAll_c, shareAt_, shC_o, shC_s, shC_n, shC_x, memN_n, memN_c, after_, flatC_o, flatC_s, flat_i, flat_b, flat_s, flat_n, flat_l, flat_t, noLs_ints, noLs_rows, noLs_fi, q_set0, q_sets, q_get0, q_gets, q_getn, q_mapc, q_mapn, q_appc, q_appn, q_reps, q_rep0, q_bb, q_bs, q_bn, q_ms, q_mn, Nat.reduceAdd, Nat.reduceSub, q_lc, q_ln, q_pure, Bool.false_eq_true, q_ift, q_iff, q_ifb, q_ifc, ite_self, reduceCtorEq, Bool.and_true, Bool.true_and, Bool.and_false, Bool.false_and, Bool.and_self, Bool.not_true, Bool.not_false, CE.isNil, Nat.reduceEqDiff, and_self, decide_true, decide_false, hlen, this]
end
end EV
end

section
set_option linter.all false
set_option maxRecDepth 100000
set_option maxHeartbeats 2000000
/-! EQ, part 3: the kernel; spaces carried. -/
namespace EV
open PySem L2
theorem ixN_nat {n j : Nat} (h : j < n) : ixN n (j : Int) = some j := by
  unfold ixN
  simp [h]
theorem unit_f (w pl : Nat) : ((List.range w).map fun j => PyData.int (if decide (((j : Nat) : Int) = (pl : Int)) = true then 1 else 0)) = (unitM w pl).map .int := by
  unfold unitM
  rw [List.map_map]
  refine List.map_congr_left fun j _ => ?_
  by_cases e : j = pl
  · simp [e]
  · have : ¬ (j : Int) = (pl : Int) := by omega
    simp [e, this]
theorem forGo_c {f : D → List Cell → Option Out} {x : D} {xs : List D} {env env1 : List Cell} (h : f x env = some (.nx env1)) : forGo f (x :: xs) env = forGo f xs env1 := by
  show (match f x env with
    | some (.nx env') => forGo f xs env'
    | some (.ct env') => forGo f xs env'
    | some (.bk env') => some (.nx env')
    | some (.rt c) => some (.rt c)
    | none => none) = _
  rw [h]
theorem forGo_r {f : D → List Cell → Option Out} {x : D} {xs : List D} {env : List Cell} {c : Cell} (h : f x env = some (.rt c)) : forGo f (x :: xs) env = some (.rt c) := by
  show (match f x env with
    | some (.nx env') => forGo f xs env'
    | some (.ct env') => forGo f xs env'
    | some (.bk env') => some (.nx env')
    | some (.rt c) => some (.rt c)
    | none => none) = _
  rw [h]
theorem forGo_n {f : D → List Cell → Option Out} {env : List Cell} : forGo f [] env = some (.nx env) := rfl
theorem forGo_app {α : Type} {enc g : α → D} {R : List D → List Cell → Prop} {f : D → List Cell → Option Out} {N : Nat} : ∀ {xs : List α} {acc : List D} {env : List Cell}, acc.length + xs.length ≤ N → R acc env → (∀ x ∈ xs, ∀ acc env, acc.length < N → R acc env → ∃ env', f (enc x) env = some (.nx env') ∧ R (acc ++ [g x]) env') → ∃ env', forGo f (xs.map enc) env = some (.nx env') ∧ R (acc ++ xs.map g) env'
  | [], acc, env, _, h, _ => ⟨env, rfl, by simpa using h⟩
  | x :: xs, acc, env, hN, h, st => by
    rw [List.length_cons] at hN
    obtain ⟨env1, h1, h2⟩ := st x (by simp) acc env (by omega) h
    obtain ⟨env2, h3, h4⟩ := forGo_app (xs := xs) (g := g) (R := R) (N := N) (by simp; omega) h2 fun y hy => st y (by simp [hy])
    refine ⟨env2, ?_, by simpa using h4⟩
    show (match f (enc x) env with
      | some (.nx env') => forGo f (xs.map enc) env'
      | some (.ct env') => forGo f (xs.map enc) env'
      | some (.bk env') => some (.nx env')
      | some (.rt c) => some (.rt c)
      | none => none) = _
    rw [h1]
    exact h3
theorem forGo_cnt {α β : Type} {enc : α → D} {R : Nat → β → List Cell → Prop} {step : β → α → β} {f : D → List Cell → Option Out} {N : Nat} : ∀ {xs : List α} {n : Nat} {b : β} {env : List Cell}, n + xs.length ≤ N → R n b env → (∀ x ∈ xs, ∀ n b env, n < N → R n b env → ∃ env', f (enc x) env = some (.nx env') ∧ R (n + 1) (step b x) env') → ∃ env', forGo f (xs.map enc) env = some (.nx env') ∧ R (n + xs.length) (xs.foldl step b) env'
  | [], n, b, env, _, hb, _ => ⟨env, rfl, hb⟩
  | x :: xs, n, b, env, hN, hb, h => by
    rw [List.length_cons] at hN
    obtain ⟨env1, h1, h2⟩ := h x (by simp) n b env (by omega) hb
    obtain ⟨env2, h3, h4⟩ := forGo_cnt (xs := xs) (step := step) (N := N) (by omega) h2 fun y hy => h y (by simp [hy])
    refine ⟨env2, ?_, by rwa [List.length_cons, show n + (xs.length + 1) = n + 1 + xs.length by omega]⟩
    show (match f (enc x) env with
      | some (.nx env') => forGo f (xs.map enc) env'
      | some (.ct env') => forGo f (xs.map enc) env'
      | some (.bk env') => some (.nx env')
      | some (.rt c) => some (.rt c)
      | none => none) = _
    rw [h1]
    exact h3
theorem foldl_filter {α β : Type} (q : α → Bool) (f : α → β) : ∀ (xs : List α) (acc : List β), xs.foldl (fun acc x => if q x = true then acc ++ [f x] else acc) acc = acc ++ (xs.filter q).map f
  | [], acc => by simp
  | x :: xs, acc => by
    rw [List.foldl_cons, foldl_filter q f xs]
    cases h : q x <;> simp [h]
section
variable {tab : Nat → Option Def} {C : Nat → Option D} (T : PT tab) {k : Nat}
theorem kput {p : Int} {pl wide : Nat} (hp : 0 < p) {c1 c2 c3 c4 c6 c8 : Cell} {qs : List (List Int × Nat)} {l : List Int} {c5 c10 : Cell} (hl : l.length = wide) (hq : ∀ q ∈ qs, q.2 < wide ∧ pl < q.1.length) :
    ∃ c5' c10', forGo (forF (GG tab C k) C (.tp [5, 10]) c_kernel_b1) (qs.map fun q => PyData.tuple [encT q.1, .int (q.2 : Nat)]) [.sh (.int p), c1, c2, c3, c4, c5, c6, .sh (.int (pl : Nat)), c8, .ow (encL l), c10] = some (.nx [.sh (.int p), c1, c2, c3, c4, c5', c6, .sh (.int (pl : Nat)), c8, .ow (encL (qs.foldl (fun l q => l.set q.2 ((0 - at0 q.1 pl) % p)) l)), c10']) := by
  obtain ⟨env', h1, _, c5', c10', rfl⟩ := forGo_inv (f := forF (GG tab C k) C (.tp [5, 10]) c_kernel_b1) (enc := fun q : List Int × Nat => PyData.tuple [encT q.1, .int (q.2 : Nat)]) (step := fun (l : List Int) (q : List Int × Nat) => l.set q.2 ((0 - at0 q.1 pl) % p))
    (R := fun l env => l.length = wide ∧ ∃ c5 c10, env = [.sh (.int p), c1, c2, c3, c4, c5, c6, .sh (.int (pl : Nat)), c8, .ow (encL l), c10]) (xs := qs) (b := l) (env := [.sh (.int p), c1, c2, c3, c4, c5, c6, .sh (.int (pl : Nat)), c8, .ow (encL l), c10]) ⟨hl, _, _, rfl⟩ fun q hqm b env hR => by
      obtain ⟨hb, c5, c10, rfl⟩ := hR
      obtain ⟨h1, h2⟩ := hq q hqm
      have hi : ixN b.length (q.2 : Int) = some q.2 := ixN_nat (by omega)
      simp only [c_kernel_b1, runD, getD_sh, getD_ow, getB_b, getL_t, d_sh, d_ow, getO_t, getO_f, bindT_nm, bindT_tp, setAll_nil, setAll_cons, hide_nil, hide_cons, items_l, items_t, seq_l, seq_t, zipD2, zipD3, enmD_, rev_l, rev_t, len_l, len_t, len_s, sum_l, all_l, any_l, tup_l, tup_t, lst_l, lst_t, min2_, max2_, int_i, int_b, abs_i, add_i, add_s, add_l, add_t, sub_i, mul_i, div_i, mod_i, pow_i, eq_i, ne_i, lt_i, le_i, gt_i, ge_i, isi_i, isi_ib, isi_b, isi_bi, isi_tt, isi_tn, isi_tl, isi_ll, isi_lt, isNon_n, isNon_i, isNon_t, isNon_l, isDict_i, isDict_b, isDict_t, isDict_l, isDict_n, isDict_s, ix_l, ix_t, sl_l, sl_t, atI_nat, atI_0, atI_1, atI_2, atI_3, atI_4, atI_5, atI_6, atI_7, keep_sh, keep_l, noL_i, noL_b, noL_s, noL_n, noL_t, noL_l, noLs_n, noLs_c, isNil_nil, out_rt, out_nx, ↓EE_var, varC_sh, ↓EE_cst, ↓EE_int, ↓EE_bl, ↓EE_non, ↓EE_str, ↓EE_bin, ↓EE_rep, repC_l, ↓EE_neg, negC_i, ↓EE_is, ↓EE_isn, ↓EE_eq, ↓EE_ne, ↓EE_lt, ↓EE_le, ↓EE_gt, ↓EE_ge, ↓EE_inn, ↓EE_ni, ↓EE_chain, ↓EE_and, andC_t, andC_f, ↓EE_or, orC_t, orC_f, ↓EE_not, ↓EE_ite, iteC_t, iteC_f, ↓EE_nil, ↓EE_cons, ↓EE_tup, ↓EE_lst, ↓EE_call, ↓EE_blt, ↓EE_isi, ↓EE_ix, ↓EE_sl, ↓EE_lc, ↓EE_rng, ↓EE_zip, ↓EE_enm, ↓EE_rev, ↓EE_bm, ↓EE_srt, seqR_nx, seqR_rt, seqR_bk, seqR_ct, seqR_no, iffR_t, iffR_f, appC_l, extC_l, putC_l, putX_i, popC_l, insC_l, reto_o, reto_s, unpC_t, rvsC_l, ↓EX, ↓ES_nil, ↓ES_seq, ↓ES_asg, ↓ES_unp, ↓ES_app, ↓ES_ext, ↓ES_put, ↓ES_pop, ↓ES_rvs, ↓ES_ins, ↓ES_ife, ↓ES_ret, ↓ES_reto, ↓ES_retn, ↓ES_for, ↓ES_brk, ↓ES_cnt, ↓ES_drp, forF_, shareAll_n, shareAll_c, shareAt_, shC_o, shC_s, shC_n, shC_x, memN_n, memN_c, after_, flatC_o, flatC_s, flat_i, flat_b, flat_s, flat_n, flat_l, flat_t, noLs_ints, noLs_rows, noLs_fi, q_set0, q_sets, q_get0, q_gets, q_getn, q_mapc, q_mapn, q_appc, q_appn, q_reps, q_rep0, q_bb, q_bs, q_bn, q_ms, q_mn, Nat.reduceAdd, Nat.reduceSub, q_lc, q_ln, q_pure, Bool.false_eq_true, q_ift, q_iff, q_ifb, q_ifc, ite_self, reduceCtorEq, Bool.and_true, Bool.true_and, Bool.and_false, Bool.false_and, Bool.and_self, Bool.not_true, Bool.not_false, CE.isNil, Nat.reduceEqDiff, and_self, decide_true, decide_false, atI_nat, at0_get h2, hp, List.length_map, hi, ← List.map_set]
      exact ⟨_, rfl, by rw [List.length_set]; exact hb, _, _, rfl⟩
  exact ⟨c5', c10', h1⟩
abbrev encNs (xs : List Nat) : D := .list (xs.map fun n => .int (n : Nat))
include T
theorem kernel_turn {p : Int} {wide : Nat} {tb : Cell} {base : List (List Int)} (hp : 0 < p) (hw : wide ≤ 1000) (hB : Rws p wide base) (hl : ∀ r ∈ base, leadM r < wide) {pl : Nat} (hpl : pl < wide) {acc : List (List Int)} (ha : acc.length < 100000) {c3 c4 c5 c8 c9 c10 : Cell} {c7 : Cell}
    (h3 : c3 = .ow (encB base) ∨ c3 = .sh (encB base)) (h4 : c4 = .ow (encNs (base.map leadM)) ∨ c4 = .sh (encNs (base.map leadM))) :
    ∃ c3' c4' c5' c7' c8' c9' c10', (c3' = .ow (encB base) ∨ c3' = .sh (encB base)) ∧ (c4' = .ow (encNs (base.map leadM)) ∨ c4' = .sh (encNs (base.map leadM))) ∧
    forF (GG tab C k) C (.nm 7) c_kernel_b3 (.int (pl : Nat)) [.sh (.int p), tb, .sh (.int (wide : Nat)), c3, c4, c5, .ow (.list (acc.map encL)), c7, c8, c9, c10] =
      some (.nx [.sh (.int p), tb, .sh (.int (wide : Nat)), c3', c4', c5', .ow (.list ((if (!(base.map leadM).contains pl) = true then acc ++ [kloadM p wide base pl] else acc).map encL)), c7', c8', c9', c10']) := by
  have hz : ∀ q ∈ base.zip (base.map leadM), q.2 < wide ∧ pl < q.1.length := fun q hq => by
    obtain ⟨i, hi, rfl⟩ := List.mem_iff_getElem.mp hq
    have hi' : i < base.length := by simpa using hi
    have hm := List.getElem_mem hi'
    refine ⟨?_, ?_⟩
    · simp only [List.getElem_zip, List.getElem_map]; exact hl _ hm
    · simp only [List.getElem_zip]; rw [(hB _ hm).1]; exact hpl
  have h1 : ∀ c0 c1 c3 c4 c5 c6 c8 c9 c10, lcGo (lcT (GG tab C k) C [8] (.nm 8) .nil c_kernel_e2 [c0, c1, .sh (.int (wide : Nat)), c3, c4, c5, c6, .sh (.int (pl : Nat)), c8, c9, c10]) ((List.range wide).map fun i => PyData.int (i : Nat)) = some ((unitM wide pl).map .int) := fun c0 c1 c3 c4 c5 c6 c8 c9 c10 => by
    rw [← unit_f]
    refine lcGo_map fun j hj => ?_
    simp only [lcF_all, c_kernel_e2, runD, getD_sh, getD_ow, getB_b, getL_t, d_sh, d_ow, getO_t, getO_f, bindT_nm, bindT_tp, setAll_nil, setAll_cons, hide_nil, hide_cons, items_l, items_t, seq_l, seq_t, zipD2, zipD3, enmD_, rev_l, rev_t, len_l, len_t, len_s, sum_l, all_l, any_l, tup_l, tup_t, lst_l, lst_t, min2_, max2_, int_i, int_b, abs_i, add_i, add_s, add_l, add_t, sub_i, mul_i, div_i, mod_i, pow_i, eq_i, ne_i, lt_i, le_i, gt_i, ge_i, isi_i, isi_ib, isi_b, isi_bi, isi_tt, isi_tn, isi_tl, isi_ll, isi_lt, isNon_n, isNon_i, isNon_t, isNon_l, isDict_i, isDict_b, isDict_t, isDict_l, isDict_n, isDict_s, ix_l, ix_t, sl_l, sl_t, atI_nat, atI_0, atI_1, atI_2, atI_3, atI_4, atI_5, atI_6, atI_7, keep_sh, keep_l, noL_i, noL_b, noL_s, noL_n, noL_t, noL_l, noLs_n, noLs_c, isNil_nil, out_rt, out_nx, ↓EE_var, varC_sh, ↓EE_cst, ↓EE_int, ↓EE_bl, ↓EE_non, ↓EE_str, ↓EE_bin, ↓EE_rep, repC_l, ↓EE_neg, negC_i, ↓EE_is, ↓EE_isn, ↓EE_eq, ↓EE_ne, ↓EE_lt, ↓EE_le, ↓EE_gt, ↓EE_ge, ↓EE_inn, ↓EE_ni, ↓EE_chain, ↓EE_and, andC_t, andC_f, ↓EE_or, orC_t, orC_f, ↓EE_not, ↓EE_ite, iteC_t, iteC_f, ↓EE_nil, ↓EE_cons, ↓EE_tup, ↓EE_lst, ↓EE_call, ↓EE_blt, ↓EE_isi, ↓EE_ix, ↓EE_sl, ↓EE_lc, ↓EE_rng, ↓EE_zip, ↓EE_enm, ↓EE_rev, ↓EE_bm, ↓EE_srt, seqR_nx, seqR_rt, seqR_bk, seqR_ct, seqR_no, iffR_t, iffR_f, appC_l, extC_l, putC_l, putX_i, popC_l, insC_l, reto_o, reto_s, unpC_t, rvsC_l, ↓EX, ↓ES_nil, ↓ES_seq, ↓ES_asg, ↓ES_unp, ↓ES_app, ↓ES_ext, ↓ES_put, ↓ES_pop, ↓ES_rvs, ↓ES_ins, ↓ES_ife, ↓ES_ret, ↓ES_reto, ↓ES_retn, ↓ES_for, ↓ES_brk, ↓ES_cnt, ↓ES_drp, forF_, shareAll_n, shareAll_c, shareAt_, shC_o, shC_s, shC_n, shC_x, memN_n, memN_c, after_, flatC_o, flatC_s, flat_i, flat_b, flat_s, flat_n, flat_l, flat_t, noLs_ints, noLs_rows, noLs_fi, q_set0, q_sets, q_get0, q_gets, q_getn, q_mapc, q_mapn, q_appc, q_appn, q_reps, q_rep0, q_bb, q_bs, q_bn, q_ms, q_mn, Nat.reduceAdd, Nat.reduceSub, q_lc, q_ln, q_pure, Bool.false_eq_true, q_ift, q_iff, q_ifb, q_ifc, ite_self, reduceCtorEq, Bool.and_true, Bool.true_and, Bool.and_false, Bool.false_and, Bool.and_self, Bool.not_true, Bool.not_false, CE.isNil, Nat.reduceEqDiff, and_self, decide_true, decide_false]
  have hbig : wide ≤ 100000 := by omega
  have hlen : acc.length < big := by unfold big; omega
  have hk : ∀ c1 c2 c3 c4 c5 c6 c8 c10, ∃ c5' c10', forGo (forF (GG tab C k) C (.tp [5, 10]) c_kernel_b1) ((base.zip (base.map leadM)).map fun q => PyData.tuple [encT q.1, .int (q.2 : Nat)]) [.sh (.int p), c1, c2, c3, c4, c5, c6, .sh (.int (pl : Nat)), c8, .ow (encL (unitM wide pl)), c10] = some (.nx [.sh (.int p), c1, c2, c3, c4, c5', c6, .sh (.int (pl : Nat)), c8, .ow (encL (kloadM p wide base pl)), c10']) := fun c1 c2 c3 c4 c5 c6 c8 c10 =>
    kput hp (unitM_len wide pl) hz
  have fin : encL (kloadM p wide base pl) = .list ((kloadM p wide base pl).map .int) := rfl
  cases hc : (base.map leadM).contains pl with
  | true =>
    rcases h3 with rfl | rfl <;> rcases h4 with rfl | rfl
    all_goals
      simp only [c_kernel_b3, runD, getD_sh, getD_ow, getB_b, getL_t, d_sh, d_ow, getO_t, getO_f, bindT_nm, bindT_tp, setAll_nil, setAll_cons, hide_nil, hide_cons, items_l, items_t, seq_l, seq_t, zipD2, zipD3, enmD_, rev_l, rev_t, len_l, len_t, len_s, sum_l, all_l, any_l, tup_l, tup_t, lst_l, lst_t, min2_, max2_, int_i, int_b, abs_i, add_i, add_s, add_l, add_t, sub_i, mul_i, div_i, mod_i, pow_i, eq_i, ne_i, lt_i, le_i, gt_i, ge_i, isi_i, isi_ib, isi_b, isi_bi, isi_tt, isi_tn, isi_tl, isi_ll, isi_lt, isNon_n, isNon_i, isNon_t, isNon_l, isDict_i, isDict_b, isDict_t, isDict_l, isDict_n, isDict_s, ix_l, ix_t, sl_l, sl_t, atI_nat, atI_0, atI_1, atI_2, atI_3, atI_4, atI_5, atI_6, atI_7, keep_sh, keep_l, noL_i, noL_b, noL_s, noL_n, noL_t, noL_l, noLs_n, noLs_c, isNil_nil, out_rt, out_nx, ↓EE_var, varC_sh, ↓EE_cst, ↓EE_int, ↓EE_bl, ↓EE_non, ↓EE_str, ↓EE_bin, ↓EE_rep, repC_l, ↓EE_neg, negC_i, ↓EE_is, ↓EE_isn, ↓EE_eq, ↓EE_ne, ↓EE_lt, ↓EE_le, ↓EE_gt, ↓EE_ge, ↓EE_inn, ↓EE_ni, ↓EE_chain, ↓EE_and, andC_t, andC_f, ↓EE_or, orC_t, orC_f, ↓EE_not, ↓EE_ite, iteC_t, iteC_f, ↓EE_nil, ↓EE_cons, ↓EE_tup, ↓EE_lst, ↓EE_call, ↓EE_blt, ↓EE_isi, ↓EE_ix, ↓EE_sl, ↓EE_lc, ↓EE_rng, ↓EE_zip, ↓EE_enm, ↓EE_rev, ↓EE_bm, ↓EE_srt, seqR_nx, seqR_rt, seqR_bk, seqR_ct, seqR_no, iffR_t, iffR_f, appC_l, extC_l, putC_l, putX_i, popC_l, insC_l, reto_o, reto_s, unpC_t, rvsC_l, ↓EX, ↓ES_nil, ↓ES_seq, ↓ES_asg, ↓ES_unp, ↓ES_app, ↓ES_ext, ↓ES_put, ↓ES_pop, ↓ES_rvs, ↓ES_ins, ↓ES_ife, ↓ES_ret, ↓ES_reto, ↓ES_retn, ↓ES_for, ↓ES_brk, ↓ES_cnt, ↓ES_drp, forF_, shareAll_n, shareAll_c, shareAt_, shC_o, shC_s, shC_n, shC_x, memN_n, memN_c, after_, flatC_o, flatC_s, flat_i, flat_b, flat_s, flat_n, flat_l, flat_t, noLs_ints, noLs_rows, noLs_fi, q_set0, q_sets, q_get0, q_gets, q_getn, q_mapc, q_mapn, q_appc, q_appn, q_reps, q_rep0, q_bb, q_bs, q_bn, q_ms, q_mn, Nat.reduceAdd, Nat.reduceSub, q_lc, q_ln, q_pure, Bool.false_eq_true, q_ift, q_iff, q_ifb, q_ifc, ite_self, reduceCtorEq, Bool.and_true, Bool.true_and, Bool.and_false, Bool.false_and, Bool.and_self, Bool.not_true, Bool.not_false, CE.isNil, Nat.reduceEqDiff, and_self, decide_true, decide_false, ni_nats, hc, encNs]
      refine ⟨_, _, _, _, _, _, _, ?_, ?_, rfl⟩ <;> simp
  | false =>
    rcases h3 with rfl | rfl <;> rcases h4 with rfl | rfl
    all_goals
      obtain ⟨c5', c10', hk1⟩ := hk tb (.sh (.int (wide : Nat))) (.sh (encB base)) (.sh (encNs (base.map leadM))) c5 (.ow (.list (acc.map encL))) c8 c10
      simp only [c_kernel_b3, runD, getD_sh, getD_ow, getB_b, getL_t, d_sh, d_ow, getO_t, getO_f, bindT_nm, bindT_tp, setAll_nil, setAll_cons, hide_nil, hide_cons, items_l, items_t, seq_l, seq_t, zipD2, zipD3, enmD_, rev_l, rev_t, len_l, len_t, len_s, sum_l, all_l, any_l, tup_l, tup_t, lst_l, lst_t, min2_, max2_, int_i, int_b, abs_i, add_i, add_s, add_l, add_t, sub_i, mul_i, div_i, mod_i, pow_i, eq_i, ne_i, lt_i, le_i, gt_i, ge_i, isi_i, isi_ib, isi_b, isi_bi, isi_tt, isi_tn, isi_tl, isi_ll, isi_lt, isNon_n, isNon_i, isNon_t, isNon_l, isDict_i, isDict_b, isDict_t, isDict_l, isDict_n, isDict_s, ix_l, ix_t, sl_l, sl_t, atI_nat, atI_0, atI_1, atI_2, atI_3, atI_4, atI_5, atI_6, atI_7, keep_sh, keep_l, noL_i, noL_b, noL_s, noL_n, noL_t, noL_l, noLs_n, noLs_c, isNil_nil, out_rt, out_nx, ↓EE_var, varC_sh, ↓EE_cst, ↓EE_int, ↓EE_bl, ↓EE_non, ↓EE_str, ↓EE_bin, ↓EE_rep, repC_l, ↓EE_neg, negC_i, ↓EE_is, ↓EE_isn, ↓EE_eq, ↓EE_ne, ↓EE_lt, ↓EE_le, ↓EE_gt, ↓EE_ge, ↓EE_inn, ↓EE_ni, ↓EE_chain, ↓EE_and, andC_t, andC_f, ↓EE_or, orC_t, orC_f, ↓EE_not, ↓EE_ite, iteC_t, iteC_f, ↓EE_nil, ↓EE_cons, ↓EE_tup, ↓EE_lst, ↓EE_call, ↓EE_blt, ↓EE_isi, ↓EE_ix, ↓EE_sl, ↓EE_lc, ↓EE_rng, ↓EE_zip, ↓EE_enm, ↓EE_rev, ↓EE_bm, ↓EE_srt, seqR_nx, seqR_rt, seqR_bk, seqR_ct, seqR_no, iffR_t, iffR_f, appC_l, extC_l, putC_l, putX_i, popC_l, insC_l, reto_o, reto_s, unpC_t, rvsC_l, ↓EX, ↓ES_nil, ↓ES_seq, ↓ES_asg, ↓ES_unp, ↓ES_app, ↓ES_ext, ↓ES_put, ↓ES_pop, ↓ES_rvs, ↓ES_ins, ↓ES_ife, ↓ES_ret, ↓ES_reto, ↓ES_retn, ↓ES_for, ↓ES_brk, ↓ES_cnt, ↓ES_drp, forF_, shareAll_n, shareAll_c, shareAt_, shC_o, shC_s, shC_n, shC_x, memN_n, memN_c, after_, flatC_o, flatC_s, flat_i, flat_b, flat_s, flat_n, flat_l, flat_t, noLs_ints, noLs_rows, noLs_fi, q_set0, q_sets, q_get0, q_gets, q_getn, q_mapc, q_mapn, q_appc, q_appn, q_reps, q_rep0, q_bb, q_bs, q_bn, q_ms, q_mn, Nat.reduceAdd, Nat.reduceSub, q_lc, q_ln, q_pure, Bool.false_eq_true, q_ift, q_iff, q_ifb, q_ifc, ite_self, reduceCtorEq, Bool.and_true, Bool.true_and, Bool.and_false, Bool.false_and, Bool.and_self, Bool.not_true, Bool.not_false, CE.isNil, Nat.reduceEqDiff, and_self, decide_true, decide_false, ni_nats, hc, encNs, rng_nat hbig, h1, zip2_map, hk1, List.length_map, hlen, List.map_append]
      refine ⟨_, _, _, _, _, _, _, ?_, ?_, rfl⟩ <;> simp
omit T in
theorem lead_base {p : Int} {wide : Nat} {rows : List (List Int)} (hp : P4 p) (hr : Rws p wide rows) : ∀ r ∈ baseM p wide rows, leadM r < wide := fun r hm => by
  obtain ⟨K, _, _⟩ := hp.fld
  obtain ⟨⟨ld, h1, h2⟩, _⟩ := base_spec (K := K) hp hr
  obtain ⟨i, hi, rfl⟩ := List.mem_iff_getElem.mp hm
  rw [lead_red (K := K) hp.pos (baseM_ok (long := wide) hp hr (Nat.le_refl _)).1 h1 hi]
  exact h2 i hi
omit T in
theorem kernelM_ok {p : Int} {wide : Nat} {rows : List (List Int)} (hp : P4 p) (hr : Rws p wide rows) : Rws p wide (kernelM p wide rows) ∧ (kernelM p wide rows).length ≤ wide := by
  obtain ⟨K, _, _⟩ := hp.fld
  refine ⟨(kernel_spec (K := K) hp hr).1, ?_⟩
  obtain ⟨⟨ld, hred, hl⟩, hsp⟩ := base_spec (K := K) hp hr
  have hB := (baseM_ok (long := wide) hp hr (Nat.le_refl _)).1
  have hR : Rws p wide ((kplM wide (baseM p wide rows)).map (kloadM p wide (baseM p wide rows))) := fun r hr => by
    obtain ⟨pl, hpl, rfl⟩ := List.mem_map.mp hr
    have hm := (mem_kpl hp.pos hB hred).mp hpl
    have := kload_spec (K := K) hp hB hred hl hm.1 hm.2
    exact ⟨this.1, this.2.1⟩
  have := (baseM_ok (long := wide) hp hR (Nat.le_refl _)).2
  have h2 : (kplM wide (baseM p wide rows)).length ≤ wide := by
    have := List.length_filter_le (fun pl => !((baseM p wide rows).map leadM).contains pl) (List.range wide)
    rwa [List.length_range] at this
  rw [List.length_map] at this
  unfold kernelM
  omega
theorem kernel_g {p : Int} {wide : Nat} {hi : D} {rows : List (List Int)} (hp : P4 p) (hw : wide ≤ 1000) (hn : rows.length ≤ 1000) (hr : Rws p wide rows) :
    GG tab C (k + 3) 10 [.int p, .tuple [hi, .int (wide : Nat), .tuple (rows.map encT)]] = some (.ow (encB (kernelM p wide rows))) := by
  rw [gg (T.go 10 _ rfl)]
  have hb := base_g T (C := C) (k := k) (ls := .tuple (rows.map encT)) hp hn rfl hr (Nat.le_refl _) (Nat.le_refl wide) hw
  have hB := (baseM_ok (long := wide) hp hr (Nat.le_refl _)).1
  have hL := lead_base hp hr
  have hred : Rws p wide ((kplM wide (baseM p wide rows)).map (kloadM p wide (baseM p wide rows))) := fun r h => by
    obtain ⟨K, _, _⟩ := hp.fld
    obtain ⟨⟨ld, h1, h2⟩, _⟩ := base_spec (K := K) hp hr
    obtain ⟨pl, hpl, rfl⟩ := List.mem_map.mp h
    have hm := (mem_kpl hp.pos hB h1).mp hpl
    have := kload_spec (K := K) hp hB h1 h2 hm.1 hm.2
    exact ⟨this.1, this.2.1⟩
  have hlen : ((kplM wide (baseM p wide rows)).map (kloadM p wide (baseM p wide rows))).length ≤ 1000 := by
    have := List.length_filter_le (fun pl => !((baseM p wide rows).map leadM).contains pl) (List.range wide)
    rw [List.length_range] at this
    rw [List.length_map]
    exact Nat.le_trans this hw
  have hb2 := base_f T (C := C) (k := k) (ls := .list (((kplM wide (baseM p wide rows)).map (kloadM p wide (baseM p wide rows))).map encL)) (.inr rfl) hp (Nat.le_refl _) rfl hred hlen (Nat.le_refl wide) hw
  generalize hBe : baseM p wide rows = B at *
  have h4 : ∀ a b c d e env, lcGo (lcT (GG tab C (k + 2)) C [5] (.nm 5) .nil c_kernel_e4 (a :: b :: c :: d :: e :: .no :: env)) (B.map encT) = some ((B.map leadM).map fun n => .int (n : Nat)) := fun a b c d e env => by
    rw [List.map_map]
    refine lcGo_map fun r hr => ?_
    have hl := lead_g T (C := C) (k := k + 1) (r := r) (d := encT r) (.inl rfl)
    simp only [lcF_all, c_kernel_e4, runD, getD_sh, getD_ow, getB_b, getL_t, d_sh, d_ow, getO_t, getO_f, bindT_nm, bindT_tp, setAll_nil, setAll_cons, hide_nil, hide_cons, items_l, items_t, seq_l, seq_t, zipD2, zipD3, enmD_, rev_l, rev_t, len_l, len_t, len_s, sum_l, all_l, any_l, tup_l, tup_t, lst_l, lst_t, min2_, max2_, int_i, int_b, abs_i, add_i, add_s, add_l, add_t, sub_i, mul_i, div_i, mod_i, pow_i, eq_i, ne_i, lt_i, le_i, gt_i, ge_i, isi_i, isi_ib, isi_b, isi_bi, isi_tt, isi_tn, isi_tl, isi_ll, isi_lt, isNon_n, isNon_i, isNon_t, isNon_l, isDict_i, isDict_b, isDict_t, isDict_l, isDict_n, isDict_s, ix_l, ix_t, sl_l, sl_t, atI_nat, atI_0, atI_1, atI_2, atI_3, atI_4, atI_5, atI_6, atI_7, keep_sh, keep_l, noL_i, noL_b, noL_s, noL_n, noL_t, noL_l, noLs_n, noLs_c, isNil_nil, out_rt, out_nx, ↓EE_var, varC_sh, ↓EE_cst, ↓EE_int, ↓EE_bl, ↓EE_non, ↓EE_str, ↓EE_bin, ↓EE_rep, repC_l, ↓EE_neg, negC_i, ↓EE_is, ↓EE_isn, ↓EE_eq, ↓EE_ne, ↓EE_lt, ↓EE_le, ↓EE_gt, ↓EE_ge, ↓EE_inn, ↓EE_ni, ↓EE_chain, ↓EE_and, andC_t, andC_f, ↓EE_or, orC_t, orC_f, ↓EE_not, ↓EE_ite, iteC_t, iteC_f, ↓EE_nil, ↓EE_cons, ↓EE_tup, ↓EE_lst, ↓EE_call, ↓EE_blt, ↓EE_isi, ↓EE_ix, ↓EE_sl, ↓EE_lc, ↓EE_rng, ↓EE_zip, ↓EE_enm, ↓EE_rev, ↓EE_bm, ↓EE_srt, seqR_nx, seqR_rt, seqR_bk, seqR_ct, seqR_no, iffR_t, iffR_f, appC_l, extC_l, putC_l, putX_i, popC_l, insC_l, reto_o, reto_s, unpC_t, rvsC_l, ↓EX, ↓ES_nil, ↓ES_seq, ↓ES_asg, ↓ES_unp, ↓ES_app, ↓ES_ext, ↓ES_put, ↓ES_pop, ↓ES_rvs, ↓ES_ins, ↓ES_ife, ↓ES_ret, ↓ES_reto, ↓ES_retn, ↓ES_for, ↓ES_brk, ↓ES_cnt, ↓ES_drp, forF_, shareAll_n, shareAll_c, shareAt_, shC_o, shC_s, shC_n, shC_x, memN_n, memN_c, after_, flatC_o, flatC_s, flat_i, flat_b, flat_s, flat_n, flat_l, flat_t, noLs_ints, noLs_rows, noLs_fi, q_set0, q_sets, q_get0, q_gets, q_getn, q_mapc, q_mapn, q_appc, q_appn, q_reps, q_rep0, q_bb, q_bs, q_bn, q_ms, q_mn, Nat.reduceAdd, Nat.reduceSub, q_lc, q_ln, q_pure, Bool.false_eq_true, q_ift, q_iff, q_ifb, q_ifc, ite_self, reduceCtorEq, Bool.and_true, Bool.true_and, Bool.and_false, Bool.false_and, Bool.and_self, Bool.not_true, Bool.not_false, CE.isNil, Nat.reduceEqDiff, and_self, decide_true, decide_false, hl, Function.comp_def]
  obtain ⟨env', h5, _, c3, c4, c5, c7, c8, c9, c10, _, _, rfl⟩ := forGo_cnt (f := forF (GG tab C (k + 2)) C (.nm 7) c_kernel_b3) (enc := fun i : Nat => PyData.int (i : Nat)) (xs := List.range wide) (b := []) (n := 0) (N := wide)
    (step := fun acc pl => if (!(B.map leadM).contains pl) = true then acc ++ [kloadM p wide B pl] else acc)
    (R := fun n acc env => acc.length ≤ n ∧ ∃ c3 c4 c5 c7 c8 c9 c10, (c3 = .ow (encB B) ∨ c3 = .sh (encB B)) ∧ (c4 = .ow (encNs (B.map leadM)) ∨ c4 = .sh (encNs (B.map leadM))) ∧ env = [Cell.sh (.int p), .sh (.tuple [hi, .int (wide : Nat), .tuple (rows.map encT)]), .sh (.int (wide : Nat)), c3, c4, c5, .ow (.list (acc.map encL)), c7, c8, c9, c10])
    (env := [Cell.sh (.int p), .sh (.tuple [hi, .int (wide : Nat), .tuple (rows.map encT)]), .sh (.int (wide : Nat)), .ow (encB B), .ow (encNs (B.map leadM)), .no, .ow (.list []), .no, .no, .no, .no]) (by simp) ⟨by simp, _, _, _, _, _, _, _, .inl rfl, .inl rfl, rfl⟩ fun pl hpl n acc env hn2 hR => by
      obtain ⟨ha, c3, c4, c5, c7, c8, c9, c10, h3, h4, rfl⟩ := hR
      obtain ⟨c3', c4', c5', c7', c8', c9', c10', h3', h4', e⟩ := kernel_turn T (C := C) (k := k + 2) (tb := .sh (.tuple [hi, .int (wide : Nat), .tuple (rows.map encT)])) (c5 := c5) (c7 := c7) (c8 := c8) (c9 := c9) (c10 := c10) hp.pos hw hB hL (List.mem_range.mp hpl) (acc := acc) (by omega) h3 h4
      refine ⟨_, e, ?_, _, _, _, _, _, _, _, h3', h4', rfl⟩
      split
      · simp; omega
      · omega
  rw [foldl_filter, List.nil_append] at h5
  have hbig : wide ≤ 100000 := by omega
  simp only [c_kernel, runD, getD_sh, getD_ow, getB_b, getL_t, d_sh, d_ow, getO_t, getO_f, bindT_nm, bindT_tp, setAll_nil, setAll_cons, hide_nil, hide_cons, items_l, items_t, seq_l, seq_t, zipD2, zipD3, enmD_, rev_l, rev_t, len_l, len_t, len_s, sum_l, all_l, any_l, tup_l, tup_t, lst_l, lst_t, min2_, max2_, int_i, int_b, abs_i, add_i, add_s, add_l, add_t, sub_i, mul_i, div_i, mod_i, pow_i, eq_i, ne_i, lt_i, le_i, gt_i, ge_i, isi_i, isi_ib, isi_b, isi_bi, isi_tt, isi_tn, isi_tl, isi_ll, isi_lt, isNon_n, isNon_i, isNon_t, isNon_l, isDict_i, isDict_b, isDict_t, isDict_l, isDict_n, isDict_s, ix_l, ix_t, sl_l, sl_t, atI_nat, atI_0, atI_1, atI_2, atI_3, atI_4, atI_5, atI_6, atI_7, keep_sh, keep_l, noL_i, noL_b, noL_s, noL_n, noL_t, noL_l, noLs_n, noLs_c, isNil_nil, out_rt, out_nx, ↓EE_var, varC_sh, ↓EE_cst, ↓EE_int, ↓EE_bl, ↓EE_non, ↓EE_str, ↓EE_bin, ↓EE_rep, repC_l, ↓EE_neg, negC_i, ↓EE_is, ↓EE_isn, ↓EE_eq, ↓EE_ne, ↓EE_lt, ↓EE_le, ↓EE_gt, ↓EE_ge, ↓EE_inn, ↓EE_ni, ↓EE_chain, ↓EE_and, andC_t, andC_f, ↓EE_or, orC_t, orC_f, ↓EE_not, ↓EE_ite, iteC_t, iteC_f, ↓EE_nil, ↓EE_cons, ↓EE_tup, ↓EE_lst, ↓EE_call, ↓EE_blt, ↓EE_isi, ↓EE_ix, ↓EE_sl, ↓EE_lc, ↓EE_rng, ↓EE_zip, ↓EE_enm, ↓EE_rev, ↓EE_bm, ↓EE_srt, seqR_nx, seqR_rt, seqR_bk, seqR_ct, seqR_no, iffR_t, iffR_f, appC_l, extC_l, putC_l, putX_i, popC_l, insC_l, reto_o, reto_s, unpC_t, rvsC_l, ↓EX, ↓ES_nil, ↓ES_seq, ↓ES_asg, ↓ES_unp, ↓ES_app, ↓ES_ext, ↓ES_put, ↓ES_pop, ↓ES_rvs, ↓ES_ins, ↓ES_ife, ↓ES_ret, ↓ES_reto, ↓ES_retn, ↓ES_for, ↓ES_brk, ↓ES_cnt, ↓ES_drp, forF_, shareAll_n, shareAll_c, shareAt_, shC_o, shC_s, shC_n, shC_x, memN_n, memN_c, after_, flatC_o, flatC_s, flat_i, flat_b, flat_s, flat_n, flat_l, flat_t, noLs_ints, noLs_rows, noLs_fi, q_set0, q_sets, q_get0, q_gets, q_getn, q_mapc, q_mapn, q_appc, q_appn, q_reps, q_rep0, q_bb, q_bs, q_bn, q_ms, q_mn, Nat.reduceAdd, Nat.reduceSub, q_lc, q_ln, q_pure, Bool.false_eq_true, q_ift, q_iff, q_ifb, q_ifc, ite_self, reduceCtorEq, Bool.and_true, Bool.true_and, Bool.and_false, Bool.false_and, Bool.and_self, Bool.not_true, Bool.not_false, CE.isNil, Nat.reduceEqDiff, and_self, decide_true, decide_false, hb, h4, encNs, rng_nat hbig]
  have e0 : kernelM p wide rows = baseM p wide ((kplM wide B).map (kloadM p wide B)) := by rw [← hBe]; rfl
  rw [e0]
  simp only [h5, runD, getD_sh, getD_ow, getB_b, getL_t, d_sh, d_ow, getO_t, getO_f, bindT_nm, bindT_tp, setAll_nil, setAll_cons, hide_nil, hide_cons, items_l, items_t, seq_l, seq_t, zipD2, zipD3, enmD_, rev_l, rev_t, len_l, len_t, len_s, sum_l, all_l, any_l, tup_l, tup_t, lst_l, lst_t, min2_, max2_, int_i, int_b, abs_i, add_i, add_s, add_l, add_t, sub_i, mul_i, div_i, mod_i, pow_i, eq_i, ne_i, lt_i, le_i, gt_i, ge_i, isi_i, isi_ib, isi_b, isi_bi, isi_tt, isi_tn, isi_tl, isi_ll, isi_lt, isNon_n, isNon_i, isNon_t, isNon_l, isDict_i, isDict_b, isDict_t, isDict_l, isDict_n, isDict_s, ix_l, ix_t, sl_l, sl_t, atI_nat, atI_0, atI_1, atI_2, atI_3, atI_4, atI_5, atI_6, atI_7, keep_sh, keep_l, noL_i, noL_b, noL_s, noL_n, noL_t, noL_l, noLs_n, noLs_c, isNil_nil, out_rt, out_nx, ↓EE_var, varC_sh, ↓EE_cst, ↓EE_int, ↓EE_bl, ↓EE_non, ↓EE_str, ↓EE_bin, ↓EE_rep, repC_l, ↓EE_neg, negC_i, ↓EE_is, ↓EE_isn, ↓EE_eq, ↓EE_ne, ↓EE_lt, ↓EE_le, ↓EE_gt, ↓EE_ge, ↓EE_inn, ↓EE_ni, ↓EE_chain, ↓EE_and, andC_t, andC_f, ↓EE_or, orC_t, orC_f, ↓EE_not, ↓EE_ite, iteC_t, iteC_f, ↓EE_nil, ↓EE_cons, ↓EE_tup, ↓EE_lst, ↓EE_call, ↓EE_blt, ↓EE_isi, ↓EE_ix, ↓EE_sl, ↓EE_lc, ↓EE_rng, ↓EE_zip, ↓EE_enm, ↓EE_rev, ↓EE_bm, ↓EE_srt, seqR_nx, seqR_rt, seqR_bk, seqR_ct, seqR_no, iffR_t, iffR_f, appC_l, extC_l, putC_l, putX_i, popC_l, insC_l, reto_o, reto_s, unpC_t, rvsC_l, ↓EX, ↓ES_nil, ↓ES_seq, ↓ES_asg, ↓ES_unp, ↓ES_app, ↓ES_ext, ↓ES_put, ↓ES_pop, ↓ES_rvs, ↓ES_ins, ↓ES_ife, ↓ES_ret, ↓ES_reto, ↓ES_retn, ↓ES_for, ↓ES_brk, ↓ES_cnt, ↓ES_drp, forF_, shareAll_n, shareAll_c, shareAt_, shC_o, shC_s, shC_n, shC_x, memN_n, memN_c, after_, flatC_o, flatC_s, flat_i, flat_b, flat_s, flat_n, flat_l, flat_t, noLs_ints, noLs_rows, noLs_fi, q_set0, q_sets, q_get0, q_gets, q_getn, q_mapc, q_mapn, q_appc, q_appn, q_reps, q_rep0, q_bb, q_bs, q_bn, q_ms, q_mn, Nat.reduceAdd, Nat.reduceSub, q_lc, q_ln, q_pure, Bool.false_eq_true, q_ift, q_iff, q_ifb, q_ifc, ite_self, reduceCtorEq, Bool.and_true, Bool.true_and, Bool.and_false, Bool.false_and, Bool.and_self, Bool.not_true, Bool.not_false, CE.isNil, Nat.reduceEqDiff, and_self, decide_true, decide_false]
  simp only [kplM] at hb2 ⊢
  simp only [hb2, runD, getD_sh, getD_ow, getB_b, getL_t, d_sh, d_ow, getO_t, getO_f, bindT_nm, bindT_tp, setAll_nil, setAll_cons, hide_nil, hide_cons, items_l, items_t, seq_l, seq_t, zipD2, zipD3, enmD_, rev_l, rev_t, len_l, len_t, len_s, sum_l, all_l, any_l, tup_l, tup_t, lst_l, lst_t, min2_, max2_, int_i, int_b, abs_i, add_i, add_s, add_l, add_t, sub_i, mul_i, div_i, mod_i, pow_i, eq_i, ne_i, lt_i, le_i, gt_i, ge_i, isi_i, isi_ib, isi_b, isi_bi, isi_tt, isi_tn, isi_tl, isi_ll, isi_lt, isNon_n, isNon_i, isNon_t, isNon_l, isDict_i, isDict_b, isDict_t, isDict_l, isDict_n, isDict_s, ix_l, ix_t, sl_l, sl_t, atI_nat, atI_0, atI_1, atI_2, atI_3, atI_4, atI_5, atI_6, atI_7, keep_sh, keep_l, noL_i, noL_b, noL_s, noL_n, noL_t, noL_l, noLs_n, noLs_c, isNil_nil, out_rt, out_nx, ↓EE_var, varC_sh, ↓EE_cst, ↓EE_int, ↓EE_bl, ↓EE_non, ↓EE_str, ↓EE_bin, ↓EE_rep, repC_l, ↓EE_neg, negC_i, ↓EE_is, ↓EE_isn, ↓EE_eq, ↓EE_ne, ↓EE_lt, ↓EE_le, ↓EE_gt, ↓EE_ge, ↓EE_inn, ↓EE_ni, ↓EE_chain, ↓EE_and, andC_t, andC_f, ↓EE_or, orC_t, orC_f, ↓EE_not, ↓EE_ite, iteC_t, iteC_f, ↓EE_nil, ↓EE_cons, ↓EE_tup, ↓EE_lst, ↓EE_call, ↓EE_blt, ↓EE_isi, ↓EE_ix, ↓EE_sl, ↓EE_lc, ↓EE_rng, ↓EE_zip, ↓EE_enm, ↓EE_rev, ↓EE_bm, ↓EE_srt, seqR_nx, seqR_rt, seqR_bk, seqR_ct, seqR_no, iffR_t, iffR_f, appC_l, extC_l, putC_l, putX_i, popC_l, insC_l, reto_o, reto_s, unpC_t, rvsC_l, ↓EX, ↓ES_nil, ↓ES_seq, ↓ES_asg, ↓ES_unp, ↓ES_app, ↓ES_ext, ↓ES_put, ↓ES_pop, ↓ES_rvs, ↓ES_ins, ↓ES_ife, ↓ES_ret, ↓ES_reto, ↓ES_retn, ↓ES_for, ↓ES_brk, ↓ES_cnt, ↓ES_drp, forF_, shareAll_n, shareAll_c, shareAt_, shC_o, shC_s, shC_n, shC_x, memN_n, memN_c, after_, flatC_o, flatC_s, flat_i, flat_b, flat_s, flat_n, flat_l, flat_t, noLs_ints, noLs_rows, noLs_fi, q_set0, q_sets, q_get0, q_gets, q_getn, q_mapc, q_mapn, q_appc, q_appn, q_reps, q_rep0, q_bb, q_bs, q_bn, q_ms, q_mn, Nat.reduceAdd, Nat.reduceSub, q_lc, q_ln, q_pure, Bool.false_eq_true, q_ift, q_iff, q_ifb, q_ifc, ite_self, reduceCtorEq, Bool.and_true, Bool.true_and, Bool.and_false, Bool.false_and, Bool.and_self, Bool.not_true, Bool.not_false, CE.isNil, Nat.reduceEqDiff, and_self, decide_true, decide_false]
end
end EV
end

section
set_option linter.all false
set_option maxRecDepth 100000
set_option maxHeartbeats 2000000
/-! EQ, part 4: spaces carried along arrows. -/
namespace EV
open PySem L2
theorem getRow {rows : List (List Int)} {k : Nat} (h : k < rows.length) : (rows.map encT)[k]? = some (encT (rows.getD k [])) := by simp [h]
theorem cut_from {xs : List D} {n : Nat} : cutD xs (some (n : Int)) none = xs.drop n := by
  unfold cutD
  rw [HT.sIx_nat, HT.sIx_none]
  by_cases h : n ≤ xs.length
  · rw [Nat.min_eq_left h, List.take_of_length_le (by simp)]
  · rw [Nat.min_eq_right (by omega), List.drop_of_length_le (Nat.le_refl _), List.drop_of_length_le (by omega)]; simp
theorem cut_to {xs : List D} {n : Nat} : cutD xs none (some (n : Int)) = xs.take n := by
  unfold cutD
  rw [HT.sIx_nat, HT.sIx_none, Nat.sub_zero, List.drop_zero]
  by_cases h : n ≤ xs.length
  · rw [Nat.min_eq_left h]
  · rw [Nat.min_eq_right (by omega), List.take_of_length_le (Nat.le_refl _), List.take_of_length_le (by omega)]
abbrev encAr (right : Bool) (p : Int) (tb : D) : D := .dict [(.none, .str (if right then "Right" else "Left")), (.str "prime", .int p), (.str "table", tb)]
section
variable {tab : Nat → Option Def} {C : Nat → Option D} (T : PT tab) {k : Nat}
include T
theorem joined_g {p : Int} {high wide : Nat} {rows loads : List (List Int)} (hp : 0 < p) (hh : rows.length = high) (hi : high ≤ 1000) (hw : ∀ r ∈ rows, r.length ≤ 1000) (hl : ∀ l ∈ loads, high ≤ l.length) (hn : loads.length ≤ 1000) :
    GG tab C (k + 1) 12 [.int p, encTab high wide rows, encB loads] = some (.sh (encTab high (loads.length + wide) (jtabM p high rows loads))) := by
  rw [gg (T.go 12 _ rfl)]
  obtain ⟨env', h1, c4, c5, c6, rfl⟩ := forGo_app (f := forF (GG tab C k) C (.nm 4) c_joined_table_b3) (enc := fun i : Nat => PyData.int (i : Nat)) (xs := List.range high) (g := fun i => encT (jrowM p rows loads i)) (acc := []) (N := high)
    (R := fun acc env => ∃ c4 c5 c6, env = [Cell.sh (.int p), .sh (encTab high wide rows), .sh (encB loads), .ow (.list acc), c4, c5, c6])
    (env := [Cell.sh (.int p), .sh (encTab high wide rows), .sh (encB loads), .ow (.list []), .no, .no, .no]) (by simp) ⟨_, _, _, rfl⟩ fun i hi acc env hacc hR => by
      obtain ⟨c4, c5, c6, rfl⟩ := hR
      have hil : i < rows.length := by have := List.mem_range.mp hi; omega
      have hr : (rows.getD i []).length ≤ 1000 := by
        have : rows.getD i [] = rows[i] := by simp [hil]
        rw [this]; exact hw _ (List.getElem_mem hil)
      have e1 : ∀ c0 c1 c2 c3 c6, lcGo (lcT (GG tab C k) C [5] (.nm 5) .nil c_joined_table_e1 [c0, c1, c2, c3, .sh (.int (i : Nat)), .no, c6]) (loads.map encT) = some ((loads.map fun l => at0 l i).map .int) := fun c0 c1 c2 c3 c6 => by
        rw [List.map_map]
        refine lcGo_map fun l hlm => ?_
        have := hl l hlm
        simp only [lcF_all, c_joined_table_e1, runD, getD_sh, getD_ow, getB_b, getL_t, d_sh, d_ow, getO_t, getO_f, bindT_nm, bindT_tp, setAll_nil, setAll_cons, hide_nil, hide_cons, items_l, items_t, seq_l, seq_t, zipD2, zipD3, enmD_, rev_l, rev_t, len_l, len_t, len_s, sum_l, all_l, any_l, tup_l, tup_t, lst_l, lst_t, min2_, max2_, int_i, int_b, abs_i, add_i, add_s, add_l, add_t, sub_i, mul_i, div_i, mod_i, pow_i, eq_i, ne_i, lt_i, le_i, gt_i, ge_i, isi_i, isi_ib, isi_b, isi_bi, isi_tt, isi_tn, isi_tl, isi_ll, isi_lt, isNon_n, isNon_i, isNon_t, isNon_l, isDict_i, isDict_b, isDict_t, isDict_l, isDict_n, isDict_s, ix_l, ix_t, sl_l, sl_t, atI_nat, atI_0, atI_1, atI_2, atI_3, atI_4, atI_5, atI_6, atI_7, keep_sh, keep_l, noL_i, noL_b, noL_s, noL_n, noL_t, noL_l, noLs_n, noLs_c, isNil_nil, out_rt, out_nx, ↓EE_var, varC_sh, ↓EE_cst, ↓EE_int, ↓EE_bl, ↓EE_non, ↓EE_str, ↓EE_bin, ↓EE_rep, repC_l, ↓EE_neg, negC_i, ↓EE_is, ↓EE_isn, ↓EE_eq, ↓EE_ne, ↓EE_lt, ↓EE_le, ↓EE_gt, ↓EE_ge, ↓EE_inn, ↓EE_ni, ↓EE_chain, ↓EE_and, andC_t, andC_f, ↓EE_or, orC_t, orC_f, ↓EE_not, ↓EE_ite, iteC_t, iteC_f, ↓EE_nil, ↓EE_cons, ↓EE_tup, ↓EE_lst, ↓EE_call, ↓EE_blt, ↓EE_isi, ↓EE_ix, ↓EE_sl, ↓EE_lc, ↓EE_rng, ↓EE_zip, ↓EE_enm, ↓EE_rev, ↓EE_bm, ↓EE_srt, seqR_nx, seqR_rt, seqR_bk, seqR_ct, seqR_no, iffR_t, iffR_f, appC_l, extC_l, putC_l, putX_i, popC_l, insC_l, reto_o, reto_s, unpC_t, rvsC_l, ↓EX, ↓ES_nil, ↓ES_seq, ↓ES_asg, ↓ES_unp, ↓ES_app, ↓ES_ext, ↓ES_put, ↓ES_pop, ↓ES_rvs, ↓ES_ins, ↓ES_ife, ↓ES_ret, ↓ES_reto, ↓ES_retn, ↓ES_for, ↓ES_brk, ↓ES_cnt, ↓ES_drp, forF_, shareAll_n, shareAll_c, shareAt_, shC_o, shC_s, shC_n, shC_x, memN_n, memN_c, after_, flatC_o, flatC_s, flat_i, flat_b, flat_s, flat_n, flat_l, flat_t, noLs_ints, noLs_rows, noLs_fi, q_set0, q_sets, q_get0, q_gets, q_getn, q_mapc, q_mapn, q_appc, q_appn, q_reps, q_rep0, q_bb, q_bs, q_bn, q_ms, q_mn, Nat.reduceAdd, Nat.reduceSub, q_lc, q_ln, q_pure, Bool.false_eq_true, q_ift, q_iff, q_ifb, q_ifc, ite_self, reduceCtorEq, Bool.and_true, Bool.true_and, Bool.and_false, Bool.false_and, Bool.and_self, Bool.not_true, Bool.not_false, CE.isNil, Nat.reduceEqDiff, and_self, decide_true, decide_false, atI_nat, at0_get (show i < l.length by omega), Function.comp_def]
      have e1' : ∀ c0 c1 c2 c3 c5 c6, lcGo (lcT (GG tab C k) C [5] (.nm 5) .nil c_joined_table_e1 [c0, c1, c2, c3, .sh (.int (i : Nat)), c5, c6]) (loads.map encT) = some ((loads.map fun l => at0 l i).map .int) := fun c0 c1 c2 c3 c5 c6 => by
        rw [List.map_map]
        refine lcGo_map fun l hlm => ?_
        have := hl l hlm
        simp only [lcF_all, c_joined_table_e1, runD, getD_sh, getD_ow, getB_b, getL_t, d_sh, d_ow, getO_t, getO_f, bindT_nm, bindT_tp, setAll_nil, setAll_cons, hide_nil, hide_cons, items_l, items_t, seq_l, seq_t, zipD2, zipD3, enmD_, rev_l, rev_t, len_l, len_t, len_s, sum_l, all_l, any_l, tup_l, tup_t, lst_l, lst_t, min2_, max2_, int_i, int_b, abs_i, add_i, add_s, add_l, add_t, sub_i, mul_i, div_i, mod_i, pow_i, eq_i, ne_i, lt_i, le_i, gt_i, ge_i, isi_i, isi_ib, isi_b, isi_bi, isi_tt, isi_tn, isi_tl, isi_ll, isi_lt, isNon_n, isNon_i, isNon_t, isNon_l, isDict_i, isDict_b, isDict_t, isDict_l, isDict_n, isDict_s, ix_l, ix_t, sl_l, sl_t, atI_nat, atI_0, atI_1, atI_2, atI_3, atI_4, atI_5, atI_6, atI_7, keep_sh, keep_l, noL_i, noL_b, noL_s, noL_n, noL_t, noL_l, noLs_n, noLs_c, isNil_nil, out_rt, out_nx, ↓EE_var, varC_sh, ↓EE_cst, ↓EE_int, ↓EE_bl, ↓EE_non, ↓EE_str, ↓EE_bin, ↓EE_rep, repC_l, ↓EE_neg, negC_i, ↓EE_is, ↓EE_isn, ↓EE_eq, ↓EE_ne, ↓EE_lt, ↓EE_le, ↓EE_gt, ↓EE_ge, ↓EE_inn, ↓EE_ni, ↓EE_chain, ↓EE_and, andC_t, andC_f, ↓EE_or, orC_t, orC_f, ↓EE_not, ↓EE_ite, iteC_t, iteC_f, ↓EE_nil, ↓EE_cons, ↓EE_tup, ↓EE_lst, ↓EE_call, ↓EE_blt, ↓EE_isi, ↓EE_ix, ↓EE_sl, ↓EE_lc, ↓EE_rng, ↓EE_zip, ↓EE_enm, ↓EE_rev, ↓EE_bm, ↓EE_srt, seqR_nx, seqR_rt, seqR_bk, seqR_ct, seqR_no, iffR_t, iffR_f, appC_l, extC_l, putC_l, putX_i, popC_l, insC_l, reto_o, reto_s, unpC_t, rvsC_l, ↓EX, ↓ES_nil, ↓ES_seq, ↓ES_asg, ↓ES_unp, ↓ES_app, ↓ES_ext, ↓ES_put, ↓ES_pop, ↓ES_rvs, ↓ES_ins, ↓ES_ife, ↓ES_ret, ↓ES_reto, ↓ES_retn, ↓ES_for, ↓ES_brk, ↓ES_cnt, ↓ES_drp, forF_, shareAll_n, shareAll_c, shareAt_, shC_o, shC_s, shC_n, shC_x, memN_n, memN_c, after_, flatC_o, flatC_s, flat_i, flat_b, flat_s, flat_n, flat_l, flat_t, noLs_ints, noLs_rows, noLs_fi, q_set0, q_sets, q_get0, q_gets, q_getn, q_mapc, q_mapn, q_appc, q_appn, q_reps, q_rep0, q_bb, q_bs, q_bn, q_ms, q_mn, Nat.reduceAdd, Nat.reduceSub, q_lc, q_ln, q_pure, Bool.false_eq_true, q_ift, q_iff, q_ifb, q_ifc, ite_self, reduceCtorEq, Bool.and_true, Bool.true_and, Bool.and_false, Bool.false_and, Bool.and_self, Bool.not_true, Bool.not_false, CE.isNil, Nat.reduceEqDiff, and_self, decide_true, decide_false, atI_nat, at0_get (show i < l.length by omega), Function.comp_def]
      have e2 : ∀ c1 c2 c3 c4 c5 c6, lcGo (lcT (GG tab C k) C [6] (.nm 6) .nil c_joined_table_e2 [.sh (.int p), c1, c2, c3, c4, c5, c6]) ((rows.getD i []).map .int) = some (((rows.getD i []).map fun n => (0 - n) % p).map .int) := fun c1 c2 c3 c4 c5 c6 => by
        rw [List.map_map]
        refine lcGo_map (g := fun n => PyData.int ((0 - n) % p)) fun n hnm => ?_
        simp only [lcF_all, c_joined_table_e2, runD, getD_sh, getD_ow, getB_b, getL_t, d_sh, d_ow, getO_t, getO_f, bindT_nm, bindT_tp, setAll_nil, setAll_cons, hide_nil, hide_cons, items_l, items_t, seq_l, seq_t, zipD2, zipD3, enmD_, rev_l, rev_t, len_l, len_t, len_s, sum_l, all_l, any_l, tup_l, tup_t, lst_l, lst_t, min2_, max2_, int_i, int_b, abs_i, add_i, add_s, add_l, add_t, sub_i, mul_i, div_i, mod_i, pow_i, eq_i, ne_i, lt_i, le_i, gt_i, ge_i, isi_i, isi_ib, isi_b, isi_bi, isi_tt, isi_tn, isi_tl, isi_ll, isi_lt, isNon_n, isNon_i, isNon_t, isNon_l, isDict_i, isDict_b, isDict_t, isDict_l, isDict_n, isDict_s, ix_l, ix_t, sl_l, sl_t, atI_nat, atI_0, atI_1, atI_2, atI_3, atI_4, atI_5, atI_6, atI_7, keep_sh, keep_l, noL_i, noL_b, noL_s, noL_n, noL_t, noL_l, noLs_n, noLs_c, isNil_nil, out_rt, out_nx, ↓EE_var, varC_sh, ↓EE_cst, ↓EE_int, ↓EE_bl, ↓EE_non, ↓EE_str, ↓EE_bin, ↓EE_rep, repC_l, ↓EE_neg, negC_i, ↓EE_is, ↓EE_isn, ↓EE_eq, ↓EE_ne, ↓EE_lt, ↓EE_le, ↓EE_gt, ↓EE_ge, ↓EE_inn, ↓EE_ni, ↓EE_chain, ↓EE_and, andC_t, andC_f, ↓EE_or, orC_t, orC_f, ↓EE_not, ↓EE_ite, iteC_t, iteC_f, ↓EE_nil, ↓EE_cons, ↓EE_tup, ↓EE_lst, ↓EE_call, ↓EE_blt, ↓EE_isi, ↓EE_ix, ↓EE_sl, ↓EE_lc, ↓EE_rng, ↓EE_zip, ↓EE_enm, ↓EE_rev, ↓EE_bm, ↓EE_srt, seqR_nx, seqR_rt, seqR_bk, seqR_ct, seqR_no, iffR_t, iffR_f, appC_l, extC_l, putC_l, putX_i, popC_l, insC_l, reto_o, reto_s, unpC_t, rvsC_l, ↓EX, ↓ES_nil, ↓ES_seq, ↓ES_asg, ↓ES_unp, ↓ES_app, ↓ES_ext, ↓ES_put, ↓ES_pop, ↓ES_rvs, ↓ES_ins, ↓ES_ife, ↓ES_ret, ↓ES_reto, ↓ES_retn, ↓ES_for, ↓ES_brk, ↓ES_cnt, ↓ES_drp, forF_, shareAll_n, shareAll_c, shareAt_, shC_o, shC_s, shC_n, shC_x, memN_n, memN_c, after_, flatC_o, flatC_s, flat_i, flat_b, flat_s, flat_n, flat_l, flat_t, noLs_ints, noLs_rows, noLs_fi, q_set0, q_sets, q_get0, q_gets, q_getn, q_mapc, q_mapn, q_appc, q_appn, q_reps, q_rep0, q_bb, q_bs, q_bn, q_ms, q_mn, Nat.reduceAdd, Nat.reduceSub, q_lc, q_ln, q_pure, Bool.false_eq_true, q_ift, q_iff, q_ifb, q_ifc, ite_self, reduceCtorEq, Bool.and_true, Bool.true_and, Bool.and_false, Bool.false_and, Bool.and_self, Bool.not_true, Bool.not_false, CE.isNil, Nat.reduceEqDiff, and_self, decide_true, decide_false, hp]
      have hb1 : loads.length + (rows.getD i []).length ≤ big := by unfold big; omega
      have hb2 : acc.length < big := by unfold big; omega
      simp only [c_joined_table_b3, runD, getD_sh, getD_ow, getB_b, getL_t, d_sh, d_ow, getO_t, getO_f, bindT_nm, bindT_tp, setAll_nil, setAll_cons, hide_nil, hide_cons, items_l, items_t, seq_l, seq_t, zipD2, zipD3, enmD_, rev_l, rev_t, len_l, len_t, len_s, sum_l, all_l, any_l, tup_l, tup_t, lst_l, lst_t, min2_, max2_, int_i, int_b, abs_i, add_i, add_s, add_l, add_t, sub_i, mul_i, div_i, mod_i, pow_i, eq_i, ne_i, lt_i, le_i, gt_i, ge_i, isi_i, isi_ib, isi_b, isi_bi, isi_tt, isi_tn, isi_tl, isi_ll, isi_lt, isNon_n, isNon_i, isNon_t, isNon_l, isDict_i, isDict_b, isDict_t, isDict_l, isDict_n, isDict_s, ix_l, ix_t, sl_l, sl_t, atI_nat, atI_0, atI_1, atI_2, atI_3, atI_4, atI_5, atI_6, atI_7, keep_sh, keep_l, noL_i, noL_b, noL_s, noL_n, noL_t, noL_l, noLs_n, noLs_c, isNil_nil, out_rt, out_nx, ↓EE_var, varC_sh, ↓EE_cst, ↓EE_int, ↓EE_bl, ↓EE_non, ↓EE_str, ↓EE_bin, ↓EE_rep, repC_l, ↓EE_neg, negC_i, ↓EE_is, ↓EE_isn, ↓EE_eq, ↓EE_ne, ↓EE_lt, ↓EE_le, ↓EE_gt, ↓EE_ge, ↓EE_inn, ↓EE_ni, ↓EE_chain, ↓EE_and, andC_t, andC_f, ↓EE_or, orC_t, orC_f, ↓EE_not, ↓EE_ite, iteC_t, iteC_f, ↓EE_nil, ↓EE_cons, ↓EE_tup, ↓EE_lst, ↓EE_call, ↓EE_blt, ↓EE_isi, ↓EE_ix, ↓EE_sl, ↓EE_lc, ↓EE_rng, ↓EE_zip, ↓EE_enm, ↓EE_rev, ↓EE_bm, ↓EE_srt, seqR_nx, seqR_rt, seqR_bk, seqR_ct, seqR_no, iffR_t, iffR_f, appC_l, extC_l, putC_l, putX_i, popC_l, insC_l, reto_o, reto_s, unpC_t, rvsC_l, ↓EX, ↓ES_nil, ↓ES_seq, ↓ES_asg, ↓ES_unp, ↓ES_app, ↓ES_ext, ↓ES_put, ↓ES_pop, ↓ES_rvs, ↓ES_ins, ↓ES_ife, ↓ES_ret, ↓ES_reto, ↓ES_retn, ↓ES_for, ↓ES_brk, ↓ES_cnt, ↓ES_drp, forF_, shareAll_n, shareAll_c, shareAt_, shC_o, shC_s, shC_n, shC_x, memN_n, memN_c, after_, flatC_o, flatC_s, flat_i, flat_b, flat_s, flat_n, flat_l, flat_t, noLs_ints, noLs_rows, noLs_fi, q_set0, q_sets, q_get0, q_gets, q_getn, q_mapc, q_mapn, q_appc, q_appn, q_reps, q_rep0, q_bb, q_bs, q_bn, q_ms, q_mn, Nat.reduceAdd, Nat.reduceSub, q_lc, q_ln, q_pure, Bool.false_eq_true, q_ift, q_iff, q_ifb, q_ifc, ite_self, reduceCtorEq, Bool.and_true, Bool.true_and, Bool.and_false, Bool.false_and, Bool.and_self, Bool.not_true, Bool.not_false, CE.isNil, Nat.reduceEqDiff, and_self, decide_true, decide_false, e1', e2, atI_nat, getRow hil, List.length_map, hb1, hb2]
      refine ⟨_, rfl, .sh (.int (i : Nat)), c5, c6, ?_⟩
      unfold jrowM encT
      rw [List.map_append]
  have hbig : high ≤ 100000 := by omega
  simp only [c_joined_table, runD, getD_sh, getD_ow, getB_b, getL_t, d_sh, d_ow, getO_t, getO_f, bindT_nm, bindT_tp, setAll_nil, setAll_cons, hide_nil, hide_cons, items_l, items_t, seq_l, seq_t, zipD2, zipD3, enmD_, rev_l, rev_t, len_l, len_t, len_s, sum_l, all_l, any_l, tup_l, tup_t, lst_l, lst_t, min2_, max2_, int_i, int_b, abs_i, add_i, add_s, add_l, add_t, sub_i, mul_i, div_i, mod_i, pow_i, eq_i, ne_i, lt_i, le_i, gt_i, ge_i, isi_i, isi_ib, isi_b, isi_bi, isi_tt, isi_tn, isi_tl, isi_ll, isi_lt, isNon_n, isNon_i, isNon_t, isNon_l, isDict_i, isDict_b, isDict_t, isDict_l, isDict_n, isDict_s, ix_l, ix_t, sl_l, sl_t, atI_nat, atI_0, atI_1, atI_2, atI_3, atI_4, atI_5, atI_6, atI_7, keep_sh, keep_l, noL_i, noL_b, noL_s, noL_n, noL_t, noL_l, noLs_n, noLs_c, isNil_nil, out_rt, out_nx, ↓EE_var, varC_sh, ↓EE_cst, ↓EE_int, ↓EE_bl, ↓EE_non, ↓EE_str, ↓EE_bin, ↓EE_rep, repC_l, ↓EE_neg, negC_i, ↓EE_is, ↓EE_isn, ↓EE_eq, ↓EE_ne, ↓EE_lt, ↓EE_le, ↓EE_gt, ↓EE_ge, ↓EE_inn, ↓EE_ni, ↓EE_chain, ↓EE_and, andC_t, andC_f, ↓EE_or, orC_t, orC_f, ↓EE_not, ↓EE_ite, iteC_t, iteC_f, ↓EE_nil, ↓EE_cons, ↓EE_tup, ↓EE_lst, ↓EE_call, ↓EE_blt, ↓EE_isi, ↓EE_ix, ↓EE_sl, ↓EE_lc, ↓EE_rng, ↓EE_zip, ↓EE_enm, ↓EE_rev, ↓EE_bm, ↓EE_srt, seqR_nx, seqR_rt, seqR_bk, seqR_ct, seqR_no, iffR_t, iffR_f, appC_l, extC_l, putC_l, putX_i, popC_l, insC_l, reto_o, reto_s, unpC_t, rvsC_l, ↓EX, ↓ES_nil, ↓ES_seq, ↓ES_asg, ↓ES_unp, ↓ES_app, ↓ES_ext, ↓ES_put, ↓ES_pop, ↓ES_rvs, ↓ES_ins, ↓ES_ife, ↓ES_ret, ↓ES_reto, ↓ES_retn, ↓ES_for, ↓ES_brk, ↓ES_cnt, ↓ES_drp, forF_, shareAll_n, shareAll_c, shareAt_, shC_o, shC_s, shC_n, shC_x, memN_n, memN_c, after_, flatC_o, flatC_s, flat_i, flat_b, flat_s, flat_n, flat_l, flat_t, noLs_ints, noLs_rows, noLs_fi, q_set0, q_sets, q_get0, q_gets, q_getn, q_mapc, q_mapn, q_appc, q_appn, q_reps, q_rep0, q_bb, q_bs, q_bn, q_ms, q_mn, Nat.reduceAdd, Nat.reduceSub, q_lc, q_ln, q_pure, Bool.false_eq_true, q_ift, q_iff, q_ifb, q_ifc, ite_self, reduceCtorEq, Bool.and_true, Bool.true_and, Bool.and_false, Bool.false_and, Bool.and_self, Bool.not_true, Bool.not_false, CE.isNil, Nat.reduceEqDiff, and_self, decide_true, decide_false, rng_nat hbig, h1, List.length_map]
  simp only [encTab, jtabM, List.map_map, Function.comp_def, Int.natCast_add]
theorem pressed_g {p : Int} {high wide : Nat} {rows base : List (List Int)} {ls : D} (hp : P4 p) (hr : Rws p wide rows) (hh : rows.length = high) (hi : high ≤ 1000) (hl : itemsOf ls = some (base.map encT)) (hn : base.length ≤ 1000) :
    GG tab C (k + 3) 11 [.int p, encTab high wide rows, ls] = some (.ow (encB (pressM p high rows base))) := by
  rw [gg (T.go 11 _ rfl)]
  have e1 : ∀ c2 c3, lcGo (lcT (GG tab C (k + 2)) C [3] (.nm 3) .nil c_pressed_e1 [Cell.sh (.int p), .sh (encTab high wide rows), c2, c3]) (base.map encT) = some ((base.map (ledM p rows)).map encT) := fun c2 c3 => by
    rw [List.map_map]
    refine lcGo_map fun l hlm => ?_
    have h := led_g T (C := C) (k := k) (l := encT l) (load := l) (high := .int (high : Nat)) (wide := .int (wide : Nat)) (rows := rows) rfl hp.pos fun r hrm => (hr r hrm).2.sm hp
    simp only [lcF_all, c_pressed_e1, runD, getD_sh, getD_ow, getB_b, getL_t, d_sh, d_ow, getO_t, getO_f, bindT_nm, bindT_tp, setAll_nil, setAll_cons, hide_nil, hide_cons, items_l, items_t, seq_l, seq_t, zipD2, zipD3, enmD_, rev_l, rev_t, len_l, len_t, len_s, sum_l, all_l, any_l, tup_l, tup_t, lst_l, lst_t, min2_, max2_, int_i, int_b, abs_i, add_i, add_s, add_l, add_t, sub_i, mul_i, div_i, mod_i, pow_i, eq_i, ne_i, lt_i, le_i, gt_i, ge_i, isi_i, isi_ib, isi_b, isi_bi, isi_tt, isi_tn, isi_tl, isi_ll, isi_lt, isNon_n, isNon_i, isNon_t, isNon_l, isDict_i, isDict_b, isDict_t, isDict_l, isDict_n, isDict_s, ix_l, ix_t, sl_l, sl_t, atI_nat, atI_0, atI_1, atI_2, atI_3, atI_4, atI_5, atI_6, atI_7, keep_sh, keep_l, noL_i, noL_b, noL_s, noL_n, noL_t, noL_l, noLs_n, noLs_c, isNil_nil, out_rt, out_nx, ↓EE_var, varC_sh, ↓EE_cst, ↓EE_int, ↓EE_bl, ↓EE_non, ↓EE_str, ↓EE_bin, ↓EE_rep, repC_l, ↓EE_neg, negC_i, ↓EE_is, ↓EE_isn, ↓EE_eq, ↓EE_ne, ↓EE_lt, ↓EE_le, ↓EE_gt, ↓EE_ge, ↓EE_inn, ↓EE_ni, ↓EE_chain, ↓EE_and, andC_t, andC_f, ↓EE_or, orC_t, orC_f, ↓EE_not, ↓EE_ite, iteC_t, iteC_f, ↓EE_nil, ↓EE_cons, ↓EE_tup, ↓EE_lst, ↓EE_call, ↓EE_blt, ↓EE_isi, ↓EE_ix, ↓EE_sl, ↓EE_lc, ↓EE_rng, ↓EE_zip, ↓EE_enm, ↓EE_rev, ↓EE_bm, ↓EE_srt, seqR_nx, seqR_rt, seqR_bk, seqR_ct, seqR_no, iffR_t, iffR_f, appC_l, extC_l, putC_l, putX_i, popC_l, insC_l, reto_o, reto_s, unpC_t, rvsC_l, ↓EX, ↓ES_nil, ↓ES_seq, ↓ES_asg, ↓ES_unp, ↓ES_app, ↓ES_ext, ↓ES_put, ↓ES_pop, ↓ES_rvs, ↓ES_ins, ↓ES_ife, ↓ES_ret, ↓ES_reto, ↓ES_retn, ↓ES_for, ↓ES_brk, ↓ES_cnt, ↓ES_drp, forF_, shareAll_n, shareAll_c, shareAt_, shC_o, shC_s, shC_n, shC_x, memN_n, memN_c, after_, flatC_o, flatC_s, flat_i, flat_b, flat_s, flat_n, flat_l, flat_t, noLs_ints, noLs_rows, noLs_fi, q_set0, q_sets, q_get0, q_gets, q_getn, q_mapc, q_mapn, q_appc, q_appn, q_reps, q_rep0, q_bb, q_bs, q_bn, q_ms, q_mn, Nat.reduceAdd, Nat.reduceSub, q_lc, q_ln, q_pure, Bool.false_eq_true, q_ift, q_iff, q_ifb, q_ifc, ite_self, reduceCtorEq, Bool.and_true, Bool.true_and, Bool.and_false, Bool.false_and, Bool.and_self, Bool.not_true, Bool.not_false, CE.isNil, Nat.reduceEqDiff, and_self, decide_true, decide_false, encTab, h, Function.comp_def]
  have hR : Rws p high (base.map (ledM p rows)) := fun r hrm => by
    obtain ⟨l, _, rfl⟩ := List.mem_map.mp hrm
    exact ⟨by rw [ledM_len, hh], ledM_ent hp.pos⟩
  have h := base_g T (C := C) (k := k) (ls := .list ((base.map (ledM p rows)).map encT)) hp (Nat.le_refl 1000) rfl hR (by simpa using hn) (Nat.le_refl high) hi
  simp only [c_pressed, runD, getD_sh, getD_ow, getB_b, getL_t, d_sh, d_ow, getO_t, getO_f, bindT_nm, bindT_tp, setAll_nil, setAll_cons, hide_nil, hide_cons, items_l, items_t, seq_l, seq_t, zipD2, zipD3, enmD_, rev_l, rev_t, len_l, len_t, len_s, sum_l, all_l, any_l, tup_l, tup_t, lst_l, lst_t, min2_, max2_, int_i, int_b, abs_i, add_i, add_s, add_l, add_t, sub_i, mul_i, div_i, mod_i, pow_i, eq_i, ne_i, lt_i, le_i, gt_i, ge_i, isi_i, isi_ib, isi_b, isi_bi, isi_tt, isi_tn, isi_tl, isi_ll, isi_lt, isNon_n, isNon_i, isNon_t, isNon_l, isDict_i, isDict_b, isDict_t, isDict_l, isDict_n, isDict_s, ix_l, ix_t, sl_l, sl_t, atI_nat, atI_0, atI_1, atI_2, atI_3, atI_4, atI_5, atI_6, atI_7, keep_sh, keep_l, noL_i, noL_b, noL_s, noL_n, noL_t, noL_l, noLs_n, noLs_c, isNil_nil, out_rt, out_nx, ↓EE_var, varC_sh, ↓EE_cst, ↓EE_int, ↓EE_bl, ↓EE_non, ↓EE_str, ↓EE_bin, ↓EE_rep, repC_l, ↓EE_neg, negC_i, ↓EE_is, ↓EE_isn, ↓EE_eq, ↓EE_ne, ↓EE_lt, ↓EE_le, ↓EE_gt, ↓EE_ge, ↓EE_inn, ↓EE_ni, ↓EE_chain, ↓EE_and, andC_t, andC_f, ↓EE_or, orC_t, orC_f, ↓EE_not, ↓EE_ite, iteC_t, iteC_f, ↓EE_nil, ↓EE_cons, ↓EE_tup, ↓EE_lst, ↓EE_call, ↓EE_blt, ↓EE_isi, ↓EE_ix, ↓EE_sl, ↓EE_lc, ↓EE_rng, ↓EE_zip, ↓EE_enm, ↓EE_rev, ↓EE_bm, ↓EE_srt, seqR_nx, seqR_rt, seqR_bk, seqR_ct, seqR_no, iffR_t, iffR_f, appC_l, extC_l, putC_l, putX_i, popC_l, insC_l, reto_o, reto_s, unpC_t, rvsC_l, ↓EX, ↓ES_nil, ↓ES_seq, ↓ES_asg, ↓ES_unp, ↓ES_app, ↓ES_ext, ↓ES_put, ↓ES_pop, ↓ES_rvs, ↓ES_ins, ↓ES_ife, ↓ES_ret, ↓ES_reto, ↓ES_retn, ↓ES_for, ↓ES_brk, ↓ES_cnt, ↓ES_drp, forF_, shareAll_n, shareAll_c, shareAt_, shC_o, shC_s, shC_n, shC_x, memN_n, memN_c, after_, flatC_o, flatC_s, flat_i, flat_b, flat_s, flat_n, flat_l, flat_t, noLs_ints, noLs_rows, noLs_fi, q_set0, q_sets, q_get0, q_gets, q_getn, q_mapc, q_mapn, q_appc, q_appn, q_reps, q_rep0, q_bb, q_bs, q_bn, q_ms, q_mn, Nat.reduceAdd, Nat.reduceSub, q_lc, q_ln, q_pure, Bool.false_eq_true, q_ift, q_iff, q_ifb, q_ifc, ite_self, reduceCtorEq, Bool.and_true, Bool.true_and, Bool.and_false, Bool.false_and, Bool.and_self, Bool.not_true, Bool.not_false, CE.isNil, Nat.reduceEqDiff, and_self, decide_true, decide_false, encTab, hl] at e1 ⊢
  simp only [e1, runD, getD_sh, getD_ow, getB_b, getL_t, d_sh, d_ow, getO_t, getO_f, bindT_nm, bindT_tp, setAll_nil, setAll_cons, hide_nil, hide_cons, items_l, items_t, seq_l, seq_t, zipD2, zipD3, enmD_, rev_l, rev_t, len_l, len_t, len_s, sum_l, all_l, any_l, tup_l, tup_t, lst_l, lst_t, min2_, max2_, int_i, int_b, abs_i, add_i, add_s, add_l, add_t, sub_i, mul_i, div_i, mod_i, pow_i, eq_i, ne_i, lt_i, le_i, gt_i, ge_i, isi_i, isi_ib, isi_b, isi_bi, isi_tt, isi_tn, isi_tl, isi_ll, isi_lt, isNon_n, isNon_i, isNon_t, isNon_l, isDict_i, isDict_b, isDict_t, isDict_l, isDict_n, isDict_s, ix_l, ix_t, sl_l, sl_t, atI_nat, atI_0, atI_1, atI_2, atI_3, atI_4, atI_5, atI_6, atI_7, keep_sh, keep_l, noL_i, noL_b, noL_s, noL_n, noL_t, noL_l, noLs_n, noLs_c, isNil_nil, out_rt, out_nx, ↓EE_var, varC_sh, ↓EE_cst, ↓EE_int, ↓EE_bl, ↓EE_non, ↓EE_str, ↓EE_bin, ↓EE_rep, repC_l, ↓EE_neg, negC_i, ↓EE_is, ↓EE_isn, ↓EE_eq, ↓EE_ne, ↓EE_lt, ↓EE_le, ↓EE_gt, ↓EE_ge, ↓EE_inn, ↓EE_ni, ↓EE_chain, ↓EE_and, andC_t, andC_f, ↓EE_or, orC_t, orC_f, ↓EE_not, ↓EE_ite, iteC_t, iteC_f, ↓EE_nil, ↓EE_cons, ↓EE_tup, ↓EE_lst, ↓EE_call, ↓EE_blt, ↓EE_isi, ↓EE_ix, ↓EE_sl, ↓EE_lc, ↓EE_rng, ↓EE_zip, ↓EE_enm, ↓EE_rev, ↓EE_bm, ↓EE_srt, seqR_nx, seqR_rt, seqR_bk, seqR_ct, seqR_no, iffR_t, iffR_f, appC_l, extC_l, putC_l, putX_i, popC_l, insC_l, reto_o, reto_s, unpC_t, rvsC_l, ↓EX, ↓ES_nil, ↓ES_seq, ↓ES_asg, ↓ES_unp, ↓ES_app, ↓ES_ext, ↓ES_put, ↓ES_pop, ↓ES_rvs, ↓ES_ins, ↓ES_ife, ↓ES_ret, ↓ES_reto, ↓ES_retn, ↓ES_for, ↓ES_brk, ↓ES_cnt, ↓ES_drp, forF_, shareAll_n, shareAll_c, shareAt_, shC_o, shC_s, shC_n, shC_x, memN_n, memN_c, after_, flatC_o, flatC_s, flat_i, flat_b, flat_s, flat_n, flat_l, flat_t, noLs_ints, noLs_rows, noLs_fi, q_set0, q_sets, q_get0, q_gets, q_getn, q_mapc, q_mapn, q_appc, q_appn, q_reps, q_rep0, q_bb, q_bs, q_bn, q_ms, q_mn, Nat.reduceAdd, Nat.reduceSub, q_lc, q_ln, q_pure, Bool.false_eq_true, q_ift, q_iff, q_ifb, q_ifc, ite_self, reduceCtorEq, Bool.and_true, Bool.true_and, Bool.and_false, Bool.false_and, Bool.and_self, Bool.not_true, Bool.not_false, CE.isNil, Nat.reduceEqDiff, and_self, decide_true, decide_false, h, pressM]
omit T in
theorem jtab_ok {p : Int} {high wide : Nat} {rows loads : List (List Int)} (hp : 0 < p) (hr : Rws p wide rows) (hh : rows.length = high) (hl : Rws p high loads) : Rws p (loads.length + wide) (jtabM p high rows loads) ∧ (jtabM p high rows loads).length = high := by
  refine ⟨fun r hm => ?_, by simp [jtabM]⟩
  obtain ⟨i, hi, rfl⟩ := List.mem_map.mp hm
  have hil : i < rows.length := by have := List.mem_range.mp hi; omega
  have e : rows.getD i [] = rows[i] := by simp [hil]
  have hrow := hr _ (List.getElem_mem hil)
  unfold jrowM
  rw [e]
  refine ⟨by simp [hrow.1], fun x hx => ?_⟩
  rcases List.mem_append.mp hx with hx | hx
  · obtain ⟨l, hlm, rfl⟩ := List.mem_map.mp hx
    exact (hl l hlm).2 _ (at0_mem (by rw [(hl l hlm).1]; omega))
  · obtain ⟨n, _, rfl⟩ := List.mem_map.mp hx
    exact ⟨Int.emod_nonneg _ (by omega), Int.emod_lt_of_pos _ hp⟩
omit T in
theorem drop_rws {p : Int} {a b : Nat} {rows : List (List Int)} (h : Rws p (a + b) rows) : Rws p b (rows.map fun l => l.drop a) := fun r hm => by
  obtain ⟨l, hl, rfl⟩ := List.mem_map.mp hm
  refine ⟨by rw [List.length_drop, (h l hl).1]; omega, fun x hx => (h l hl).2 x (List.mem_of_mem_drop hx)⟩
theorem leading_g {p : Int} {high wide : Nat} {rows base : List (List Int)} (hp : P4 p) (hr : Rws p wide rows) (hh : rows.length = high) (hi : high ≤ 1000) (hB : Rws p high base) (hn : base.length + wide ≤ 1000) :
    GG tab C (k + 4) 13 [.int p, encTab high wide rows, encB base] = some (.ow (encB (leadingM p high wide rows base))) := by
  rw [gg (T.go 13 _ rfl)]
  have h1 := joined_g T (C := C) (k := k + 2) (wide := wide) hp.pos hh hi (fun r hm => by rw [(hr r hm).1]; omega) (fun l hm => by rw [(hB l hm).1]; exact Nat.le_refl _) (show base.length ≤ 1000 by omega)
  obtain ⟨hj1, hj2⟩ := jtab_ok hp.pos hr hh hB
  have h2 := kernel_g T (C := C) (k := k) (hi := .int (high : Nat)) hp hn (by omega) hj1
  obtain ⟨hk1, hk2⟩ := kernelM_ok hp hj1
  generalize hK : kernelM p (base.length + wide) (jtabM p high rows base) = ker at *
  have e1 : ∀ c0 c1 c3 c4, lcGo (lcT (GG tab C (k + 3)) C [4] (.nm 4) .nil c_leading_to_e1 [c0, c1, .sh (encB base), c3, c4]) (ker.map encT) = some ((ker.map fun l => l.drop base.length).map encT) := fun c0 c1 c3 c4 => by
    rw [List.map_map]
    refine lcGo_map fun l hlm => ?_
    simp only [lcF_all, c_leading_to_e1, runD, getD_sh, getD_ow, getB_b, getL_t, d_sh, d_ow, getO_t, getO_f, bindT_nm, bindT_tp, setAll_nil, setAll_cons, hide_nil, hide_cons, items_l, items_t, seq_l, seq_t, zipD2, zipD3, enmD_, rev_l, rev_t, len_l, len_t, len_s, sum_l, all_l, any_l, tup_l, tup_t, lst_l, lst_t, min2_, max2_, int_i, int_b, abs_i, add_i, add_s, add_l, add_t, sub_i, mul_i, div_i, mod_i, pow_i, eq_i, ne_i, lt_i, le_i, gt_i, ge_i, isi_i, isi_ib, isi_b, isi_bi, isi_tt, isi_tn, isi_tl, isi_ll, isi_lt, isNon_n, isNon_i, isNon_t, isNon_l, isDict_i, isDict_b, isDict_t, isDict_l, isDict_n, isDict_s, ix_l, ix_t, sl_l, sl_t, atI_nat, atI_0, atI_1, atI_2, atI_3, atI_4, atI_5, atI_6, atI_7, keep_sh, keep_l, noL_i, noL_b, noL_s, noL_n, noL_t, noL_l, noLs_n, noLs_c, isNil_nil, out_rt, out_nx, ↓EE_var, varC_sh, ↓EE_cst, ↓EE_int, ↓EE_bl, ↓EE_non, ↓EE_str, ↓EE_bin, ↓EE_rep, repC_l, ↓EE_neg, negC_i, ↓EE_is, ↓EE_isn, ↓EE_eq, ↓EE_ne, ↓EE_lt, ↓EE_le, ↓EE_gt, ↓EE_ge, ↓EE_inn, ↓EE_ni, ↓EE_chain, ↓EE_and, andC_t, andC_f, ↓EE_or, orC_t, orC_f, ↓EE_not, ↓EE_ite, iteC_t, iteC_f, ↓EE_nil, ↓EE_cons, ↓EE_tup, ↓EE_lst, ↓EE_call, ↓EE_blt, ↓EE_isi, ↓EE_ix, ↓EE_sl, ↓EE_lc, ↓EE_rng, ↓EE_zip, ↓EE_enm, ↓EE_rev, ↓EE_bm, ↓EE_srt, seqR_nx, seqR_rt, seqR_bk, seqR_ct, seqR_no, iffR_t, iffR_f, appC_l, extC_l, putC_l, putX_i, popC_l, insC_l, reto_o, reto_s, unpC_t, rvsC_l, ↓EX, ↓ES_nil, ↓ES_seq, ↓ES_asg, ↓ES_unp, ↓ES_app, ↓ES_ext, ↓ES_put, ↓ES_pop, ↓ES_rvs, ↓ES_ins, ↓ES_ife, ↓ES_ret, ↓ES_reto, ↓ES_retn, ↓ES_for, ↓ES_brk, ↓ES_cnt, ↓ES_drp, forF_, shareAll_n, shareAll_c, shareAt_, shC_o, shC_s, shC_n, shC_x, memN_n, memN_c, after_, flatC_o, flatC_s, flat_i, flat_b, flat_s, flat_n, flat_l, flat_t, noLs_ints, noLs_rows, noLs_fi, q_set0, q_sets, q_get0, q_gets, q_getn, q_mapc, q_mapn, q_appc, q_appn, q_reps, q_rep0, q_bb, q_bs, q_bn, q_ms, q_mn, Nat.reduceAdd, Nat.reduceSub, q_lc, q_ln, q_pure, Bool.false_eq_true, q_ift, q_iff, q_ifb, q_ifc, ite_self, reduceCtorEq, Bool.and_true, Bool.true_and, Bool.and_false, Bool.false_and, Bool.and_self, Bool.not_true, Bool.not_false, CE.isNil, Nat.reduceEqDiff, and_self, decide_true, decide_false, List.length_map, Function.comp_def, cut_from, encT, List.map_drop]
  have h3 := base_g T (C := C) (k := k + 1) (ls := .list ((ker.map fun l => l.drop base.length).map encT)) hp (Nat.le_refl 1000) rfl (drop_rws hk1) (by rw [List.length_map]; omega) (Nat.le_refl wide) (by omega)
  simp only [c_leading_to, runD, getD_sh, getD_ow, getB_b, getL_t, d_sh, d_ow, getO_t, getO_f, bindT_nm, bindT_tp, setAll_nil, setAll_cons, hide_nil, hide_cons, items_l, items_t, seq_l, seq_t, zipD2, zipD3, enmD_, rev_l, rev_t, len_l, len_t, len_s, sum_l, all_l, any_l, tup_l, tup_t, lst_l, lst_t, min2_, max2_, int_i, int_b, abs_i, add_i, add_s, add_l, add_t, sub_i, mul_i, div_i, mod_i, pow_i, eq_i, ne_i, lt_i, le_i, gt_i, ge_i, isi_i, isi_ib, isi_b, isi_bi, isi_tt, isi_tn, isi_tl, isi_ll, isi_lt, isNon_n, isNon_i, isNon_t, isNon_l, isDict_i, isDict_b, isDict_t, isDict_l, isDict_n, isDict_s, ix_l, ix_t, sl_l, sl_t, atI_nat, atI_0, atI_1, atI_2, atI_3, atI_4, atI_5, atI_6, atI_7, keep_sh, keep_l, noL_i, noL_b, noL_s, noL_n, noL_t, noL_l, noLs_n, noLs_c, isNil_nil, out_rt, out_nx, ↓EE_var, varC_sh, ↓EE_cst, ↓EE_int, ↓EE_bl, ↓EE_non, ↓EE_str, ↓EE_bin, ↓EE_rep, repC_l, ↓EE_neg, negC_i, ↓EE_is, ↓EE_isn, ↓EE_eq, ↓EE_ne, ↓EE_lt, ↓EE_le, ↓EE_gt, ↓EE_ge, ↓EE_inn, ↓EE_ni, ↓EE_chain, ↓EE_and, andC_t, andC_f, ↓EE_or, orC_t, orC_f, ↓EE_not, ↓EE_ite, iteC_t, iteC_f, ↓EE_nil, ↓EE_cons, ↓EE_tup, ↓EE_lst, ↓EE_call, ↓EE_blt, ↓EE_isi, ↓EE_ix, ↓EE_sl, ↓EE_lc, ↓EE_rng, ↓EE_zip, ↓EE_enm, ↓EE_rev, ↓EE_bm, ↓EE_srt, seqR_nx, seqR_rt, seqR_bk, seqR_ct, seqR_no, iffR_t, iffR_f, appC_l, extC_l, putC_l, putX_i, popC_l, insC_l, reto_o, reto_s, unpC_t, rvsC_l, ↓EX, ↓ES_nil, ↓ES_seq, ↓ES_asg, ↓ES_unp, ↓ES_app, ↓ES_ext, ↓ES_put, ↓ES_pop, ↓ES_rvs, ↓ES_ins, ↓ES_ife, ↓ES_ret, ↓ES_reto, ↓ES_retn, ↓ES_for, ↓ES_brk, ↓ES_cnt, ↓ES_drp, forF_, shareAll_n, shareAll_c, shareAt_, shC_o, shC_s, shC_n, shC_x, memN_n, memN_c, after_, flatC_o, flatC_s, flat_i, flat_b, flat_s, flat_n, flat_l, flat_t, noLs_ints, noLs_rows, noLs_fi, q_set0, q_sets, q_get0, q_gets, q_getn, q_mapc, q_mapn, q_appc, q_appn, q_reps, q_rep0, q_bb, q_bs, q_bn, q_ms, q_mn, Nat.reduceAdd, Nat.reduceSub, q_lc, q_ln, q_pure, Bool.false_eq_true, q_ift, q_iff, q_ifb, q_ifc, ite_self, reduceCtorEq, Bool.and_true, Bool.true_and, Bool.and_false, Bool.false_and, Bool.and_self, Bool.not_true, Bool.not_false, CE.isNil, Nat.reduceEqDiff, and_self, decide_true, decide_false, encTab, encB] at h1 h2 e1 ⊢
  simp only [h1, runD, getD_sh, getD_ow, getB_b, getL_t, d_sh, d_ow, getO_t, getO_f, bindT_nm, bindT_tp, setAll_nil, setAll_cons, hide_nil, hide_cons, items_l, items_t, seq_l, seq_t, zipD2, zipD3, enmD_, rev_l, rev_t, len_l, len_t, len_s, sum_l, all_l, any_l, tup_l, tup_t, lst_l, lst_t, min2_, max2_, int_i, int_b, abs_i, add_i, add_s, add_l, add_t, sub_i, mul_i, div_i, mod_i, pow_i, eq_i, ne_i, lt_i, le_i, gt_i, ge_i, isi_i, isi_ib, isi_b, isi_bi, isi_tt, isi_tn, isi_tl, isi_ll, isi_lt, isNon_n, isNon_i, isNon_t, isNon_l, isDict_i, isDict_b, isDict_t, isDict_l, isDict_n, isDict_s, ix_l, ix_t, sl_l, sl_t, atI_nat, atI_0, atI_1, atI_2, atI_3, atI_4, atI_5, atI_6, atI_7, keep_sh, keep_l, noL_i, noL_b, noL_s, noL_n, noL_t, noL_l, noLs_n, noLs_c, isNil_nil, out_rt, out_nx, ↓EE_var, varC_sh, ↓EE_cst, ↓EE_int, ↓EE_bl, ↓EE_non, ↓EE_str, ↓EE_bin, ↓EE_rep, repC_l, ↓EE_neg, negC_i, ↓EE_is, ↓EE_isn, ↓EE_eq, ↓EE_ne, ↓EE_lt, ↓EE_le, ↓EE_gt, ↓EE_ge, ↓EE_inn, ↓EE_ni, ↓EE_chain, ↓EE_and, andC_t, andC_f, ↓EE_or, orC_t, orC_f, ↓EE_not, ↓EE_ite, iteC_t, iteC_f, ↓EE_nil, ↓EE_cons, ↓EE_tup, ↓EE_lst, ↓EE_call, ↓EE_blt, ↓EE_isi, ↓EE_ix, ↓EE_sl, ↓EE_lc, ↓EE_rng, ↓EE_zip, ↓EE_enm, ↓EE_rev, ↓EE_bm, ↓EE_srt, seqR_nx, seqR_rt, seqR_bk, seqR_ct, seqR_no, iffR_t, iffR_f, appC_l, extC_l, putC_l, putX_i, popC_l, insC_l, reto_o, reto_s, unpC_t, rvsC_l, ↓EX, ↓ES_nil, ↓ES_seq, ↓ES_asg, ↓ES_unp, ↓ES_app, ↓ES_ext, ↓ES_put, ↓ES_pop, ↓ES_rvs, ↓ES_ins, ↓ES_ife, ↓ES_ret, ↓ES_reto, ↓ES_retn, ↓ES_for, ↓ES_brk, ↓ES_cnt, ↓ES_drp, forF_, shareAll_n, shareAll_c, shareAt_, shC_o, shC_s, shC_n, shC_x, memN_n, memN_c, after_, flatC_o, flatC_s, flat_i, flat_b, flat_s, flat_n, flat_l, flat_t, noLs_ints, noLs_rows, noLs_fi, q_set0, q_sets, q_get0, q_gets, q_getn, q_mapc, q_mapn, q_appc, q_appn, q_reps, q_rep0, q_bb, q_bs, q_bn, q_ms, q_mn, Nat.reduceAdd, Nat.reduceSub, q_lc, q_ln, q_pure, Bool.false_eq_true, q_ift, q_iff, q_ifb, q_ifc, ite_self, reduceCtorEq, Bool.and_true, Bool.true_and, Bool.and_false, Bool.false_and, Bool.and_self, Bool.not_true, Bool.not_false, CE.isNil, Nat.reduceEqDiff, and_self, decide_true, decide_false, h2, e1, h3, leadingM, hK]
end
/-! instances -/
def fldR (cs : List Str) (x : Str) : Option D → Option Cell
  | some (.dict ((.none, .str c) :: ps)) => if cs.contains c then (fldOf ps x).map .sh else none
  | _ => none
def mthR (G : Nat → List D → Option Cell) (ms : List (Str × Nat)) (m : Str) (as : Option (List D)) : Option D → Option Cell
  | some (.dict ((.none, .str c) :: ps)) => match ms.lookup c with
    | some f => if (fldOf ps m).isNone then (match as with
        | some xs => G f (.dict ((.none, .str c) :: ps) :: xs)
        | none => none) else none
    | none => none
  | _ => none
section
variable {G : Nat → List D → Option Cell} {C : Nat → Option D} {env : List Cell} {o as : CE} {p : Int} {tb b : D}
theorem EE_fld (cs : List Str) (x : Str) : evalE G C env (.fld cs o x) = fldR cs x (getD (evalE G C env o)) := by simp only [evalE]; rfl
theorem EE_mth (ms : List (Str × Nat)) (m : Str) : evalE G C env (.mth ms m o as) = mthR G ms m (getL (evalE G C env as)) (getD (evalE G C env o)) := by simp only [evalE]; rfl
theorem fld_p (r : Bool) : fldR ["Right", "Left"] "prime" (some (encAr r p tb)) = some (.sh (.int p)) := by cases r <;> exact nr rfl
theorem fld_t (r : Bool) : fldR ["Right", "Left"] "table" (some (encAr r p tb)) = some (.sh tb) := by cases r <;> exact nr rfl
theorem mth_1 (r : Bool) (f : Nat) (xs : List D) : mthR G [("Right", f), ("Left", f)] "along" (some xs) (some (encAr r p tb)) = G f (encAr r p tb :: xs) := by cases r <;> exact nr rfl
theorem mth_2 (r : Bool) (f : Nat) (xs : List D) : mthR G [("Right", f), ("Left", f)] "against" (some xs) (some (encAr r p tb)) = G f (encAr r p tb :: xs) := by cases r <;> exact nr rfl
theorem mth_3 (r : Bool) (f g : Nat) (xs : List D) : mthR G [("Right", f), ("Left", g)] "forth" (some xs) (some (encAr r p tb)) = G (if r then f else g) (encAr r p tb :: xs) := by cases r <;> exact nr rfl
theorem mth_4 (r : Bool) (f g : Nat) (xs : List D) : mthR G [("Right", f), ("Left", g)] "back" (some xs) (some (encAr r p tb)) = G (if r then f else g) (encAr r p tb :: xs) := by cases r <;> exact nr rfl
theorem EE_mk2 (x a b : Str) : evalE G C env (.mk x [a, b] as) = (getL (evalE G C env as)).bind fun xs => if xs.length = 2 then some (.sh (.dict ((.none, .str x) :: ([a, b].zip xs).map fun p => (.str p.1, p.2)))) else none := by
  simp only [evalE]
  cases getL (evalE G C env as) <;> rfl
theorem mk2_ (x a b : Str) (u v : D) : (.dict ((.none, .str x) :: ([a, b].zip [u, v]).map fun p => (PyData.str p.1, p.2)) : D) = .dict [(.none, .str x), (.str a, u), (.str b, v)] := nr rfl
end
section
variable {tab : Nat → Option Def} {C : Nat → Option D} (T : PT tab) {k : Nat}
include T
theorem along_g {r : Bool} {p : Int} {tb b : D} : GG tab C (k + 1) 20 [encAr r p tb, b] = GG tab C k 11 [.int p, tb, b] := by
  rw [gg (T.go 20 _ rfl)]
  cases h : GG tab C k 11 [.int p, tb, b] <;> simp only [c_Arrow_along, runD, getD_sh, getD_ow, getB_b, getL_t, d_sh, d_ow, getO_t, getO_f, bindT_nm, bindT_tp, setAll_nil, setAll_cons, hide_nil, hide_cons, items_l, items_t, seq_l, seq_t, zipD2, zipD3, enmD_, rev_l, rev_t, len_l, len_t, len_s, sum_l, all_l, any_l, tup_l, tup_t, lst_l, lst_t, min2_, max2_, int_i, int_b, abs_i, add_i, add_s, add_l, add_t, sub_i, mul_i, div_i, mod_i, pow_i, eq_i, ne_i, lt_i, le_i, gt_i, ge_i, isi_i, isi_ib, isi_b, isi_bi, isi_tt, isi_tn, isi_tl, isi_ll, isi_lt, isNon_n, isNon_i, isNon_t, isNon_l, isDict_i, isDict_b, isDict_t, isDict_l, isDict_n, isDict_s, ix_l, ix_t, sl_l, sl_t, atI_nat, atI_0, atI_1, atI_2, atI_3, atI_4, atI_5, atI_6, atI_7, keep_sh, keep_l, noL_i, noL_b, noL_s, noL_n, noL_t, noL_l, noLs_n, noLs_c, isNil_nil, out_rt, out_nx, ↓EE_var, varC_sh, ↓EE_cst, ↓EE_int, ↓EE_bl, ↓EE_non, ↓EE_str, ↓EE_bin, ↓EE_rep, repC_l, ↓EE_neg, negC_i, ↓EE_is, ↓EE_isn, ↓EE_eq, ↓EE_ne, ↓EE_lt, ↓EE_le, ↓EE_gt, ↓EE_ge, ↓EE_inn, ↓EE_ni, ↓EE_chain, ↓EE_and, andC_t, andC_f, ↓EE_or, orC_t, orC_f, ↓EE_not, ↓EE_ite, iteC_t, iteC_f, ↓EE_nil, ↓EE_cons, ↓EE_tup, ↓EE_lst, ↓EE_call, ↓EE_blt, ↓EE_isi, ↓EE_ix, ↓EE_sl, ↓EE_lc, ↓EE_rng, ↓EE_zip, ↓EE_enm, ↓EE_rev, ↓EE_bm, ↓EE_srt, seqR_nx, seqR_rt, seqR_bk, seqR_ct, seqR_no, iffR_t, iffR_f, appC_l, extC_l, putC_l, putX_i, popC_l, insC_l, reto_o, reto_s, unpC_t, rvsC_l, ↓EX, ↓ES_nil, ↓ES_seq, ↓ES_asg, ↓ES_unp, ↓ES_app, ↓ES_ext, ↓ES_put, ↓ES_pop, ↓ES_rvs, ↓ES_ins, ↓ES_ife, ↓ES_ret, ↓ES_reto, ↓ES_retn, ↓ES_for, ↓ES_brk, ↓ES_cnt, ↓ES_drp, forF_, shareAll_n, shareAll_c, shareAt_, shC_o, shC_s, shC_n, shC_x, memN_n, memN_c, after_, flatC_o, flatC_s, flat_i, flat_b, flat_s, flat_n, flat_l, flat_t, noLs_ints, noLs_rows, noLs_fi, q_set0, q_sets, q_get0, q_gets, q_getn, q_mapc, q_mapn, q_appc, q_appn, q_reps, q_rep0, q_bb, q_bs, q_bn, q_ms, q_mn, Nat.reduceAdd, Nat.reduceSub, q_lc, q_ln, q_pure, Bool.false_eq_true, q_ift, q_iff, q_ifb, q_ifc, ite_self, reduceCtorEq, Bool.and_true, Bool.true_and, Bool.and_false, Bool.false_and, Bool.and_self, Bool.not_true, Bool.not_false, CE.isNil, Nat.reduceEqDiff, and_self, decide_true, decide_false, EE_fld, fld_p, fld_t, h]
theorem against_g {r : Bool} {p : Int} {tb b : D} : GG tab C (k + 1) 21 [encAr r p tb, b] = GG tab C k 13 [.int p, tb, b] := by
  rw [gg (T.go 21 _ rfl)]
  cases h : GG tab C k 13 [.int p, tb, b] <;> simp only [c_Arrow_against, runD, getD_sh, getD_ow, getB_b, getL_t, d_sh, d_ow, getO_t, getO_f, bindT_nm, bindT_tp, setAll_nil, setAll_cons, hide_nil, hide_cons, items_l, items_t, seq_l, seq_t, zipD2, zipD3, enmD_, rev_l, rev_t, len_l, len_t, len_s, sum_l, all_l, any_l, tup_l, tup_t, lst_l, lst_t, min2_, max2_, int_i, int_b, abs_i, add_i, add_s, add_l, add_t, sub_i, mul_i, div_i, mod_i, pow_i, eq_i, ne_i, lt_i, le_i, gt_i, ge_i, isi_i, isi_ib, isi_b, isi_bi, isi_tt, isi_tn, isi_tl, isi_ll, isi_lt, isNon_n, isNon_i, isNon_t, isNon_l, isDict_i, isDict_b, isDict_t, isDict_l, isDict_n, isDict_s, ix_l, ix_t, sl_l, sl_t, atI_nat, atI_0, atI_1, atI_2, atI_3, atI_4, atI_5, atI_6, atI_7, keep_sh, keep_l, noL_i, noL_b, noL_s, noL_n, noL_t, noL_l, noLs_n, noLs_c, isNil_nil, out_rt, out_nx, ↓EE_var, varC_sh, ↓EE_cst, ↓EE_int, ↓EE_bl, ↓EE_non, ↓EE_str, ↓EE_bin, ↓EE_rep, repC_l, ↓EE_neg, negC_i, ↓EE_is, ↓EE_isn, ↓EE_eq, ↓EE_ne, ↓EE_lt, ↓EE_le, ↓EE_gt, ↓EE_ge, ↓EE_inn, ↓EE_ni, ↓EE_chain, ↓EE_and, andC_t, andC_f, ↓EE_or, orC_t, orC_f, ↓EE_not, ↓EE_ite, iteC_t, iteC_f, ↓EE_nil, ↓EE_cons, ↓EE_tup, ↓EE_lst, ↓EE_call, ↓EE_blt, ↓EE_isi, ↓EE_ix, ↓EE_sl, ↓EE_lc, ↓EE_rng, ↓EE_zip, ↓EE_enm, ↓EE_rev, ↓EE_bm, ↓EE_srt, seqR_nx, seqR_rt, seqR_bk, seqR_ct, seqR_no, iffR_t, iffR_f, appC_l, extC_l, putC_l, putX_i, popC_l, insC_l, reto_o, reto_s, unpC_t, rvsC_l, ↓EX, ↓ES_nil, ↓ES_seq, ↓ES_asg, ↓ES_unp, ↓ES_app, ↓ES_ext, ↓ES_put, ↓ES_pop, ↓ES_rvs, ↓ES_ins, ↓ES_ife, ↓ES_ret, ↓ES_reto, ↓ES_retn, ↓ES_for, ↓ES_brk, ↓ES_cnt, ↓ES_drp, forF_, shareAll_n, shareAll_c, shareAt_, shC_o, shC_s, shC_n, shC_x, memN_n, memN_c, after_, flatC_o, flatC_s, flat_i, flat_b, flat_s, flat_n, flat_l, flat_t, noLs_ints, noLs_rows, noLs_fi, q_set0, q_sets, q_get0, q_gets, q_getn, q_mapc, q_mapn, q_appc, q_appn, q_reps, q_rep0, q_bb, q_bs, q_bn, q_ms, q_mn, Nat.reduceAdd, Nat.reduceSub, q_lc, q_ln, q_pure, Bool.false_eq_true, q_ift, q_iff, q_ifb, q_ifc, ite_self, reduceCtorEq, Bool.and_true, Bool.true_and, Bool.and_false, Bool.false_and, Bool.and_self, Bool.not_true, Bool.not_false, CE.isNil, Nat.reduceEqDiff, and_self, decide_true, decide_false, EE_fld, fld_p, fld_t, h]
theorem rforth_g {p : Int} {tb b : D} : GG tab C (k + 2) 17 [encAr true p tb, b] = GG tab C k 11 [.int p, tb, b] := by
  rw [gg (T.go 17 _ rfl), ← along_g T (r := true)]
  cases h : GG tab C (k + 1) 20 [encAr true p tb, b] <;> simp only [c_Right_forth, runD, getD_sh, getD_ow, getB_b, getL_t, d_sh, d_ow, getO_t, getO_f, bindT_nm, bindT_tp, setAll_nil, setAll_cons, hide_nil, hide_cons, items_l, items_t, seq_l, seq_t, zipD2, zipD3, enmD_, rev_l, rev_t, len_l, len_t, len_s, sum_l, all_l, any_l, tup_l, tup_t, lst_l, lst_t, min2_, max2_, int_i, int_b, abs_i, add_i, add_s, add_l, add_t, sub_i, mul_i, div_i, mod_i, pow_i, eq_i, ne_i, lt_i, le_i, gt_i, ge_i, isi_i, isi_ib, isi_b, isi_bi, isi_tt, isi_tn, isi_tl, isi_ll, isi_lt, isNon_n, isNon_i, isNon_t, isNon_l, isDict_i, isDict_b, isDict_t, isDict_l, isDict_n, isDict_s, ix_l, ix_t, sl_l, sl_t, atI_nat, atI_0, atI_1, atI_2, atI_3, atI_4, atI_5, atI_6, atI_7, keep_sh, keep_l, noL_i, noL_b, noL_s, noL_n, noL_t, noL_l, noLs_n, noLs_c, isNil_nil, out_rt, out_nx, ↓EE_var, varC_sh, ↓EE_cst, ↓EE_int, ↓EE_bl, ↓EE_non, ↓EE_str, ↓EE_bin, ↓EE_rep, repC_l, ↓EE_neg, negC_i, ↓EE_is, ↓EE_isn, ↓EE_eq, ↓EE_ne, ↓EE_lt, ↓EE_le, ↓EE_gt, ↓EE_ge, ↓EE_inn, ↓EE_ni, ↓EE_chain, ↓EE_and, andC_t, andC_f, ↓EE_or, orC_t, orC_f, ↓EE_not, ↓EE_ite, iteC_t, iteC_f, ↓EE_nil, ↓EE_cons, ↓EE_tup, ↓EE_lst, ↓EE_call, ↓EE_blt, ↓EE_isi, ↓EE_ix, ↓EE_sl, ↓EE_lc, ↓EE_rng, ↓EE_zip, ↓EE_enm, ↓EE_rev, ↓EE_bm, ↓EE_srt, seqR_nx, seqR_rt, seqR_bk, seqR_ct, seqR_no, iffR_t, iffR_f, appC_l, extC_l, putC_l, putX_i, popC_l, insC_l, reto_o, reto_s, unpC_t, rvsC_l, ↓EX, ↓ES_nil, ↓ES_seq, ↓ES_asg, ↓ES_unp, ↓ES_app, ↓ES_ext, ↓ES_put, ↓ES_pop, ↓ES_rvs, ↓ES_ins, ↓ES_ife, ↓ES_ret, ↓ES_reto, ↓ES_retn, ↓ES_for, ↓ES_brk, ↓ES_cnt, ↓ES_drp, forF_, shareAll_n, shareAll_c, shareAt_, shC_o, shC_s, shC_n, shC_x, memN_n, memN_c, after_, flatC_o, flatC_s, flat_i, flat_b, flat_s, flat_n, flat_l, flat_t, noLs_ints, noLs_rows, noLs_fi, q_set0, q_sets, q_get0, q_gets, q_getn, q_mapc, q_mapn, q_appc, q_appn, q_reps, q_rep0, q_bb, q_bs, q_bn, q_ms, q_mn, Nat.reduceAdd, Nat.reduceSub, q_lc, q_ln, q_pure, Bool.false_eq_true, q_ift, q_iff, q_ifb, q_ifc, ite_self, reduceCtorEq, Bool.and_true, Bool.true_and, Bool.and_false, Bool.false_and, Bool.and_self, Bool.not_true, Bool.not_false, CE.isNil, Nat.reduceEqDiff, and_self, decide_true, decide_false, EE_mth, mth_1, h]
theorem lforth_g {p : Int} {tb b : D} : GG tab C (k + 2) 18 [encAr false p tb, b] = GG tab C k 13 [.int p, tb, b] := by
  rw [gg (T.go 18 _ rfl), ← against_g T (r := false)]
  cases h : GG tab C (k + 1) 21 [encAr false p tb, b] <;> simp only [c_Left_forth, runD, getD_sh, getD_ow, getB_b, getL_t, d_sh, d_ow, getO_t, getO_f, bindT_nm, bindT_tp, setAll_nil, setAll_cons, hide_nil, hide_cons, items_l, items_t, seq_l, seq_t, zipD2, zipD3, enmD_, rev_l, rev_t, len_l, len_t, len_s, sum_l, all_l, any_l, tup_l, tup_t, lst_l, lst_t, min2_, max2_, int_i, int_b, abs_i, add_i, add_s, add_l, add_t, sub_i, mul_i, div_i, mod_i, pow_i, eq_i, ne_i, lt_i, le_i, gt_i, ge_i, isi_i, isi_ib, isi_b, isi_bi, isi_tt, isi_tn, isi_tl, isi_ll, isi_lt, isNon_n, isNon_i, isNon_t, isNon_l, isDict_i, isDict_b, isDict_t, isDict_l, isDict_n, isDict_s, ix_l, ix_t, sl_l, sl_t, atI_nat, atI_0, atI_1, atI_2, atI_3, atI_4, atI_5, atI_6, atI_7, keep_sh, keep_l, noL_i, noL_b, noL_s, noL_n, noL_t, noL_l, noLs_n, noLs_c, isNil_nil, out_rt, out_nx, ↓EE_var, varC_sh, ↓EE_cst, ↓EE_int, ↓EE_bl, ↓EE_non, ↓EE_str, ↓EE_bin, ↓EE_rep, repC_l, ↓EE_neg, negC_i, ↓EE_is, ↓EE_isn, ↓EE_eq, ↓EE_ne, ↓EE_lt, ↓EE_le, ↓EE_gt, ↓EE_ge, ↓EE_inn, ↓EE_ni, ↓EE_chain, ↓EE_and, andC_t, andC_f, ↓EE_or, orC_t, orC_f, ↓EE_not, ↓EE_ite, iteC_t, iteC_f, ↓EE_nil, ↓EE_cons, ↓EE_tup, ↓EE_lst, ↓EE_call, ↓EE_blt, ↓EE_isi, ↓EE_ix, ↓EE_sl, ↓EE_lc, ↓EE_rng, ↓EE_zip, ↓EE_enm, ↓EE_rev, ↓EE_bm, ↓EE_srt, seqR_nx, seqR_rt, seqR_bk, seqR_ct, seqR_no, iffR_t, iffR_f, appC_l, extC_l, putC_l, putX_i, popC_l, insC_l, reto_o, reto_s, unpC_t, rvsC_l, ↓EX, ↓ES_nil, ↓ES_seq, ↓ES_asg, ↓ES_unp, ↓ES_app, ↓ES_ext, ↓ES_put, ↓ES_pop, ↓ES_rvs, ↓ES_ins, ↓ES_ife, ↓ES_ret, ↓ES_reto, ↓ES_retn, ↓ES_for, ↓ES_brk, ↓ES_cnt, ↓ES_drp, forF_, shareAll_n, shareAll_c, shareAt_, shC_o, shC_s, shC_n, shC_x, memN_n, memN_c, after_, flatC_o, flatC_s, flat_i, flat_b, flat_s, flat_n, flat_l, flat_t, noLs_ints, noLs_rows, noLs_fi, q_set0, q_sets, q_get0, q_gets, q_getn, q_mapc, q_mapn, q_appc, q_appn, q_reps, q_rep0, q_bb, q_bs, q_bn, q_ms, q_mn, Nat.reduceAdd, Nat.reduceSub, q_lc, q_ln, q_pure, Bool.false_eq_true, q_ift, q_iff, q_ifb, q_ifc, ite_self, reduceCtorEq, Bool.and_true, Bool.true_and, Bool.and_false, Bool.false_and, Bool.and_self, Bool.not_true, Bool.not_false, CE.isNil, Nat.reduceEqDiff, and_self, decide_true, decide_false, EE_mth, mth_2, h]
theorem rback_g {p : Int} {tb b : D} : GG tab C (k + 2) 15 [encAr true p tb, b] = GG tab C k 13 [.int p, tb, b] := by
  rw [gg (T.go 15 _ rfl), ← against_g T (r := true)]
  cases h : GG tab C (k + 1) 21 [encAr true p tb, b] <;> simp only [c_Right_back, runD, getD_sh, getD_ow, getB_b, getL_t, d_sh, d_ow, getO_t, getO_f, bindT_nm, bindT_tp, setAll_nil, setAll_cons, hide_nil, hide_cons, items_l, items_t, seq_l, seq_t, zipD2, zipD3, enmD_, rev_l, rev_t, len_l, len_t, len_s, sum_l, all_l, any_l, tup_l, tup_t, lst_l, lst_t, min2_, max2_, int_i, int_b, abs_i, add_i, add_s, add_l, add_t, sub_i, mul_i, div_i, mod_i, pow_i, eq_i, ne_i, lt_i, le_i, gt_i, ge_i, isi_i, isi_ib, isi_b, isi_bi, isi_tt, isi_tn, isi_tl, isi_ll, isi_lt, isNon_n, isNon_i, isNon_t, isNon_l, isDict_i, isDict_b, isDict_t, isDict_l, isDict_n, isDict_s, ix_l, ix_t, sl_l, sl_t, atI_nat, atI_0, atI_1, atI_2, atI_3, atI_4, atI_5, atI_6, atI_7, keep_sh, keep_l, noL_i, noL_b, noL_s, noL_n, noL_t, noL_l, noLs_n, noLs_c, isNil_nil, out_rt, out_nx, ↓EE_var, varC_sh, ↓EE_cst, ↓EE_int, ↓EE_bl, ↓EE_non, ↓EE_str, ↓EE_bin, ↓EE_rep, repC_l, ↓EE_neg, negC_i, ↓EE_is, ↓EE_isn, ↓EE_eq, ↓EE_ne, ↓EE_lt, ↓EE_le, ↓EE_gt, ↓EE_ge, ↓EE_inn, ↓EE_ni, ↓EE_chain, ↓EE_and, andC_t, andC_f, ↓EE_or, orC_t, orC_f, ↓EE_not, ↓EE_ite, iteC_t, iteC_f, ↓EE_nil, ↓EE_cons, ↓EE_tup, ↓EE_lst, ↓EE_call, ↓EE_blt, ↓EE_isi, ↓EE_ix, ↓EE_sl, ↓EE_lc, ↓EE_rng, ↓EE_zip, ↓EE_enm, ↓EE_rev, ↓EE_bm, ↓EE_srt, seqR_nx, seqR_rt, seqR_bk, seqR_ct, seqR_no, iffR_t, iffR_f, appC_l, extC_l, putC_l, putX_i, popC_l, insC_l, reto_o, reto_s, unpC_t, rvsC_l, ↓EX, ↓ES_nil, ↓ES_seq, ↓ES_asg, ↓ES_unp, ↓ES_app, ↓ES_ext, ↓ES_put, ↓ES_pop, ↓ES_rvs, ↓ES_ins, ↓ES_ife, ↓ES_ret, ↓ES_reto, ↓ES_retn, ↓ES_for, ↓ES_brk, ↓ES_cnt, ↓ES_drp, forF_, shareAll_n, shareAll_c, shareAt_, shC_o, shC_s, shC_n, shC_x, memN_n, memN_c, after_, flatC_o, flatC_s, flat_i, flat_b, flat_s, flat_n, flat_l, flat_t, noLs_ints, noLs_rows, noLs_fi, q_set0, q_sets, q_get0, q_gets, q_getn, q_mapc, q_mapn, q_appc, q_appn, q_reps, q_rep0, q_bb, q_bs, q_bn, q_ms, q_mn, Nat.reduceAdd, Nat.reduceSub, q_lc, q_ln, q_pure, Bool.false_eq_true, q_ift, q_iff, q_ifb, q_ifc, ite_self, reduceCtorEq, Bool.and_true, Bool.true_and, Bool.and_false, Bool.false_and, Bool.and_self, Bool.not_true, Bool.not_false, CE.isNil, Nat.reduceEqDiff, and_self, decide_true, decide_false, EE_mth, mth_2, h]
theorem lback_g {p : Int} {tb b : D} : GG tab C (k + 2) 16 [encAr false p tb, b] = GG tab C k 11 [.int p, tb, b] := by
  rw [gg (T.go 16 _ rfl), ← along_g T (r := false)]
  cases h : GG tab C (k + 1) 20 [encAr false p tb, b] <;> simp only [c_Left_back, runD, getD_sh, getD_ow, getB_b, getL_t, d_sh, d_ow, getO_t, getO_f, bindT_nm, bindT_tp, setAll_nil, setAll_cons, hide_nil, hide_cons, items_l, items_t, seq_l, seq_t, zipD2, zipD3, enmD_, rev_l, rev_t, len_l, len_t, len_s, sum_l, all_l, any_l, tup_l, tup_t, lst_l, lst_t, min2_, max2_, int_i, int_b, abs_i, add_i, add_s, add_l, add_t, sub_i, mul_i, div_i, mod_i, pow_i, eq_i, ne_i, lt_i, le_i, gt_i, ge_i, isi_i, isi_ib, isi_b, isi_bi, isi_tt, isi_tn, isi_tl, isi_ll, isi_lt, isNon_n, isNon_i, isNon_t, isNon_l, isDict_i, isDict_b, isDict_t, isDict_l, isDict_n, isDict_s, ix_l, ix_t, sl_l, sl_t, atI_nat, atI_0, atI_1, atI_2, atI_3, atI_4, atI_5, atI_6, atI_7, keep_sh, keep_l, noL_i, noL_b, noL_s, noL_n, noL_t, noL_l, noLs_n, noLs_c, isNil_nil, out_rt, out_nx, ↓EE_var, varC_sh, ↓EE_cst, ↓EE_int, ↓EE_bl, ↓EE_non, ↓EE_str, ↓EE_bin, ↓EE_rep, repC_l, ↓EE_neg, negC_i, ↓EE_is, ↓EE_isn, ↓EE_eq, ↓EE_ne, ↓EE_lt, ↓EE_le, ↓EE_gt, ↓EE_ge, ↓EE_inn, ↓EE_ni, ↓EE_chain, ↓EE_and, andC_t, andC_f, ↓EE_or, orC_t, orC_f, ↓EE_not, ↓EE_ite, iteC_t, iteC_f, ↓EE_nil, ↓EE_cons, ↓EE_tup, ↓EE_lst, ↓EE_call, ↓EE_blt, ↓EE_isi, ↓EE_ix, ↓EE_sl, ↓EE_lc, ↓EE_rng, ↓EE_zip, ↓EE_enm, ↓EE_rev, ↓EE_bm, ↓EE_srt, seqR_nx, seqR_rt, seqR_bk, seqR_ct, seqR_no, iffR_t, iffR_f, appC_l, extC_l, putC_l, putX_i, popC_l, insC_l, reto_o, reto_s, unpC_t, rvsC_l, ↓EX, ↓ES_nil, ↓ES_seq, ↓ES_asg, ↓ES_unp, ↓ES_app, ↓ES_ext, ↓ES_put, ↓ES_pop, ↓ES_rvs, ↓ES_ins, ↓ES_ife, ↓ES_ret, ↓ES_reto, ↓ES_retn, ↓ES_for, ↓ES_brk, ↓ES_cnt, ↓ES_drp, forF_, shareAll_n, shareAll_c, shareAt_, shC_o, shC_s, shC_n, shC_x, memN_n, memN_c, after_, flatC_o, flatC_s, flat_i, flat_b, flat_s, flat_n, flat_l, flat_t, noLs_ints, noLs_rows, noLs_fi, q_set0, q_sets, q_get0, q_gets, q_getn, q_mapc, q_mapn, q_appc, q_appn, q_reps, q_rep0, q_bb, q_bs, q_bn, q_ms, q_mn, Nat.reduceAdd, Nat.reduceSub, q_lc, q_ln, q_pure, Bool.false_eq_true, q_ift, q_iff, q_ifb, q_ifc, ite_self, reduceCtorEq, Bool.and_true, Bool.true_and, Bool.and_false, Bool.false_and, Bool.and_self, Bool.not_true, Bool.not_false, CE.isNil, Nat.reduceEqDiff, and_self, decide_true, decide_false, EE_mth, mth_1, h]
end
/-! arrows, either way -/
def fwdM (p : Int) (r : Bool) (high wide : Nat) (rows base : List (List Int)) : List (List Int) := if r then pressM p high rows base else leadingM p high wide rows base
def bwdM (p : Int) (r : Bool) (high wide : Nat) (rows base : List (List Int)) : List (List Int) := if r then leadingM p high wide rows base else pressM p high rows base
section
variable {tab : Nat → Option Def} {C : Nat → Option D} (T : PT tab) {k : Nat}
include T
theorem forth_g {p : Int} {high wide : Nat} {rows base : List (List Int)} {r : Bool} (hp : P4 p) (hr : Rws p wide rows) (hh : rows.length = high) (hi : high ≤ 500) (hw : wide ≤ 500) (hn : base.length ≤ 500) (hB : r = false → Rws p high base) :
    GG tab C (k + 6) (if r then 17 else 18) [encAr r p (encTab high wide rows), encB base] = some (.ow (encB (fwdM p r high wide rows base))) := by
  cases r with
  | true => exact (rforth_g T).trans (pressed_g T (k := k + 1) hp hr hh (by omega) rfl (by omega))
  | false => exact (lforth_g T).trans (leading_g T (k := k) hp hr hh (by omega) (hB rfl) (by omega))
theorem back_g {p : Int} {high wide : Nat} {rows base : List (List Int)} {r : Bool} (hp : P4 p) (hr : Rws p wide rows) (hh : rows.length = high) (hi : high ≤ 500) (hw : wide ≤ 500) (hn : base.length ≤ 500) (hB : r = true → Rws p high base) :
    GG tab C (k + 6) (if r then 15 else 16) [encAr r p (encTab high wide rows), encB base] = some (.ow (encB (bwdM p r high wide rows base))) := by
  cases r with
  | true => exact (rback_g T).trans (leading_g T (k := k) hp hr hh (by omega) (hB rfl) (by omega))
  | false => exact (lback_g T).trans (pressed_g T (k := k + 1) hp hr hh (by omega) rfl (by omega))
theorem arrow_at_g {p : Int} {ws : D} {arrows : List (Bool × D)} {j : Nat} {r : Bool} {tb : D} (h : arrows[j]? = some (r, tb)) :
    GG tab C (k + 1) 14 [.tuple [.int p, ws, .tuple (arrows.map fun a => .tuple [.str (if a.1 then "r" else "l"), a.2])], .int (j : Nat)] = some (.sh (encAr r p tb)) := by
  rw [gg (T.go 14 _ rfl)]
  have h2 : (arrows.map fun a => PyData.tuple [.str (if a.1 then "r" else "l"), a.2])[j]? = some (.tuple [.str (if r then "r" else "l"), tb]) := by rw [List.getElem?_map, h]; rfl
  have e1 : cmpD .eq (.str "r") (.str "r") = some true := by decide +kernel
  have e2 : cmpD .eq (.str "l") (.str "r") = some false := by decide +kernel
  cases r
  · simp only [Bool.false_eq_true, if_false] at h2
    simp only [c_arrow_at, runD, getD_sh, getD_ow, getB_b, getL_t, d_sh, d_ow, getO_t, getO_f, bindT_nm, bindT_tp, setAll_nil, setAll_cons, hide_nil, hide_cons, items_l, items_t, seq_l, seq_t, zipD2, zipD3, enmD_, rev_l, rev_t, len_l, len_t, len_s, sum_l, all_l, any_l, tup_l, tup_t, lst_l, lst_t, min2_, max2_, int_i, int_b, abs_i, add_i, add_s, add_l, add_t, sub_i, mul_i, div_i, mod_i, pow_i, eq_i, ne_i, lt_i, le_i, gt_i, ge_i, isi_i, isi_ib, isi_b, isi_bi, isi_tt, isi_tn, isi_tl, isi_ll, isi_lt, isNon_n, isNon_i, isNon_t, isNon_l, isDict_i, isDict_b, isDict_t, isDict_l, isDict_n, isDict_s, ix_l, ix_t, sl_l, sl_t, atI_nat, atI_0, atI_1, atI_2, atI_3, atI_4, atI_5, atI_6, atI_7, keep_sh, keep_l, noL_i, noL_b, noL_s, noL_n, noL_t, noL_l, noLs_n, noLs_c, isNil_nil, out_rt, out_nx, ↓EE_var, varC_sh, ↓EE_cst, ↓EE_int, ↓EE_bl, ↓EE_non, ↓EE_str, ↓EE_bin, ↓EE_rep, repC_l, ↓EE_neg, negC_i, ↓EE_is, ↓EE_isn, ↓EE_eq, ↓EE_ne, ↓EE_lt, ↓EE_le, ↓EE_gt, ↓EE_ge, ↓EE_inn, ↓EE_ni, ↓EE_chain, ↓EE_and, andC_t, andC_f, ↓EE_or, orC_t, orC_f, ↓EE_not, ↓EE_ite, iteC_t, iteC_f, ↓EE_nil, ↓EE_cons, ↓EE_tup, ↓EE_lst, ↓EE_call, ↓EE_blt, ↓EE_isi, ↓EE_ix, ↓EE_sl, ↓EE_lc, ↓EE_rng, ↓EE_zip, ↓EE_enm, ↓EE_rev, ↓EE_bm, ↓EE_srt, seqR_nx, seqR_rt, seqR_bk, seqR_ct, seqR_no, iffR_t, iffR_f, appC_l, extC_l, putC_l, putX_i, popC_l, insC_l, reto_o, reto_s, unpC_t, rvsC_l, ↓EX, ↓ES_nil, ↓ES_seq, ↓ES_asg, ↓ES_unp, ↓ES_app, ↓ES_ext, ↓ES_put, ↓ES_pop, ↓ES_rvs, ↓ES_ins, ↓ES_ife, ↓ES_ret, ↓ES_reto, ↓ES_retn, ↓ES_for, ↓ES_brk, ↓ES_cnt, ↓ES_drp, forF_, shareAll_n, shareAll_c, shareAt_, shC_o, shC_s, shC_n, shC_x, memN_n, memN_c, after_, flatC_o, flatC_s, flat_i, flat_b, flat_s, flat_n, flat_l, flat_t, noLs_ints, noLs_rows, noLs_fi, q_set0, q_sets, q_get0, q_gets, q_getn, q_mapc, q_mapn, q_appc, q_appn, q_reps, q_rep0, q_bb, q_bs, q_bn, q_ms, q_mn, Nat.reduceAdd, Nat.reduceSub, q_lc, q_ln, q_pure, Bool.false_eq_true, q_ift, q_iff, q_ifb, q_ifc, ite_self, reduceCtorEq, Bool.and_true, Bool.true_and, Bool.and_false, Bool.false_and, Bool.and_self, Bool.not_true, Bool.not_false, CE.isNil, Nat.reduceEqDiff, and_self, decide_true, decide_false, atI_nat, h2, e2, EE_mk2, mk2_, encAr]
  · simp only [if_true] at h2
    simp only [c_arrow_at, runD, getD_sh, getD_ow, getB_b, getL_t, d_sh, d_ow, getO_t, getO_f, bindT_nm, bindT_tp, setAll_nil, setAll_cons, hide_nil, hide_cons, items_l, items_t, seq_l, seq_t, zipD2, zipD3, enmD_, rev_l, rev_t, len_l, len_t, len_s, sum_l, all_l, any_l, tup_l, tup_t, lst_l, lst_t, min2_, max2_, int_i, int_b, abs_i, add_i, add_s, add_l, add_t, sub_i, mul_i, div_i, mod_i, pow_i, eq_i, ne_i, lt_i, le_i, gt_i, ge_i, isi_i, isi_ib, isi_b, isi_bi, isi_tt, isi_tn, isi_tl, isi_ll, isi_lt, isNon_n, isNon_i, isNon_t, isNon_l, isDict_i, isDict_b, isDict_t, isDict_l, isDict_n, isDict_s, ix_l, ix_t, sl_l, sl_t, atI_nat, atI_0, atI_1, atI_2, atI_3, atI_4, atI_5, atI_6, atI_7, keep_sh, keep_l, noL_i, noL_b, noL_s, noL_n, noL_t, noL_l, noLs_n, noLs_c, isNil_nil, out_rt, out_nx, ↓EE_var, varC_sh, ↓EE_cst, ↓EE_int, ↓EE_bl, ↓EE_non, ↓EE_str, ↓EE_bin, ↓EE_rep, repC_l, ↓EE_neg, negC_i, ↓EE_is, ↓EE_isn, ↓EE_eq, ↓EE_ne, ↓EE_lt, ↓EE_le, ↓EE_gt, ↓EE_ge, ↓EE_inn, ↓EE_ni, ↓EE_chain, ↓EE_and, andC_t, andC_f, ↓EE_or, orC_t, orC_f, ↓EE_not, ↓EE_ite, iteC_t, iteC_f, ↓EE_nil, ↓EE_cons, ↓EE_tup, ↓EE_lst, ↓EE_call, ↓EE_blt, ↓EE_isi, ↓EE_ix, ↓EE_sl, ↓EE_lc, ↓EE_rng, ↓EE_zip, ↓EE_enm, ↓EE_rev, ↓EE_bm, ↓EE_srt, seqR_nx, seqR_rt, seqR_bk, seqR_ct, seqR_no, iffR_t, iffR_f, appC_l, extC_l, putC_l, putX_i, popC_l, insC_l, reto_o, reto_s, unpC_t, rvsC_l, ↓EX, ↓ES_nil, ↓ES_seq, ↓ES_asg, ↓ES_unp, ↓ES_app, ↓ES_ext, ↓ES_put, ↓ES_pop, ↓ES_rvs, ↓ES_ins, ↓ES_ife, ↓ES_ret, ↓ES_reto, ↓ES_retn, ↓ES_for, ↓ES_brk, ↓ES_cnt, ↓ES_drp, forF_, shareAll_n, shareAll_c, shareAt_, shC_o, shC_s, shC_n, shC_x, memN_n, memN_c, after_, flatC_o, flatC_s, flat_i, flat_b, flat_s, flat_n, flat_l, flat_t, noLs_ints, noLs_rows, noLs_fi, q_set0, q_sets, q_get0, q_gets, q_getn, q_mapc, q_mapn, q_appc, q_appn, q_reps, q_rep0, q_bb, q_bs, q_bn, q_ms, q_mn, Nat.reduceAdd, Nat.reduceSub, q_lc, q_ln, q_pure, Bool.false_eq_true, q_ift, q_iff, q_ifb, q_ifc, ite_self, reduceCtorEq, Bool.and_true, Bool.true_and, Bool.and_false, Bool.false_and, Bool.and_self, Bool.not_true, Bool.not_false, CE.isNil, Nat.reduceEqDiff, and_self, decide_true, decide_false, atI_nat, h2, e1, EE_mk2, mk2_, encAr]
end
end EV
end

section
set_option linter.all false
set_option maxRecDepth 100000
set_option maxHeartbeats 2000000
/-! EQ, part 5: rows, spaces carried from room to room. -/
namespace EV
open PySem L2
theorem baseM_long {p : Int} {long : Nat} {loads : List (List Int)} : (baseM p long loads).length ≤ long := by
  have h : ∀ (xs : List Nat) (b : BS), (xs.foldl (stepM p) b).base.length ≤ b.base.length + xs.length := fun xs => by
    induction xs with
    | nil => intro b; simp
    | cons x xs ih =>
      intro b
      have h1 : (stepM p b x).base.length ≤ b.base.length + 1 := by
        unfold stepM
        split <;> simp
      have := ih (stepM p b x)
      rw [List.foldl_cons, List.length_cons]
      omega
  have := h (List.range long) ⟨loads, []⟩
  simpa [baseM] using this
structure Ar where
  r : Bool
  high : Nat
  wide : Nat
  rows : List (List Int)
def Ar.ok (p : Int) (a : Ar) (left right : Nat) : Prop := Rws p a.wide a.rows ∧ a.rows.length = a.high ∧ (if a.r then a.wide = left ∧ a.high = right else a.wide = right ∧ a.high = left)
def encA (a : Ar) : D := .tuple [.str (if a.r then "r" else "l"), encTab a.high a.wide a.rows]
structure Rw where
  p : Int
  widths : List Nat
  arrows : List Ar
abbrev encR (x : Rw) : D := .tuple [.int x.p, .tuple (x.widths.map fun n => .int (n : Nat)), .tuple (x.arrows.map encA)]
def wd (x : Rw) (k : Nat) : Nat := x.widths.getD k 0
def ar (x : Rw) (k : Nat) : Ar := x.arrows.getD k ⟨true, 0, 0, []⟩
structure Rw.ok (x : Rw) : Prop where
  p : P4 x.p
  len : x.widths.length = x.arrows.length + 1
  few : x.widths.length ≤ 1000
  wide : ∀ k, wd x k ≤ 400
  arr : ∀ k, k < x.arrows.length → (ar x k).ok x.p (wd x k) (wd x (k + 1))
def stepF (x : Rw) (k : Nat) (base : List (List Int)) : List (List Int) := fwdM x.p (ar x k).r (ar x k).high (ar x k).wide (ar x k).rows base
def stepB (x : Rw) (k : Nat) (base : List (List Int)) : List (List Int) := bwdM x.p (ar x k).r (ar x k).high (ar x k).wide (ar x k).rows base
theorem press_ok {p : Int} {high wide : Nat} {rows base : List (List Int)} (hp : P4 p) (hh : rows.length = high) : Rws p high (pressM p high rows base) ∧ (pressM p high rows base).length ≤ high := by
  have hR : Rws p high (base.map (ledM p rows)) := fun r hrm => by
    obtain ⟨l, _, rfl⟩ := List.mem_map.mp hrm
    exact ⟨by rw [ledM_len, hh], ledM_ent hp.pos⟩
  exact ⟨(baseM_ok (long := high) hp hR (Nat.le_refl _)).1, baseM_long⟩
theorem leading_ok {p : Int} {high wide : Nat} {rows base : List (List Int)} (hp : P4 p) (hr : Rws p wide rows) (hh : rows.length = high) (hB : Rws p high base) : Rws p wide (leadingM p high wide rows base) ∧ (leadingM p high wide rows base).length ≤ wide := by
  obtain ⟨hj1, _⟩ := jtab_ok hp.pos hr hh hB
  obtain ⟨hk1, _⟩ := kernelM_ok hp hj1
  exact ⟨(baseM_ok (long := wide) hp (drop_rws hk1) (Nat.le_refl _)).1, baseM_long⟩
theorem stepF_ok {x : Rw} (hx : x.ok) {k : Nat} (hk : k < x.arrows.length) {base : List (List Int)} (hB : Rws x.p (wd x k) base) : Rws x.p (wd x (k + 1)) (stepF x k base) ∧ (stepF x k base).length ≤ wd x (k + 1) := by
  obtain ⟨h1, h2, h3⟩ := hx.arr k hk
  unfold stepF fwdM
  cases hr : (ar x k).r with
  | true =>
    simp only [hr, if_true] at h3 ⊢
    rw [← h3.2]; exact press_ok (wide := (ar x k).wide) hx.p h2
  | false =>
    simp only [hr, Bool.false_eq_true, if_false] at h3 ⊢
    rw [← h3.1]; exact leading_ok hx.p h1 h2 (by rw [h3.2]; exact hB)
theorem stepB_ok {x : Rw} (hx : x.ok) {k : Nat} (hk : k < x.arrows.length) {base : List (List Int)} (hB : Rws x.p (wd x (k + 1)) base) : Rws x.p (wd x k) (stepB x k base) ∧ (stepB x k base).length ≤ wd x k := by
  obtain ⟨h1, h2, h3⟩ := hx.arr k hk
  unfold stepB bwdM
  cases hr : (ar x k).r with
  | true =>
    simp only [hr, if_true] at h3 ⊢
    rw [← h3.1]; exact leading_ok hx.p h1 h2 (by rw [h3.2]; exact hB)
  | false =>
    simp only [hr, Bool.false_eq_true, if_false] at h3 ⊢
    rw [← h3.2]; exact press_ok (wide := (ar x k).wide) hx.p h2
def carF (x : Rw) (i : Nat) : Nat → List (List Int) → List (List Int)
  | 0, base => base
  | n + 1, base => stepF x (i + n) (carF x i n base)
def carB (x : Rw) (i : Nat) : Nat → List (List Int) → List (List Int)
  | 0, base => base
  | n + 1, base => stepB x (i - 1 - n) (carB x i n base)
theorem carF_ok {x : Rw} (hx : x.ok) {i : Nat} {base : List (List Int)} (hB : Rws x.p (wd x i) base) (hn : base.length ≤ 400) : ∀ n, i + n ≤ x.arrows.length → Rws x.p (wd x (i + n)) (carF x i n base) ∧ (carF x i n base).length ≤ 400
  | 0, _ => ⟨hB, hn⟩
  | n + 1, h => by
    have := stepF_ok hx (k := i + n) (by omega) (carF_ok hx hB hn n (by omega)).1
    exact ⟨this.1, Nat.le_trans this.2 (hx.wide _)⟩
theorem carB_ok {x : Rw} (hx : x.ok) {i : Nat} (hi : i ≤ x.arrows.length) {base : List (List Int)} (hB : Rws x.p (wd x i) base) (hn : base.length ≤ 400) : ∀ n, n ≤ i → Rws x.p (wd x (i - n)) (carB x i n base) ∧ (carB x i n base).length ≤ 400
  | 0, _ => ⟨hB, hn⟩
  | n + 1, h => by
    have h1 := (carB_ok hx hi hB hn n (by omega)).1
    rw [show i - n = i - 1 - n + 1 by omega] at h1
    have := stepB_ok hx (k := i - 1 - n) (by omega) h1
    rw [show i - (n + 1) = i - 1 - n by omega]
    exact ⟨this.1, Nat.le_trans this.2 (hx.wide _)⟩
theorem rng_2 {i j : Nat} (hi : i ≤ 100000) (hj : j ≤ 100000) : rngD [.int (i : Nat), .int (j : Nat)] = some ((List.range (j - i)).map fun t => .int ((i + t : Nat) : Int)) := by
  show (if (rngOk (i : Int) && rngOk (j : Int) && decide ((j : Int) - i ≤ big)) = true then some ((List.range ((j : Int) - i).toNat).map fun t => PyData.int ((i : Int) + (t : Nat))) else none) = _
  have h1 : rngOk (i : Int) = true := by unfold rngOk; rw [decide_eq_true_eq]; omega
  have h2 : rngOk (j : Int) = true := by unfold rngOk; rw [decide_eq_true_eq]; omega
  have h3 : decide ((j : Int) - i ≤ big) = true := by rw [decide_eq_true_eq]; unfold big; omega
  rw [h1, h2, h3]
  have e : ((j : Int) - i).toNat = j - i := by omega
  simp only [Bool.and_self, if_true, e, Int.natCast_add]
theorem rng_3 {i j : Nat} (hi : i ≤ 100000) (hj : j ≤ 100000) : rngD [.int ((i : Int) - 1), .int ((j : Int) - 1), .int (-1)] = some ((List.range (i - j)).map fun t => .int ((i - 1 - t : Nat) : Int)) := by
  show (if (rngOk ((i : Int) - 1) && rngOk ((j : Int) - 1) && decide ((-1 : Int) = -1) && decide ((i : Int) - 1 - ((j : Int) - 1) ≤ big)) = true then some ((List.range ((i : Int) - 1 - ((j : Int) - 1)).toNat).map fun t => PyData.int ((i : Int) - 1 - (t : Nat))) else none) = _
  have h1 : rngOk ((i : Int) - 1) = true := by unfold rngOk; rw [decide_eq_true_eq]; omega
  have h2 : rngOk ((j : Int) - 1) = true := by unfold rngOk; rw [decide_eq_true_eq]; omega
  have h3 : decide ((i : Int) - 1 - ((j : Int) - 1) ≤ big) = true := by rw [decide_eq_true_eq]; unfold big; omega
  rw [h1, h2, h3]
  have e : ((i : Int) - 1 - ((j : Int) - 1)).toNat = i - j := by omega
  simp only [Bool.and_self, if_true, e, decide_true, Option.some.injEq]
  refine List.map_congr_left fun t ht => ?_
  have := List.mem_range.mp ht
  congr 1
  omega
section
variable {tab : Nat → Option Def} {C : Nat → Option D} (T : PT tab) {k : Nat}
include T
theorem arrow_row_g {x : Rw} {j : Nat} (hj : j < x.arrows.length) : GG tab C (k + 1) 14 [encR x, .int (j : Nat)] = some (.sh (encAr (ar x j).r x.p (encTab (ar x j).high (ar x j).wide (ar x j).rows))) := by
  have h := arrow_at_g T (C := C) (k := k) (p := x.p) (ws := .tuple (x.widths.map fun n => .int (n : Nat))) (arrows := x.arrows.map fun a => (a.r, encTab a.high a.wide a.rows)) (j := j) (r := (ar x j).r) (tb := encTab (ar x j).high (ar x j).wide (ar x j).rows) (by
    have : ar x j = x.arrows[j] := by simp [ar, hj]
    rw [this]; simp [hj])
  rw [List.map_map] at h
  exact h
theorem carried_g {x : Rw} (hx : x.ok) {i j : Nat} (hi : i ≤ x.arrows.length) (hj : j ≤ x.arrows.length) {base : List (List Int)} (hB : Rws x.p (wd x i) base) (hn : base.length ≤ 400) :
    GG tab C (k + 8) 19 [encR x, encB base, .int (i : Nat), .int (j : Nat)] = some (.ow (encB (if i ≤ j then carF x i (j - i) base else carB x i (i - j) base))) := by
  rw [gg (T.go 19 _ rfl)]
  have hlen := hx.len
  have hfew := hx.few
  -- forth
  have f1 : i ≤ j → ∀ c4, ∃ c4', forGo (forF (GG tab C (k + 7)) C (.nm 4) c_carried_b2) ((List.range (j - i)).map fun t => PyData.int ((i + t : Nat) : Int)) [.sh (encR x), .ow (encB base), .sh (.int (i : Nat)), .sh (.int (j : Nat)), c4] = some (.nx [.sh (encR x), .ow (encB (carF x i (j - i) base)), .sh (.int (i : Nat)), .sh (.int (j : Nat)), c4']) := fun hij c4 => by
    have main : ∀ (n m : Nat) (c4 : Cell), i + m + n ≤ j → ∃ c4', forGo (forF (GG tab C (k + 7)) C (.nm 4) c_carried_b2) ((List.range' m n).map fun t => PyData.int ((i + t : Nat) : Int)) [.sh (encR x), .ow (encB (carF x i m base)), .sh (.int (i : Nat)), .sh (.int (j : Nat)), c4] = some (.nx [.sh (encR x), .ow (encB (carF x i (m + n) base)), .sh (.int (i : Nat)), .sh (.int (j : Nat)), c4']) := fun n => by
      induction n with
      | zero => intro m c4 _; exact ⟨c4, rfl⟩
      | succ n ih =>
        intro m c4 h
        obtain ⟨c4', e⟩ := ih (m + 1) (.sh (.int ((i + m : Nat) : Int))) (by omega)
        refine ⟨c4', ?_⟩
        rw [List.range'_succ, List.map_cons]
        have hb := carF_ok hx hB hn m (by omega)
        have ha := hx.arr (i + m) (by omega)
        have hw1 := hx.wide (i + m)
        have hw2 := hx.wide (i + m + 1)
        have g1 := arrow_row_g T (C := C) (k := k + 6) (x := x) (j := i + m) (by omega)
        have g2 := forth_g T (C := C) (k := k + 1) (r := (ar x (i + m)).r) (base := carF x i m base) hx.p ha.1 ha.2.1 (by have := ha.2.2; split at this <;> omega) (by have := ha.2.2; split at this <;> omega) (by omega) (fun hr => by
          have h3 := ha.2.2
          simp only [hr, Bool.false_eq_true, if_false] at h3
          rw [h3.2]; exact hb.1)
        have st : forF (GG tab C (k + 7)) C (.nm 4) c_carried_b2 (.int ((i + m : Nat) : Int)) [.sh (encR x), .ow (encB (carF x i m base)), .sh (.int (i : Nat)), .sh (.int (j : Nat)), c4] = some (.nx [.sh (encR x), .ow (encB (carF x i (m + 1) base)), .sh (.int (i : Nat)), .sh (.int (j : Nat)), .sh (.int ((i + m : Nat) : Int))]) := by
          simp only [c_carried_b2, runD, getD_sh, getD_ow, getB_b, getL_t, d_sh, d_ow, getO_t, getO_f, bindT_nm, bindT_tp, setAll_nil, setAll_cons, hide_nil, hide_cons, items_l, items_t, seq_l, seq_t, zipD2, zipD3, enmD_, rev_l, rev_t, len_l, len_t, len_s, sum_l, all_l, any_l, tup_l, tup_t, lst_l, lst_t, min2_, max2_, int_i, int_b, abs_i, add_i, add_s, add_l, add_t, sub_i, mul_i, div_i, mod_i, pow_i, eq_i, ne_i, lt_i, le_i, gt_i, ge_i, isi_i, isi_ib, isi_b, isi_bi, isi_tt, isi_tn, isi_tl, isi_ll, isi_lt, isNon_n, isNon_i, isNon_t, isNon_l, isDict_i, isDict_b, isDict_t, isDict_l, isDict_n, isDict_s, ix_l, ix_t, sl_l, sl_t, atI_nat, atI_0, atI_1, atI_2, atI_3, atI_4, atI_5, atI_6, atI_7, keep_sh, keep_l, noL_i, noL_b, noL_s, noL_n, noL_t, noL_l, noLs_n, noLs_c, isNil_nil, out_rt, out_nx, ↓EE_var, varC_sh, ↓EE_cst, ↓EE_int, ↓EE_bl, ↓EE_non, ↓EE_str, ↓EE_bin, ↓EE_rep, repC_l, ↓EE_neg, negC_i, ↓EE_is, ↓EE_isn, ↓EE_eq, ↓EE_ne, ↓EE_lt, ↓EE_le, ↓EE_gt, ↓EE_ge, ↓EE_inn, ↓EE_ni, ↓EE_chain, ↓EE_and, andC_t, andC_f, ↓EE_or, orC_t, orC_f, ↓EE_not, ↓EE_ite, iteC_t, iteC_f, ↓EE_nil, ↓EE_cons, ↓EE_tup, ↓EE_lst, ↓EE_call, ↓EE_blt, ↓EE_isi, ↓EE_ix, ↓EE_sl, ↓EE_lc, ↓EE_rng, ↓EE_zip, ↓EE_enm, ↓EE_rev, ↓EE_bm, ↓EE_srt, seqR_nx, seqR_rt, seqR_bk, seqR_ct, seqR_no, iffR_t, iffR_f, appC_l, extC_l, putC_l, putX_i, popC_l, insC_l, reto_o, reto_s, unpC_t, rvsC_l, ↓EX, ↓ES_nil, ↓ES_seq, ↓ES_asg, ↓ES_unp, ↓ES_app, ↓ES_ext, ↓ES_put, ↓ES_pop, ↓ES_rvs, ↓ES_ins, ↓ES_ife, ↓ES_ret, ↓ES_reto, ↓ES_retn, ↓ES_for, ↓ES_brk, ↓ES_cnt, ↓ES_drp, forF_, shareAll_n, shareAll_c, shareAt_, shC_o, shC_s, shC_n, shC_x, memN_n, memN_c, after_, flatC_o, flatC_s, flat_i, flat_b, flat_s, flat_n, flat_l, flat_t, noLs_ints, noLs_rows, noLs_fi, q_set0, q_sets, q_get0, q_gets, q_getn, q_mapc, q_mapn, q_appc, q_appn, q_reps, q_rep0, q_bb, q_bs, q_bn, q_ms, q_mn, Nat.reduceAdd, Nat.reduceSub, q_lc, q_ln, q_pure, Bool.false_eq_true, q_ift, q_iff, q_ifb, q_ifc, ite_self, reduceCtorEq, Bool.and_true, Bool.true_and, Bool.and_false, Bool.false_and, Bool.and_self, Bool.not_true, Bool.not_false, CE.isNil, Nat.reduceEqDiff, and_self, decide_true, decide_false, EE_mth, g1, mth_3, g2]
          rfl
        show (match forF (GG tab C (k + 7)) C (.nm 4) c_carried_b2 (.int ((i + m : Nat) : Int)) _ with
          | some (.nx env') => forGo _ _ env'
          | some (.ct env') => forGo _ _ env'
          | some (.bk env') => some (.nx env')
          | some (.rt c) => some (.rt c)
          | none => none) = _
        rw [st]
        rw [show m + (n + 1) = m + 1 + n by omega]
        exact e
    obtain ⟨c4', e⟩ := main (j - i) 0 c4 (by omega)
    rw [Nat.zero_add, ← List.range_eq_range'] at e
    exact ⟨c4', e⟩
  have f2 : j ≤ i → ∀ c4, ∃ c4', forGo (forF (GG tab C (k + 7)) C (.nm 4) c_carried_b1) ((List.range (i - j)).map fun t => PyData.int ((i - 1 - t : Nat) : Int)) [.sh (encR x), .ow (encB base), .sh (.int (i : Nat)), .sh (.int (j : Nat)), c4] = some (.nx [.sh (encR x), .ow (encB (carB x i (i - j) base)), .sh (.int (i : Nat)), .sh (.int (j : Nat)), c4']) := fun hij c4 => by
    have main : ∀ (n m : Nat) (c4 : Cell), j + m + n ≤ i → ∃ c4', forGo (forF (GG tab C (k + 7)) C (.nm 4) c_carried_b1) ((List.range' m n).map fun t => PyData.int ((i - 1 - t : Nat) : Int)) [.sh (encR x), .ow (encB (carB x i m base)), .sh (.int (i : Nat)), .sh (.int (j : Nat)), c4] = some (.nx [.sh (encR x), .ow (encB (carB x i (m + n) base)), .sh (.int (i : Nat)), .sh (.int (j : Nat)), c4']) := fun n => by
      induction n with
      | zero => intro m c4 _; exact ⟨c4, rfl⟩
      | succ n ih =>
        intro m c4 h
        obtain ⟨c4', e⟩ := ih (m + 1) (.sh (.int ((i - 1 - m : Nat) : Int))) (by omega)
        refine ⟨c4', ?_⟩
        rw [List.range'_succ, List.map_cons]
        have hb := carB_ok hx hi hB hn m (by omega)
        have ha := hx.arr (i - 1 - m) (by omega)
        have e1 : i - 1 - m + 1 = i - m := by omega
        rw [e1] at ha
        have hw1 := hx.wide (i - 1 - m)
        have hw2 := hx.wide (i - m)
        have g1 := arrow_row_g T (C := C) (k := k + 6) (x := x) (j := i - 1 - m) (by omega)
        have g2 := back_g T (C := C) (k := k + 1) (r := (ar x (i - 1 - m)).r) (base := carB x i m base) hx.p ha.1 ha.2.1 (by have := ha.2.2; split at this <;> omega) (by have := ha.2.2; split at this <;> omega) (by omega) (fun hr => by
          have h3 := ha.2.2
          simp only [hr, if_true] at h3
          rw [h3.2]; exact hb.1)
        have st : forF (GG tab C (k + 7)) C (.nm 4) c_carried_b1 (.int ((i - 1 - m : Nat) : Int)) [.sh (encR x), .ow (encB (carB x i m base)), .sh (.int (i : Nat)), .sh (.int (j : Nat)), c4] = some (.nx [.sh (encR x), .ow (encB (carB x i (m + 1) base)), .sh (.int (i : Nat)), .sh (.int (j : Nat)), .sh (.int ((i - 1 - m : Nat) : Int))]) := by
          simp only [c_carried_b1, runD, getD_sh, getD_ow, getB_b, getL_t, d_sh, d_ow, getO_t, getO_f, bindT_nm, bindT_tp, setAll_nil, setAll_cons, hide_nil, hide_cons, items_l, items_t, seq_l, seq_t, zipD2, zipD3, enmD_, rev_l, rev_t, len_l, len_t, len_s, sum_l, all_l, any_l, tup_l, tup_t, lst_l, lst_t, min2_, max2_, int_i, int_b, abs_i, add_i, add_s, add_l, add_t, sub_i, mul_i, div_i, mod_i, pow_i, eq_i, ne_i, lt_i, le_i, gt_i, ge_i, isi_i, isi_ib, isi_b, isi_bi, isi_tt, isi_tn, isi_tl, isi_ll, isi_lt, isNon_n, isNon_i, isNon_t, isNon_l, isDict_i, isDict_b, isDict_t, isDict_l, isDict_n, isDict_s, ix_l, ix_t, sl_l, sl_t, atI_nat, atI_0, atI_1, atI_2, atI_3, atI_4, atI_5, atI_6, atI_7, keep_sh, keep_l, noL_i, noL_b, noL_s, noL_n, noL_t, noL_l, noLs_n, noLs_c, isNil_nil, out_rt, out_nx, ↓EE_var, varC_sh, ↓EE_cst, ↓EE_int, ↓EE_bl, ↓EE_non, ↓EE_str, ↓EE_bin, ↓EE_rep, repC_l, ↓EE_neg, negC_i, ↓EE_is, ↓EE_isn, ↓EE_eq, ↓EE_ne, ↓EE_lt, ↓EE_le, ↓EE_gt, ↓EE_ge, ↓EE_inn, ↓EE_ni, ↓EE_chain, ↓EE_and, andC_t, andC_f, ↓EE_or, orC_t, orC_f, ↓EE_not, ↓EE_ite, iteC_t, iteC_f, ↓EE_nil, ↓EE_cons, ↓EE_tup, ↓EE_lst, ↓EE_call, ↓EE_blt, ↓EE_isi, ↓EE_ix, ↓EE_sl, ↓EE_lc, ↓EE_rng, ↓EE_zip, ↓EE_enm, ↓EE_rev, ↓EE_bm, ↓EE_srt, seqR_nx, seqR_rt, seqR_bk, seqR_ct, seqR_no, iffR_t, iffR_f, appC_l, extC_l, putC_l, putX_i, popC_l, insC_l, reto_o, reto_s, unpC_t, rvsC_l, ↓EX, ↓ES_nil, ↓ES_seq, ↓ES_asg, ↓ES_unp, ↓ES_app, ↓ES_ext, ↓ES_put, ↓ES_pop, ↓ES_rvs, ↓ES_ins, ↓ES_ife, ↓ES_ret, ↓ES_reto, ↓ES_retn, ↓ES_for, ↓ES_brk, ↓ES_cnt, ↓ES_drp, forF_, shareAll_n, shareAll_c, shareAt_, shC_o, shC_s, shC_n, shC_x, memN_n, memN_c, after_, flatC_o, flatC_s, flat_i, flat_b, flat_s, flat_n, flat_l, flat_t, noLs_ints, noLs_rows, noLs_fi, q_set0, q_sets, q_get0, q_gets, q_getn, q_mapc, q_mapn, q_appc, q_appn, q_reps, q_rep0, q_bb, q_bs, q_bn, q_ms, q_mn, Nat.reduceAdd, Nat.reduceSub, q_lc, q_ln, q_pure, Bool.false_eq_true, q_ift, q_iff, q_ifb, q_ifc, ite_self, reduceCtorEq, Bool.and_true, Bool.true_and, Bool.and_false, Bool.false_and, Bool.and_self, Bool.not_true, Bool.not_false, CE.isNil, Nat.reduceEqDiff, and_self, decide_true, decide_false, EE_mth, g1, mth_4, g2]
          rfl
        show (match forF (GG tab C (k + 7)) C (.nm 4) c_carried_b1 (.int ((i - 1 - m : Nat) : Int)) _ with
          | some (.nx env') => forGo _ _ env'
          | some (.ct env') => forGo _ _ env'
          | some (.bk env') => some (.nx env')
          | some (.rt c) => some (.rt c)
          | none => none) = _
        rw [st]
        rw [show m + (n + 1) = m + 1 + n by omega]
        exact e
    obtain ⟨c4', e⟩ := main (i - j) 0 c4 (by omega)
    rw [Nat.zero_add, ← List.range_eq_range'] at e
    exact ⟨c4', e⟩
  have r1 := rng_2 (i := i) (j := j) (by omega) (by omega)
  have r2 := rng_3 (i := i) (j := j) (by omega) (by omega)
  by_cases hij : i ≤ j
  · obtain ⟨c4', e1⟩ := f1 hij .no
    have e2 : i - j = 0 := by omega
    have e3 : ∀ f env, forGo f ((List.range (i - j)).map fun t => PyData.int ((i - 1 - t : Nat) : Int)) env = some (.nx env) := fun f env => by rw [e2]; rfl
    rw [if_pos hij]
    simp only [c_carried, runD, getD_sh, getD_ow, getB_b, getL_t, d_sh, d_ow, getO_t, getO_f, bindT_nm, bindT_tp, setAll_nil, setAll_cons, hide_nil, hide_cons, items_l, items_t, seq_l, seq_t, zipD2, zipD3, enmD_, rev_l, rev_t, len_l, len_t, len_s, sum_l, all_l, any_l, tup_l, tup_t, lst_l, lst_t, min2_, max2_, int_i, int_b, abs_i, add_i, add_s, add_l, add_t, sub_i, mul_i, div_i, mod_i, pow_i, eq_i, ne_i, lt_i, le_i, gt_i, ge_i, isi_i, isi_ib, isi_b, isi_bi, isi_tt, isi_tn, isi_tl, isi_ll, isi_lt, isNon_n, isNon_i, isNon_t, isNon_l, isDict_i, isDict_b, isDict_t, isDict_l, isDict_n, isDict_s, ix_l, ix_t, sl_l, sl_t, atI_nat, atI_0, atI_1, atI_2, atI_3, atI_4, atI_5, atI_6, atI_7, keep_sh, keep_l, noL_i, noL_b, noL_s, noL_n, noL_t, noL_l, noLs_n, noLs_c, isNil_nil, out_rt, out_nx, ↓EE_var, varC_sh, ↓EE_cst, ↓EE_int, ↓EE_bl, ↓EE_non, ↓EE_str, ↓EE_bin, ↓EE_rep, repC_l, ↓EE_neg, negC_i, ↓EE_is, ↓EE_isn, ↓EE_eq, ↓EE_ne, ↓EE_lt, ↓EE_le, ↓EE_gt, ↓EE_ge, ↓EE_inn, ↓EE_ni, ↓EE_chain, ↓EE_and, andC_t, andC_f, ↓EE_or, orC_t, orC_f, ↓EE_not, ↓EE_ite, iteC_t, iteC_f, ↓EE_nil, ↓EE_cons, ↓EE_tup, ↓EE_lst, ↓EE_call, ↓EE_blt, ↓EE_isi, ↓EE_ix, ↓EE_sl, ↓EE_lc, ↓EE_rng, ↓EE_zip, ↓EE_enm, ↓EE_rev, ↓EE_bm, ↓EE_srt, seqR_nx, seqR_rt, seqR_bk, seqR_ct, seqR_no, iffR_t, iffR_f, appC_l, extC_l, putC_l, putX_i, popC_l, insC_l, reto_o, reto_s, unpC_t, rvsC_l, ↓EX, ↓ES_nil, ↓ES_seq, ↓ES_asg, ↓ES_unp, ↓ES_app, ↓ES_ext, ↓ES_put, ↓ES_pop, ↓ES_rvs, ↓ES_ins, ↓ES_ife, ↓ES_ret, ↓ES_reto, ↓ES_retn, ↓ES_for, ↓ES_brk, ↓ES_cnt, ↓ES_drp, forF_, shareAll_n, shareAll_c, shareAt_, shC_o, shC_s, shC_n, shC_x, memN_n, memN_c, after_, flatC_o, flatC_s, flat_i, flat_b, flat_s, flat_n, flat_l, flat_t, noLs_ints, noLs_rows, noLs_fi, q_set0, q_sets, q_get0, q_gets, q_getn, q_mapc, q_mapn, q_appc, q_appn, q_reps, q_rep0, q_bb, q_bs, q_bn, q_ms, q_mn, Nat.reduceAdd, Nat.reduceSub, q_lc, q_ln, q_pure, Bool.false_eq_true, q_ift, q_iff, q_ifb, q_ifc, ite_self, reduceCtorEq, Bool.and_true, Bool.true_and, Bool.and_false, Bool.false_and, Bool.and_self, Bool.not_true, Bool.not_false, CE.isNil, Nat.reduceEqDiff, and_self, decide_true, decide_false, r1, e1, r2, e3]
  · obtain ⟨c4', e1⟩ := f2 (by omega) .no
    have e2 : j - i = 0 := by omega
    have e3 : ∀ f env, forGo f ((List.range (j - i)).map fun t => PyData.int ((i + t : Nat) : Int)) env = some (.nx env) := fun f env => by rw [e2]; rfl
    rw [if_neg hij]
    simp only [c_carried, runD, getD_sh, getD_ow, getB_b, getL_t, d_sh, d_ow, getO_t, getO_f, bindT_nm, bindT_tp, setAll_nil, setAll_cons, hide_nil, hide_cons, items_l, items_t, seq_l, seq_t, zipD2, zipD3, enmD_, rev_l, rev_t, len_l, len_t, len_s, sum_l, all_l, any_l, tup_l, tup_t, lst_l, lst_t, min2_, max2_, int_i, int_b, abs_i, add_i, add_s, add_l, add_t, sub_i, mul_i, div_i, mod_i, pow_i, eq_i, ne_i, lt_i, le_i, gt_i, ge_i, isi_i, isi_ib, isi_b, isi_bi, isi_tt, isi_tn, isi_tl, isi_ll, isi_lt, isNon_n, isNon_i, isNon_t, isNon_l, isDict_i, isDict_b, isDict_t, isDict_l, isDict_n, isDict_s, ix_l, ix_t, sl_l, sl_t, atI_nat, atI_0, atI_1, atI_2, atI_3, atI_4, atI_5, atI_6, atI_7, keep_sh, keep_l, noL_i, noL_b, noL_s, noL_n, noL_t, noL_l, noLs_n, noLs_c, isNil_nil, out_rt, out_nx, ↓EE_var, varC_sh, ↓EE_cst, ↓EE_int, ↓EE_bl, ↓EE_non, ↓EE_str, ↓EE_bin, ↓EE_rep, repC_l, ↓EE_neg, negC_i, ↓EE_is, ↓EE_isn, ↓EE_eq, ↓EE_ne, ↓EE_lt, ↓EE_le, ↓EE_gt, ↓EE_ge, ↓EE_inn, ↓EE_ni, ↓EE_chain, ↓EE_and, andC_t, andC_f, ↓EE_or, orC_t, orC_f, ↓EE_not, ↓EE_ite, iteC_t, iteC_f, ↓EE_nil, ↓EE_cons, ↓EE_tup, ↓EE_lst, ↓EE_call, ↓EE_blt, ↓EE_isi, ↓EE_ix, ↓EE_sl, ↓EE_lc, ↓EE_rng, ↓EE_zip, ↓EE_enm, ↓EE_rev, ↓EE_bm, ↓EE_srt, seqR_nx, seqR_rt, seqR_bk, seqR_ct, seqR_no, iffR_t, iffR_f, appC_l, extC_l, putC_l, putX_i, popC_l, insC_l, reto_o, reto_s, unpC_t, rvsC_l, ↓EX, ↓ES_nil, ↓ES_seq, ↓ES_asg, ↓ES_unp, ↓ES_app, ↓ES_ext, ↓ES_put, ↓ES_pop, ↓ES_rvs, ↓ES_ins, ↓ES_ife, ↓ES_ret, ↓ES_reto, ↓ES_retn, ↓ES_for, ↓ES_brk, ↓ES_cnt, ↓ES_drp, forF_, shareAll_n, shareAll_c, shareAt_, shC_o, shC_s, shC_n, shC_x, memN_n, memN_c, after_, flatC_o, flatC_s, flat_i, flat_b, flat_s, flat_n, flat_l, flat_t, noLs_ints, noLs_rows, noLs_fi, q_set0, q_sets, q_get0, q_gets, q_getn, q_mapc, q_mapn, q_appc, q_appn, q_reps, q_rep0, q_bb, q_bs, q_bn, q_ms, q_mn, Nat.reduceAdd, Nat.reduceSub, q_lc, q_ln, q_pure, Bool.false_eq_true, q_ift, q_iff, q_ifb, q_ifc, ite_self, reduceCtorEq, Bool.and_true, Bool.true_and, Bool.and_false, Bool.false_and, Bool.and_self, Bool.not_true, Bool.not_false, CE.isNil, Nat.reduceEqDiff, and_self, decide_true, decide_false, r1, e3, r2, e1]
end
end EV
end

section
set_option linter.all false
set_option maxRecDepth 100000
set_option maxHeartbeats 2000000
/-! EQ, part 6: products, images, what is solved, backs. -/
namespace EV
open PySem L2
theorem cols_ok {p : Int} {high wide : Nat} {rows : List (List Int)} (hr : Rws p wide rows) (hh : rows.length = high) : Rws p high (colsM wide rows) ∧ (colsM wide rows).length = wide := by
  refine ⟨fun r hm => ?_, by simp [colsM]⟩
  obtain ⟨j, hj, rfl⟩ := List.mem_map.mp hm
  refine ⟨by simp [hh], fun x hx => ?_⟩
  obtain ⟨r, hrm, rfl⟩ := List.mem_map.mp hx
  exact (hr r hrm).2 _ (at0_mem (by rw [(hr r hrm).1]; exact List.mem_range.mp hj))
theorem aug_ok {p : Int} {high wide : Nat} {rows : List (List Int)} {load : List Int} (hr : Rws p wide rows) (hl : Ent p load) : Rws p (wide + 1) (augM rows load) ∧ (augM rows load).length ≤ rows.length := by
  refine ⟨fun r hm => ?_, by simp [augM]; omega⟩
  obtain ⟨q, hq, rfl⟩ := List.mem_map.mp hm
  obtain ⟨h1, h2⟩ := List.of_mem_zip hq
  refine ⟨by simp [(hr _ h1).1], fun x hx => ?_⟩
  rcases List.mem_append.mp hx with hx | hx
  · exact (hr _ h1).2 x hx
  · rw [List.mem_singleton] at hx; subst hx; exact hl _ h2
theorem both_ok {p : Int} {high : Nat} {rows : List (List Int)} (hp : P4 p) (hr : Rws p high rows) (hh : rows.length = high) : Rws p (2 * high) (bothM rows high) ∧ (bothM rows high).length = high := by
  refine ⟨fun r hm => ?_, by simp [bothM, sameM, hh]⟩
  obtain ⟨q, hq, rfl⟩ := List.mem_map.mp hm
  obtain ⟨h1, h2⟩ := List.of_mem_zip hq
  obtain ⟨i, _, e⟩ := List.mem_map.mp h2
  have hu := unitM_ent hp.one high i
  rw [e] at hu
  refine ⟨by rw [List.length_append, (hr _ h1).1, hu.1]; omega, fun x hx => ?_⟩
  rcases List.mem_append.mp hx with hx | hx
  · exact (hr _ h1).2 x hx
  · exact hu.2 x hx
section
variable {tab : Nat → Option Def} {C : Nat → Option D} (T : PT tab) {k : Nat}
include T
theorem product_g {p : Int} {high wide wide2 : Nat} {h2 : D} {rows rows2 : List (List Int)} (hp : P4 p) (hr : Rws p wide rows) (hr2 : ∀ r ∈ rows2, wide2 ≤ r.length) (hw : wide2 ≤ 1000) :
    GG tab C (k + 2) 2 [.int p, encTab high wide rows, .tuple [h2, .int (wide2 : Nat), .tuple (rows2.map encT)]] = some (.sh (encTab high wide2 (prodM p rows wide2 rows2))) := by
  rw [gg (T.go 2 _ rfl)]
  have h1 := columns_g T (C := C) (k := k) (high := h2) hr2 (by omega)
  have e1 : ∀ row, Rws p wide [row] → ∀ c1 c2 c4 env, lcGo (lcT (GG tab C (k + 1)) C [6] (.nm 6) .nil c_product_e1 (.sh (.int p) :: c1 :: c2 :: .sh (encB (colsM wide2 rows2)) :: c4 :: .sh (encT row) :: .no :: env)) ((colsM wide2 rows2).map encT) = some (((colsM wide2 rows2).map fun col => dot row col % p).map .int) := fun row hrow c1 c2 c4 env => by
    rw [List.map_map]
    refine lcGo_map fun col hcol => ?_
    have h := summed_g T (C := C) (k := k) (r := encT row) (row := row) (l := encT col) (load := col) rfl rfl hp.pos ((hrow row (by simp)).2.sm hp)
    simp only [lcF_all, c_product_e1, runD, getD_sh, getD_ow, getB_b, getL_t, d_sh, d_ow, getO_t, getO_f, bindT_nm, bindT_tp, setAll_nil, setAll_cons, hide_nil, hide_cons, items_l, items_t, seq_l, seq_t, zipD2, zipD3, enmD_, rev_l, rev_t, len_l, len_t, len_s, sum_l, all_l, any_l, tup_l, tup_t, lst_l, lst_t, min2_, max2_, int_i, int_b, abs_i, add_i, add_s, add_l, add_t, sub_i, mul_i, div_i, mod_i, pow_i, eq_i, ne_i, lt_i, le_i, gt_i, ge_i, isi_i, isi_ib, isi_b, isi_bi, isi_tt, isi_tn, isi_tl, isi_ll, isi_lt, isNon_n, isNon_i, isNon_t, isNon_l, isDict_i, isDict_b, isDict_t, isDict_l, isDict_n, isDict_s, ix_l, ix_t, sl_l, sl_t, atI_nat, atI_0, atI_1, atI_2, atI_3, atI_4, atI_5, atI_6, atI_7, keep_sh, keep_l, noL_i, noL_b, noL_s, noL_n, noL_t, noL_l, noLs_n, noLs_c, isNil_nil, out_rt, out_nx, ↓EE_var, varC_sh, ↓EE_cst, ↓EE_int, ↓EE_bl, ↓EE_non, ↓EE_str, ↓EE_bin, ↓EE_rep, repC_l, ↓EE_neg, negC_i, ↓EE_is, ↓EE_isn, ↓EE_eq, ↓EE_ne, ↓EE_lt, ↓EE_le, ↓EE_gt, ↓EE_ge, ↓EE_inn, ↓EE_ni, ↓EE_chain, ↓EE_and, andC_t, andC_f, ↓EE_or, orC_t, orC_f, ↓EE_not, ↓EE_ite, iteC_t, iteC_f, ↓EE_nil, ↓EE_cons, ↓EE_tup, ↓EE_lst, ↓EE_call, ↓EE_blt, ↓EE_isi, ↓EE_ix, ↓EE_sl, ↓EE_lc, ↓EE_rng, ↓EE_zip, ↓EE_enm, ↓EE_rev, ↓EE_bm, ↓EE_srt, seqR_nx, seqR_rt, seqR_bk, seqR_ct, seqR_no, iffR_t, iffR_f, appC_l, extC_l, putC_l, putX_i, popC_l, insC_l, reto_o, reto_s, unpC_t, rvsC_l, ↓EX, ↓ES_nil, ↓ES_seq, ↓ES_asg, ↓ES_unp, ↓ES_app, ↓ES_ext, ↓ES_put, ↓ES_pop, ↓ES_rvs, ↓ES_ins, ↓ES_ife, ↓ES_ret, ↓ES_reto, ↓ES_retn, ↓ES_for, ↓ES_brk, ↓ES_cnt, ↓ES_drp, forF_, shareAll_n, shareAll_c, shareAt_, shC_o, shC_s, shC_n, shC_x, memN_n, memN_c, after_, flatC_o, flatC_s, flat_i, flat_b, flat_s, flat_n, flat_l, flat_t, noLs_ints, noLs_rows, noLs_fi, q_set0, q_sets, q_get0, q_gets, q_getn, q_mapc, q_mapn, q_appc, q_appn, q_reps, q_rep0, q_bb, q_bs, q_bn, q_ms, q_mn, Nat.reduceAdd, Nat.reduceSub, q_lc, q_ln, q_pure, Bool.false_eq_true, q_ift, q_iff, q_ifb, q_ifc, ite_self, reduceCtorEq, Bool.and_true, Bool.true_and, Bool.and_false, Bool.false_and, Bool.and_self, Bool.not_true, Bool.not_false, CE.isNil, Nat.reduceEqDiff, and_self, decide_true, decide_false, h, Function.comp_def]
  have e2 : ∀ c1 c2 c4 env, lcGo (lcT (GG tab C (k + 1)) C [5] (.nm 5) .nil c_product_e2 (.sh (.int p) :: c1 :: c2 :: .sh (encB (colsM wide2 rows2)) :: c4 :: .no :: .no :: env)) (rows.map encT) = some ((prodM p rows wide2 rows2).map encT) := fun c1 c2 c4 env => by
    unfold prodM
    rw [List.map_map]
    refine lcGo_map fun row hrow => ?_
    have hR : Rws p wide [row] := fun r hm => by rw [List.mem_singleton] at hm; subst hm; exact hr r hrow
    simp only [lcF_all, c_product_e2, runD, getD_sh, getD_ow, getB_b, getL_t, d_sh, d_ow, getO_t, getO_f, bindT_nm, bindT_tp, setAll_nil, setAll_cons, hide_nil, hide_cons, items_l, items_t, seq_l, seq_t, zipD2, zipD3, enmD_, rev_l, rev_t, len_l, len_t, len_s, sum_l, all_l, any_l, tup_l, tup_t, lst_l, lst_t, min2_, max2_, int_i, int_b, abs_i, add_i, add_s, add_l, add_t, sub_i, mul_i, div_i, mod_i, pow_i, eq_i, ne_i, lt_i, le_i, gt_i, ge_i, isi_i, isi_ib, isi_b, isi_bi, isi_tt, isi_tn, isi_tl, isi_ll, isi_lt, isNon_n, isNon_i, isNon_t, isNon_l, isDict_i, isDict_b, isDict_t, isDict_l, isDict_n, isDict_s, ix_l, ix_t, sl_l, sl_t, atI_nat, atI_0, atI_1, atI_2, atI_3, atI_4, atI_5, atI_6, atI_7, keep_sh, keep_l, noL_i, noL_b, noL_s, noL_n, noL_t, noL_l, noLs_n, noLs_c, isNil_nil, out_rt, out_nx, ↓EE_var, varC_sh, ↓EE_cst, ↓EE_int, ↓EE_bl, ↓EE_non, ↓EE_str, ↓EE_bin, ↓EE_rep, repC_l, ↓EE_neg, negC_i, ↓EE_is, ↓EE_isn, ↓EE_eq, ↓EE_ne, ↓EE_lt, ↓EE_le, ↓EE_gt, ↓EE_ge, ↓EE_inn, ↓EE_ni, ↓EE_chain, ↓EE_and, andC_t, andC_f, ↓EE_or, orC_t, orC_f, ↓EE_not, ↓EE_ite, iteC_t, iteC_f, ↓EE_nil, ↓EE_cons, ↓EE_tup, ↓EE_lst, ↓EE_call, ↓EE_blt, ↓EE_isi, ↓EE_ix, ↓EE_sl, ↓EE_lc, ↓EE_rng, ↓EE_zip, ↓EE_enm, ↓EE_rev, ↓EE_bm, ↓EE_srt, seqR_nx, seqR_rt, seqR_bk, seqR_ct, seqR_no, iffR_t, iffR_f, appC_l, extC_l, putC_l, putX_i, popC_l, insC_l, reto_o, reto_s, unpC_t, rvsC_l, ↓EX, ↓ES_nil, ↓ES_seq, ↓ES_asg, ↓ES_unp, ↓ES_app, ↓ES_ext, ↓ES_put, ↓ES_pop, ↓ES_rvs, ↓ES_ins, ↓ES_ife, ↓ES_ret, ↓ES_reto, ↓ES_retn, ↓ES_for, ↓ES_brk, ↓ES_cnt, ↓ES_drp, forF_, shareAll_n, shareAll_c, shareAt_, shC_o, shC_s, shC_n, shC_x, memN_n, memN_c, after_, flatC_o, flatC_s, flat_i, flat_b, flat_s, flat_n, flat_l, flat_t, noLs_ints, noLs_rows, noLs_fi, q_set0, q_sets, q_get0, q_gets, q_getn, q_mapc, q_mapn, q_appc, q_appn, q_reps, q_rep0, q_bb, q_bs, q_bn, q_ms, q_mn, Nat.reduceAdd, Nat.reduceSub, q_lc, q_ln, q_pure, Bool.false_eq_true, q_ift, q_iff, q_ifb, q_ifc, ite_self, reduceCtorEq, Bool.and_true, Bool.true_and, Bool.and_false, Bool.false_and, Bool.and_self, Bool.not_true, Bool.not_false, CE.isNil, Nat.reduceEqDiff, and_self, decide_true, decide_false, e1 row hR, Function.comp_def]
  simp only [c_product, runD, getD_sh, getD_ow, getB_b, getL_t, d_sh, d_ow, getO_t, getO_f, bindT_nm, bindT_tp, setAll_nil, setAll_cons, hide_nil, hide_cons, items_l, items_t, seq_l, seq_t, zipD2, zipD3, enmD_, rev_l, rev_t, len_l, len_t, len_s, sum_l, all_l, any_l, tup_l, tup_t, lst_l, lst_t, min2_, max2_, int_i, int_b, abs_i, add_i, add_s, add_l, add_t, sub_i, mul_i, div_i, mod_i, pow_i, eq_i, ne_i, lt_i, le_i, gt_i, ge_i, isi_i, isi_ib, isi_b, isi_bi, isi_tt, isi_tn, isi_tl, isi_ll, isi_lt, isNon_n, isNon_i, isNon_t, isNon_l, isDict_i, isDict_b, isDict_t, isDict_l, isDict_n, isDict_s, ix_l, ix_t, sl_l, sl_t, atI_nat, atI_0, atI_1, atI_2, atI_3, atI_4, atI_5, atI_6, atI_7, keep_sh, keep_l, noL_i, noL_b, noL_s, noL_n, noL_t, noL_l, noLs_n, noLs_c, isNil_nil, out_rt, out_nx, ↓EE_var, varC_sh, ↓EE_cst, ↓EE_int, ↓EE_bl, ↓EE_non, ↓EE_str, ↓EE_bin, ↓EE_rep, repC_l, ↓EE_neg, negC_i, ↓EE_is, ↓EE_isn, ↓EE_eq, ↓EE_ne, ↓EE_lt, ↓EE_le, ↓EE_gt, ↓EE_ge, ↓EE_inn, ↓EE_ni, ↓EE_chain, ↓EE_and, andC_t, andC_f, ↓EE_or, orC_t, orC_f, ↓EE_not, ↓EE_ite, iteC_t, iteC_f, ↓EE_nil, ↓EE_cons, ↓EE_tup, ↓EE_lst, ↓EE_call, ↓EE_blt, ↓EE_isi, ↓EE_ix, ↓EE_sl, ↓EE_lc, ↓EE_rng, ↓EE_zip, ↓EE_enm, ↓EE_rev, ↓EE_bm, ↓EE_srt, seqR_nx, seqR_rt, seqR_bk, seqR_ct, seqR_no, iffR_t, iffR_f, appC_l, extC_l, putC_l, putX_i, popC_l, insC_l, reto_o, reto_s, unpC_t, rvsC_l, ↓EX, ↓ES_nil, ↓ES_seq, ↓ES_asg, ↓ES_unp, ↓ES_app, ↓ES_ext, ↓ES_put, ↓ES_pop, ↓ES_rvs, ↓ES_ins, ↓ES_ife, ↓ES_ret, ↓ES_reto, ↓ES_retn, ↓ES_for, ↓ES_brk, ↓ES_cnt, ↓ES_drp, forF_, shareAll_n, shareAll_c, shareAt_, shC_o, shC_s, shC_n, shC_x, memN_n, memN_c, after_, flatC_o, flatC_s, flat_i, flat_b, flat_s, flat_n, flat_l, flat_t, noLs_ints, noLs_rows, noLs_fi, q_set0, q_sets, q_get0, q_gets, q_getn, q_mapc, q_mapn, q_appc, q_appn, q_reps, q_rep0, q_bb, q_bs, q_bn, q_ms, q_mn, Nat.reduceAdd, Nat.reduceSub, q_lc, q_ln, q_pure, Bool.false_eq_true, q_ift, q_iff, q_ifb, q_ifc, ite_self, reduceCtorEq, Bool.and_true, Bool.true_and, Bool.and_false, Bool.false_and, Bool.and_self, Bool.not_true, Bool.not_false, CE.isNil, Nat.reduceEqDiff, and_self, decide_true, decide_false, encTab, h1, e2]
theorem same_table_g {n : Nat} (hn : n ≤ 1000) : GG tab C (k + 1) 22 [.int (n : Nat)] = some (.sh (encTab n n (sameM n))) := by
  rw [gg (T.go 22 _ rfl)]
  have hb : n ≤ 100000 := by omega
  have e1 : ∀ i c0 c1, lcGo (lcT (GG tab C k) C [3] (.nm 3) .nil c_same_table_e1 [c0, c1, .sh (.int (i : Nat)), .no]) ((List.range n).map fun i => PyData.int (i : Nat)) = some ((unitM n i).map .int) := fun i c0 c1 => by
    unfold unitM
    rw [List.map_map]
    refine lcGo_map fun j hj => ?_
    have : (if decide ((i : Int) = (j : Int)) = true then (1 : Int) else 0) = if j = i then 1 else 0 := by
      by_cases e : j = i
      · simp [e]
      · have : ¬ (i : Int) = (j : Int) := by omega
        simp [e, this]
    simp only [lcF_all, c_same_table_e1, runD, getD_sh, getD_ow, getB_b, getL_t, d_sh, d_ow, getO_t, getO_f, bindT_nm, bindT_tp, setAll_nil, setAll_cons, hide_nil, hide_cons, items_l, items_t, seq_l, seq_t, zipD2, zipD3, enmD_, rev_l, rev_t, len_l, len_t, len_s, sum_l, all_l, any_l, tup_l, tup_t, lst_l, lst_t, min2_, max2_, int_i, int_b, abs_i, add_i, add_s, add_l, add_t, sub_i, mul_i, div_i, mod_i, pow_i, eq_i, ne_i, lt_i, le_i, gt_i, ge_i, isi_i, isi_ib, isi_b, isi_bi, isi_tt, isi_tn, isi_tl, isi_ll, isi_lt, isNon_n, isNon_i, isNon_t, isNon_l, isDict_i, isDict_b, isDict_t, isDict_l, isDict_n, isDict_s, ix_l, ix_t, sl_l, sl_t, atI_nat, atI_0, atI_1, atI_2, atI_3, atI_4, atI_5, atI_6, atI_7, keep_sh, keep_l, noL_i, noL_b, noL_s, noL_n, noL_t, noL_l, noLs_n, noLs_c, isNil_nil, out_rt, out_nx, ↓EE_var, varC_sh, ↓EE_cst, ↓EE_int, ↓EE_bl, ↓EE_non, ↓EE_str, ↓EE_bin, ↓EE_rep, repC_l, ↓EE_neg, negC_i, ↓EE_is, ↓EE_isn, ↓EE_eq, ↓EE_ne, ↓EE_lt, ↓EE_le, ↓EE_gt, ↓EE_ge, ↓EE_inn, ↓EE_ni, ↓EE_chain, ↓EE_and, andC_t, andC_f, ↓EE_or, orC_t, orC_f, ↓EE_not, ↓EE_ite, iteC_t, iteC_f, ↓EE_nil, ↓EE_cons, ↓EE_tup, ↓EE_lst, ↓EE_call, ↓EE_blt, ↓EE_isi, ↓EE_ix, ↓EE_sl, ↓EE_lc, ↓EE_rng, ↓EE_zip, ↓EE_enm, ↓EE_rev, ↓EE_bm, ↓EE_srt, seqR_nx, seqR_rt, seqR_bk, seqR_ct, seqR_no, iffR_t, iffR_f, appC_l, extC_l, putC_l, putX_i, popC_l, insC_l, reto_o, reto_s, unpC_t, rvsC_l, ↓EX, ↓ES_nil, ↓ES_seq, ↓ES_asg, ↓ES_unp, ↓ES_app, ↓ES_ext, ↓ES_put, ↓ES_pop, ↓ES_rvs, ↓ES_ins, ↓ES_ife, ↓ES_ret, ↓ES_reto, ↓ES_retn, ↓ES_for, ↓ES_brk, ↓ES_cnt, ↓ES_drp, forF_, shareAll_n, shareAll_c, shareAt_, shC_o, shC_s, shC_n, shC_x, memN_n, memN_c, after_, flatC_o, flatC_s, flat_i, flat_b, flat_s, flat_n, flat_l, flat_t, noLs_ints, noLs_rows, noLs_fi, q_set0, q_sets, q_get0, q_gets, q_getn, q_mapc, q_mapn, q_appc, q_appn, q_reps, q_rep0, q_bb, q_bs, q_bn, q_ms, q_mn, Nat.reduceAdd, Nat.reduceSub, q_lc, q_ln, q_pure, Bool.false_eq_true, q_ift, q_iff, q_ifb, q_ifc, ite_self, reduceCtorEq, Bool.and_true, Bool.true_and, Bool.and_false, Bool.false_and, Bool.and_self, Bool.not_true, Bool.not_false, CE.isNil, Nat.reduceEqDiff, and_self, decide_true, decide_false, this, Function.comp_def]
  have e2 : ∀ c1, lcGo (lcT (GG tab C k) C [2] (.nm 2) .nil c_same_table_e2 [.sh (.int (n : Nat)), c1, .no, .no]) ((List.range n).map fun i => PyData.int (i : Nat)) = some ((sameM n).map encT) := fun c1 => by
    unfold sameM
    rw [List.map_map]
    refine lcGo_map fun i hi => ?_
    simp only [lcF_all, c_same_table_e2, runD, getD_sh, getD_ow, getB_b, getL_t, d_sh, d_ow, getO_t, getO_f, bindT_nm, bindT_tp, setAll_nil, setAll_cons, hide_nil, hide_cons, items_l, items_t, seq_l, seq_t, zipD2, zipD3, enmD_, rev_l, rev_t, len_l, len_t, len_s, sum_l, all_l, any_l, tup_l, tup_t, lst_l, lst_t, min2_, max2_, int_i, int_b, abs_i, add_i, add_s, add_l, add_t, sub_i, mul_i, div_i, mod_i, pow_i, eq_i, ne_i, lt_i, le_i, gt_i, ge_i, isi_i, isi_ib, isi_b, isi_bi, isi_tt, isi_tn, isi_tl, isi_ll, isi_lt, isNon_n, isNon_i, isNon_t, isNon_l, isDict_i, isDict_b, isDict_t, isDict_l, isDict_n, isDict_s, ix_l, ix_t, sl_l, sl_t, atI_nat, atI_0, atI_1, atI_2, atI_3, atI_4, atI_5, atI_6, atI_7, keep_sh, keep_l, noL_i, noL_b, noL_s, noL_n, noL_t, noL_l, noLs_n, noLs_c, isNil_nil, out_rt, out_nx, ↓EE_var, varC_sh, ↓EE_cst, ↓EE_int, ↓EE_bl, ↓EE_non, ↓EE_str, ↓EE_bin, ↓EE_rep, repC_l, ↓EE_neg, negC_i, ↓EE_is, ↓EE_isn, ↓EE_eq, ↓EE_ne, ↓EE_lt, ↓EE_le, ↓EE_gt, ↓EE_ge, ↓EE_inn, ↓EE_ni, ↓EE_chain, ↓EE_and, andC_t, andC_f, ↓EE_or, orC_t, orC_f, ↓EE_not, ↓EE_ite, iteC_t, iteC_f, ↓EE_nil, ↓EE_cons, ↓EE_tup, ↓EE_lst, ↓EE_call, ↓EE_blt, ↓EE_isi, ↓EE_ix, ↓EE_sl, ↓EE_lc, ↓EE_rng, ↓EE_zip, ↓EE_enm, ↓EE_rev, ↓EE_bm, ↓EE_srt, seqR_nx, seqR_rt, seqR_bk, seqR_ct, seqR_no, iffR_t, iffR_f, appC_l, extC_l, putC_l, putX_i, popC_l, insC_l, reto_o, reto_s, unpC_t, rvsC_l, ↓EX, ↓ES_nil, ↓ES_seq, ↓ES_asg, ↓ES_unp, ↓ES_app, ↓ES_ext, ↓ES_put, ↓ES_pop, ↓ES_rvs, ↓ES_ins, ↓ES_ife, ↓ES_ret, ↓ES_reto, ↓ES_retn, ↓ES_for, ↓ES_brk, ↓ES_cnt, ↓ES_drp, forF_, shareAll_n, shareAll_c, shareAt_, shC_o, shC_s, shC_n, shC_x, memN_n, memN_c, after_, flatC_o, flatC_s, flat_i, flat_b, flat_s, flat_n, flat_l, flat_t, noLs_ints, noLs_rows, noLs_fi, q_set0, q_sets, q_get0, q_gets, q_getn, q_mapc, q_mapn, q_appc, q_appn, q_reps, q_rep0, q_bb, q_bs, q_bn, q_ms, q_mn, Nat.reduceAdd, Nat.reduceSub, q_lc, q_ln, q_pure, Bool.false_eq_true, q_ift, q_iff, q_ifb, q_ifc, ite_self, reduceCtorEq, Bool.and_true, Bool.true_and, Bool.and_false, Bool.false_and, Bool.and_self, Bool.not_true, Bool.not_false, CE.isNil, Nat.reduceEqDiff, and_self, decide_true, decide_false, rng_nat hb, e1, Function.comp_def]
  simp only [c_same_table, runD, getD_sh, getD_ow, getB_b, getL_t, d_sh, d_ow, getO_t, getO_f, bindT_nm, bindT_tp, setAll_nil, setAll_cons, hide_nil, hide_cons, items_l, items_t, seq_l, seq_t, zipD2, zipD3, enmD_, rev_l, rev_t, len_l, len_t, len_s, sum_l, all_l, any_l, tup_l, tup_t, lst_l, lst_t, min2_, max2_, int_i, int_b, abs_i, add_i, add_s, add_l, add_t, sub_i, mul_i, div_i, mod_i, pow_i, eq_i, ne_i, lt_i, le_i, gt_i, ge_i, isi_i, isi_ib, isi_b, isi_bi, isi_tt, isi_tn, isi_tl, isi_ll, isi_lt, isNon_n, isNon_i, isNon_t, isNon_l, isDict_i, isDict_b, isDict_t, isDict_l, isDict_n, isDict_s, ix_l, ix_t, sl_l, sl_t, atI_nat, atI_0, atI_1, atI_2, atI_3, atI_4, atI_5, atI_6, atI_7, keep_sh, keep_l, noL_i, noL_b, noL_s, noL_n, noL_t, noL_l, noLs_n, noLs_c, isNil_nil, out_rt, out_nx, ↓EE_var, varC_sh, ↓EE_cst, ↓EE_int, ↓EE_bl, ↓EE_non, ↓EE_str, ↓EE_bin, ↓EE_rep, repC_l, ↓EE_neg, negC_i, ↓EE_is, ↓EE_isn, ↓EE_eq, ↓EE_ne, ↓EE_lt, ↓EE_le, ↓EE_gt, ↓EE_ge, ↓EE_inn, ↓EE_ni, ↓EE_chain, ↓EE_and, andC_t, andC_f, ↓EE_or, orC_t, orC_f, ↓EE_not, ↓EE_ite, iteC_t, iteC_f, ↓EE_nil, ↓EE_cons, ↓EE_tup, ↓EE_lst, ↓EE_call, ↓EE_blt, ↓EE_isi, ↓EE_ix, ↓EE_sl, ↓EE_lc, ↓EE_rng, ↓EE_zip, ↓EE_enm, ↓EE_rev, ↓EE_bm, ↓EE_srt, seqR_nx, seqR_rt, seqR_bk, seqR_ct, seqR_no, iffR_t, iffR_f, appC_l, extC_l, putC_l, putX_i, popC_l, insC_l, reto_o, reto_s, unpC_t, rvsC_l, ↓EX, ↓ES_nil, ↓ES_seq, ↓ES_asg, ↓ES_unp, ↓ES_app, ↓ES_ext, ↓ES_put, ↓ES_pop, ↓ES_rvs, ↓ES_ins, ↓ES_ife, ↓ES_ret, ↓ES_reto, ↓ES_retn, ↓ES_for, ↓ES_brk, ↓ES_cnt, ↓ES_drp, forF_, shareAll_n, shareAll_c, shareAt_, shC_o, shC_s, shC_n, shC_x, memN_n, memN_c, after_, flatC_o, flatC_s, flat_i, flat_b, flat_s, flat_n, flat_l, flat_t, noLs_ints, noLs_rows, noLs_fi, q_set0, q_sets, q_get0, q_gets, q_getn, q_mapc, q_mapn, q_appc, q_appn, q_reps, q_rep0, q_bb, q_bs, q_bn, q_ms, q_mn, Nat.reduceAdd, Nat.reduceSub, q_lc, q_ln, q_pure, Bool.false_eq_true, q_ift, q_iff, q_ifb, q_ifc, ite_self, reduceCtorEq, Bool.and_true, Bool.true_and, Bool.and_false, Bool.false_and, Bool.and_self, Bool.not_true, Bool.not_false, CE.isNil, Nat.reduceEqDiff, and_self, decide_true, decide_false, rng_nat hb, e2, encTab]
theorem image_g {p : Int} {high wide : Nat} {rows : List (List Int)} (hp : P4 p) (hr : Rws p wide rows) (hh : rows.length = high) (hi : high ≤ 1000) (hw : wide ≤ 1000) :
    GG tab C (k + 3) 23 [.int p, encTab high wide rows] = some (.ow (encB (imageM p high wide rows))) := by
  rw [gg (T.go 23 _ rfl)]
  have h1 := columns_g T (C := C) (k := k + 1) (high := .int (high : Nat)) (rows := rows) (wide := wide) (fun r h => by rw [(hr r h).1]; exact Nat.le_refl _) (by omega)
  have hc := cols_ok hr hh
  have h2 := base_g T (C := C) (k := k) (ls := encB (colsM wide rows)) hp (Nat.le_refl 1000) rfl hc.1 (by omega) (Nat.le_refl high) hi
  simp only [c_image, runD, getD_sh, getD_ow, getB_b, getL_t, d_sh, d_ow, getO_t, getO_f, bindT_nm, bindT_tp, setAll_nil, setAll_cons, hide_nil, hide_cons, items_l, items_t, seq_l, seq_t, zipD2, zipD3, enmD_, rev_l, rev_t, len_l, len_t, len_s, sum_l, all_l, any_l, tup_l, tup_t, lst_l, lst_t, min2_, max2_, int_i, int_b, abs_i, add_i, add_s, add_l, add_t, sub_i, mul_i, div_i, mod_i, pow_i, eq_i, ne_i, lt_i, le_i, gt_i, ge_i, isi_i, isi_ib, isi_b, isi_bi, isi_tt, isi_tn, isi_tl, isi_ll, isi_lt, isNon_n, isNon_i, isNon_t, isNon_l, isDict_i, isDict_b, isDict_t, isDict_l, isDict_n, isDict_s, ix_l, ix_t, sl_l, sl_t, atI_nat, atI_0, atI_1, atI_2, atI_3, atI_4, atI_5, atI_6, atI_7, keep_sh, keep_l, noL_i, noL_b, noL_s, noL_n, noL_t, noL_l, noLs_n, noLs_c, isNil_nil, out_rt, out_nx, ↓EE_var, varC_sh, ↓EE_cst, ↓EE_int, ↓EE_bl, ↓EE_non, ↓EE_str, ↓EE_bin, ↓EE_rep, repC_l, ↓EE_neg, negC_i, ↓EE_is, ↓EE_isn, ↓EE_eq, ↓EE_ne, ↓EE_lt, ↓EE_le, ↓EE_gt, ↓EE_ge, ↓EE_inn, ↓EE_ni, ↓EE_chain, ↓EE_and, andC_t, andC_f, ↓EE_or, orC_t, orC_f, ↓EE_not, ↓EE_ite, iteC_t, iteC_f, ↓EE_nil, ↓EE_cons, ↓EE_tup, ↓EE_lst, ↓EE_call, ↓EE_blt, ↓EE_isi, ↓EE_ix, ↓EE_sl, ↓EE_lc, ↓EE_rng, ↓EE_zip, ↓EE_enm, ↓EE_rev, ↓EE_bm, ↓EE_srt, seqR_nx, seqR_rt, seqR_bk, seqR_ct, seqR_no, iffR_t, iffR_f, appC_l, extC_l, putC_l, putX_i, popC_l, insC_l, reto_o, reto_s, unpC_t, rvsC_l, ↓EX, ↓ES_nil, ↓ES_seq, ↓ES_asg, ↓ES_unp, ↓ES_app, ↓ES_ext, ↓ES_put, ↓ES_pop, ↓ES_rvs, ↓ES_ins, ↓ES_ife, ↓ES_ret, ↓ES_reto, ↓ES_retn, ↓ES_for, ↓ES_brk, ↓ES_cnt, ↓ES_drp, forF_, shareAll_n, shareAll_c, shareAt_, shC_o, shC_s, shC_n, shC_x, memN_n, memN_c, after_, flatC_o, flatC_s, flat_i, flat_b, flat_s, flat_n, flat_l, flat_t, noLs_ints, noLs_rows, noLs_fi, q_set0, q_sets, q_get0, q_gets, q_getn, q_mapc, q_mapn, q_appc, q_appn, q_reps, q_rep0, q_bb, q_bs, q_bn, q_ms, q_mn, Nat.reduceAdd, Nat.reduceSub, q_lc, q_ln, q_pure, Bool.false_eq_true, q_ift, q_iff, q_ifb, q_ifc, ite_self, reduceCtorEq, Bool.and_true, Bool.true_and, Bool.and_false, Bool.false_and, Bool.and_self, Bool.not_true, Bool.not_false, CE.isNil, Nat.reduceEqDiff, and_self, decide_true, decide_false, encTab, h1, h2, imageM]
theorem rank_g {p : Int} {high wide : Nat} {rows : List (List Int)} (hp : P4 p) (hr : Rws p wide rows) (hh : rows.length = high) (hi : high ≤ 1000) (hw : wide ≤ 1000) :
    GG tab C (k + 4) 24 [.int p, encTab high wide rows] = some (.sh (.int ((imageM p high wide rows).length : Nat))) := by
  rw [gg (T.go 24 _ rfl)]
  have h := image_g T (C := C) (k := k) hp hr hh hi hw
  simp only [c_rank, runD, getD_sh, getD_ow, getB_b, getL_t, d_sh, d_ow, getO_t, getO_f, bindT_nm, bindT_tp, setAll_nil, setAll_cons, hide_nil, hide_cons, items_l, items_t, seq_l, seq_t, zipD2, zipD3, enmD_, rev_l, rev_t, len_l, len_t, len_s, sum_l, all_l, any_l, tup_l, tup_t, lst_l, lst_t, min2_, max2_, int_i, int_b, abs_i, add_i, add_s, add_l, add_t, sub_i, mul_i, div_i, mod_i, pow_i, eq_i, ne_i, lt_i, le_i, gt_i, ge_i, isi_i, isi_ib, isi_b, isi_bi, isi_tt, isi_tn, isi_tl, isi_ll, isi_lt, isNon_n, isNon_i, isNon_t, isNon_l, isDict_i, isDict_b, isDict_t, isDict_l, isDict_n, isDict_s, ix_l, ix_t, sl_l, sl_t, atI_nat, atI_0, atI_1, atI_2, atI_3, atI_4, atI_5, atI_6, atI_7, keep_sh, keep_l, noL_i, noL_b, noL_s, noL_n, noL_t, noL_l, noLs_n, noLs_c, isNil_nil, out_rt, out_nx, ↓EE_var, varC_sh, ↓EE_cst, ↓EE_int, ↓EE_bl, ↓EE_non, ↓EE_str, ↓EE_bin, ↓EE_rep, repC_l, ↓EE_neg, negC_i, ↓EE_is, ↓EE_isn, ↓EE_eq, ↓EE_ne, ↓EE_lt, ↓EE_le, ↓EE_gt, ↓EE_ge, ↓EE_inn, ↓EE_ni, ↓EE_chain, ↓EE_and, andC_t, andC_f, ↓EE_or, orC_t, orC_f, ↓EE_not, ↓EE_ite, iteC_t, iteC_f, ↓EE_nil, ↓EE_cons, ↓EE_tup, ↓EE_lst, ↓EE_call, ↓EE_blt, ↓EE_isi, ↓EE_ix, ↓EE_sl, ↓EE_lc, ↓EE_rng, ↓EE_zip, ↓EE_enm, ↓EE_rev, ↓EE_bm, ↓EE_srt, seqR_nx, seqR_rt, seqR_bk, seqR_ct, seqR_no, iffR_t, iffR_f, appC_l, extC_l, putC_l, putX_i, popC_l, insC_l, reto_o, reto_s, unpC_t, rvsC_l, ↓EX, ↓ES_nil, ↓ES_seq, ↓ES_asg, ↓ES_unp, ↓ES_app, ↓ES_ext, ↓ES_put, ↓ES_pop, ↓ES_rvs, ↓ES_ins, ↓ES_ife, ↓ES_ret, ↓ES_reto, ↓ES_retn, ↓ES_for, ↓ES_brk, ↓ES_cnt, ↓ES_drp, forF_, shareAll_n, shareAll_c, shareAt_, shC_o, shC_s, shC_n, shC_x, memN_n, memN_c, after_, flatC_o, flatC_s, flat_i, flat_b, flat_s, flat_n, flat_l, flat_t, noLs_ints, noLs_rows, noLs_fi, q_set0, q_sets, q_get0, q_gets, q_getn, q_mapc, q_mapn, q_appc, q_appn, q_reps, q_rep0, q_bb, q_bs, q_bn, q_ms, q_mn, Nat.reduceAdd, Nat.reduceSub, q_lc, q_ln, q_pure, Bool.false_eq_true, q_ift, q_iff, q_ifb, q_ifc, ite_self, reduceCtorEq, Bool.and_true, Bool.true_and, Bool.and_false, Bool.false_and, Bool.and_self, Bool.not_true, Bool.not_false, CE.isNil, Nat.reduceEqDiff, and_self, decide_true, decide_false, encTab, h, List.length_map]
omit T in
theorem lead_le {p : Int} {wide : Nat} {rows : List (List Int)} (hp : P4 p) (hr : Rws p wide rows) : ∀ r ∈ baseM p wide rows, leadM r < wide := lead_base hp hr
theorem solved_g {p : Int} {high wide : Nat} {rows : List (List Int)} {load : List Int} {hd : D} (hp : P4 p) (hr : Rws p wide rows) (hl : Ent p load) (hn : rows.length ≤ 1000) (hw : wide ≤ 900) :
    GG tab C (k + 3) 25 [.int p, .tuple [hd, .int (wide : Nat), .tuple (rows.map encT)], encT load] = some (.sh (match solvedM p wide rows load with
      | some x => encT x
      | none => .none)) := by
  rw [gg (T.go 25 _ rfl)]
  have ha := aug_ok (high := wide) hr hl
  have e3 : ∀ c0 c1 c2 c3 c4 c7 c8 c9, lcGo (lcT (GG tab C (k + 2)) C [5, 6] (.tp [5, 6]) .nil c_solved_e3 [c0, c1, c2, c3, c4, .no, .no, c7, c8, c9]) ((rows.zip load).map fun q : List Int × Int => PyData.tuple [encT q.1, .int q.2]) = some ((augM rows load).map encT) := fun c0 c1 c2 c3 c4 c7 c8 c9 => by
    unfold augM
    rw [List.map_map]
    refine lcGo_map (g := fun q : List Int × Int => encT (q.1 ++ [q.2])) fun q hq => ?_
    have hb : q.1.length + 1 ≤ big := by
      have := (hr _ (List.of_mem_zip hq).1).1
      unfold big; omega
    simp only [lcF_all, c_solved_e3, runD, getD_sh, getD_ow, getB_b, getL_t, d_sh, d_ow, getO_t, getO_f, bindT_nm, bindT_tp, setAll_nil, setAll_cons, hide_nil, hide_cons, items_l, items_t, seq_l, seq_t, zipD2, zipD3, enmD_, rev_l, rev_t, len_l, len_t, len_s, sum_l, all_l, any_l, tup_l, tup_t, lst_l, lst_t, min2_, max2_, int_i, int_b, abs_i, add_i, add_s, add_l, add_t, sub_i, mul_i, div_i, mod_i, pow_i, eq_i, ne_i, lt_i, le_i, gt_i, ge_i, isi_i, isi_ib, isi_b, isi_bi, isi_tt, isi_tn, isi_tl, isi_ll, isi_lt, isNon_n, isNon_i, isNon_t, isNon_l, isDict_i, isDict_b, isDict_t, isDict_l, isDict_n, isDict_s, ix_l, ix_t, sl_l, sl_t, atI_nat, atI_0, atI_1, atI_2, atI_3, atI_4, atI_5, atI_6, atI_7, keep_sh, keep_l, noL_i, noL_b, noL_s, noL_n, noL_t, noL_l, noLs_n, noLs_c, isNil_nil, out_rt, out_nx, ↓EE_var, varC_sh, ↓EE_cst, ↓EE_int, ↓EE_bl, ↓EE_non, ↓EE_str, ↓EE_bin, ↓EE_rep, repC_l, ↓EE_neg, negC_i, ↓EE_is, ↓EE_isn, ↓EE_eq, ↓EE_ne, ↓EE_lt, ↓EE_le, ↓EE_gt, ↓EE_ge, ↓EE_inn, ↓EE_ni, ↓EE_chain, ↓EE_and, andC_t, andC_f, ↓EE_or, orC_t, orC_f, ↓EE_not, ↓EE_ite, iteC_t, iteC_f, ↓EE_nil, ↓EE_cons, ↓EE_tup, ↓EE_lst, ↓EE_call, ↓EE_blt, ↓EE_isi, ↓EE_ix, ↓EE_sl, ↓EE_lc, ↓EE_rng, ↓EE_zip, ↓EE_enm, ↓EE_rev, ↓EE_bm, ↓EE_srt, seqR_nx, seqR_rt, seqR_bk, seqR_ct, seqR_no, iffR_t, iffR_f, appC_l, extC_l, putC_l, putX_i, popC_l, insC_l, reto_o, reto_s, unpC_t, rvsC_l, ↓EX, ↓ES_nil, ↓ES_seq, ↓ES_asg, ↓ES_unp, ↓ES_app, ↓ES_ext, ↓ES_put, ↓ES_pop, ↓ES_rvs, ↓ES_ins, ↓ES_ife, ↓ES_ret, ↓ES_reto, ↓ES_retn, ↓ES_for, ↓ES_brk, ↓ES_cnt, ↓ES_drp, forF_, shareAll_n, shareAll_c, shareAt_, shC_o, shC_s, shC_n, shC_x, memN_n, memN_c, after_, flatC_o, flatC_s, flat_i, flat_b, flat_s, flat_n, flat_l, flat_t, noLs_ints, noLs_rows, noLs_fi, q_set0, q_sets, q_get0, q_gets, q_getn, q_mapc, q_mapn, q_appc, q_appn, q_reps, q_rep0, q_bb, q_bs, q_bn, q_ms, q_mn, Nat.reduceAdd, Nat.reduceSub, q_lc, q_ln, q_pure, Bool.false_eq_true, q_ift, q_iff, q_ifb, q_ifc, ite_self, reduceCtorEq, Bool.and_true, Bool.true_and, Bool.and_false, Bool.false_and, Bool.and_self, Bool.not_true, Bool.not_false, CE.isNil, Nat.reduceEqDiff, and_self, decide_true, decide_false, List.length_map, Nat.zero_add, hb, encT, List.map_append, List.map_cons, List.map_nil]
  have e2 : ∀ c0 c1 c2 c3 c4 c5 c6 c7 c9, lcGo (lcT (GG tab C (k + 2)) C [8] (.nm 8) .nil c_solved_e2 [c0, c1, c2, c3, c4, c5, c6, c7, .no, c9]) ((List.range wide).map fun i => PyData.int (i : Nat)) = some ((List.replicate wide 0).map .int) := fun c0 c1 c2 c3 c4 c5 c6 c7 c9 => by
    have : (List.replicate wide (0 : Int)).map PyData.int = (List.range wide).map fun _ => .int 0 := by
      rw [List.map_replicate]
      refine List.ext_getElem (by simp) fun i h1 h2 => by simp
    rw [this]
    refine lcGo_map fun j hj => ?_
    simp only [lcF_all, c_solved_e2, runD, getD_sh, getD_ow, getB_b, getL_t, d_sh, d_ow, getO_t, getO_f, bindT_nm, bindT_tp, setAll_nil, setAll_cons, hide_nil, hide_cons, items_l, items_t, seq_l, seq_t, zipD2, zipD3, enmD_, rev_l, rev_t, len_l, len_t, len_s, sum_l, all_l, any_l, tup_l, tup_t, lst_l, lst_t, min2_, max2_, int_i, int_b, abs_i, add_i, add_s, add_l, add_t, sub_i, mul_i, div_i, mod_i, pow_i, eq_i, ne_i, lt_i, le_i, gt_i, ge_i, isi_i, isi_ib, isi_b, isi_bi, isi_tt, isi_tn, isi_tl, isi_ll, isi_lt, isNon_n, isNon_i, isNon_t, isNon_l, isDict_i, isDict_b, isDict_t, isDict_l, isDict_n, isDict_s, ix_l, ix_t, sl_l, sl_t, atI_nat, atI_0, atI_1, atI_2, atI_3, atI_4, atI_5, atI_6, atI_7, keep_sh, keep_l, noL_i, noL_b, noL_s, noL_n, noL_t, noL_l, noLs_n, noLs_c, isNil_nil, out_rt, out_nx, ↓EE_var, varC_sh, ↓EE_cst, ↓EE_int, ↓EE_bl, ↓EE_non, ↓EE_str, ↓EE_bin, ↓EE_rep, repC_l, ↓EE_neg, negC_i, ↓EE_is, ↓EE_isn, ↓EE_eq, ↓EE_ne, ↓EE_lt, ↓EE_le, ↓EE_gt, ↓EE_ge, ↓EE_inn, ↓EE_ni, ↓EE_chain, ↓EE_and, andC_t, andC_f, ↓EE_or, orC_t, orC_f, ↓EE_not, ↓EE_ite, iteC_t, iteC_f, ↓EE_nil, ↓EE_cons, ↓EE_tup, ↓EE_lst, ↓EE_call, ↓EE_blt, ↓EE_isi, ↓EE_ix, ↓EE_sl, ↓EE_lc, ↓EE_rng, ↓EE_zip, ↓EE_enm, ↓EE_rev, ↓EE_bm, ↓EE_srt, seqR_nx, seqR_rt, seqR_bk, seqR_ct, seqR_no, iffR_t, iffR_f, appC_l, extC_l, putC_l, putX_i, popC_l, insC_l, reto_o, reto_s, unpC_t, rvsC_l, ↓EX, ↓ES_nil, ↓ES_seq, ↓ES_asg, ↓ES_unp, ↓ES_app, ↓ES_ext, ↓ES_put, ↓ES_pop, ↓ES_rvs, ↓ES_ins, ↓ES_ife, ↓ES_ret, ↓ES_reto, ↓ES_retn, ↓ES_for, ↓ES_brk, ↓ES_cnt, ↓ES_drp, forF_, shareAll_n, shareAll_c, shareAt_, shC_o, shC_s, shC_n, shC_x, memN_n, memN_c, after_, flatC_o, flatC_s, flat_i, flat_b, flat_s, flat_n, flat_l, flat_t, noLs_ints, noLs_rows, noLs_fi, q_set0, q_sets, q_get0, q_gets, q_getn, q_mapc, q_mapn, q_appc, q_appn, q_reps, q_rep0, q_bb, q_bs, q_bn, q_ms, q_mn, Nat.reduceAdd, Nat.reduceSub, q_lc, q_ln, q_pure, Bool.false_eq_true, q_ift, q_iff, q_ifb, q_ifc, ite_self, reduceCtorEq, Bool.and_true, Bool.true_and, Bool.and_false, Bool.false_and, Bool.and_self, Bool.not_true, Bool.not_false, CE.isNil, Nat.reduceEqDiff, and_self, decide_true, decide_false]
  have h1 := base_g T (C := C) (k := k) (ls := encB (augM rows load)) hp (Nat.le_refl 1000) rfl ha.1 (by omega) (Nat.le_refl (wide + 1)) (by omega)
  rw [show ((wide + 1 : Nat) : Int) = (wide : Int) + 1 from by omega] at h1
  have hlead := lead_base hp ha.1
  have hB := (baseM_ok (long := wide + 1) hp ha.1 (Nat.le_refl _)).1
  unfold solvedM
  generalize baseM p (wide + 1) (augM rows load) = B at *
  generalize hT : PyData.tuple [hd, .int (wide : Nat), .tuple (rows.map encT)] = tb at *
  have loop : ∀ (B : List (List Int)) (found : List Int) (c4 c5 c6 c8 c9 : Cell), (∀ r ∈ B, leadM r < wide + 1) → Rws p (wide + 1) B → found.length = wide →
      ((solGo wide B found = none ∧ forGo (forF (GG tab C (k + 2)) C (.nm 5) c_solved_b1) (B.map encT) [.sh (.int p), .sh tb, .sh (encT load), .sh (.int (wide : Nat)), c4, c5, c6, .ow (encL found), c8, c9] = some (.rt (.sh .none))) ∨
      (∃ x c5' c9', solGo wide B found = some x ∧ forGo (forF (GG tab C (k + 2)) C (.nm 5) c_solved_b1) (B.map encT) [.sh (.int p), .sh tb, .sh (encT load), .sh (.int (wide : Nat)), c4, c5, c6, .ow (encL found), c8, c9] = some (.nx [.sh (.int p), .sh tb, .sh (encT load), .sh (.int (wide : Nat)), c4, c5', c6, .ow (encL x), c8, c9']))) := fun B => by
    induction B with
    | nil => intro found c4 c5 c6 c8 c9 _ _ _; exact .inr ⟨found, c5, c9, rfl, rfl⟩
    | cons r rs ih =>
      intro found c4 c5 c6 c8 c9 h1 h2 h3
      have hl := lead_g T (C := C) (k := k + 1) (r := r) (d := encT r) (.inl rfl)
      have hlt := h1 r (by simp)
      have hrl : wide < r.length := by rw [(h2 r (by simp)).1]; omega
      unfold solGo
      by_cases hw' : leadM r = wide
      · rw [if_pos hw']
        refine .inl ⟨rfl, ?_⟩
        rw [List.map_cons]
        refine forGo_r ?_
        have e := (beq_self_eq_true wide)
        simp only [c_solved_b1, runD, getD_sh, getD_ow, getB_b, getL_t, d_sh, d_ow, getO_t, getO_f, bindT_nm, bindT_tp, setAll_nil, setAll_cons, hide_nil, hide_cons, items_l, items_t, seq_l, seq_t, zipD2, zipD3, enmD_, rev_l, rev_t, len_l, len_t, len_s, sum_l, all_l, any_l, tup_l, tup_t, lst_l, lst_t, min2_, max2_, int_i, int_b, abs_i, add_i, add_s, add_l, add_t, sub_i, mul_i, div_i, mod_i, pow_i, eq_i, ne_i, lt_i, le_i, gt_i, ge_i, isi_i, isi_ib, isi_b, isi_bi, isi_tt, isi_tn, isi_tl, isi_ll, isi_lt, isNon_n, isNon_i, isNon_t, isNon_l, isDict_i, isDict_b, isDict_t, isDict_l, isDict_n, isDict_s, ix_l, ix_t, sl_l, sl_t, atI_nat, atI_0, atI_1, atI_2, atI_3, atI_4, atI_5, atI_6, atI_7, keep_sh, keep_l, noL_i, noL_b, noL_s, noL_n, noL_t, noL_l, noLs_n, noLs_c, isNil_nil, out_rt, out_nx, ↓EE_var, varC_sh, ↓EE_cst, ↓EE_int, ↓EE_bl, ↓EE_non, ↓EE_str, ↓EE_bin, ↓EE_rep, repC_l, ↓EE_neg, negC_i, ↓EE_is, ↓EE_isn, ↓EE_eq, ↓EE_ne, ↓EE_lt, ↓EE_le, ↓EE_gt, ↓EE_ge, ↓EE_inn, ↓EE_ni, ↓EE_chain, ↓EE_and, andC_t, andC_f, ↓EE_or, orC_t, orC_f, ↓EE_not, ↓EE_ite, iteC_t, iteC_f, ↓EE_nil, ↓EE_cons, ↓EE_tup, ↓EE_lst, ↓EE_call, ↓EE_blt, ↓EE_isi, ↓EE_ix, ↓EE_sl, ↓EE_lc, ↓EE_rng, ↓EE_zip, ↓EE_enm, ↓EE_rev, ↓EE_bm, ↓EE_srt, seqR_nx, seqR_rt, seqR_bk, seqR_ct, seqR_no, iffR_t, iffR_f, appC_l, extC_l, putC_l, putX_i, popC_l, insC_l, reto_o, reto_s, unpC_t, rvsC_l, ↓EX, ↓ES_nil, ↓ES_seq, ↓ES_asg, ↓ES_unp, ↓ES_app, ↓ES_ext, ↓ES_put, ↓ES_pop, ↓ES_rvs, ↓ES_ins, ↓ES_ife, ↓ES_ret, ↓ES_reto, ↓ES_retn, ↓ES_for, ↓ES_brk, ↓ES_cnt, ↓ES_drp, forF_, shareAll_n, shareAll_c, shareAt_, shC_o, shC_s, shC_n, shC_x, memN_n, memN_c, after_, flatC_o, flatC_s, flat_i, flat_b, flat_s, flat_n, flat_l, flat_t, noLs_ints, noLs_rows, noLs_fi, q_set0, q_sets, q_get0, q_gets, q_getn, q_mapc, q_mapn, q_appc, q_appn, q_reps, q_rep0, q_bb, q_bs, q_bn, q_ms, q_mn, Nat.reduceAdd, Nat.reduceSub, q_lc, q_ln, q_pure, Bool.false_eq_true, q_ift, q_iff, q_ifb, q_ifc, ite_self, reduceCtorEq, Bool.and_true, Bool.true_and, Bool.and_false, Bool.false_and, Bool.and_self, Bool.not_true, Bool.not_false, CE.isNil, Nat.reduceEqDiff, and_self, decide_true, decide_false, hl, hw', decide_true]
      · rw [if_neg hw']
        have hdd : ¬ ((leadM r : Nat) : Int) = (wide : Int) := by omega
        have hix : ixN found.length (leadM r : Int) = some (leadM r) := ixN_nat (by omega)
        have st : forF (GG tab C (k + 2)) C (.nm 5) c_solved_b1 (encT r) [.sh (.int p), .sh tb, .sh (encT load), .sh (.int (wide : Nat)), c4, c5, c6, .ow (encL found), c8, c9] = some (.nx [.sh (.int p), .sh tb, .sh (encT load), .sh (.int (wide : Nat)), c4, .sh (encT r), c6, .ow (encL (found.set (leadM r) (at0 r wide))), c8, .sh (.int (leadM r : Nat))]) := by
          simp only [c_solved_b1, runD, getD_sh, getD_ow, getB_b, getL_t, d_sh, d_ow, getO_t, getO_f, bindT_nm, bindT_tp, setAll_nil, setAll_cons, hide_nil, hide_cons, items_l, items_t, seq_l, seq_t, zipD2, zipD3, enmD_, rev_l, rev_t, len_l, len_t, len_s, sum_l, all_l, any_l, tup_l, tup_t, lst_l, lst_t, min2_, max2_, int_i, int_b, abs_i, add_i, add_s, add_l, add_t, sub_i, mul_i, div_i, mod_i, pow_i, eq_i, ne_i, lt_i, le_i, gt_i, ge_i, isi_i, isi_ib, isi_b, isi_bi, isi_tt, isi_tn, isi_tl, isi_ll, isi_lt, isNon_n, isNon_i, isNon_t, isNon_l, isDict_i, isDict_b, isDict_t, isDict_l, isDict_n, isDict_s, ix_l, ix_t, sl_l, sl_t, atI_nat, atI_0, atI_1, atI_2, atI_3, atI_4, atI_5, atI_6, atI_7, keep_sh, keep_l, noL_i, noL_b, noL_s, noL_n, noL_t, noL_l, noLs_n, noLs_c, isNil_nil, out_rt, out_nx, ↓EE_var, varC_sh, ↓EE_cst, ↓EE_int, ↓EE_bl, ↓EE_non, ↓EE_str, ↓EE_bin, ↓EE_rep, repC_l, ↓EE_neg, negC_i, ↓EE_is, ↓EE_isn, ↓EE_eq, ↓EE_ne, ↓EE_lt, ↓EE_le, ↓EE_gt, ↓EE_ge, ↓EE_inn, ↓EE_ni, ↓EE_chain, ↓EE_and, andC_t, andC_f, ↓EE_or, orC_t, orC_f, ↓EE_not, ↓EE_ite, iteC_t, iteC_f, ↓EE_nil, ↓EE_cons, ↓EE_tup, ↓EE_lst, ↓EE_call, ↓EE_blt, ↓EE_isi, ↓EE_ix, ↓EE_sl, ↓EE_lc, ↓EE_rng, ↓EE_zip, ↓EE_enm, ↓EE_rev, ↓EE_bm, ↓EE_srt, seqR_nx, seqR_rt, seqR_bk, seqR_ct, seqR_no, iffR_t, iffR_f, appC_l, extC_l, putC_l, putX_i, popC_l, insC_l, reto_o, reto_s, unpC_t, rvsC_l, ↓EX, ↓ES_nil, ↓ES_seq, ↓ES_asg, ↓ES_unp, ↓ES_app, ↓ES_ext, ↓ES_put, ↓ES_pop, ↓ES_rvs, ↓ES_ins, ↓ES_ife, ↓ES_ret, ↓ES_reto, ↓ES_retn, ↓ES_for, ↓ES_brk, ↓ES_cnt, ↓ES_drp, forF_, shareAll_n, shareAll_c, shareAt_, shC_o, shC_s, shC_n, shC_x, memN_n, memN_c, after_, flatC_o, flatC_s, flat_i, flat_b, flat_s, flat_n, flat_l, flat_t, noLs_ints, noLs_rows, noLs_fi, q_set0, q_sets, q_get0, q_gets, q_getn, q_mapc, q_mapn, q_appc, q_appn, q_reps, q_rep0, q_bb, q_bs, q_bn, q_ms, q_mn, Nat.reduceAdd, Nat.reduceSub, q_lc, q_ln, q_pure, Bool.false_eq_true, q_ift, q_iff, q_ifb, q_ifc, ite_self, reduceCtorEq, Bool.and_true, Bool.true_and, Bool.and_false, Bool.false_and, Bool.and_self, Bool.not_true, Bool.not_false, CE.isNil, Nat.reduceEqDiff, and_self, decide_true, decide_false, hl, hdd, atI_nat, at0_get hrl, List.length_map, hix, ← List.map_set]
        rw [List.map_cons, forGo_c st]
        exact ih (found.set (leadM r) (at0 r wide)) c4 _ c6 c8 _ (fun r' hr' => h1 r' (by simp [hr'])) (fun r' hr' => h2 r' (by simp [hr'])) (by rw [List.length_set]; exact h3)
  have hbig : wide ≤ 100000 := by omega
  rcases loop B (List.replicate wide 0) (.sh (encB (augM rows load))) .no .no .no .no hlead hB (by simp) with ⟨e4, e5⟩ | ⟨x, c5', c9', e4, e5⟩
  · rw [e4]
    subst hT
    simp only [c_solved, runD, getD_sh, getD_ow, getB_b, getL_t, d_sh, d_ow, getO_t, getO_f, bindT_nm, bindT_tp, setAll_nil, setAll_cons, hide_nil, hide_cons, items_l, items_t, seq_l, seq_t, zipD2, zipD3, enmD_, rev_l, rev_t, len_l, len_t, len_s, sum_l, all_l, any_l, tup_l, tup_t, lst_l, lst_t, min2_, max2_, int_i, int_b, abs_i, add_i, add_s, add_l, add_t, sub_i, mul_i, div_i, mod_i, pow_i, eq_i, ne_i, lt_i, le_i, gt_i, ge_i, isi_i, isi_ib, isi_b, isi_bi, isi_tt, isi_tn, isi_tl, isi_ll, isi_lt, isNon_n, isNon_i, isNon_t, isNon_l, isDict_i, isDict_b, isDict_t, isDict_l, isDict_n, isDict_s, ix_l, ix_t, sl_l, sl_t, atI_nat, atI_0, atI_1, atI_2, atI_3, atI_4, atI_5, atI_6, atI_7, keep_sh, keep_l, noL_i, noL_b, noL_s, noL_n, noL_t, noL_l, noLs_n, noLs_c, isNil_nil, out_rt, out_nx, ↓EE_var, varC_sh, ↓EE_cst, ↓EE_int, ↓EE_bl, ↓EE_non, ↓EE_str, ↓EE_bin, ↓EE_rep, repC_l, ↓EE_neg, negC_i, ↓EE_is, ↓EE_isn, ↓EE_eq, ↓EE_ne, ↓EE_lt, ↓EE_le, ↓EE_gt, ↓EE_ge, ↓EE_inn, ↓EE_ni, ↓EE_chain, ↓EE_and, andC_t, andC_f, ↓EE_or, orC_t, orC_f, ↓EE_not, ↓EE_ite, iteC_t, iteC_f, ↓EE_nil, ↓EE_cons, ↓EE_tup, ↓EE_lst, ↓EE_call, ↓EE_blt, ↓EE_isi, ↓EE_ix, ↓EE_sl, ↓EE_lc, ↓EE_rng, ↓EE_zip, ↓EE_enm, ↓EE_rev, ↓EE_bm, ↓EE_srt, seqR_nx, seqR_rt, seqR_bk, seqR_ct, seqR_no, iffR_t, iffR_f, appC_l, extC_l, putC_l, putX_i, popC_l, insC_l, reto_o, reto_s, unpC_t, rvsC_l, ↓EX, ↓ES_nil, ↓ES_seq, ↓ES_asg, ↓ES_unp, ↓ES_app, ↓ES_ext, ↓ES_put, ↓ES_pop, ↓ES_rvs, ↓ES_ins, ↓ES_ife, ↓ES_ret, ↓ES_reto, ↓ES_retn, ↓ES_for, ↓ES_brk, ↓ES_cnt, ↓ES_drp, forF_, shareAll_n, shareAll_c, shareAt_, shC_o, shC_s, shC_n, shC_x, memN_n, memN_c, after_, flatC_o, flatC_s, flat_i, flat_b, flat_s, flat_n, flat_l, flat_t, noLs_ints, noLs_rows, noLs_fi, q_set0, q_sets, q_get0, q_gets, q_getn, q_mapc, q_mapn, q_appc, q_appn, q_reps, q_rep0, q_bb, q_bs, q_bn, q_ms, q_mn, Nat.reduceAdd, Nat.reduceSub, q_lc, q_ln, q_pure, Bool.false_eq_true, q_ift, q_iff, q_ifb, q_ifc, ite_self, reduceCtorEq, Bool.and_true, Bool.true_and, Bool.and_false, Bool.false_and, Bool.and_self, Bool.not_true, Bool.not_false, CE.isNil, Nat.reduceEqDiff, and_self, decide_true, decide_false, e3, e2, rng_nat hbig, zip2_map, h1, e5]
  · rw [e4]
    subst hT
    simp only [c_solved, runD, getD_sh, getD_ow, getB_b, getL_t, d_sh, d_ow, getO_t, getO_f, bindT_nm, bindT_tp, setAll_nil, setAll_cons, hide_nil, hide_cons, items_l, items_t, seq_l, seq_t, zipD2, zipD3, enmD_, rev_l, rev_t, len_l, len_t, len_s, sum_l, all_l, any_l, tup_l, tup_t, lst_l, lst_t, min2_, max2_, int_i, int_b, abs_i, add_i, add_s, add_l, add_t, sub_i, mul_i, div_i, mod_i, pow_i, eq_i, ne_i, lt_i, le_i, gt_i, ge_i, isi_i, isi_ib, isi_b, isi_bi, isi_tt, isi_tn, isi_tl, isi_ll, isi_lt, isNon_n, isNon_i, isNon_t, isNon_l, isDict_i, isDict_b, isDict_t, isDict_l, isDict_n, isDict_s, ix_l, ix_t, sl_l, sl_t, atI_nat, atI_0, atI_1, atI_2, atI_3, atI_4, atI_5, atI_6, atI_7, keep_sh, keep_l, noL_i, noL_b, noL_s, noL_n, noL_t, noL_l, noLs_n, noLs_c, isNil_nil, out_rt, out_nx, ↓EE_var, varC_sh, ↓EE_cst, ↓EE_int, ↓EE_bl, ↓EE_non, ↓EE_str, ↓EE_bin, ↓EE_rep, repC_l, ↓EE_neg, negC_i, ↓EE_is, ↓EE_isn, ↓EE_eq, ↓EE_ne, ↓EE_lt, ↓EE_le, ↓EE_gt, ↓EE_ge, ↓EE_inn, ↓EE_ni, ↓EE_chain, ↓EE_and, andC_t, andC_f, ↓EE_or, orC_t, orC_f, ↓EE_not, ↓EE_ite, iteC_t, iteC_f, ↓EE_nil, ↓EE_cons, ↓EE_tup, ↓EE_lst, ↓EE_call, ↓EE_blt, ↓EE_isi, ↓EE_ix, ↓EE_sl, ↓EE_lc, ↓EE_rng, ↓EE_zip, ↓EE_enm, ↓EE_rev, ↓EE_bm, ↓EE_srt, seqR_nx, seqR_rt, seqR_bk, seqR_ct, seqR_no, iffR_t, iffR_f, appC_l, extC_l, putC_l, putX_i, popC_l, insC_l, reto_o, reto_s, unpC_t, rvsC_l, ↓EX, ↓ES_nil, ↓ES_seq, ↓ES_asg, ↓ES_unp, ↓ES_app, ↓ES_ext, ↓ES_put, ↓ES_pop, ↓ES_rvs, ↓ES_ins, ↓ES_ife, ↓ES_ret, ↓ES_reto, ↓ES_retn, ↓ES_for, ↓ES_brk, ↓ES_cnt, ↓ES_drp, forF_, shareAll_n, shareAll_c, shareAt_, shC_o, shC_s, shC_n, shC_x, memN_n, memN_c, after_, flatC_o, flatC_s, flat_i, flat_b, flat_s, flat_n, flat_l, flat_t, noLs_ints, noLs_rows, noLs_fi, q_set0, q_sets, q_get0, q_gets, q_getn, q_mapc, q_mapn, q_appc, q_appn, q_reps, q_rep0, q_bb, q_bs, q_bn, q_ms, q_mn, Nat.reduceAdd, Nat.reduceSub, q_lc, q_ln, q_pure, Bool.false_eq_true, q_ift, q_iff, q_ifb, q_ifc, ite_self, reduceCtorEq, Bool.and_true, Bool.true_and, Bool.and_false, Bool.false_and, Bool.and_self, Bool.not_true, Bool.not_false, CE.isNil, Nat.reduceEqDiff, and_self, decide_true, decide_false, e3, e2, rng_nat hbig, zip2_map, h1, e5]
omit T in
theorem boolsOf_any {α : Type} (f : α → Bool) (xs : List α) : (boolsOf (xs.map fun x => .bool (f x))).map (fun bs => Cell.sh (.bool (bs.any id))) = some (.sh (.bool (xs.any f))) := by
  rw [boolsOf_f]
  simp [List.any_map, Function.comp_def]
theorem back_of_g {p : Int} {high : Nat} {rows : List (List Int)} (hp : P4 p) (hr : Rws p high rows) (hh : rows.length = high) (hi : high ≤ 400) :
    GG tab C (k + 3) 26 [.int p, encTab high high rows] = some (.sh (match backM p high rows with
      | some x => encTab high high x
      | none => .none)) := by
  rw [gg (T.go 26 _ rfl)]
  have h0 := same_table_g T (C := C) (k := k + 1) (n := high) (by omega)
  obtain ⟨hb1, hb2⟩ := both_ok hp hr hh
  have h1 := base_g T (C := C) (k := k) (ls := encB (bothM rows high)) hp (Nat.le_refl 1000) rfl hb1 (by omega) (Nat.le_refl (2 * high)) (by omega)
  rw [show ((2 * high : Nat) : Int) = 2 * (high : Int) from by omega] at h1
  have hm : mulOk 2 (high : Int) = true := mulOk_l (by omega)
  have hne : ∀ x : Int, (!decide (x = x)) = false := fun x => by simp
  have e3 : ∀ c0 c1 c2 c3 c4 c5 c8 c9, lcGo (lcT (GG tab C (k + 2)) C [6, 7] (.tp [6, 7]) .nil c_back_of_e3 [c0, c1, c2, c3, c4, c5, .no, .no, c8, c9]) ((rows.zip (sameM high)).map fun q : List Int × List Int => PyData.tuple [encT q.1, encT q.2]) = some ((bothM rows high).map encT) := fun c0 c1 c2 c3 c4 c5 c8 c9 => by
    unfold bothM
    rw [List.map_map]
    refine lcGo_map (g := fun q : List Int × List Int => encT (q.1 ++ q.2)) fun q hq => ?_
    have hb : q.1.length + q.2.length ≤ big := by
      obtain ⟨a1, a2⟩ := List.of_mem_zip hq
      obtain ⟨i, _, e⟩ := List.mem_map.mp a2
      have := (hr _ a1).1
      have : q.2.length = high := by rw [← e]; exact unitM_len high i
      unfold big; omega
    simp only [lcF_all, c_back_of_e3, runD, getD_sh, getD_ow, getB_b, getL_t, d_sh, d_ow, getO_t, getO_f, bindT_nm, bindT_tp, setAll_nil, setAll_cons, hide_nil, hide_cons, items_l, items_t, seq_l, seq_t, zipD2, zipD3, enmD_, rev_l, rev_t, len_l, len_t, len_s, sum_l, all_l, any_l, tup_l, tup_t, lst_l, lst_t, min2_, max2_, int_i, int_b, abs_i, add_i, add_s, add_l, add_t, sub_i, mul_i, div_i, mod_i, pow_i, eq_i, ne_i, lt_i, le_i, gt_i, ge_i, isi_i, isi_ib, isi_b, isi_bi, isi_tt, isi_tn, isi_tl, isi_ll, isi_lt, isNon_n, isNon_i, isNon_t, isNon_l, isDict_i, isDict_b, isDict_t, isDict_l, isDict_n, isDict_s, ix_l, ix_t, sl_l, sl_t, atI_nat, atI_0, atI_1, atI_2, atI_3, atI_4, atI_5, atI_6, atI_7, keep_sh, keep_l, noL_i, noL_b, noL_s, noL_n, noL_t, noL_l, noLs_n, noLs_c, isNil_nil, out_rt, out_nx, ↓EE_var, varC_sh, ↓EE_cst, ↓EE_int, ↓EE_bl, ↓EE_non, ↓EE_str, ↓EE_bin, ↓EE_rep, repC_l, ↓EE_neg, negC_i, ↓EE_is, ↓EE_isn, ↓EE_eq, ↓EE_ne, ↓EE_lt, ↓EE_le, ↓EE_gt, ↓EE_ge, ↓EE_inn, ↓EE_ni, ↓EE_chain, ↓EE_and, andC_t, andC_f, ↓EE_or, orC_t, orC_f, ↓EE_not, ↓EE_ite, iteC_t, iteC_f, ↓EE_nil, ↓EE_cons, ↓EE_tup, ↓EE_lst, ↓EE_call, ↓EE_blt, ↓EE_isi, ↓EE_ix, ↓EE_sl, ↓EE_lc, ↓EE_rng, ↓EE_zip, ↓EE_enm, ↓EE_rev, ↓EE_bm, ↓EE_srt, seqR_nx, seqR_rt, seqR_bk, seqR_ct, seqR_no, iffR_t, iffR_f, appC_l, extC_l, putC_l, putX_i, popC_l, insC_l, reto_o, reto_s, unpC_t, rvsC_l, ↓EX, ↓ES_nil, ↓ES_seq, ↓ES_asg, ↓ES_unp, ↓ES_app, ↓ES_ext, ↓ES_put, ↓ES_pop, ↓ES_rvs, ↓ES_ins, ↓ES_ife, ↓ES_ret, ↓ES_reto, ↓ES_retn, ↓ES_for, ↓ES_brk, ↓ES_cnt, ↓ES_drp, forF_, shareAll_n, shareAll_c, shareAt_, shC_o, shC_s, shC_n, shC_x, memN_n, memN_c, after_, flatC_o, flatC_s, flat_i, flat_b, flat_s, flat_n, flat_l, flat_t, noLs_ints, noLs_rows, noLs_fi, q_set0, q_sets, q_get0, q_gets, q_getn, q_mapc, q_mapn, q_appc, q_appn, q_reps, q_rep0, q_bb, q_bs, q_bn, q_ms, q_mn, Nat.reduceAdd, Nat.reduceSub, q_lc, q_ln, q_pure, Bool.false_eq_true, q_ift, q_iff, q_ifb, q_ifc, ite_self, reduceCtorEq, Bool.and_true, Bool.true_and, Bool.and_false, Bool.false_and, Bool.and_self, Bool.not_true, Bool.not_false, CE.isNil, Nat.reduceEqDiff, and_self, decide_true, decide_false, List.length_map, hb, encT, List.map_append]
  have hB := (baseM_ok (long := 2 * high) hp hb1 (Nat.le_refl _)).1
  unfold backM
  simp only
  generalize baseM p (2 * high) (bothM rows high) = B at *
  have e2 : ∀ c0 c1 c2 c3 c4 c5 c7 c8, lcGo (lcT (GG tab C (k + 2)) C [9, 6] (.tp [9, 6]) .nil c_back_of_e2 [c0, c1, c2, c3, c4, c5, .no, c7, c8, .no]) (B.zipIdx.map fun q => PyData.tuple [.int (q.2 : Nat), encT q.1]) = some (B.zipIdx.map fun q => .bool (!decide (leadM q.1 = q.2))) := fun c0 c1 c2 c3 c4 c5 c7 c8 => by
    refine lcGo_map fun q hq => ?_
    have hl := lead_g T (C := C) (k := k + 1) (r := q.1) (d := encT q.1) (.inl rfl)
    have : decide (((leadM q.1 : Nat) : Int) = (q.2 : Int)) = decide (leadM q.1 = q.2) := by
      by_cases e : leadM q.1 = q.2
      · rw [e]; simp
      · have : ¬ ((leadM q.1 : Nat) : Int) = (q.2 : Int) := by omega
        simp [e, this]
    simp only [lcF_all, c_back_of_e2, runD, getD_sh, getD_ow, getB_b, getL_t, d_sh, d_ow, getO_t, getO_f, bindT_nm, bindT_tp, setAll_nil, setAll_cons, hide_nil, hide_cons, items_l, items_t, seq_l, seq_t, zipD2, zipD3, enmD_, rev_l, rev_t, len_l, len_t, len_s, sum_l, all_l, any_l, tup_l, tup_t, lst_l, lst_t, min2_, max2_, int_i, int_b, abs_i, add_i, add_s, add_l, add_t, sub_i, mul_i, div_i, mod_i, pow_i, eq_i, ne_i, lt_i, le_i, gt_i, ge_i, isi_i, isi_ib, isi_b, isi_bi, isi_tt, isi_tn, isi_tl, isi_ll, isi_lt, isNon_n, isNon_i, isNon_t, isNon_l, isDict_i, isDict_b, isDict_t, isDict_l, isDict_n, isDict_s, ix_l, ix_t, sl_l, sl_t, atI_nat, atI_0, atI_1, atI_2, atI_3, atI_4, atI_5, atI_6, atI_7, keep_sh, keep_l, noL_i, noL_b, noL_s, noL_n, noL_t, noL_l, noLs_n, noLs_c, isNil_nil, out_rt, out_nx, ↓EE_var, varC_sh, ↓EE_cst, ↓EE_int, ↓EE_bl, ↓EE_non, ↓EE_str, ↓EE_bin, ↓EE_rep, repC_l, ↓EE_neg, negC_i, ↓EE_is, ↓EE_isn, ↓EE_eq, ↓EE_ne, ↓EE_lt, ↓EE_le, ↓EE_gt, ↓EE_ge, ↓EE_inn, ↓EE_ni, ↓EE_chain, ↓EE_and, andC_t, andC_f, ↓EE_or, orC_t, orC_f, ↓EE_not, ↓EE_ite, iteC_t, iteC_f, ↓EE_nil, ↓EE_cons, ↓EE_tup, ↓EE_lst, ↓EE_call, ↓EE_blt, ↓EE_isi, ↓EE_ix, ↓EE_sl, ↓EE_lc, ↓EE_rng, ↓EE_zip, ↓EE_enm, ↓EE_rev, ↓EE_bm, ↓EE_srt, seqR_nx, seqR_rt, seqR_bk, seqR_ct, seqR_no, iffR_t, iffR_f, appC_l, extC_l, putC_l, putX_i, popC_l, insC_l, reto_o, reto_s, unpC_t, rvsC_l, ↓EX, ↓ES_nil, ↓ES_seq, ↓ES_asg, ↓ES_unp, ↓ES_app, ↓ES_ext, ↓ES_put, ↓ES_pop, ↓ES_rvs, ↓ES_ins, ↓ES_ife, ↓ES_ret, ↓ES_reto, ↓ES_retn, ↓ES_for, ↓ES_brk, ↓ES_cnt, ↓ES_drp, forF_, shareAll_n, shareAll_c, shareAt_, shC_o, shC_s, shC_n, shC_x, memN_n, memN_c, after_, flatC_o, flatC_s, flat_i, flat_b, flat_s, flat_n, flat_l, flat_t, noLs_ints, noLs_rows, noLs_fi, q_set0, q_sets, q_get0, q_gets, q_getn, q_mapc, q_mapn, q_appc, q_appn, q_reps, q_rep0, q_bb, q_bs, q_bn, q_ms, q_mn, Nat.reduceAdd, Nat.reduceSub, q_lc, q_ln, q_pure, Bool.false_eq_true, q_ift, q_iff, q_ifb, q_ifc, ite_self, reduceCtorEq, Bool.and_true, Bool.true_and, Bool.and_false, Bool.false_and, Bool.and_self, Bool.not_true, Bool.not_false, CE.isNil, Nat.reduceEqDiff, and_self, decide_true, decide_false, hl, this]
  have e1 : ∀ c0 c1 c3 c4 c5 c7 c8 c9, lcGo (lcT (GG tab C (k + 2)) C [6] (.nm 6) .nil c_back_of_e1 [c0, c1, .sh (.int (high : Nat)), c3, c4, c5, .no, c7, c8, c9]) (B.map encT) = some ((B.map fun r => r.drop high).map encT) := fun c0 c1 c3 c4 c5 c7 c8 c9 => by
    rw [List.map_map]
    refine lcGo_map fun r hr => ?_
    simp only [lcF_all, c_back_of_e1, runD, getD_sh, getD_ow, getB_b, getL_t, d_sh, d_ow, getO_t, getO_f, bindT_nm, bindT_tp, setAll_nil, setAll_cons, hide_nil, hide_cons, items_l, items_t, seq_l, seq_t, zipD2, zipD3, enmD_, rev_l, rev_t, len_l, len_t, len_s, sum_l, all_l, any_l, tup_l, tup_t, lst_l, lst_t, min2_, max2_, int_i, int_b, abs_i, add_i, add_s, add_l, add_t, sub_i, mul_i, div_i, mod_i, pow_i, eq_i, ne_i, lt_i, le_i, gt_i, ge_i, isi_i, isi_ib, isi_b, isi_bi, isi_tt, isi_tn, isi_tl, isi_ll, isi_lt, isNon_n, isNon_i, isNon_t, isNon_l, isDict_i, isDict_b, isDict_t, isDict_l, isDict_n, isDict_s, ix_l, ix_t, sl_l, sl_t, atI_nat, atI_0, atI_1, atI_2, atI_3, atI_4, atI_5, atI_6, atI_7, keep_sh, keep_l, noL_i, noL_b, noL_s, noL_n, noL_t, noL_l, noLs_n, noLs_c, isNil_nil, out_rt, out_nx, ↓EE_var, varC_sh, ↓EE_cst, ↓EE_int, ↓EE_bl, ↓EE_non, ↓EE_str, ↓EE_bin, ↓EE_rep, repC_l, ↓EE_neg, negC_i, ↓EE_is, ↓EE_isn, ↓EE_eq, ↓EE_ne, ↓EE_lt, ↓EE_le, ↓EE_gt, ↓EE_ge, ↓EE_inn, ↓EE_ni, ↓EE_chain, ↓EE_and, andC_t, andC_f, ↓EE_or, orC_t, orC_f, ↓EE_not, ↓EE_ite, iteC_t, iteC_f, ↓EE_nil, ↓EE_cons, ↓EE_tup, ↓EE_lst, ↓EE_call, ↓EE_blt, ↓EE_isi, ↓EE_ix, ↓EE_sl, ↓EE_lc, ↓EE_rng, ↓EE_zip, ↓EE_enm, ↓EE_rev, ↓EE_bm, ↓EE_srt, seqR_nx, seqR_rt, seqR_bk, seqR_ct, seqR_no, iffR_t, iffR_f, appC_l, extC_l, putC_l, putX_i, popC_l, insC_l, reto_o, reto_s, unpC_t, rvsC_l, ↓EX, ↓ES_nil, ↓ES_seq, ↓ES_asg, ↓ES_unp, ↓ES_app, ↓ES_ext, ↓ES_put, ↓ES_pop, ↓ES_rvs, ↓ES_ins, ↓ES_ife, ↓ES_ret, ↓ES_reto, ↓ES_retn, ↓ES_for, ↓ES_brk, ↓ES_cnt, ↓ES_drp, forF_, shareAll_n, shareAll_c, shareAt_, shC_o, shC_s, shC_n, shC_x, memN_n, memN_c, after_, flatC_o, flatC_s, flat_i, flat_b, flat_s, flat_n, flat_l, flat_t, noLs_ints, noLs_rows, noLs_fi, q_set0, q_sets, q_get0, q_gets, q_getn, q_mapc, q_mapn, q_appc, q_appn, q_reps, q_rep0, q_bb, q_bs, q_bn, q_ms, q_mn, Nat.reduceAdd, Nat.reduceSub, q_lc, q_ln, q_pure, Bool.false_eq_true, q_ift, q_iff, q_ifb, q_ifc, ite_self, reduceCtorEq, Bool.and_true, Bool.true_and, Bool.and_false, Bool.false_and, Bool.and_self, Bool.not_true, Bool.not_false, CE.isNil, Nat.reduceEqDiff, and_self, decide_true, decide_false, cut_from, List.map_drop, Function.comp_def, encT]
  cases hany : B.zipIdx.any (fun q => !decide (leadM q.1 = q.2)) with
  | true =>
    simp only [c_back_of, runD, getD_sh, getD_ow, getB_b, getL_t, d_sh, d_ow, getO_t, getO_f, bindT_nm, bindT_tp, setAll_nil, setAll_cons, hide_nil, hide_cons, items_l, items_t, seq_l, seq_t, zipD2, zipD3, enmD_, rev_l, rev_t, len_l, len_t, len_s, sum_l, all_l, any_l, tup_l, tup_t, lst_l, lst_t, min2_, max2_, int_i, int_b, abs_i, add_i, add_s, add_l, add_t, sub_i, mul_i, div_i, mod_i, pow_i, eq_i, ne_i, lt_i, le_i, gt_i, ge_i, isi_i, isi_ib, isi_b, isi_bi, isi_tt, isi_tn, isi_tl, isi_ll, isi_lt, isNon_n, isNon_i, isNon_t, isNon_l, isDict_i, isDict_b, isDict_t, isDict_l, isDict_n, isDict_s, ix_l, ix_t, sl_l, sl_t, atI_nat, atI_0, atI_1, atI_2, atI_3, atI_4, atI_5, atI_6, atI_7, keep_sh, keep_l, noL_i, noL_b, noL_s, noL_n, noL_t, noL_l, noLs_n, noLs_c, isNil_nil, out_rt, out_nx, ↓EE_var, varC_sh, ↓EE_cst, ↓EE_int, ↓EE_bl, ↓EE_non, ↓EE_str, ↓EE_bin, ↓EE_rep, repC_l, ↓EE_neg, negC_i, ↓EE_is, ↓EE_isn, ↓EE_eq, ↓EE_ne, ↓EE_lt, ↓EE_le, ↓EE_gt, ↓EE_ge, ↓EE_inn, ↓EE_ni, ↓EE_chain, ↓EE_and, andC_t, andC_f, ↓EE_or, orC_t, orC_f, ↓EE_not, ↓EE_ite, iteC_t, iteC_f, ↓EE_nil, ↓EE_cons, ↓EE_tup, ↓EE_lst, ↓EE_call, ↓EE_blt, ↓EE_isi, ↓EE_ix, ↓EE_sl, ↓EE_lc, ↓EE_rng, ↓EE_zip, ↓EE_enm, ↓EE_rev, ↓EE_bm, ↓EE_srt, seqR_nx, seqR_rt, seqR_bk, seqR_ct, seqR_no, iffR_t, iffR_f, appC_l, extC_l, putC_l, putX_i, popC_l, insC_l, reto_o, reto_s, unpC_t, rvsC_l, ↓EX, ↓ES_nil, ↓ES_seq, ↓ES_asg, ↓ES_unp, ↓ES_app, ↓ES_ext, ↓ES_put, ↓ES_pop, ↓ES_rvs, ↓ES_ins, ↓ES_ife, ↓ES_ret, ↓ES_reto, ↓ES_retn, ↓ES_for, ↓ES_brk, ↓ES_cnt, ↓ES_drp, forF_, shareAll_n, shareAll_c, shareAt_, shC_o, shC_s, shC_n, shC_x, memN_n, memN_c, after_, flatC_o, flatC_s, flat_i, flat_b, flat_s, flat_n, flat_l, flat_t, noLs_ints, noLs_rows, noLs_fi, q_set0, q_sets, q_get0, q_gets, q_getn, q_mapc, q_mapn, q_appc, q_appn, q_reps, q_rep0, q_bb, q_bs, q_bn, q_ms, q_mn, Nat.reduceAdd, Nat.reduceSub, q_lc, q_ln, q_pure, Bool.false_eq_true, q_ift, q_iff, q_ifb, q_ifc, ite_self, reduceCtorEq, Bool.and_true, Bool.true_and, Bool.and_false, Bool.false_and, Bool.and_self, Bool.not_true, Bool.not_false, CE.isNil, Nat.reduceEqDiff, and_self, decide_true, decide_false, encTab, hne, h0, zip2_map, e3, hm, h1, enmFrom_map, e2, boolsOf_any, hany]
  | false =>
    simp only [c_back_of, runD, getD_sh, getD_ow, getB_b, getL_t, d_sh, d_ow, getO_t, getO_f, bindT_nm, bindT_tp, setAll_nil, setAll_cons, hide_nil, hide_cons, items_l, items_t, seq_l, seq_t, zipD2, zipD3, enmD_, rev_l, rev_t, len_l, len_t, len_s, sum_l, all_l, any_l, tup_l, tup_t, lst_l, lst_t, min2_, max2_, int_i, int_b, abs_i, add_i, add_s, add_l, add_t, sub_i, mul_i, div_i, mod_i, pow_i, eq_i, ne_i, lt_i, le_i, gt_i, ge_i, isi_i, isi_ib, isi_b, isi_bi, isi_tt, isi_tn, isi_tl, isi_ll, isi_lt, isNon_n, isNon_i, isNon_t, isNon_l, isDict_i, isDict_b, isDict_t, isDict_l, isDict_n, isDict_s, ix_l, ix_t, sl_l, sl_t, atI_nat, atI_0, atI_1, atI_2, atI_3, atI_4, atI_5, atI_6, atI_7, keep_sh, keep_l, noL_i, noL_b, noL_s, noL_n, noL_t, noL_l, noLs_n, noLs_c, isNil_nil, out_rt, out_nx, ↓EE_var, varC_sh, ↓EE_cst, ↓EE_int, ↓EE_bl, ↓EE_non, ↓EE_str, ↓EE_bin, ↓EE_rep, repC_l, ↓EE_neg, negC_i, ↓EE_is, ↓EE_isn, ↓EE_eq, ↓EE_ne, ↓EE_lt, ↓EE_le, ↓EE_gt, ↓EE_ge, ↓EE_inn, ↓EE_ni, ↓EE_chain, ↓EE_and, andC_t, andC_f, ↓EE_or, orC_t, orC_f, ↓EE_not, ↓EE_ite, iteC_t, iteC_f, ↓EE_nil, ↓EE_cons, ↓EE_tup, ↓EE_lst, ↓EE_call, ↓EE_blt, ↓EE_isi, ↓EE_ix, ↓EE_sl, ↓EE_lc, ↓EE_rng, ↓EE_zip, ↓EE_enm, ↓EE_rev, ↓EE_bm, ↓EE_srt, seqR_nx, seqR_rt, seqR_bk, seqR_ct, seqR_no, iffR_t, iffR_f, appC_l, extC_l, putC_l, putX_i, popC_l, insC_l, reto_o, reto_s, unpC_t, rvsC_l, ↓EX, ↓ES_nil, ↓ES_seq, ↓ES_asg, ↓ES_unp, ↓ES_app, ↓ES_ext, ↓ES_put, ↓ES_pop, ↓ES_rvs, ↓ES_ins, ↓ES_ife, ↓ES_ret, ↓ES_reto, ↓ES_retn, ↓ES_for, ↓ES_brk, ↓ES_cnt, ↓ES_drp, forF_, shareAll_n, shareAll_c, shareAt_, shC_o, shC_s, shC_n, shC_x, memN_n, memN_c, after_, flatC_o, flatC_s, flat_i, flat_b, flat_s, flat_n, flat_l, flat_t, noLs_ints, noLs_rows, noLs_fi, q_set0, q_sets, q_get0, q_gets, q_getn, q_mapc, q_mapn, q_appc, q_appn, q_reps, q_rep0, q_bb, q_bs, q_bn, q_ms, q_mn, Nat.reduceAdd, Nat.reduceSub, q_lc, q_ln, q_pure, Bool.false_eq_true, q_ift, q_iff, q_ifb, q_ifc, ite_self, reduceCtorEq, Bool.and_true, Bool.true_and, Bool.and_false, Bool.false_and, Bool.and_self, Bool.not_true, Bool.not_false, CE.isNil, Nat.reduceEqDiff, and_self, decide_true, decide_false, encTab, hne, h0, zip2_map, e3, hm, h1, enmFrom_map, e2, boolsOf_any, hany, e1]
end
end EV
end

section
set_option Elab.async false
set_option linter.all false
set_option maxRecDepth 100000
set_option maxHeartbeats 4000000
/-! the law k40: its cores, its table, the looks (printed by emit.py) -/
namespace K40
open PySem L2 EV
def top (i : Nat) : Stmt := PySem.Challenge.pw_barsplit_k40_tables_of_thirty.main.body.getD i (.Pass ⟨0, 0, 0, 0⟩)
def c__law_cell_b1 : CS := (.seq (.asg 2 [2] (.bin .div (.var 2) (.bin .pow (.int 10) (.int 9)))) .nil)
def c__law_cell : Def := ⟨2, ["script", "k", "cell", "turn", "given"], (.seq (.ife [] (.and_ (.cmp .gt (.blt .len (.cons (.var 0) .nil)) (.int 1)) (.cmp .eq (.bin .mod (.ix (.var 0) (.int 0)) (.int 2)) (.int 1))) (.seq (.asg 2 [] (.ix (.var 0) (.bin .add (.int 1) (.bin .mod (.var 1) (.bin .sub (.blt .len (.cons (.var 0) .nil)) (.int 1)))))) (.seq (.for_ [] (.nm 3) (.rng (.cons (.blt .min2 (.cons (.int 60) (.cons (.bin .div (.var 1) (.bin .sub (.blt .len (.cons (.var 0) .nil)) (.int 1))) .nil))) .nil)) c__law_cell_b1) (.seq (.ret [2] (.bin .mod (.var 2) (.bin .pow (.int 10) (.int 9)))) .nil))) .nil) (.seq (.asg 4 [] (.var 1)) (.seq (.ife [] (.cmp .gt (.blt .len (.cons (.var 0) .nil)) (.int 0)) (.seq (.asg 4 [] (.ix (.var 0) (.bin .mod (.var 1) (.blt .len (.cons (.var 0) .nil))))) .nil) .nil) (.seq (.ret [] (.bin .mod (.bin .mul (.bin .mod (.bin .add (.bin .add (.bin .add (.bin .mul (.bin .mod (.var 4) (.bin .pow (.int 10) (.int 30))) (.int 48271)) (.bin .mul (.bin .mul (.int 7) (.var 1)) (.var 1))) (.bin .mul (.int 13) (.var 1))) (.int 5)) (.int 2147483647)) (.int 69621)) (.int 1000000007))) .nil))))⟩
def c__law_whole : Def := ⟨1, ["found"], (.seq (.ret [] (.and_ (.isi .int (.var 0)) (.not_ (.isi .bool (.var 0))))) .nil)⟩
def c__law_is_base_e1 : CE := (.call 1001 (.cons (.var 4) .nil))
def c__law_is_base_b2 : CS := (.seq (.ife [] (.or_ (.not_ (.isi .tuple (.var 2))) (.or_ (.not_ (.blt .all (.cons (.lc [4] (.nm 4) (.var 2) .nil c__law_is_base_e1) .nil))) (.cmp .ne (.var 2) (.var 3)))) (.seq (.ret [] (.bl false)) .nil) .nil) .nil)
def c__law_is_base : Def := ⟨2, ["found", "due", "one", "other", "number"], (.seq (.ife [] (.or_ (.not_ (.isi .list (.var 0))) (.cmp .ne (.blt .len (.cons (.var 0) .nil)) (.blt .len (.cons (.var 1) .nil)))) (.seq (.ret [] (.bl false)) .nil) .nil) (.seq (.for_ [] (.tp [2, 3]) (.zip (.cons (.var 0) (.cons (.var 1) .nil))) c__law_is_base_b2) (.seq (.ret [] (.bl true)) .nil)))⟩
def c__law_order_b1 : CS := (.seq (.ins 3 [] (.bin .mod (.bin .div (.call 1000 (.cons (.var 0) (.cons (.bin .add (.var 1) (.var 4)) .nil))) (.int 16)) (.bin .add (.var 4) (.int 1))) (.var 4)) .nil)
def c__law_order : Def := ⟨3, ["script", "at", "many", "row", "k"], (.seq (.asg 3 [] (.lst .nil)) (.seq (.for_ [] (.nm 4) (.rng (.cons (.var 2) .nil)) c__law_order_b1) (.seq (.reto 3) .nil)))⟩
def c__law_table_e1 : CE := (.bin .mul (.ix (.var 1) (.var 4)) (.blt .int (.cons (.cmp .eq (.var 5) (.ix (.var 0) (.var 4))) .nil)))
def c__law_table_e2 : CE := (.blt .tup (.cons (.lc [5] (.nm 5) (.rng (.cons (.var 2) .nil)) .nil c__law_table_e1) .nil))
def c__law_table : Def := ⟨2, ["order", "factors", "many", "rows", "i", "j"], (.seq (.asg 2 [] (.blt .len (.cons (.var 0) .nil))) (.seq (.asg 3 [2] (.lc [4] (.nm 4) (.rng (.cons (.var 2) .nil)) .nil c__law_table_e2)) (.seq (.ret [2, 3] (.tup (.cons (.var 2) (.cons (.var 2) (.cons (.blt .tup (.cons (.var 3) .nil)) .nil))))) .nil)))⟩
def c__law_load_is_e1 : CE := (.call 1001 (.cons (.var 2) .nil))
def c__law_load_is : Def := ⟨2, ["found", "due", "one"], (.seq (.ife [] (.cmp .is (.var 1) .non) (.seq (.ret [] (.cmp .is (.var 0) .non)) .nil) .nil) (.seq (.ret [] (.and_ (.isi .tuple (.var 0)) (.and_ (.cmp .eq (.var 0) (.blt .tup (.cons (.var 1) .nil))) (.blt .all (.cons (.lc [2] (.nm 2) (.var 0) .nil c__law_load_is_e1) .nil))))) .nil))⟩
def c__law_table_is_e1 : CE := (.call 1005 (.cons (.var 2) (.cons (.var 3) .nil)))
def c__law_table_is : Def := ⟨2, ["found", "due", "one", "other"], (.seq (.ife [] (.cmp .is (.var 1) .non) (.seq (.ret [] (.cmp .is (.var 0) .non)) .nil) .nil) (.seq (.ife [] (.or_ (.not_ (.isi .tuple (.var 0))) (.cmp .ne (.var 0) (.var 1))) (.seq (.ret [] (.bl false)) .nil) .nil) (.seq (.ret [] (.blt .all (.cons (.lc [2, 3] (.tp [2, 3]) (.zip (.cons (.ix (.var 0) (.int 2)) (.cons (.ix (.var 1) (.int 2)) .nil))) .nil c__law_table_is_e1) .nil))) .nil)))⟩
def c__law_over_c1 : CE := (.cmp .eq (.bin .mod (.bin .mul (.var 2) (.var 1)) (.var 0)) (.int 1))
def c__law_over_e2 : CE := (.var 2)
def c__law_over : Def := ⟨2, ["p", "number", "one"], (.seq (.ret [] (.ix (.lc [2] (.nm 2) (.rng (.cons (.var 0) .nil)) c__law_over_c1 c__law_over_e2) (.int 0))) .nil)⟩
def c__law_back_e1 : CE := (.call 1007 (.cons (.var 0) (.cons (.ix (.var 2) (.ix (.var 4) (.var 5))) .nil)))
def c__law_back_e2 : CE := (.bm .lindex (.var 1) (.cons (.var 5) .nil))
def c__law_back : Def := ⟨3, ["p", "order", "factors", "many", "new", "j"], (.seq (.ife [] (.cmp .inn (.int 0) (.var 2)) (.seq (.ret [] .non) .nil) .nil) (.seq (.asg 3 [] (.blt .len (.cons (.var 1) .nil))) (.seq (.asg 4 [3] (.lc [5] (.nm 5) (.rng (.cons (.var 3) .nil)) .nil c__law_back_e2)) (.seq (.ret [3, 4] (.call 1004 (.cons (.var 4) (.cons (.lc [5] (.nm 5) (.rng (.cons (.var 3) .nil)) .nil c__law_back_e1) .nil)))) .nil))))⟩
def c__law_solved_b1 : CS := (.seq (.ife [] (.and_ (.cmp .eq (.ix (.var 2) (.var 6)) (.int 0)) (.cmp .ne (.var 5) (.int 0))) (.seq (.ret [] .non) .nil) .nil) (.seq (.ife [] (.cmp .ne (.ix (.var 2) (.var 6)) (.int 0)) (.seq (.put 4 [] (.ix (.var 1) (.var 6)) (.bin .mod (.bin .mul (.var 5) (.call 1007 (.cons (.var 0) (.cons (.ix (.var 2) (.var 6)) .nil)))) (.var 0))) .nil) .nil) .nil))
def c__law_solved_e2 : CE := (.int 0)
def c__law_solved : Def := ⟨4, ["p", "order", "factors", "load", "found", "one", "i"], (.seq (.asg 4 [] (.lc [5] (.nm 5) (.var 3) .nil c__law_solved_e2)) (.seq (.for_ [] (.tp [6, 5]) (.enm (.var 3)) c__law_solved_b1) (.seq (.reto 4) .nil)))⟩
def c__law_units_e1 : CE := (.blt .int (.cons (.cmp .eq (.var 3) (.var 2)) .nil))
def c__law_units_e2 : CE := (.blt .tup (.cons (.lc [3] (.nm 3) (.rng (.cons (.var 0) .nil)) .nil c__law_units_e1) .nil))
def c__law_units : Def := ⟨2, ["many", "places", "place", "j"], (.seq (.ret [] (.lc [2] (.nm 2) (.srt (.var 1)) .nil c__law_units_e2)) .nil)⟩
def c__law_no_back_e1 : CE := (.sl (.var 3) (.int 1) .nil)
def c__law_no_back : Def := ⟨3, ["p", "many", "rows", "row"], (.seq (.ife [] (.cmp .isn (.call 26 (.cons (.var 0) (.cons (.tup (.cons (.bin .sub (.var 1) (.int 1)) (.cons (.var 1) (.cons (.sl (.var 2) (.int 1) .nil) .nil)))) .nil))) .non) (.seq (.ret [] (.bl false)) .nil) .nil) (.seq (.ret [] (.cmp .is (.call 26 (.cons (.var 0) (.cons (.tup (.cons (.var 1) (.cons (.bin .sub (.var 1) (.int 1)) (.cons (.blt .tup (.cons (.lc [3] (.nm 3) (.var 2) .nil c__law_no_back_e1) .nil)) .nil)))) .nil))) .non)) .nil))⟩
def c_law_c1 : CE := (.cmp .eq (.ix (.var 6) (.var 14)) (.int 0))
def c_law_e2 : CE := (.ix (.var 4) (.var 14))
def c_law_c3 : CE := (.cmp .ne (.ix (.var 6) (.var 14)) (.int 0))
def c_law_e4 : CE := (.var 14)
def c_law_e5 : CE := (.bin .mod (.bin .mul (.ix (.var 6) (.var 14)) (.ix (.var 11) (.ix (.var 4) (.var 14)))) (.var 2))
def c_law_e6 : CE := (.ix (.var 5) (.ix (.var 4) (.var 14)))
def c_law_e7 : CE := (.bin .mod (.bin .mul (.ix (.var 6) (.var 14)) (.ix (.var 10) (.ix (.var 4) (.var 14)))) (.var 2))
def c_law_e8 : CE := (.bin .mul (.ix (.var 11) (.var 7)) (.blt .int (.cons (.cmp .ne (.ix (.var 6) (.var 7)) (.int 0)) .nil)))
def c_law_e9 : CE := (.bin .mod (.bin .div (.call 1000 (.cons (.var 0) (.cons (.bin .add (.int 125) (.var 7)) .nil))) (.int 16)) (.var 2))
def c_law_e10 : CE := (.bin .add (.int 1) (.bin .mod (.bin .div (.call 1000 (.cons (.var 0) (.cons (.bin .add (.int 94) (.var 7)) .nil))) (.int 16)) (.bin .sub (.var 2) (.int 1))))
def c_law_b11 : CS := (.seq (.asg 8 [] (.bin .div (.call 1000 (.cons (.var 0) (.cons (.bin .add (.int 63) (.var 7)) .nil))) (.int 16))) (.seq (.asg 9 [1, 8] (.cmp .gt (.bin .mod (.var 8) (.int 8)) (.bin .sub (.bin .mod (.bin .div (.var 1) (.int 124)) (.int 3)) (.int 1)))) (.seq (.app 6 [8] (.bin .mul (.blt .int (.cons (.var 9) .nil)) (.bin .add (.int 1) (.bin .mod (.bin .div (.var 8) (.int 8)) (.bin .sub (.var 2) (.int 1)))))) .nil)))
def c_law : Def := ⟨1, ["script", "cell", "p", "many", "order", "other", "factors", "k", "number", "there", "others", "load", "one", "times", "i", "due", "whole", "empty"], (.seq (.asg 1 [] (.call 1000 (.cons (.var 0) (.cons (.int 0) .nil)))) (.seq (.asg 2 [1] (.ix (.lst (.cons (.int 2) (.cons (.int 3) (.cons (.int 5) (.cons (.int 7) .nil))))) (.bin .mod (.var 1) (.int 4)))) (.seq (.asg 3 [1] (.bin .mod (.bin .div (.var 1) (.int 4)) (.int 31))) (.seq (.asg 4 [3] (.call 1003 (.cons (.var 0) (.cons (.int 1) (.cons (.var 3) .nil))))) (.seq (.asg 5 [3] (.call 1003 (.cons (.var 0) (.cons (.int 32) (.cons (.var 3) .nil))))) (.seq (.asg 6 [] (.lst .nil)) (.seq (.for_ [3] (.nm 7) (.rng (.cons (.var 3) .nil)) c_law_b11) (.seq (.asg 10 [3] (.lc [7] (.nm 7) (.rng (.cons (.var 3) .nil)) .nil c_law_e10)) (.seq (.asg 11 [3] (.lc [7] (.nm 7) (.rng (.cons (.var 3) .nil)) .nil c_law_e9)) (.seq (.ife [1] (.cmp .eq (.bin .mod (.bin .div (.var 1) (.int 372)) (.int 2)) (.int 1)) (.seq (.asg 11 [3, 6, 11] (.lc [7] (.nm 7) (.rng (.cons (.var 3) .nil)) .nil c_law_e8)) .nil) .nil) (.seq (.asg 12 [4, 6] (.call 1004 (.cons (.var 4) (.cons (.var 6) .nil)))) (.seq (.asg 13 [3, 4, 6, 10] (.lc [14] (.nm 14) (.rng (.cons (.var 3) .nil)) .nil c_law_e7)) (.seq (.asg 15 [3, 4, 5, 13] (.call 1004 (.cons (.lc [14] (.nm 14) (.rng (.cons (.var 3) .nil)) .nil c_law_e6) (.cons (.var 13) .nil)))) (.seq (.ife [5, 10, 12, 15] (.not_ (.call 1006 (.cons (.call 2 (.cons (.var 2) (.cons (.var 12) (.cons (.call 1004 (.cons (.var 5) (.cons (.var 10) .nil))) .nil)))) (.cons (.var 15) .nil)))) (.seq (.ret [] (.bl false)) .nil) .nil) (.seq (.ife [3, 4, 6, 11, 12] (.not_ (.call 1005 (.cons (.call 5 (.cons (.var 2) (.cons (.var 12) (.cons (.blt .tup (.cons (.var 11) .nil)) .nil)))) (.cons (.lc [14] (.nm 14) (.rng (.cons (.var 3) .nil)) .nil c_law_e5) .nil)))) (.seq (.ret [] (.bl false)) .nil) .nil) (.seq (.asg 16 [3, 6] (.lc [14] (.nm 14) (.rng (.cons (.var 3) .nil)) c_law_c3 c_law_e4)) (.seq (.asg 8 [12] (.call 24 (.cons (.var 2) (.cons (.var 12) .nil)))) (.seq (.ife [8, 16] (.or_ (.not_ (.call 1001 (.cons (.var 8) .nil))) (.cmp .ne (.var 8) (.blt .len (.cons (.var 16) .nil)))) (.seq (.ret [] (.bl false)) .nil) .nil) (.seq (.ife [3, 12, 16] (.not_ (.call 1002 (.cons (.call 23 (.cons (.var 2) (.cons (.var 12) .nil))) (.cons (.call 1010 (.cons (.var 3) (.cons (.var 16) .nil))) .nil)))) (.seq (.ret [] (.bl false)) .nil) .nil) (.seq (.asg 17 [3, 4, 6] (.lc [14] (.nm 14) (.rng (.cons (.var 3) .nil)) c_law_c1 c_law_e2)) (.seq (.ife [3, 12, 17] (.not_ (.call 1002 (.cons (.call 10 (.cons (.var 2) (.cons (.var 12) .nil))) (.cons (.call 1010 (.cons (.var 3) (.cons (.var 17) .nil))) .nil)))) (.seq (.ret [] (.bl false)) .nil) .nil) (.seq (.ife [4, 6, 11, 12] (.not_ (.call 1005 (.cons (.call 25 (.cons (.var 2) (.cons (.var 12) (.cons (.blt .tup (.cons (.var 11) .nil)) .nil)))) (.cons (.call 1009 (.cons (.var 2) (.cons (.var 4) (.cons (.var 6) (.cons (.var 11) .nil))))) .nil)))) (.seq (.ret [] (.bl false)) .nil) .nil) (.seq (.ife [4, 6, 12] (.not_ (.call 1006 (.cons (.call 26 (.cons (.var 2) (.cons (.var 12) .nil))) (.cons (.call 1008 (.cons (.var 2) (.cons (.var 4) (.cons (.var 6) .nil)))) .nil)))) (.seq (.ret [] (.bl false)) .nil) .nil) (.seq (.ret [3, 12] (.or_ (.cmp .eq (.var 3) (.int 0)) (.call 1011 (.cons (.var 2) (.cons (.var 3) (.cons (.ix (.var 12) (.int 2)) .nil)))))) .nil))))))))))))))))))))))))⟩
def lawTab : Nat → Option Def
  | 1000 => some c__law_cell
  | 1001 => some c__law_whole
  | 1002 => some c__law_is_base
  | 1003 => some c__law_order
  | 1004 => some c__law_table
  | 1005 => some c__law_load_is
  | 1006 => some c__law_table_is
  | 1007 => some c__law_over
  | 1008 => some c__law_back
  | 1009 => some c__law_solved
  | 1010 => some c__law_units
  | 1011 => some c__law_no_back
  | 1012 => some c_law
  | _ => none
def tab (f : Nat) : Option Def := match progTab f with
  | some d => some d
  | none => lawTab f
def T : Tab := ⟨[en 4 "inverse" 2, en 0 "summed" 3, en 5 "led" 3, en 1 "columns_of" 1, en 2 "product" 3, en 22 "same_table" 1, en 6 "less" 4, en 7 "first_with" 2, en 8 "base_of" 3, en 9 "lead_of" 1, en 10 "kernel" 2, en 23 "image" 2, en 24 "rank" 2, en 25 "solved" 3, en 26 "back_of" 2, en 1000 "_law_cell" 2, en 1001 "_law_whole" 1, en 1002 "_law_is_base" 2, en 1003 "_law_order" 3, en 1004 "_law_table" 2, en 1005 "_law_load_is" 2, en 1006 "_law_table_is" 2, en 1007 "_law_over" 2, en 1008 "_law_back" 3, en 1009 "_law_solved" 4, en 1010 "_law_units" 2, en 1011 "_law_no_back" 3, en 1012 "law" 1], [], [], [], []⟩
theorem k_inverse : defB T c_inverse (top 4) = true := by decide +kernel
theorem k_summed : defB T c_summed (top 5) = true := by decide +kernel
theorem k_led : defB T c_led (top 6) = true := by decide +kernel
theorem k_columns_of : defB T c_columns_of (top 7) = true := by decide +kernel
theorem k_product : defB T c_product (top 8) = true := by decide +kernel
theorem k_same_table : defB T c_same_table (top 9) = true := by decide +kernel
theorem k_less : defB T c_less (top 11) = true := by decide +kernel
theorem k_first_with : defB T c_first_with (top 12) = true := by decide +kernel
theorem k_base_of : defB T c_base_of (top 13) = true := by decide +kernel
theorem k_lead_of : defB T c_lead_of (top 14) = true := by decide +kernel
theorem k_kernel : defB T c_kernel (top 15) = true := by decide +kernel
theorem k_image : defB T c_image (top 16) = true := by decide +kernel
theorem k_rank : defB T c_rank (top 17) = true := by decide +kernel
theorem k_solved : defB T c_solved (top 18) = true := by decide +kernel
theorem k_back_of : defB T c_back_of (top 19) = true := by decide +kernel
theorem k__law_cell : defB T c__law_cell (top 21) = true := by decide +kernel
theorem k__law_whole : defB T c__law_whole (top 22) = true := by decide +kernel
theorem k__law_is_base : defB T c__law_is_base (top 23) = true := by decide +kernel
theorem k__law_order : defB T c__law_order (top 24) = true := by decide +kernel
theorem k__law_table : defB T c__law_table (top 25) = true := by decide +kernel
theorem k__law_load_is : defB T c__law_load_is (top 26) = true := by decide +kernel
theorem k__law_table_is : defB T c__law_table_is (top 27) = true := by decide +kernel
theorem k__law_over : defB T c__law_over (top 28) = true := by decide +kernel
theorem k__law_back : defB T c__law_back (top 29) = true := by decide +kernel
theorem k__law_solved : defB T c__law_solved (top 30) = true := by decide +kernel
theorem k__law_units : defB T c__law_units (top 31) = true := by decide +kernel
theorem k__law_no_back : defB T c__law_no_back (top 32) = true := by decide +kernel
theorem k_law : defB T c_law (top 33) = true := by decide +kernel
end K40
end

section
set_option linter.all false
set_option maxRecDepth 100000
set_option maxHeartbeats 2000000
/-! the cells drawn from a script -/
namespace EV
open PySem L2 K40
theorem pt : PT tab := ⟨fun f d h => by unfold tab; rw [h]⟩
abbrev scr (ns : List Int) : D := .list (ns.map .int)
def divs : Nat → Int → Int
  | 0, x => x
  | n + 1, x => divs n (x / 1000000000)
def cM (ns : List Int) (j : Nat) : Int :=
  if 1 < ns.length ∧ ns.getD 0 0 % 2 = 1 then divs (min 60 (j / (ns.length - 1))) (ns.getD (1 + j % (ns.length - 1)) 0) % 1000000000
  else ((if 0 < ns.length then ns.getD (j % ns.length) 0 else (j : Int)) % 1000000000000000000000000000000 * 48271 + 7 * j * j + 13 * j + 5) % 2147483647 * 69621 % 1000000007
theorem cM_bd (ns : List Int) (j : Nat) : 0 ≤ cM ns j ∧ cM ns j < 1000000007 := by
  unfold cM
  split
  · generalize divs _ _ = x; omega
  · generalize (_ : Int) % 2147483647 * 69621 = x; omega
section
variable {C : Nat → Option D} {k : Nat}
theorem cell_g {ns : List Int} (hns : ns.length ≤ 63) {j : Nat} (hj : j ≤ 1000000) : GG tab C (k + 1) 1000 [scr ns, .int (j : Nat)] = some (.sh (.int (cM ns j))) := by
  rw [gg (show tab 1000 = some c__law_cell from rfl)]
  have hm1 : mulOk 7 (j : Int) = true := mulOk_l (by omega)
  have hm2 : mulOk (7 * (j : Int)) (j : Int) = true := by unfold mulOk; simp only [Bool.or_eq_true, decide_eq_true_eq]; exact .inl ⟨by omega, by omega⟩
  have hm3 : mulOk 13 (j : Int) = true := mulOk_l (by omega)
  have hm4 : ∀ x : Int, mulOk x 48271 = true := fun x => by unfold mulOk; simp only [Bool.or_eq_true, decide_eq_true_eq]; exact .inr ⟨by omega, by omega⟩
  have hm5 : ∀ x : Int, mulOk x 69621 = true := fun x => by unfold mulOk; simp only [Bool.or_eq_true, decide_eq_true_eq]; exact .inr ⟨by omega, by omega⟩
  have p9 : ((0 : Int) ≤ 9 ∧ (9 : Int) ≤ 1000 ∧ (10 : Int).natAbs < 2 ^ 64) = True := by simp
  have q9 : (10 : Int) ^ (9 : Int).toNat = 1000000000 := rfl
  have p30 : ((0 : Int) ≤ 30 ∧ (30 : Int) ≤ 1000 ∧ (10 : Int).natAbs < 2 ^ 64) = True := by simp
  have q30 : (10 : Int) ^ (30 : Int).toNat = 1000000000000000000000000000000 := rfl
  have d9 : ((0 : Int) < 1000000000 ∧ (1000000000 : Int) < 1073741824) = True := by simp
  have hixm : 0 < ns.length → atI (ns.map PyData.int) ((j : Int) % (ns.length : Int)) = some (.int (ns.getD (j % ns.length) 0)) := fun hl => by
    have e : (j : Int) % (ns.length : Int) = ((j % ns.length : Nat) : Int) := by omega
    rw [e, atI_nat, at0_get (Nat.mod_lt _ hl)]; rfl
  by_cases h1 : 1 < ns.length
  · have h1' : (1 : Int) < (ns.length : Int) := by omega
    have hix0 : atI (ns.map PyData.int) 0 = some (.int (ns.getD 0 0)) := by
      rw [atI_0, at0_get (show 0 < ns.length by omega)]; rfl
    by_cases h2 : ns.getD 0 0 % 2 = 1
    · have hw : (0 : Int) < (ns.length : Int) - 1 := by omega
      have hw2 : (0 : Int) < (ns.length : Int) - 1 ∧ (ns.length : Int) - 1 < 1073741824 := by omega
      have hix : atI (ns.map PyData.int) (1 + (j : Int) % ((ns.length : Int) - 1)) = some (.int (ns.getD (1 + j % (ns.length - 1)) 0)) := by
        have e : 1 + (j : Int) % ((ns.length : Int) - 1) = ((1 + j % (ns.length - 1) : Nat) : Int) := by
          have : (ns.length : Int) - 1 = ((ns.length - 1 : Nat) : Int) := by omega
          rw [this]; omega
        have hlt : 1 + j % (ns.length - 1) < ns.length := by have := Nat.mod_lt j (show ns.length - 1 > 0 by omega); omega
        rw [e, atI_nat, at0_get hlt]; rfl
      obtain ⟨t, ht⟩ : ∃ t : Nat, min 60 (j / (ns.length - 1)) = t := ⟨_, rfl⟩
      have hq : (if (j : Int) / ((ns.length : Int) - 1) < 60 then (j : Int) / ((ns.length : Int) - 1) else 60) = (t : Int) := by
        have e : (ns.length : Int) - 1 = ((ns.length - 1 : Nat) : Int) := by omega
        rw [e, ← Int.natCast_ediv]
        split <;> omega
      have htb : t ≤ 100000 := by omega
      have hc : cM ns j = divs t (ns.getD (1 + j % (ns.length - 1)) 0) % 1000000000 := by
        unfold cM; rw [if_pos ⟨h1, h2⟩, ht]
      rw [hc]
      obtain ⟨env', h3, c3, rfl⟩ := forGo_inv (f := forF (GG tab C k) C (.nm 3) c__law_cell_b1) (enc := fun i : Nat => PyData.int (i : Nat)) (xs := List.range t) (b := ns.getD (1 + j % (ns.length - 1)) 0) (step := fun x _ => x / 1000000000)
        (R := fun x env => ∃ c3, env = [Cell.sh (scr ns), .sh (.int (j : Nat)), .sh (.int x), c3, .no]) (env := [Cell.sh (scr ns), .sh (.int (j : Nat)), .sh (.int (ns.getD (1 + j % (ns.length - 1)) 0)), .no, .no]) ⟨_, rfl⟩ fun i _ x env hR => by
          obtain ⟨c3, rfl⟩ := hR
          simp only [c__law_cell_b1, runD, getD_sh, getD_ow, getB_b, getL_t, d_sh, d_ow, getO_t, getO_f, bindT_nm, bindT_tp, setAll_nil, setAll_cons, hide_nil, hide_cons, items_l, items_t, seq_l, seq_t, zipD2, zipD3, enmD_, rev_l, rev_t, len_l, len_t, len_s, sum_l, all_l, any_l, tup_l, tup_t, lst_l, lst_t, min2_, max2_, int_i, int_b, abs_i, add_i, add_s, add_l, add_t, sub_i, mul_i, div_i, mod_i, pow_i, eq_i, ne_i, lt_i, le_i, gt_i, ge_i, isi_i, isi_ib, isi_b, isi_bi, isi_tt, isi_tn, isi_tl, isi_ll, isi_lt, isNon_n, isNon_i, isNon_t, isNon_l, isDict_i, isDict_b, isDict_t, isDict_l, isDict_n, isDict_s, ix_l, ix_t, sl_l, sl_t, atI_nat, atI_0, atI_1, atI_2, atI_3, atI_4, atI_5, atI_6, atI_7, keep_sh, keep_l, noL_i, noL_b, noL_s, noL_n, noL_t, noL_l, noLs_n, noLs_c, isNil_nil, out_rt, out_nx, ↓EE_var, varC_sh, ↓EE_cst, ↓EE_int, ↓EE_bl, ↓EE_non, ↓EE_str, ↓EE_bin, ↓EE_rep, repC_l, ↓EE_neg, negC_i, ↓EE_is, ↓EE_isn, ↓EE_eq, ↓EE_ne, ↓EE_lt, ↓EE_le, ↓EE_gt, ↓EE_ge, ↓EE_inn, ↓EE_ni, ↓EE_chain, ↓EE_and, andC_t, andC_f, ↓EE_or, orC_t, orC_f, ↓EE_not, ↓EE_ite, iteC_t, iteC_f, ↓EE_nil, ↓EE_cons, ↓EE_tup, ↓EE_lst, ↓EE_call, ↓EE_blt, ↓EE_isi, ↓EE_ix, ↓EE_sl, ↓EE_lc, ↓EE_rng, ↓EE_zip, ↓EE_enm, ↓EE_rev, ↓EE_bm, ↓EE_srt, seqR_nx, seqR_rt, seqR_bk, seqR_ct, seqR_no, iffR_t, iffR_f, appC_l, extC_l, putC_l, putX_i, popC_l, insC_l, reto_o, reto_s, unpC_t, rvsC_l, ↓EX, ↓ES_nil, ↓ES_seq, ↓ES_asg, ↓ES_unp, ↓ES_app, ↓ES_ext, ↓ES_put, ↓ES_pop, ↓ES_rvs, ↓ES_ins, ↓ES_ife, ↓ES_ret, ↓ES_reto, ↓ES_retn, ↓ES_for, ↓ES_brk, ↓ES_cnt, ↓ES_drp, forF_, shareAll_n, shareAll_c, shareAt_, shC_o, shC_s, shC_n, shC_x, memN_n, memN_c, after_, flatC_o, flatC_s, flat_i, flat_b, flat_s, flat_n, flat_l, flat_t, noLs_ints, noLs_rows, noLs_fi, q_set0, q_sets, q_get0, q_gets, q_getn, q_mapc, q_mapn, q_appc, q_appn, q_reps, q_rep0, q_bb, q_bs, q_bn, q_ms, q_mn, Nat.reduceAdd, Nat.reduceSub, q_lc, q_ln, q_pure, Bool.false_eq_true, q_ift, q_iff, q_ifb, q_ifc, ite_self, reduceCtorEq, Bool.and_true, Bool.true_and, Bool.and_false, Bool.false_and, Bool.and_self, Bool.not_true, Bool.not_false, CE.isNil, Nat.reduceEqDiff, and_self, decide_true, decide_false, p9, q9, d9]
          exact ⟨_, rfl, _, rfl⟩
      have hdv : ∀ (xs : List Nat) (x : Int), xs.foldl (fun x _ => x / 1000000000) x = divs xs.length x := fun xs => by
        induction xs with
        | nil => intro x; rfl
        | cons y ys ih => intro x; rw [List.foldl_cons, ih]; rfl
      rw [hdv, List.length_range] at h3
      simp only [c__law_cell, runD, getD_sh, getD_ow, getB_b, getL_t, d_sh, d_ow, getO_t, getO_f, bindT_nm, bindT_tp, setAll_nil, setAll_cons, hide_nil, hide_cons, items_l, items_t, seq_l, seq_t, zipD2, zipD3, enmD_, rev_l, rev_t, len_l, len_t, len_s, sum_l, all_l, any_l, tup_l, tup_t, lst_l, lst_t, min2_, max2_, int_i, int_b, abs_i, add_i, add_s, add_l, add_t, sub_i, mul_i, div_i, mod_i, pow_i, eq_i, ne_i, lt_i, le_i, gt_i, ge_i, isi_i, isi_ib, isi_b, isi_bi, isi_tt, isi_tn, isi_tl, isi_ll, isi_lt, isNon_n, isNon_i, isNon_t, isNon_l, isDict_i, isDict_b, isDict_t, isDict_l, isDict_n, isDict_s, ix_l, ix_t, sl_l, sl_t, atI_nat, atI_0, atI_1, atI_2, atI_3, atI_4, atI_5, atI_6, atI_7, keep_sh, keep_l, noL_i, noL_b, noL_s, noL_n, noL_t, noL_l, noLs_n, noLs_c, isNil_nil, out_rt, out_nx, ↓EE_var, varC_sh, ↓EE_cst, ↓EE_int, ↓EE_bl, ↓EE_non, ↓EE_str, ↓EE_bin, ↓EE_rep, repC_l, ↓EE_neg, negC_i, ↓EE_is, ↓EE_isn, ↓EE_eq, ↓EE_ne, ↓EE_lt, ↓EE_le, ↓EE_gt, ↓EE_ge, ↓EE_inn, ↓EE_ni, ↓EE_chain, ↓EE_and, andC_t, andC_f, ↓EE_or, orC_t, orC_f, ↓EE_not, ↓EE_ite, iteC_t, iteC_f, ↓EE_nil, ↓EE_cons, ↓EE_tup, ↓EE_lst, ↓EE_call, ↓EE_blt, ↓EE_isi, ↓EE_ix, ↓EE_sl, ↓EE_lc, ↓EE_rng, ↓EE_zip, ↓EE_enm, ↓EE_rev, ↓EE_bm, ↓EE_srt, seqR_nx, seqR_rt, seqR_bk, seqR_ct, seqR_no, iffR_t, iffR_f, appC_l, extC_l, putC_l, putX_i, popC_l, insC_l, reto_o, reto_s, unpC_t, rvsC_l, ↓EX, ↓ES_nil, ↓ES_seq, ↓ES_asg, ↓ES_unp, ↓ES_app, ↓ES_ext, ↓ES_put, ↓ES_pop, ↓ES_rvs, ↓ES_ins, ↓ES_ife, ↓ES_ret, ↓ES_reto, ↓ES_retn, ↓ES_for, ↓ES_brk, ↓ES_cnt, ↓ES_drp, forF_, shareAll_n, shareAll_c, shareAt_, shC_o, shC_s, shC_n, shC_x, memN_n, memN_c, after_, flatC_o, flatC_s, flat_i, flat_b, flat_s, flat_n, flat_l, flat_t, noLs_ints, noLs_rows, noLs_fi, q_set0, q_sets, q_get0, q_gets, q_getn, q_mapc, q_mapn, q_appc, q_appn, q_reps, q_rep0, q_bb, q_bs, q_bn, q_ms, q_mn, Nat.reduceAdd, Nat.reduceSub, q_lc, q_ln, q_pure, Bool.false_eq_true, q_ift, q_iff, q_ifb, q_ifc, ite_self, reduceCtorEq, Bool.and_true, Bool.true_and, Bool.and_false, Bool.false_and, Bool.and_self, Bool.not_true, Bool.not_false, CE.isNil, Nat.reduceEqDiff, and_self, decide_true, decide_false, scr, List.length_map, h1', hix0, h2, Int.reduceLT, hw, hw2, hix, hq, rng_nat htb, h3, p9, q9]
    · have hl : 0 < ns.length := by omega
      have hl2 : (0 : Int) < (ns.length : Int) := by omega
      have hix := hixm hl
      have hc : cM ns j = (ns.getD (j % ns.length) 0 % 1000000000000000000000000000000 * 48271 + 7 * j * j + 13 * j + 5) % 2147483647 * 69621 % 1000000007 := by
        unfold cM; rw [if_neg (fun h => h2 h.2), if_pos hl]
      rw [hc]
      simp only [c__law_cell, runD, getD_sh, getD_ow, getB_b, getL_t, d_sh, d_ow, getO_t, getO_f, bindT_nm, bindT_tp, setAll_nil, setAll_cons, hide_nil, hide_cons, items_l, items_t, seq_l, seq_t, zipD2, zipD3, enmD_, rev_l, rev_t, len_l, len_t, len_s, sum_l, all_l, any_l, tup_l, tup_t, lst_l, lst_t, min2_, max2_, int_i, int_b, abs_i, add_i, add_s, add_l, add_t, sub_i, mul_i, div_i, mod_i, pow_i, eq_i, ne_i, lt_i, le_i, gt_i, ge_i, isi_i, isi_ib, isi_b, isi_bi, isi_tt, isi_tn, isi_tl, isi_ll, isi_lt, isNon_n, isNon_i, isNon_t, isNon_l, isDict_i, isDict_b, isDict_t, isDict_l, isDict_n, isDict_s, ix_l, ix_t, sl_l, sl_t, atI_nat, atI_0, atI_1, atI_2, atI_3, atI_4, atI_5, atI_6, atI_7, keep_sh, keep_l, noL_i, noL_b, noL_s, noL_n, noL_t, noL_l, noLs_n, noLs_c, isNil_nil, out_rt, out_nx, ↓EE_var, varC_sh, ↓EE_cst, ↓EE_int, ↓EE_bl, ↓EE_non, ↓EE_str, ↓EE_bin, ↓EE_rep, repC_l, ↓EE_neg, negC_i, ↓EE_is, ↓EE_isn, ↓EE_eq, ↓EE_ne, ↓EE_lt, ↓EE_le, ↓EE_gt, ↓EE_ge, ↓EE_inn, ↓EE_ni, ↓EE_chain, ↓EE_and, andC_t, andC_f, ↓EE_or, orC_t, orC_f, ↓EE_not, ↓EE_ite, iteC_t, iteC_f, ↓EE_nil, ↓EE_cons, ↓EE_tup, ↓EE_lst, ↓EE_call, ↓EE_blt, ↓EE_isi, ↓EE_ix, ↓EE_sl, ↓EE_lc, ↓EE_rng, ↓EE_zip, ↓EE_enm, ↓EE_rev, ↓EE_bm, ↓EE_srt, seqR_nx, seqR_rt, seqR_bk, seqR_ct, seqR_no, iffR_t, iffR_f, appC_l, extC_l, putC_l, putX_i, popC_l, insC_l, reto_o, reto_s, unpC_t, rvsC_l, ↓EX, ↓ES_nil, ↓ES_seq, ↓ES_asg, ↓ES_unp, ↓ES_app, ↓ES_ext, ↓ES_put, ↓ES_pop, ↓ES_rvs, ↓ES_ins, ↓ES_ife, ↓ES_ret, ↓ES_reto, ↓ES_retn, ↓ES_for, ↓ES_brk, ↓ES_cnt, ↓ES_drp, forF_, shareAll_n, shareAll_c, shareAt_, shC_o, shC_s, shC_n, shC_x, memN_n, memN_c, after_, flatC_o, flatC_s, flat_i, flat_b, flat_s, flat_n, flat_l, flat_t, noLs_ints, noLs_rows, noLs_fi, q_set0, q_sets, q_get0, q_gets, q_getn, q_mapc, q_mapn, q_appc, q_appn, q_reps, q_rep0, q_bb, q_bs, q_bn, q_ms, q_mn, Nat.reduceAdd, Nat.reduceSub, q_lc, q_ln, q_pure, Bool.false_eq_true, q_ift, q_iff, q_ifb, q_ifc, ite_self, reduceCtorEq, Bool.and_true, Bool.true_and, Bool.and_false, Bool.false_and, Bool.and_self, Bool.not_true, Bool.not_false, CE.isNil, Nat.reduceEqDiff, and_self, decide_true, decide_false, scr, List.length_map, h1', hix0, h2, Int.reduceLT, hl2, hix, hm1, hm2, hm3, hm4, hm5, p30, q30]
  · have h1' : ¬ (1 : Int) < (ns.length : Int) := by omega
    by_cases hl : 0 < ns.length
    · have hl2 : (0 : Int) < (ns.length : Int) := by omega
      have hix := hixm hl
      have hc : cM ns j = (ns.getD (j % ns.length) 0 % 1000000000000000000000000000000 * 48271 + 7 * j * j + 13 * j + 5) % 2147483647 * 69621 % 1000000007 := by
        unfold cM; rw [if_neg (fun h => h1 h.1), if_pos hl]
      rw [hc]
      simp only [c__law_cell, runD, getD_sh, getD_ow, getB_b, getL_t, d_sh, d_ow, getO_t, getO_f, bindT_nm, bindT_tp, setAll_nil, setAll_cons, hide_nil, hide_cons, items_l, items_t, seq_l, seq_t, zipD2, zipD3, enmD_, rev_l, rev_t, len_l, len_t, len_s, sum_l, all_l, any_l, tup_l, tup_t, lst_l, lst_t, min2_, max2_, int_i, int_b, abs_i, add_i, add_s, add_l, add_t, sub_i, mul_i, div_i, mod_i, pow_i, eq_i, ne_i, lt_i, le_i, gt_i, ge_i, isi_i, isi_ib, isi_b, isi_bi, isi_tt, isi_tn, isi_tl, isi_ll, isi_lt, isNon_n, isNon_i, isNon_t, isNon_l, isDict_i, isDict_b, isDict_t, isDict_l, isDict_n, isDict_s, ix_l, ix_t, sl_l, sl_t, atI_nat, atI_0, atI_1, atI_2, atI_3, atI_4, atI_5, atI_6, atI_7, keep_sh, keep_l, noL_i, noL_b, noL_s, noL_n, noL_t, noL_l, noLs_n, noLs_c, isNil_nil, out_rt, out_nx, ↓EE_var, varC_sh, ↓EE_cst, ↓EE_int, ↓EE_bl, ↓EE_non, ↓EE_str, ↓EE_bin, ↓EE_rep, repC_l, ↓EE_neg, negC_i, ↓EE_is, ↓EE_isn, ↓EE_eq, ↓EE_ne, ↓EE_lt, ↓EE_le, ↓EE_gt, ↓EE_ge, ↓EE_inn, ↓EE_ni, ↓EE_chain, ↓EE_and, andC_t, andC_f, ↓EE_or, orC_t, orC_f, ↓EE_not, ↓EE_ite, iteC_t, iteC_f, ↓EE_nil, ↓EE_cons, ↓EE_tup, ↓EE_lst, ↓EE_call, ↓EE_blt, ↓EE_isi, ↓EE_ix, ↓EE_sl, ↓EE_lc, ↓EE_rng, ↓EE_zip, ↓EE_enm, ↓EE_rev, ↓EE_bm, ↓EE_srt, seqR_nx, seqR_rt, seqR_bk, seqR_ct, seqR_no, iffR_t, iffR_f, appC_l, extC_l, putC_l, putX_i, popC_l, insC_l, reto_o, reto_s, unpC_t, rvsC_l, ↓EX, ↓ES_nil, ↓ES_seq, ↓ES_asg, ↓ES_unp, ↓ES_app, ↓ES_ext, ↓ES_put, ↓ES_pop, ↓ES_rvs, ↓ES_ins, ↓ES_ife, ↓ES_ret, ↓ES_reto, ↓ES_retn, ↓ES_for, ↓ES_brk, ↓ES_cnt, ↓ES_drp, forF_, shareAll_n, shareAll_c, shareAt_, shC_o, shC_s, shC_n, shC_x, memN_n, memN_c, after_, flatC_o, flatC_s, flat_i, flat_b, flat_s, flat_n, flat_l, flat_t, noLs_ints, noLs_rows, noLs_fi, q_set0, q_sets, q_get0, q_gets, q_getn, q_mapc, q_mapn, q_appc, q_appn, q_reps, q_rep0, q_bb, q_bs, q_bn, q_ms, q_mn, Nat.reduceAdd, Nat.reduceSub, q_lc, q_ln, q_pure, Bool.false_eq_true, q_ift, q_iff, q_ifb, q_ifc, ite_self, reduceCtorEq, Bool.and_true, Bool.true_and, Bool.and_false, Bool.false_and, Bool.and_self, Bool.not_true, Bool.not_false, CE.isNil, Nat.reduceEqDiff, and_self, decide_true, decide_false, scr, List.length_map, h1', Int.reduceLT, hl2, hix, hm1, hm2, hm3, hm4, hm5, p30, q30]
    · have hl2 : ¬ (0 : Int) < (ns.length : Int) := by omega
      have hc : cM ns j = ((j : Int) % 1000000000000000000000000000000 * 48271 + 7 * j * j + 13 * j + 5) % 2147483647 * 69621 % 1000000007 := by
        unfold cM; rw [if_neg (fun h => h1 h.1), if_neg hl]
      rw [hc]
      simp only [c__law_cell, runD, getD_sh, getD_ow, getB_b, getL_t, d_sh, d_ow, getO_t, getO_f, bindT_nm, bindT_tp, setAll_nil, setAll_cons, hide_nil, hide_cons, items_l, items_t, seq_l, seq_t, zipD2, zipD3, enmD_, rev_l, rev_t, len_l, len_t, len_s, sum_l, all_l, any_l, tup_l, tup_t, lst_l, lst_t, min2_, max2_, int_i, int_b, abs_i, add_i, add_s, add_l, add_t, sub_i, mul_i, div_i, mod_i, pow_i, eq_i, ne_i, lt_i, le_i, gt_i, ge_i, isi_i, isi_ib, isi_b, isi_bi, isi_tt, isi_tn, isi_tl, isi_ll, isi_lt, isNon_n, isNon_i, isNon_t, isNon_l, isDict_i, isDict_b, isDict_t, isDict_l, isDict_n, isDict_s, ix_l, ix_t, sl_l, sl_t, atI_nat, atI_0, atI_1, atI_2, atI_3, atI_4, atI_5, atI_6, atI_7, keep_sh, keep_l, noL_i, noL_b, noL_s, noL_n, noL_t, noL_l, noLs_n, noLs_c, isNil_nil, out_rt, out_nx, ↓EE_var, varC_sh, ↓EE_cst, ↓EE_int, ↓EE_bl, ↓EE_non, ↓EE_str, ↓EE_bin, ↓EE_rep, repC_l, ↓EE_neg, negC_i, ↓EE_is, ↓EE_isn, ↓EE_eq, ↓EE_ne, ↓EE_lt, ↓EE_le, ↓EE_gt, ↓EE_ge, ↓EE_inn, ↓EE_ni, ↓EE_chain, ↓EE_and, andC_t, andC_f, ↓EE_or, orC_t, orC_f, ↓EE_not, ↓EE_ite, iteC_t, iteC_f, ↓EE_nil, ↓EE_cons, ↓EE_tup, ↓EE_lst, ↓EE_call, ↓EE_blt, ↓EE_isi, ↓EE_ix, ↓EE_sl, ↓EE_lc, ↓EE_rng, ↓EE_zip, ↓EE_enm, ↓EE_rev, ↓EE_bm, ↓EE_srt, seqR_nx, seqR_rt, seqR_bk, seqR_ct, seqR_no, iffR_t, iffR_f, appC_l, extC_l, putC_l, putX_i, popC_l, insC_l, reto_o, reto_s, unpC_t, rvsC_l, ↓EX, ↓ES_nil, ↓ES_seq, ↓ES_asg, ↓ES_unp, ↓ES_app, ↓ES_ext, ↓ES_put, ↓ES_pop, ↓ES_rvs, ↓ES_ins, ↓ES_ife, ↓ES_ret, ↓ES_reto, ↓ES_retn, ↓ES_for, ↓ES_brk, ↓ES_cnt, ↓ES_drp, forF_, shareAll_n, shareAll_c, shareAt_, shC_o, shC_s, shC_n, shC_x, memN_n, memN_c, after_, flatC_o, flatC_s, flat_i, flat_b, flat_s, flat_n, flat_l, flat_t, noLs_ints, noLs_rows, noLs_fi, q_set0, q_sets, q_get0, q_gets, q_getn, q_mapc, q_mapn, q_appc, q_appn, q_reps, q_rep0, q_bb, q_bs, q_bn, q_ms, q_mn, Nat.reduceAdd, Nat.reduceSub, q_lc, q_ln, q_pure, Bool.false_eq_true, q_ift, q_iff, q_ifb, q_ifc, ite_self, reduceCtorEq, Bool.and_true, Bool.true_and, Bool.and_false, Bool.false_and, Bool.and_self, Bool.not_true, Bool.not_false, CE.isNil, Nat.reduceEqDiff, and_self, decide_true, decide_false, scr, List.length_map, h1', Int.reduceLT, hl2, hm1, hm2, hm3, hm4, hm5, p30, q30]
end
end EV
end

section
set_option linter.all false
set_option maxRecDepth 100000
set_option maxHeartbeats 2000000
/-! the law k40, its plain part -/
namespace EV
open PySem L2 K40
theorem all_true {α : Type} (r : List α) : (boolsOf (r.map fun _ => PyData.bool true)).map (fun bs => Cell.sh (.bool (bs.all id))) = some (.sh (.bool true)) := by
  rw [boolsOf_f]
  simp
theorem okEq_encT (x : List Int) : okEq (encT x) = true := (okn_encT 0 x).ok (by omega)
theorem okEq_encL (x : List Int) : okEq (encL x) = true := (okn_encL 0 x).ok (by omega)
theorem eqT_self (x : List Int) : cmpD .eq (encT x) (encT x) = some true := by rw [eq_d _ _ (okEq_encT x) (okEq_encT x), eqv_encT]; simp
theorem neT_self (x : List Int) : cmpD .ne (encT x) (encT x) = some false := by rw [ne_d _ _ (okEq_encT x) (okEq_encT x), eqv_encT]; simp
theorem okn_tab (h w : Nat) (rows : List (List Int)) : Okn 3 (encTab h w rows) := okn_tup (n := 2) fun x hx => by
  simp only [List.mem_cons, List.not_mem_nil, or_false] at hx
  rcases hx with rfl | rfl | rfl
  · exact okn_int _ _
  · exact okn_int _ _
  · exact okn_tup (n := 1) (okn_map fun x _ => okn_encT 0 x)
theorem neTab_self (h w : Nat) (rows : List (List Int)) : cmpD .ne (encTab h w rows) (encTab h w rows) = some false := by
  rw [ne_d _ _ ((okn_tab h w rows).ok (by omega)) ((okn_tab h w rows).ok (by omega)), eqv_refl _ (okn_tab h w rows).1]; rfl
section
variable {C : Nat → Option D} {k : Nat}
theorem whole_g {x : Int} : GG tab C (k + 1) 1001 [.int x] = some (.sh (.bool true)) := by
  rw [gg (show tab 1001 = some c__law_whole from rfl)]
  simp only [c__law_whole, runD, getD_sh, getD_ow, getB_b, getL_t, d_sh, d_ow, getO_t, getO_f, bindT_nm, bindT_tp, setAll_nil, setAll_cons, hide_nil, hide_cons, items_l, items_t, seq_l, seq_t, zipD2, zipD3, enmD_, rev_l, rev_t, len_l, len_t, len_s, sum_l, all_l, any_l, tup_l, tup_t, lst_l, lst_t, min2_, max2_, int_i, int_b, abs_i, add_i, add_s, add_l, add_t, sub_i, mul_i, div_i, mod_i, pow_i, eq_i, ne_i, lt_i, le_i, gt_i, ge_i, isi_i, isi_ib, isi_b, isi_bi, isi_tt, isi_tn, isi_tl, isi_ll, isi_lt, isNon_n, isNon_i, isNon_t, isNon_l, isDict_i, isDict_b, isDict_t, isDict_l, isDict_n, isDict_s, ix_l, ix_t, sl_l, sl_t, atI_nat, atI_0, atI_1, atI_2, atI_3, atI_4, atI_5, atI_6, atI_7, keep_sh, keep_l, noL_i, noL_b, noL_s, noL_n, noL_t, noL_l, noLs_n, noLs_c, isNil_nil, out_rt, out_nx, ↓EE_var, varC_sh, ↓EE_cst, ↓EE_int, ↓EE_bl, ↓EE_non, ↓EE_str, ↓EE_bin, ↓EE_rep, repC_l, ↓EE_neg, negC_i, ↓EE_is, ↓EE_isn, ↓EE_eq, ↓EE_ne, ↓EE_lt, ↓EE_le, ↓EE_gt, ↓EE_ge, ↓EE_inn, ↓EE_ni, ↓EE_chain, ↓EE_and, andC_t, andC_f, ↓EE_or, orC_t, orC_f, ↓EE_not, ↓EE_ite, iteC_t, iteC_f, ↓EE_nil, ↓EE_cons, ↓EE_tup, ↓EE_lst, ↓EE_call, ↓EE_blt, ↓EE_isi, ↓EE_ix, ↓EE_sl, ↓EE_lc, ↓EE_rng, ↓EE_zip, ↓EE_enm, ↓EE_rev, ↓EE_bm, ↓EE_srt, seqR_nx, seqR_rt, seqR_bk, seqR_ct, seqR_no, iffR_t, iffR_f, appC_l, extC_l, putC_l, putX_i, popC_l, insC_l, reto_o, reto_s, unpC_t, rvsC_l, ↓EX, ↓ES_nil, ↓ES_seq, ↓ES_asg, ↓ES_unp, ↓ES_app, ↓ES_ext, ↓ES_put, ↓ES_pop, ↓ES_rvs, ↓ES_ins, ↓ES_ife, ↓ES_ret, ↓ES_reto, ↓ES_retn, ↓ES_for, ↓ES_brk, ↓ES_cnt, ↓ES_drp, forF_, shareAll_n, shareAll_c, shareAt_, shC_o, shC_s, shC_n, shC_x, memN_n, memN_c, after_, flatC_o, flatC_s, flat_i, flat_b, flat_s, flat_n, flat_l, flat_t, noLs_ints, noLs_rows, noLs_fi, q_set0, q_sets, q_get0, q_gets, q_getn, q_mapc, q_mapn, q_appc, q_appn, q_reps, q_rep0, q_bb, q_bs, q_bn, q_ms, q_mn, Nat.reduceAdd, Nat.reduceSub, q_lc, q_ln, q_pure, Bool.false_eq_true, q_ift, q_iff, q_ifb, q_ifc, ite_self, reduceCtorEq, Bool.and_true, Bool.true_and, Bool.and_false, Bool.false_and, Bool.and_self, Bool.not_true, Bool.not_false, CE.isNil, Nat.reduceEqDiff, and_self, decide_true, decide_false]
theorem load_is_g {x : List Int} {d : D} (hd : d = encT x ∨ d = encL x) : GG tab C (k + 2) 1005 [encT x, d] = some (.sh (.bool true)) := by
  rw [gg (show tab 1005 = some c__law_load_is from rfl)]
  have e1 : ∀ c0 c1, lcGo (lcT (GG tab C (k + 1)) C [2] (.nm 2) .nil c__law_load_is_e1 [c0, c1, .no]) (x.map .int) = some (x.map fun _ => .bool true) := fun c0 c1 => by
    refine lcGo_map fun y _ => ?_
    have h := whole_g (C := C) (k := k) (x := y)
    simp only [lcF_all, c__law_load_is_e1, runD, getD_sh, getD_ow, getB_b, getL_t, d_sh, d_ow, getO_t, getO_f, bindT_nm, bindT_tp, setAll_nil, setAll_cons, hide_nil, hide_cons, items_l, items_t, seq_l, seq_t, zipD2, zipD3, enmD_, rev_l, rev_t, len_l, len_t, len_s, sum_l, all_l, any_l, tup_l, tup_t, lst_l, lst_t, min2_, max2_, int_i, int_b, abs_i, add_i, add_s, add_l, add_t, sub_i, mul_i, div_i, mod_i, pow_i, eq_i, ne_i, lt_i, le_i, gt_i, ge_i, isi_i, isi_ib, isi_b, isi_bi, isi_tt, isi_tn, isi_tl, isi_ll, isi_lt, isNon_n, isNon_i, isNon_t, isNon_l, isDict_i, isDict_b, isDict_t, isDict_l, isDict_n, isDict_s, ix_l, ix_t, sl_l, sl_t, atI_nat, atI_0, atI_1, atI_2, atI_3, atI_4, atI_5, atI_6, atI_7, keep_sh, keep_l, noL_i, noL_b, noL_s, noL_n, noL_t, noL_l, noLs_n, noLs_c, isNil_nil, out_rt, out_nx, ↓EE_var, varC_sh, ↓EE_cst, ↓EE_int, ↓EE_bl, ↓EE_non, ↓EE_str, ↓EE_bin, ↓EE_rep, repC_l, ↓EE_neg, negC_i, ↓EE_is, ↓EE_isn, ↓EE_eq, ↓EE_ne, ↓EE_lt, ↓EE_le, ↓EE_gt, ↓EE_ge, ↓EE_inn, ↓EE_ni, ↓EE_chain, ↓EE_and, andC_t, andC_f, ↓EE_or, orC_t, orC_f, ↓EE_not, ↓EE_ite, iteC_t, iteC_f, ↓EE_nil, ↓EE_cons, ↓EE_tup, ↓EE_lst, ↓EE_call, ↓EE_blt, ↓EE_isi, ↓EE_ix, ↓EE_sl, ↓EE_lc, ↓EE_rng, ↓EE_zip, ↓EE_enm, ↓EE_rev, ↓EE_bm, ↓EE_srt, seqR_nx, seqR_rt, seqR_bk, seqR_ct, seqR_no, iffR_t, iffR_f, appC_l, extC_l, putC_l, putX_i, popC_l, insC_l, reto_o, reto_s, unpC_t, rvsC_l, ↓EX, ↓ES_nil, ↓ES_seq, ↓ES_asg, ↓ES_unp, ↓ES_app, ↓ES_ext, ↓ES_put, ↓ES_pop, ↓ES_rvs, ↓ES_ins, ↓ES_ife, ↓ES_ret, ↓ES_reto, ↓ES_retn, ↓ES_for, ↓ES_brk, ↓ES_cnt, ↓ES_drp, forF_, shareAll_n, shareAll_c, shareAt_, shC_o, shC_s, shC_n, shC_x, memN_n, memN_c, after_, flatC_o, flatC_s, flat_i, flat_b, flat_s, flat_n, flat_l, flat_t, noLs_ints, noLs_rows, noLs_fi, q_set0, q_sets, q_get0, q_gets, q_getn, q_mapc, q_mapn, q_appc, q_appn, q_reps, q_rep0, q_bb, q_bs, q_bn, q_ms, q_mn, Nat.reduceAdd, Nat.reduceSub, q_lc, q_ln, q_pure, Bool.false_eq_true, q_ift, q_iff, q_ifb, q_ifc, ite_self, reduceCtorEq, Bool.and_true, Bool.true_and, Bool.and_false, Bool.false_and, Bool.and_self, Bool.not_true, Bool.not_false, CE.isNil, Nat.reduceEqDiff, and_self, decide_true, decide_false, h]
  have e2 := eqT_self x
  rcases hd with rfl | rfl
  · simp only [c__law_load_is, runD, getD_sh, getD_ow, getB_b, getL_t, d_sh, d_ow, getO_t, getO_f, bindT_nm, bindT_tp, setAll_nil, setAll_cons, hide_nil, hide_cons, items_l, items_t, seq_l, seq_t, zipD2, zipD3, enmD_, rev_l, rev_t, len_l, len_t, len_s, sum_l, all_l, any_l, tup_l, tup_t, lst_l, lst_t, min2_, max2_, int_i, int_b, abs_i, add_i, add_s, add_l, add_t, sub_i, mul_i, div_i, mod_i, pow_i, eq_i, ne_i, lt_i, le_i, gt_i, ge_i, isi_i, isi_ib, isi_b, isi_bi, isi_tt, isi_tn, isi_tl, isi_ll, isi_lt, isNon_n, isNon_i, isNon_t, isNon_l, isDict_i, isDict_b, isDict_t, isDict_l, isDict_n, isDict_s, ix_l, ix_t, sl_l, sl_t, atI_nat, atI_0, atI_1, atI_2, atI_3, atI_4, atI_5, atI_6, atI_7, keep_sh, keep_l, noL_i, noL_b, noL_s, noL_n, noL_t, noL_l, noLs_n, noLs_c, isNil_nil, out_rt, out_nx, ↓EE_var, varC_sh, ↓EE_cst, ↓EE_int, ↓EE_bl, ↓EE_non, ↓EE_str, ↓EE_bin, ↓EE_rep, repC_l, ↓EE_neg, negC_i, ↓EE_is, ↓EE_isn, ↓EE_eq, ↓EE_ne, ↓EE_lt, ↓EE_le, ↓EE_gt, ↓EE_ge, ↓EE_inn, ↓EE_ni, ↓EE_chain, ↓EE_and, andC_t, andC_f, ↓EE_or, orC_t, orC_f, ↓EE_not, ↓EE_ite, iteC_t, iteC_f, ↓EE_nil, ↓EE_cons, ↓EE_tup, ↓EE_lst, ↓EE_call, ↓EE_blt, ↓EE_isi, ↓EE_ix, ↓EE_sl, ↓EE_lc, ↓EE_rng, ↓EE_zip, ↓EE_enm, ↓EE_rev, ↓EE_bm, ↓EE_srt, seqR_nx, seqR_rt, seqR_bk, seqR_ct, seqR_no, iffR_t, iffR_f, appC_l, extC_l, putC_l, putX_i, popC_l, insC_l, reto_o, reto_s, unpC_t, rvsC_l, ↓EX, ↓ES_nil, ↓ES_seq, ↓ES_asg, ↓ES_unp, ↓ES_app, ↓ES_ext, ↓ES_put, ↓ES_pop, ↓ES_rvs, ↓ES_ins, ↓ES_ife, ↓ES_ret, ↓ES_reto, ↓ES_retn, ↓ES_for, ↓ES_brk, ↓ES_cnt, ↓ES_drp, forF_, shareAll_n, shareAll_c, shareAt_, shC_o, shC_s, shC_n, shC_x, memN_n, memN_c, after_, flatC_o, flatC_s, flat_i, flat_b, flat_s, flat_n, flat_l, flat_t, noLs_ints, noLs_rows, noLs_fi, q_set0, q_sets, q_get0, q_gets, q_getn, q_mapc, q_mapn, q_appc, q_appn, q_reps, q_rep0, q_bb, q_bs, q_bn, q_ms, q_mn, Nat.reduceAdd, Nat.reduceSub, q_lc, q_ln, q_pure, Bool.false_eq_true, q_ift, q_iff, q_ifb, q_ifc, ite_self, reduceCtorEq, Bool.and_true, Bool.true_and, Bool.and_false, Bool.false_and, Bool.and_self, Bool.not_true, Bool.not_false, CE.isNil, Nat.reduceEqDiff, and_self, decide_true, decide_false, e2, e1, all_true]
  · simp only [c__law_load_is, runD, getD_sh, getD_ow, getB_b, getL_t, d_sh, d_ow, getO_t, getO_f, bindT_nm, bindT_tp, setAll_nil, setAll_cons, hide_nil, hide_cons, items_l, items_t, seq_l, seq_t, zipD2, zipD3, enmD_, rev_l, rev_t, len_l, len_t, len_s, sum_l, all_l, any_l, tup_l, tup_t, lst_l, lst_t, min2_, max2_, int_i, int_b, abs_i, add_i, add_s, add_l, add_t, sub_i, mul_i, div_i, mod_i, pow_i, eq_i, ne_i, lt_i, le_i, gt_i, ge_i, isi_i, isi_ib, isi_b, isi_bi, isi_tt, isi_tn, isi_tl, isi_ll, isi_lt, isNon_n, isNon_i, isNon_t, isNon_l, isDict_i, isDict_b, isDict_t, isDict_l, isDict_n, isDict_s, ix_l, ix_t, sl_l, sl_t, atI_nat, atI_0, atI_1, atI_2, atI_3, atI_4, atI_5, atI_6, atI_7, keep_sh, keep_l, noL_i, noL_b, noL_s, noL_n, noL_t, noL_l, noLs_n, noLs_c, isNil_nil, out_rt, out_nx, ↓EE_var, varC_sh, ↓EE_cst, ↓EE_int, ↓EE_bl, ↓EE_non, ↓EE_str, ↓EE_bin, ↓EE_rep, repC_l, ↓EE_neg, negC_i, ↓EE_is, ↓EE_isn, ↓EE_eq, ↓EE_ne, ↓EE_lt, ↓EE_le, ↓EE_gt, ↓EE_ge, ↓EE_inn, ↓EE_ni, ↓EE_chain, ↓EE_and, andC_t, andC_f, ↓EE_or, orC_t, orC_f, ↓EE_not, ↓EE_ite, iteC_t, iteC_f, ↓EE_nil, ↓EE_cons, ↓EE_tup, ↓EE_lst, ↓EE_call, ↓EE_blt, ↓EE_isi, ↓EE_ix, ↓EE_sl, ↓EE_lc, ↓EE_rng, ↓EE_zip, ↓EE_enm, ↓EE_rev, ↓EE_bm, ↓EE_srt, seqR_nx, seqR_rt, seqR_bk, seqR_ct, seqR_no, iffR_t, iffR_f, appC_l, extC_l, putC_l, putX_i, popC_l, insC_l, reto_o, reto_s, unpC_t, rvsC_l, ↓EX, ↓ES_nil, ↓ES_seq, ↓ES_asg, ↓ES_unp, ↓ES_app, ↓ES_ext, ↓ES_put, ↓ES_pop, ↓ES_rvs, ↓ES_ins, ↓ES_ife, ↓ES_ret, ↓ES_reto, ↓ES_retn, ↓ES_for, ↓ES_brk, ↓ES_cnt, ↓ES_drp, forF_, shareAll_n, shareAll_c, shareAt_, shC_o, shC_s, shC_n, shC_x, memN_n, memN_c, after_, flatC_o, flatC_s, flat_i, flat_b, flat_s, flat_n, flat_l, flat_t, noLs_ints, noLs_rows, noLs_fi, q_set0, q_sets, q_get0, q_gets, q_getn, q_mapc, q_mapn, q_appc, q_appn, q_reps, q_rep0, q_bb, q_bs, q_bn, q_ms, q_mn, Nat.reduceAdd, Nat.reduceSub, q_lc, q_ln, q_pure, Bool.false_eq_true, q_ift, q_iff, q_ifb, q_ifc, ite_self, reduceCtorEq, Bool.and_true, Bool.true_and, Bool.and_false, Bool.false_and, Bool.and_self, Bool.not_true, Bool.not_false, CE.isNil, Nat.reduceEqDiff, and_self, decide_true, decide_false, e2, e1, all_true]
theorem load_is_none : GG tab C (k + 1) 1005 [.none, .none] = some (.sh (.bool true)) := by
  rw [gg (show tab 1005 = some c__law_load_is from rfl)]
  simp only [c__law_load_is, runD, getD_sh, getD_ow, getB_b, getL_t, d_sh, d_ow, getO_t, getO_f, bindT_nm, bindT_tp, setAll_nil, setAll_cons, hide_nil, hide_cons, items_l, items_t, seq_l, seq_t, zipD2, zipD3, enmD_, rev_l, rev_t, len_l, len_t, len_s, sum_l, all_l, any_l, tup_l, tup_t, lst_l, lst_t, min2_, max2_, int_i, int_b, abs_i, add_i, add_s, add_l, add_t, sub_i, mul_i, div_i, mod_i, pow_i, eq_i, ne_i, lt_i, le_i, gt_i, ge_i, isi_i, isi_ib, isi_b, isi_bi, isi_tt, isi_tn, isi_tl, isi_ll, isi_lt, isNon_n, isNon_i, isNon_t, isNon_l, isDict_i, isDict_b, isDict_t, isDict_l, isDict_n, isDict_s, ix_l, ix_t, sl_l, sl_t, atI_nat, atI_0, atI_1, atI_2, atI_3, atI_4, atI_5, atI_6, atI_7, keep_sh, keep_l, noL_i, noL_b, noL_s, noL_n, noL_t, noL_l, noLs_n, noLs_c, isNil_nil, out_rt, out_nx, ↓EE_var, varC_sh, ↓EE_cst, ↓EE_int, ↓EE_bl, ↓EE_non, ↓EE_str, ↓EE_bin, ↓EE_rep, repC_l, ↓EE_neg, negC_i, ↓EE_is, ↓EE_isn, ↓EE_eq, ↓EE_ne, ↓EE_lt, ↓EE_le, ↓EE_gt, ↓EE_ge, ↓EE_inn, ↓EE_ni, ↓EE_chain, ↓EE_and, andC_t, andC_f, ↓EE_or, orC_t, orC_f, ↓EE_not, ↓EE_ite, iteC_t, iteC_f, ↓EE_nil, ↓EE_cons, ↓EE_tup, ↓EE_lst, ↓EE_call, ↓EE_blt, ↓EE_isi, ↓EE_ix, ↓EE_sl, ↓EE_lc, ↓EE_rng, ↓EE_zip, ↓EE_enm, ↓EE_rev, ↓EE_bm, ↓EE_srt, seqR_nx, seqR_rt, seqR_bk, seqR_ct, seqR_no, iffR_t, iffR_f, appC_l, extC_l, putC_l, putX_i, popC_l, insC_l, reto_o, reto_s, unpC_t, rvsC_l, ↓EX, ↓ES_nil, ↓ES_seq, ↓ES_asg, ↓ES_unp, ↓ES_app, ↓ES_ext, ↓ES_put, ↓ES_pop, ↓ES_rvs, ↓ES_ins, ↓ES_ife, ↓ES_ret, ↓ES_reto, ↓ES_retn, ↓ES_for, ↓ES_brk, ↓ES_cnt, ↓ES_drp, forF_, shareAll_n, shareAll_c, shareAt_, shC_o, shC_s, shC_n, shC_x, memN_n, memN_c, after_, flatC_o, flatC_s, flat_i, flat_b, flat_s, flat_n, flat_l, flat_t, noLs_ints, noLs_rows, noLs_fi, q_set0, q_sets, q_get0, q_gets, q_getn, q_mapc, q_mapn, q_appc, q_appn, q_reps, q_rep0, q_bb, q_bs, q_bn, q_ms, q_mn, Nat.reduceAdd, Nat.reduceSub, q_lc, q_ln, q_pure, Bool.false_eq_true, q_ift, q_iff, q_ifb, q_ifc, ite_self, reduceCtorEq, Bool.and_true, Bool.true_and, Bool.and_false, Bool.false_and, Bool.and_self, Bool.not_true, Bool.not_false, CE.isNil, Nat.reduceEqDiff, and_self, decide_true, decide_false]
theorem table_is_g {h w : Nat} {rows : List (List Int)} : GG tab C (k + 3) 1006 [encTab h w rows, encTab h w rows] = some (.sh (.bool true)) := by
  rw [gg (show tab 1006 = some c__law_table_is from rfl)]
  have e1 : ∀ c0 c1, lcGo (lcT (GG tab C (k + 2)) C [2, 3] (.tp [2, 3]) .nil c__law_table_is_e1 [c0, c1, .no, .no]) ((rows.zip rows).map fun q : List Int × List Int => PyData.tuple [encT q.1, encT q.2]) = some ((rows.zip rows).map fun _ => .bool true) := fun c0 c1 => by
    refine lcGo_map fun q hq => ?_
    have : q.1 = q.2 := by
      obtain ⟨i, hi, rfl⟩ := List.mem_iff_getElem.mp hq
      simp
    have h := load_is_g (C := C) (k := k) (x := q.1) (d := encT q.2) (.inl (by rw [this]))
    simp only [lcF_all, c__law_table_is_e1, runD, getD_sh, getD_ow, getB_b, getL_t, d_sh, d_ow, getO_t, getO_f, bindT_nm, bindT_tp, setAll_nil, setAll_cons, hide_nil, hide_cons, items_l, items_t, seq_l, seq_t, zipD2, zipD3, enmD_, rev_l, rev_t, len_l, len_t, len_s, sum_l, all_l, any_l, tup_l, tup_t, lst_l, lst_t, min2_, max2_, int_i, int_b, abs_i, add_i, add_s, add_l, add_t, sub_i, mul_i, div_i, mod_i, pow_i, eq_i, ne_i, lt_i, le_i, gt_i, ge_i, isi_i, isi_ib, isi_b, isi_bi, isi_tt, isi_tn, isi_tl, isi_ll, isi_lt, isNon_n, isNon_i, isNon_t, isNon_l, isDict_i, isDict_b, isDict_t, isDict_l, isDict_n, isDict_s, ix_l, ix_t, sl_l, sl_t, atI_nat, atI_0, atI_1, atI_2, atI_3, atI_4, atI_5, atI_6, atI_7, keep_sh, keep_l, noL_i, noL_b, noL_s, noL_n, noL_t, noL_l, noLs_n, noLs_c, isNil_nil, out_rt, out_nx, ↓EE_var, varC_sh, ↓EE_cst, ↓EE_int, ↓EE_bl, ↓EE_non, ↓EE_str, ↓EE_bin, ↓EE_rep, repC_l, ↓EE_neg, negC_i, ↓EE_is, ↓EE_isn, ↓EE_eq, ↓EE_ne, ↓EE_lt, ↓EE_le, ↓EE_gt, ↓EE_ge, ↓EE_inn, ↓EE_ni, ↓EE_chain, ↓EE_and, andC_t, andC_f, ↓EE_or, orC_t, orC_f, ↓EE_not, ↓EE_ite, iteC_t, iteC_f, ↓EE_nil, ↓EE_cons, ↓EE_tup, ↓EE_lst, ↓EE_call, ↓EE_blt, ↓EE_isi, ↓EE_ix, ↓EE_sl, ↓EE_lc, ↓EE_rng, ↓EE_zip, ↓EE_enm, ↓EE_rev, ↓EE_bm, ↓EE_srt, seqR_nx, seqR_rt, seqR_bk, seqR_ct, seqR_no, iffR_t, iffR_f, appC_l, extC_l, putC_l, putX_i, popC_l, insC_l, reto_o, reto_s, unpC_t, rvsC_l, ↓EX, ↓ES_nil, ↓ES_seq, ↓ES_asg, ↓ES_unp, ↓ES_app, ↓ES_ext, ↓ES_put, ↓ES_pop, ↓ES_rvs, ↓ES_ins, ↓ES_ife, ↓ES_ret, ↓ES_reto, ↓ES_retn, ↓ES_for, ↓ES_brk, ↓ES_cnt, ↓ES_drp, forF_, shareAll_n, shareAll_c, shareAt_, shC_o, shC_s, shC_n, shC_x, memN_n, memN_c, after_, flatC_o, flatC_s, flat_i, flat_b, flat_s, flat_n, flat_l, flat_t, noLs_ints, noLs_rows, noLs_fi, q_set0, q_sets, q_get0, q_gets, q_getn, q_mapc, q_mapn, q_appc, q_appn, q_reps, q_rep0, q_bb, q_bs, q_bn, q_ms, q_mn, Nat.reduceAdd, Nat.reduceSub, q_lc, q_ln, q_pure, Bool.false_eq_true, q_ift, q_iff, q_ifb, q_ifc, ite_self, reduceCtorEq, Bool.and_true, Bool.true_and, Bool.and_false, Bool.false_and, Bool.and_self, Bool.not_true, Bool.not_false, CE.isNil, Nat.reduceEqDiff, and_self, decide_true, decide_false, h]
  have e2 := neTab_self h w rows
  simp only [c__law_table_is, runD, getD_sh, getD_ow, getB_b, getL_t, d_sh, d_ow, getO_t, getO_f, bindT_nm, bindT_tp, setAll_nil, setAll_cons, hide_nil, hide_cons, items_l, items_t, seq_l, seq_t, zipD2, zipD3, enmD_, rev_l, rev_t, len_l, len_t, len_s, sum_l, all_l, any_l, tup_l, tup_t, lst_l, lst_t, min2_, max2_, int_i, int_b, abs_i, add_i, add_s, add_l, add_t, sub_i, mul_i, div_i, mod_i, pow_i, eq_i, ne_i, lt_i, le_i, gt_i, ge_i, isi_i, isi_ib, isi_b, isi_bi, isi_tt, isi_tn, isi_tl, isi_ll, isi_lt, isNon_n, isNon_i, isNon_t, isNon_l, isDict_i, isDict_b, isDict_t, isDict_l, isDict_n, isDict_s, ix_l, ix_t, sl_l, sl_t, atI_nat, atI_0, atI_1, atI_2, atI_3, atI_4, atI_5, atI_6, atI_7, keep_sh, keep_l, noL_i, noL_b, noL_s, noL_n, noL_t, noL_l, noLs_n, noLs_c, isNil_nil, out_rt, out_nx, ↓EE_var, varC_sh, ↓EE_cst, ↓EE_int, ↓EE_bl, ↓EE_non, ↓EE_str, ↓EE_bin, ↓EE_rep, repC_l, ↓EE_neg, negC_i, ↓EE_is, ↓EE_isn, ↓EE_eq, ↓EE_ne, ↓EE_lt, ↓EE_le, ↓EE_gt, ↓EE_ge, ↓EE_inn, ↓EE_ni, ↓EE_chain, ↓EE_and, andC_t, andC_f, ↓EE_or, orC_t, orC_f, ↓EE_not, ↓EE_ite, iteC_t, iteC_f, ↓EE_nil, ↓EE_cons, ↓EE_tup, ↓EE_lst, ↓EE_call, ↓EE_blt, ↓EE_isi, ↓EE_ix, ↓EE_sl, ↓EE_lc, ↓EE_rng, ↓EE_zip, ↓EE_enm, ↓EE_rev, ↓EE_bm, ↓EE_srt, seqR_nx, seqR_rt, seqR_bk, seqR_ct, seqR_no, iffR_t, iffR_f, appC_l, extC_l, putC_l, putX_i, popC_l, insC_l, reto_o, reto_s, unpC_t, rvsC_l, ↓EX, ↓ES_nil, ↓ES_seq, ↓ES_asg, ↓ES_unp, ↓ES_app, ↓ES_ext, ↓ES_put, ↓ES_pop, ↓ES_rvs, ↓ES_ins, ↓ES_ife, ↓ES_ret, ↓ES_reto, ↓ES_retn, ↓ES_for, ↓ES_brk, ↓ES_cnt, ↓ES_drp, forF_, shareAll_n, shareAll_c, shareAt_, shC_o, shC_s, shC_n, shC_x, memN_n, memN_c, after_, flatC_o, flatC_s, flat_i, flat_b, flat_s, flat_n, flat_l, flat_t, noLs_ints, noLs_rows, noLs_fi, q_set0, q_sets, q_get0, q_gets, q_getn, q_mapc, q_mapn, q_appc, q_appn, q_reps, q_rep0, q_bb, q_bs, q_bn, q_ms, q_mn, Nat.reduceAdd, Nat.reduceSub, q_lc, q_ln, q_pure, Bool.false_eq_true, q_ift, q_iff, q_ifb, q_ifc, ite_self, reduceCtorEq, Bool.and_true, Bool.true_and, Bool.and_false, Bool.false_and, Bool.and_self, Bool.not_true, Bool.not_false, CE.isNil, Nat.reduceEqDiff, and_self, decide_true, decide_false, e2, encTab, zip2_map, e1, all_true]
theorem table_is_none : GG tab C (k + 1) 1006 [.none, .none] = some (.sh (.bool true)) := by
  rw [gg (show tab 1006 = some c__law_table_is from rfl)]
  simp only [c__law_table_is, runD, getD_sh, getD_ow, getB_b, getL_t, d_sh, d_ow, getO_t, getO_f, bindT_nm, bindT_tp, setAll_nil, setAll_cons, hide_nil, hide_cons, items_l, items_t, seq_l, seq_t, zipD2, zipD3, enmD_, rev_l, rev_t, len_l, len_t, len_s, sum_l, all_l, any_l, tup_l, tup_t, lst_l, lst_t, min2_, max2_, int_i, int_b, abs_i, add_i, add_s, add_l, add_t, sub_i, mul_i, div_i, mod_i, pow_i, eq_i, ne_i, lt_i, le_i, gt_i, ge_i, isi_i, isi_ib, isi_b, isi_bi, isi_tt, isi_tn, isi_tl, isi_ll, isi_lt, isNon_n, isNon_i, isNon_t, isNon_l, isDict_i, isDict_b, isDict_t, isDict_l, isDict_n, isDict_s, ix_l, ix_t, sl_l, sl_t, atI_nat, atI_0, atI_1, atI_2, atI_3, atI_4, atI_5, atI_6, atI_7, keep_sh, keep_l, noL_i, noL_b, noL_s, noL_n, noL_t, noL_l, noLs_n, noLs_c, isNil_nil, out_rt, out_nx, ↓EE_var, varC_sh, ↓EE_cst, ↓EE_int, ↓EE_bl, ↓EE_non, ↓EE_str, ↓EE_bin, ↓EE_rep, repC_l, ↓EE_neg, negC_i, ↓EE_is, ↓EE_isn, ↓EE_eq, ↓EE_ne, ↓EE_lt, ↓EE_le, ↓EE_gt, ↓EE_ge, ↓EE_inn, ↓EE_ni, ↓EE_chain, ↓EE_and, andC_t, andC_f, ↓EE_or, orC_t, orC_f, ↓EE_not, ↓EE_ite, iteC_t, iteC_f, ↓EE_nil, ↓EE_cons, ↓EE_tup, ↓EE_lst, ↓EE_call, ↓EE_blt, ↓EE_isi, ↓EE_ix, ↓EE_sl, ↓EE_lc, ↓EE_rng, ↓EE_zip, ↓EE_enm, ↓EE_rev, ↓EE_bm, ↓EE_srt, seqR_nx, seqR_rt, seqR_bk, seqR_ct, seqR_no, iffR_t, iffR_f, appC_l, extC_l, putC_l, putX_i, popC_l, insC_l, reto_o, reto_s, unpC_t, rvsC_l, ↓EX, ↓ES_nil, ↓ES_seq, ↓ES_asg, ↓ES_unp, ↓ES_app, ↓ES_ext, ↓ES_put, ↓ES_pop, ↓ES_rvs, ↓ES_ins, ↓ES_ife, ↓ES_ret, ↓ES_reto, ↓ES_retn, ↓ES_for, ↓ES_brk, ↓ES_cnt, ↓ES_drp, forF_, shareAll_n, shareAll_c, shareAt_, shC_o, shC_s, shC_n, shC_x, memN_n, memN_c, after_, flatC_o, flatC_s, flat_i, flat_b, flat_s, flat_n, flat_l, flat_t, noLs_ints, noLs_rows, noLs_fi, q_set0, q_sets, q_get0, q_gets, q_getn, q_mapc, q_mapn, q_appc, q_appn, q_reps, q_rep0, q_bb, q_bs, q_bn, q_ms, q_mn, Nat.reduceAdd, Nat.reduceSub, q_lc, q_ln, q_pure, Bool.false_eq_true, q_ift, q_iff, q_ifb, q_ifc, ite_self, reduceCtorEq, Bool.and_true, Bool.true_and, Bool.and_false, Bool.false_and, Bool.and_self, Bool.not_true, Bool.not_false, CE.isNil, Nat.reduceEqDiff, and_self, decide_true, decide_false]
theorem is_base_g {rows : List (List Int)} : GG tab C (k + 2) 1002 [encB rows, encB rows] = some (.sh (.bool true)) := by
  rw [gg (show tab 1002 = some c__law_is_base from rfl)]
  obtain ⟨env', h1, _⟩ := forGo_inv (f := forF (GG tab C (k + 1)) C (.tp [2, 3]) c__law_is_base_b2) (enc := fun q : List Int × List Int => PyData.tuple [encT q.1, encT q.2]) (xs := rows.zip rows) (b := ()) (step := fun _ _ => ())
    (R := fun _ env => ∃ c2 c3, env = [Cell.sh (encB rows), .sh (encB rows), c2, c3, .no]) (env := [Cell.sh (encB rows), .sh (encB rows), .no, .no, .no]) ⟨_, _, rfl⟩ fun q hq _ env hR => by
      obtain ⟨c2, c3, rfl⟩ := hR
      have : q.1 = q.2 := by
        obtain ⟨i, hi, rfl⟩ := List.mem_iff_getElem.mp hq
        simp
      have e1 : ∀ c0 c1 c2 c3, lcGo (lcT (GG tab C (k + 1)) C [4] (.nm 4) .nil c__law_is_base_e1 [c0, c1, c2, c3, .no]) (q.1.map .int) = some (q.1.map fun _ => .bool true) := fun c0 c1 c2 c3 => by
        refine lcGo_map fun y _ => ?_
        have h := whole_g (C := C) (k := k) (x := y)
        simp only [lcF_all, c__law_is_base_e1, runD, getD_sh, getD_ow, getB_b, getL_t, d_sh, d_ow, getO_t, getO_f, bindT_nm, bindT_tp, setAll_nil, setAll_cons, hide_nil, hide_cons, items_l, items_t, seq_l, seq_t, zipD2, zipD3, enmD_, rev_l, rev_t, len_l, len_t, len_s, sum_l, all_l, any_l, tup_l, tup_t, lst_l, lst_t, min2_, max2_, int_i, int_b, abs_i, add_i, add_s, add_l, add_t, sub_i, mul_i, div_i, mod_i, pow_i, eq_i, ne_i, lt_i, le_i, gt_i, ge_i, isi_i, isi_ib, isi_b, isi_bi, isi_tt, isi_tn, isi_tl, isi_ll, isi_lt, isNon_n, isNon_i, isNon_t, isNon_l, isDict_i, isDict_b, isDict_t, isDict_l, isDict_n, isDict_s, ix_l, ix_t, sl_l, sl_t, atI_nat, atI_0, atI_1, atI_2, atI_3, atI_4, atI_5, atI_6, atI_7, keep_sh, keep_l, noL_i, noL_b, noL_s, noL_n, noL_t, noL_l, noLs_n, noLs_c, isNil_nil, out_rt, out_nx, ↓EE_var, varC_sh, ↓EE_cst, ↓EE_int, ↓EE_bl, ↓EE_non, ↓EE_str, ↓EE_bin, ↓EE_rep, repC_l, ↓EE_neg, negC_i, ↓EE_is, ↓EE_isn, ↓EE_eq, ↓EE_ne, ↓EE_lt, ↓EE_le, ↓EE_gt, ↓EE_ge, ↓EE_inn, ↓EE_ni, ↓EE_chain, ↓EE_and, andC_t, andC_f, ↓EE_or, orC_t, orC_f, ↓EE_not, ↓EE_ite, iteC_t, iteC_f, ↓EE_nil, ↓EE_cons, ↓EE_tup, ↓EE_lst, ↓EE_call, ↓EE_blt, ↓EE_isi, ↓EE_ix, ↓EE_sl, ↓EE_lc, ↓EE_rng, ↓EE_zip, ↓EE_enm, ↓EE_rev, ↓EE_bm, ↓EE_srt, seqR_nx, seqR_rt, seqR_bk, seqR_ct, seqR_no, iffR_t, iffR_f, appC_l, extC_l, putC_l, putX_i, popC_l, insC_l, reto_o, reto_s, unpC_t, rvsC_l, ↓EX, ↓ES_nil, ↓ES_seq, ↓ES_asg, ↓ES_unp, ↓ES_app, ↓ES_ext, ↓ES_put, ↓ES_pop, ↓ES_rvs, ↓ES_ins, ↓ES_ife, ↓ES_ret, ↓ES_reto, ↓ES_retn, ↓ES_for, ↓ES_brk, ↓ES_cnt, ↓ES_drp, forF_, shareAll_n, shareAll_c, shareAt_, shC_o, shC_s, shC_n, shC_x, memN_n, memN_c, after_, flatC_o, flatC_s, flat_i, flat_b, flat_s, flat_n, flat_l, flat_t, noLs_ints, noLs_rows, noLs_fi, q_set0, q_sets, q_get0, q_gets, q_getn, q_mapc, q_mapn, q_appc, q_appn, q_reps, q_rep0, q_bb, q_bs, q_bn, q_ms, q_mn, Nat.reduceAdd, Nat.reduceSub, q_lc, q_ln, q_pure, Bool.false_eq_true, q_ift, q_iff, q_ifb, q_ifc, ite_self, reduceCtorEq, Bool.and_true, Bool.true_and, Bool.and_false, Bool.false_and, Bool.and_self, Bool.not_true, Bool.not_false, CE.isNil, Nat.reduceEqDiff, and_self, decide_true, decide_false, h]
      have e2 : cmpD .ne (encT q.1) (encT q.2) = some false := by rw [this]; exact neT_self _
      simp only [c__law_is_base_b2, runD, getD_sh, getD_ow, getB_b, getL_t, d_sh, d_ow, getO_t, getO_f, bindT_nm, bindT_tp, setAll_nil, setAll_cons, hide_nil, hide_cons, items_l, items_t, seq_l, seq_t, zipD2, zipD3, enmD_, rev_l, rev_t, len_l, len_t, len_s, sum_l, all_l, any_l, tup_l, tup_t, lst_l, lst_t, min2_, max2_, int_i, int_b, abs_i, add_i, add_s, add_l, add_t, sub_i, mul_i, div_i, mod_i, pow_i, eq_i, ne_i, lt_i, le_i, gt_i, ge_i, isi_i, isi_ib, isi_b, isi_bi, isi_tt, isi_tn, isi_tl, isi_ll, isi_lt, isNon_n, isNon_i, isNon_t, isNon_l, isDict_i, isDict_b, isDict_t, isDict_l, isDict_n, isDict_s, ix_l, ix_t, sl_l, sl_t, atI_nat, atI_0, atI_1, atI_2, atI_3, atI_4, atI_5, atI_6, atI_7, keep_sh, keep_l, noL_i, noL_b, noL_s, noL_n, noL_t, noL_l, noLs_n, noLs_c, isNil_nil, out_rt, out_nx, ↓EE_var, varC_sh, ↓EE_cst, ↓EE_int, ↓EE_bl, ↓EE_non, ↓EE_str, ↓EE_bin, ↓EE_rep, repC_l, ↓EE_neg, negC_i, ↓EE_is, ↓EE_isn, ↓EE_eq, ↓EE_ne, ↓EE_lt, ↓EE_le, ↓EE_gt, ↓EE_ge, ↓EE_inn, ↓EE_ni, ↓EE_chain, ↓EE_and, andC_t, andC_f, ↓EE_or, orC_t, orC_f, ↓EE_not, ↓EE_ite, iteC_t, iteC_f, ↓EE_nil, ↓EE_cons, ↓EE_tup, ↓EE_lst, ↓EE_call, ↓EE_blt, ↓EE_isi, ↓EE_ix, ↓EE_sl, ↓EE_lc, ↓EE_rng, ↓EE_zip, ↓EE_enm, ↓EE_rev, ↓EE_bm, ↓EE_srt, seqR_nx, seqR_rt, seqR_bk, seqR_ct, seqR_no, iffR_t, iffR_f, appC_l, extC_l, putC_l, putX_i, popC_l, insC_l, reto_o, reto_s, unpC_t, rvsC_l, ↓EX, ↓ES_nil, ↓ES_seq, ↓ES_asg, ↓ES_unp, ↓ES_app, ↓ES_ext, ↓ES_put, ↓ES_pop, ↓ES_rvs, ↓ES_ins, ↓ES_ife, ↓ES_ret, ↓ES_reto, ↓ES_retn, ↓ES_for, ↓ES_brk, ↓ES_cnt, ↓ES_drp, forF_, shareAll_n, shareAll_c, shareAt_, shC_o, shC_s, shC_n, shC_x, memN_n, memN_c, after_, flatC_o, flatC_s, flat_i, flat_b, flat_s, flat_n, flat_l, flat_t, noLs_ints, noLs_rows, noLs_fi, q_set0, q_sets, q_get0, q_gets, q_getn, q_mapc, q_mapn, q_appc, q_appn, q_reps, q_rep0, q_bb, q_bs, q_bn, q_ms, q_mn, Nat.reduceAdd, Nat.reduceSub, q_lc, q_ln, q_pure, Bool.false_eq_true, q_ift, q_iff, q_ifb, q_ifc, ite_self, reduceCtorEq, Bool.and_true, Bool.true_and, Bool.and_false, Bool.false_and, Bool.and_self, Bool.not_true, Bool.not_false, CE.isNil, Nat.reduceEqDiff, and_self, decide_true, decide_false, e2, e1, all_true]
      exact ⟨_, rfl, _, _, rfl⟩
  have hne : ∀ x : Int, (!decide (x = x)) = false := fun x => by simp
  simp only [c__law_is_base, runD, getD_sh, getD_ow, getB_b, getL_t, d_sh, d_ow, getO_t, getO_f, bindT_nm, bindT_tp, setAll_nil, setAll_cons, hide_nil, hide_cons, items_l, items_t, seq_l, seq_t, zipD2, zipD3, enmD_, rev_l, rev_t, len_l, len_t, len_s, sum_l, all_l, any_l, tup_l, tup_t, lst_l, lst_t, min2_, max2_, int_i, int_b, abs_i, add_i, add_s, add_l, add_t, sub_i, mul_i, div_i, mod_i, pow_i, eq_i, ne_i, lt_i, le_i, gt_i, ge_i, isi_i, isi_ib, isi_b, isi_bi, isi_tt, isi_tn, isi_tl, isi_ll, isi_lt, isNon_n, isNon_i, isNon_t, isNon_l, isDict_i, isDict_b, isDict_t, isDict_l, isDict_n, isDict_s, ix_l, ix_t, sl_l, sl_t, atI_nat, atI_0, atI_1, atI_2, atI_3, atI_4, atI_5, atI_6, atI_7, keep_sh, keep_l, noL_i, noL_b, noL_s, noL_n, noL_t, noL_l, noLs_n, noLs_c, isNil_nil, out_rt, out_nx, ↓EE_var, varC_sh, ↓EE_cst, ↓EE_int, ↓EE_bl, ↓EE_non, ↓EE_str, ↓EE_bin, ↓EE_rep, repC_l, ↓EE_neg, negC_i, ↓EE_is, ↓EE_isn, ↓EE_eq, ↓EE_ne, ↓EE_lt, ↓EE_le, ↓EE_gt, ↓EE_ge, ↓EE_inn, ↓EE_ni, ↓EE_chain, ↓EE_and, andC_t, andC_f, ↓EE_or, orC_t, orC_f, ↓EE_not, ↓EE_ite, iteC_t, iteC_f, ↓EE_nil, ↓EE_cons, ↓EE_tup, ↓EE_lst, ↓EE_call, ↓EE_blt, ↓EE_isi, ↓EE_ix, ↓EE_sl, ↓EE_lc, ↓EE_rng, ↓EE_zip, ↓EE_enm, ↓EE_rev, ↓EE_bm, ↓EE_srt, seqR_nx, seqR_rt, seqR_bk, seqR_ct, seqR_no, iffR_t, iffR_f, appC_l, extC_l, putC_l, putX_i, popC_l, insC_l, reto_o, reto_s, unpC_t, rvsC_l, ↓EX, ↓ES_nil, ↓ES_seq, ↓ES_asg, ↓ES_unp, ↓ES_app, ↓ES_ext, ↓ES_put, ↓ES_pop, ↓ES_rvs, ↓ES_ins, ↓ES_ife, ↓ES_ret, ↓ES_reto, ↓ES_retn, ↓ES_for, ↓ES_brk, ↓ES_cnt, ↓ES_drp, forF_, shareAll_n, shareAll_c, shareAt_, shC_o, shC_s, shC_n, shC_x, memN_n, memN_c, after_, flatC_o, flatC_s, flat_i, flat_b, flat_s, flat_n, flat_l, flat_t, noLs_ints, noLs_rows, noLs_fi, q_set0, q_sets, q_get0, q_gets, q_getn, q_mapc, q_mapn, q_appc, q_appn, q_reps, q_rep0, q_bb, q_bs, q_bn, q_ms, q_mn, Nat.reduceAdd, Nat.reduceSub, q_lc, q_ln, q_pure, Bool.false_eq_true, q_ift, q_iff, q_ifb, q_ifc, ite_self, reduceCtorEq, Bool.and_true, Bool.true_and, Bool.and_false, Bool.false_and, Bool.and_self, Bool.not_true, Bool.not_false, CE.isNil, Nat.reduceEqDiff, and_self, decide_true, decide_false, hne, zip2_map, h1]
theorem over_g {p x : Int} (hp : P4 p) (h0 : 0 < x) (h1 : x < p) : GG tab C (k + 1) 1007 [.int p, .int x] = some (.sh (.int (invM p x))) := by
  rw [gg (show tab 1007 = some c__law_over from rfl)]
  rcases hp with rfl | rfl | rfl | rfl
  · obtain rfl : x = 1 := by omega
    rfl
  · have : x = 1 ∨ x = 2 := by omega
    rcases this with rfl | rfl <;> rfl
  · have : x = 1 ∨ x = 2 ∨ x = 3 ∨ x = 4 := by omega
    rcases this with rfl | rfl | rfl | rfl <;> rfl
  · have : x = 1 ∨ x = 2 ∨ x = 3 ∨ x = 4 ∨ x = 5 ∨ x = 6 := by omega
    rcases this with rfl | rfl | rfl | rfl | rfl | rfl <;> rfl
/-- the orders -/
def insM (ns : List Int) (a : Nat) (row : List Nat) (i : Nat) : List Nat := row.take (cM ns (a + i) / 16 % ((i : Int) + 1)).toNat ++ [i] ++ row.drop (cM ns (a + i) / 16 % ((i : Int) + 1)).toNat
def orderM (ns : List Int) (a many : Nat) : List Nat := (List.range many).foldl (insM ns a) []
theorem order_perm (ns : List Int) (a : Nat) : ∀ many, (orderM ns a many).Perm (List.range many)
  | 0 => by simp [orderM]
  | n + 1 => by
    have e : orderM ns a (n + 1) = insM ns a (orderM ns a n) n := by unfold orderM; rw [List.range_succ, List.foldl_append]; rfl
    rw [e, List.range_succ]
    unfold insM
    generalize (cM ns (a + n) / 16 % ((n : Int) + 1)).toNat = t
    have h1 : ((orderM ns a n).take t ++ [n] ++ (orderM ns a n).drop t).Perm ((orderM ns a n).take t ++ (orderM ns a n).drop t ++ [n]) := by
      rw [List.append_assoc, List.append_assoc]
      exact List.Perm.append_left _ List.perm_append_comm
    refine h1.trans ?_
    rw [List.take_append_drop]
    exact (order_perm ns a n).append_right _
theorem order_g {ns : List Int} (hns : ns.length ≤ 63) {a many : Nat} (ha : a ≤ 1000) (hm : many ≤ 1000) : GG tab C (k + 2) 1003 [scr ns, .int (a : Nat), .int (many : Nat)] = some (.ow (encNs (orderM ns a many))) := by
  rw [gg (show tab 1003 = some c__law_order from rfl)]
  obtain ⟨env', h1, _, c4, rfl⟩ := forGo_cnt (f := forF (GG tab C (k + 1)) C (.nm 4) c__law_order_b1) (enc := fun i : Nat => PyData.int (i : Nat)) (xs := List.range many) (n := 0) (N := many) (b := []) (step := insM ns a)
    (R := fun n (b : List Nat) env => b.length = n ∧ ∃ c4, env = [Cell.sh (scr ns), .sh (.int (a : Nat)), .sh (.int (many : Nat)), .ow (encNs b), c4]) (env := [Cell.sh (scr ns), .sh (.int (a : Nat)), .sh (.int (many : Nat)), .ow (.list []), .no]) (by simp) ⟨rfl, _, rfl⟩ fun i hi n b env hn hR => by
      obtain ⟨hb, c4, rfl⟩ := hR
      have hin := List.mem_range.mp hi
      have h2 := cell_g (C := C) (k := k) hns (j := a + i) (by omega)
      rw [show ((a + i : Nat) : Int) = (a : Int) + (i : Int) by omega] at h2
      have hc := cM_bd ns (a + i)
      have h16 : ((0 : Int) < 16 ∧ (16 : Int) < 1073741824) = True := by simp
      have hi1 : (0 : Int) < (i : Int) + 1 := by omega
      have hq : (b.length < big ∧ 0 ≤ cM ns (a + i) / 16 % ((i : Int) + 1) ∧ cM ns (a + i) / 16 % ((i : Int) + 1) < (big : Int)) = True := by
        have h1 := Int.emod_nonneg (cM ns (a + i) / 16) (b := (i : Int) + 1) (by omega)
        have h2 := Int.emod_lt_of_pos (cM ns (a + i) / 16) hi1
        have h3 : (big : Int) = 1000000 := rfl
        have h4 : big = 1000000 := rfl
        simp only [eq_iff_iff, iff_true]
        omega
      simp only [c__law_order_b1, runD, getD_sh, getD_ow, getB_b, getL_t, d_sh, d_ow, getO_t, getO_f, bindT_nm, bindT_tp, setAll_nil, setAll_cons, hide_nil, hide_cons, items_l, items_t, seq_l, seq_t, zipD2, zipD3, enmD_, rev_l, rev_t, len_l, len_t, len_s, sum_l, all_l, any_l, tup_l, tup_t, lst_l, lst_t, min2_, max2_, int_i, int_b, abs_i, add_i, add_s, add_l, add_t, sub_i, mul_i, div_i, mod_i, pow_i, eq_i, ne_i, lt_i, le_i, gt_i, ge_i, isi_i, isi_ib, isi_b, isi_bi, isi_tt, isi_tn, isi_tl, isi_ll, isi_lt, isNon_n, isNon_i, isNon_t, isNon_l, isDict_i, isDict_b, isDict_t, isDict_l, isDict_n, isDict_s, ix_l, ix_t, sl_l, sl_t, atI_nat, atI_0, atI_1, atI_2, atI_3, atI_4, atI_5, atI_6, atI_7, keep_sh, keep_l, noL_i, noL_b, noL_s, noL_n, noL_t, noL_l, noLs_n, noLs_c, isNil_nil, out_rt, out_nx, ↓EE_var, varC_sh, ↓EE_cst, ↓EE_int, ↓EE_bl, ↓EE_non, ↓EE_str, ↓EE_bin, ↓EE_rep, repC_l, ↓EE_neg, negC_i, ↓EE_is, ↓EE_isn, ↓EE_eq, ↓EE_ne, ↓EE_lt, ↓EE_le, ↓EE_gt, ↓EE_ge, ↓EE_inn, ↓EE_ni, ↓EE_chain, ↓EE_and, andC_t, andC_f, ↓EE_or, orC_t, orC_f, ↓EE_not, ↓EE_ite, iteC_t, iteC_f, ↓EE_nil, ↓EE_cons, ↓EE_tup, ↓EE_lst, ↓EE_call, ↓EE_blt, ↓EE_isi, ↓EE_ix, ↓EE_sl, ↓EE_lc, ↓EE_rng, ↓EE_zip, ↓EE_enm, ↓EE_rev, ↓EE_bm, ↓EE_srt, seqR_nx, seqR_rt, seqR_bk, seqR_ct, seqR_no, iffR_t, iffR_f, appC_l, extC_l, putC_l, putX_i, popC_l, insC_l, reto_o, reto_s, unpC_t, rvsC_l, ↓EX, ↓ES_nil, ↓ES_seq, ↓ES_asg, ↓ES_unp, ↓ES_app, ↓ES_ext, ↓ES_put, ↓ES_pop, ↓ES_rvs, ↓ES_ins, ↓ES_ife, ↓ES_ret, ↓ES_reto, ↓ES_retn, ↓ES_for, ↓ES_brk, ↓ES_cnt, ↓ES_drp, forF_, shareAll_n, shareAll_c, shareAt_, shC_o, shC_s, shC_n, shC_x, memN_n, memN_c, after_, flatC_o, flatC_s, flat_i, flat_b, flat_s, flat_n, flat_l, flat_t, noLs_ints, noLs_rows, noLs_fi, q_set0, q_sets, q_get0, q_gets, q_getn, q_mapc, q_mapn, q_appc, q_appn, q_reps, q_rep0, q_bb, q_bs, q_bn, q_ms, q_mn, Nat.reduceAdd, Nat.reduceSub, q_lc, q_ln, q_pure, Bool.false_eq_true, q_ift, q_iff, q_ifb, q_ifc, ite_self, reduceCtorEq, Bool.and_true, Bool.true_and, Bool.and_false, Bool.false_and, Bool.and_self, Bool.not_true, Bool.not_false, CE.isNil, Nat.reduceEqDiff, and_self, decide_true, decide_false, h2, h16, hi1, List.length_map, hq]
      refine ⟨_, rfl, ?_, .sh (.int (i : Nat)), ?_⟩
      · unfold insM
        simp only [List.length_append, List.length_take, List.length_drop, List.length_cons, List.length_nil]
        omega
      · unfold insM encNs
        simp only [List.map_append, List.map_take, List.map_drop, List.map_cons, List.map_nil]
  have hbig : many ≤ 100000 := by omega
  simp only [c__law_order, runD, getD_sh, getD_ow, getB_b, getL_t, d_sh, d_ow, getO_t, getO_f, bindT_nm, bindT_tp, setAll_nil, setAll_cons, hide_nil, hide_cons, items_l, items_t, seq_l, seq_t, zipD2, zipD3, enmD_, rev_l, rev_t, len_l, len_t, len_s, sum_l, all_l, any_l, tup_l, tup_t, lst_l, lst_t, min2_, max2_, int_i, int_b, abs_i, add_i, add_s, add_l, add_t, sub_i, mul_i, div_i, mod_i, pow_i, eq_i, ne_i, lt_i, le_i, gt_i, ge_i, isi_i, isi_ib, isi_b, isi_bi, isi_tt, isi_tn, isi_tl, isi_ll, isi_lt, isNon_n, isNon_i, isNon_t, isNon_l, isDict_i, isDict_b, isDict_t, isDict_l, isDict_n, isDict_s, ix_l, ix_t, sl_l, sl_t, atI_nat, atI_0, atI_1, atI_2, atI_3, atI_4, atI_5, atI_6, atI_7, keep_sh, keep_l, noL_i, noL_b, noL_s, noL_n, noL_t, noL_l, noLs_n, noLs_c, isNil_nil, out_rt, out_nx, ↓EE_var, varC_sh, ↓EE_cst, ↓EE_int, ↓EE_bl, ↓EE_non, ↓EE_str, ↓EE_bin, ↓EE_rep, repC_l, ↓EE_neg, negC_i, ↓EE_is, ↓EE_isn, ↓EE_eq, ↓EE_ne, ↓EE_lt, ↓EE_le, ↓EE_gt, ↓EE_ge, ↓EE_inn, ↓EE_ni, ↓EE_chain, ↓EE_and, andC_t, andC_f, ↓EE_or, orC_t, orC_f, ↓EE_not, ↓EE_ite, iteC_t, iteC_f, ↓EE_nil, ↓EE_cons, ↓EE_tup, ↓EE_lst, ↓EE_call, ↓EE_blt, ↓EE_isi, ↓EE_ix, ↓EE_sl, ↓EE_lc, ↓EE_rng, ↓EE_zip, ↓EE_enm, ↓EE_rev, ↓EE_bm, ↓EE_srt, seqR_nx, seqR_rt, seqR_bk, seqR_ct, seqR_no, iffR_t, iffR_f, appC_l, extC_l, putC_l, putX_i, popC_l, insC_l, reto_o, reto_s, unpC_t, rvsC_l, ↓EX, ↓ES_nil, ↓ES_seq, ↓ES_asg, ↓ES_unp, ↓ES_app, ↓ES_ext, ↓ES_put, ↓ES_pop, ↓ES_rvs, ↓ES_ins, ↓ES_ife, ↓ES_ret, ↓ES_reto, ↓ES_retn, ↓ES_for, ↓ES_brk, ↓ES_cnt, ↓ES_drp, forF_, shareAll_n, shareAll_c, shareAt_, shC_o, shC_s, shC_n, shC_x, memN_n, memN_c, after_, flatC_o, flatC_s, flat_i, flat_b, flat_s, flat_n, flat_l, flat_t, noLs_ints, noLs_rows, noLs_fi, q_set0, q_sets, q_get0, q_gets, q_getn, q_mapc, q_mapn, q_appc, q_appn, q_reps, q_rep0, q_bb, q_bs, q_bn, q_ms, q_mn, Nat.reduceAdd, Nat.reduceSub, q_lc, q_ln, q_pure, Bool.false_eq_true, q_ift, q_iff, q_ifb, q_ifc, ite_self, reduceCtorEq, Bool.and_true, Bool.true_and, Bool.and_false, Bool.false_and, Bool.and_self, Bool.not_true, Bool.not_false, CE.isNil, Nat.reduceEqDiff, and_self, decide_true, decide_false, rng_nat hbig, h1]
  rfl

theorem oN_get {o : List Nat} {i : Nat} (h : i < o.length) : (o.map fun n => PyData.int (n : Nat))[i]? = some (.int (oN o i : Nat)) := by
  simp [oN, h]
theorem table_g {p : Int} (hp : P4 p) {n : Nat} {o : List Nat} {f : List Int} (ho : o.length = n) (hf : f.length = n) (he : Ent p f) (hn : n ≤ 1000) : GG tab C (k + 1) 1004 [encNs o, encL f] = some (.sh (encTab n n (tabM n o f))) := by
  rw [gg (show tab 1004 = some c__law_table from rfl)]
  have hb : n ≤ 100000 := by omega
  have e1 : ∀ i, i < n → ∀ c2 c3, lcGo (lcT (GG tab C k) C [5] (.nm 5) .nil c__law_table_e1 [.sh (encNs o), .sh (encL f), c2, c3, .sh (.int (i : Nat)), .no]) ((List.range n).map fun i => PyData.int (i : Nat)) = some ((monoRow n (at0 f i) (oN o i)).map .int) := fun i hi c2 c3 => by
    unfold monoRow
    rw [List.map_map]
    refine lcGo_map fun j hj => ?_
    have hfi := (he.sm hp) _ (at0_mem (k := i) (by omega))
    have hm : ∀ y, mulOk (at0 f i) y = true := fun y => mulOk_l hfi
    have hd : (if decide ((j : Int) = (oN o i : Int)) = true then (1 : Int) else 0) = if j = oN o i then 1 else 0 := by
      by_cases e : j = oN o i
      · simp [e]
      · have : ¬ (j : Int) = (oN o i : Int) := by omega
        simp [e, this]
    simp only [lcF_all, c__law_table_e1, runD, getD_sh, getD_ow, getB_b, getL_t, d_sh, d_ow, getO_t, getO_f, bindT_nm, bindT_tp, setAll_nil, setAll_cons, hide_nil, hide_cons, items_l, items_t, seq_l, seq_t, zipD2, zipD3, enmD_, rev_l, rev_t, len_l, len_t, len_s, sum_l, all_l, any_l, tup_l, tup_t, lst_l, lst_t, min2_, max2_, int_i, int_b, abs_i, add_i, add_s, add_l, add_t, sub_i, mul_i, div_i, mod_i, pow_i, eq_i, ne_i, lt_i, le_i, gt_i, ge_i, isi_i, isi_ib, isi_b, isi_bi, isi_tt, isi_tn, isi_tl, isi_ll, isi_lt, isNon_n, isNon_i, isNon_t, isNon_l, isDict_i, isDict_b, isDict_t, isDict_l, isDict_n, isDict_s, ix_l, ix_t, sl_l, sl_t, atI_nat, atI_0, atI_1, atI_2, atI_3, atI_4, atI_5, atI_6, atI_7, keep_sh, keep_l, noL_i, noL_b, noL_s, noL_n, noL_t, noL_l, noLs_n, noLs_c, isNil_nil, out_rt, out_nx, ↓EE_var, varC_sh, ↓EE_cst, ↓EE_int, ↓EE_bl, ↓EE_non, ↓EE_str, ↓EE_bin, ↓EE_rep, repC_l, ↓EE_neg, negC_i, ↓EE_is, ↓EE_isn, ↓EE_eq, ↓EE_ne, ↓EE_lt, ↓EE_le, ↓EE_gt, ↓EE_ge, ↓EE_inn, ↓EE_ni, ↓EE_chain, ↓EE_and, andC_t, andC_f, ↓EE_or, orC_t, orC_f, ↓EE_not, ↓EE_ite, iteC_t, iteC_f, ↓EE_nil, ↓EE_cons, ↓EE_tup, ↓EE_lst, ↓EE_call, ↓EE_blt, ↓EE_isi, ↓EE_ix, ↓EE_sl, ↓EE_lc, ↓EE_rng, ↓EE_zip, ↓EE_enm, ↓EE_rev, ↓EE_bm, ↓EE_srt, seqR_nx, seqR_rt, seqR_bk, seqR_ct, seqR_no, iffR_t, iffR_f, appC_l, extC_l, putC_l, putX_i, popC_l, insC_l, reto_o, reto_s, unpC_t, rvsC_l, ↓EX, ↓ES_nil, ↓ES_seq, ↓ES_asg, ↓ES_unp, ↓ES_app, ↓ES_ext, ↓ES_put, ↓ES_pop, ↓ES_rvs, ↓ES_ins, ↓ES_ife, ↓ES_ret, ↓ES_reto, ↓ES_retn, ↓ES_for, ↓ES_brk, ↓ES_cnt, ↓ES_drp, forF_, shareAll_n, shareAll_c, shareAt_, shC_o, shC_s, shC_n, shC_x, memN_n, memN_c, after_, flatC_o, flatC_s, flat_i, flat_b, flat_s, flat_n, flat_l, flat_t, noLs_ints, noLs_rows, noLs_fi, q_set0, q_sets, q_get0, q_gets, q_getn, q_mapc, q_mapn, q_appc, q_appn, q_reps, q_rep0, q_bb, q_bs, q_bn, q_ms, q_mn, Nat.reduceAdd, Nat.reduceSub, q_lc, q_ln, q_pure, Bool.false_eq_true, q_ift, q_iff, q_ifb, q_ifc, ite_self, reduceCtorEq, Bool.and_true, Bool.true_and, Bool.and_false, Bool.false_and, Bool.and_self, Bool.not_true, Bool.not_false, CE.isNil, Nat.reduceEqDiff, and_self, decide_true, decide_false, atI_nat, at0_get (show i < f.length by omega), oN_get (show i < o.length by omega), hm, hd, Function.comp_def]
  have e2 : ∀ c3, lcGo (lcT (GG tab C k) C [4] (.nm 4) .nil c__law_table_e2 [.sh (encNs o), .sh (encL f), .sh (.int (n : Nat)), c3, .no, .no]) ((List.range n).map fun i => PyData.int (i : Nat)) = some ((tabM n o f).map encT) := fun c3 => by
    unfold tabM
    rw [List.map_map]
    refine lcGo_map fun i hi => ?_
    simp only [lcF_all, c__law_table_e2, runD, getD_sh, getD_ow, getB_b, getL_t, d_sh, d_ow, getO_t, getO_f, bindT_nm, bindT_tp, setAll_nil, setAll_cons, hide_nil, hide_cons, items_l, items_t, seq_l, seq_t, zipD2, zipD3, enmD_, rev_l, rev_t, len_l, len_t, len_s, sum_l, all_l, any_l, tup_l, tup_t, lst_l, lst_t, min2_, max2_, int_i, int_b, abs_i, add_i, add_s, add_l, add_t, sub_i, mul_i, div_i, mod_i, pow_i, eq_i, ne_i, lt_i, le_i, gt_i, ge_i, isi_i, isi_ib, isi_b, isi_bi, isi_tt, isi_tn, isi_tl, isi_ll, isi_lt, isNon_n, isNon_i, isNon_t, isNon_l, isDict_i, isDict_b, isDict_t, isDict_l, isDict_n, isDict_s, ix_l, ix_t, sl_l, sl_t, atI_nat, atI_0, atI_1, atI_2, atI_3, atI_4, atI_5, atI_6, atI_7, keep_sh, keep_l, noL_i, noL_b, noL_s, noL_n, noL_t, noL_l, noLs_n, noLs_c, isNil_nil, out_rt, out_nx, ↓EE_var, varC_sh, ↓EE_cst, ↓EE_int, ↓EE_bl, ↓EE_non, ↓EE_str, ↓EE_bin, ↓EE_rep, repC_l, ↓EE_neg, negC_i, ↓EE_is, ↓EE_isn, ↓EE_eq, ↓EE_ne, ↓EE_lt, ↓EE_le, ↓EE_gt, ↓EE_ge, ↓EE_inn, ↓EE_ni, ↓EE_chain, ↓EE_and, andC_t, andC_f, ↓EE_or, orC_t, orC_f, ↓EE_not, ↓EE_ite, iteC_t, iteC_f, ↓EE_nil, ↓EE_cons, ↓EE_tup, ↓EE_lst, ↓EE_call, ↓EE_blt, ↓EE_isi, ↓EE_ix, ↓EE_sl, ↓EE_lc, ↓EE_rng, ↓EE_zip, ↓EE_enm, ↓EE_rev, ↓EE_bm, ↓EE_srt, seqR_nx, seqR_rt, seqR_bk, seqR_ct, seqR_no, iffR_t, iffR_f, appC_l, extC_l, putC_l, putX_i, popC_l, insC_l, reto_o, reto_s, unpC_t, rvsC_l, ↓EX, ↓ES_nil, ↓ES_seq, ↓ES_asg, ↓ES_unp, ↓ES_app, ↓ES_ext, ↓ES_put, ↓ES_pop, ↓ES_rvs, ↓ES_ins, ↓ES_ife, ↓ES_ret, ↓ES_reto, ↓ES_retn, ↓ES_for, ↓ES_brk, ↓ES_cnt, ↓ES_drp, forF_, shareAll_n, shareAll_c, shareAt_, shC_o, shC_s, shC_n, shC_x, memN_n, memN_c, after_, flatC_o, flatC_s, flat_i, flat_b, flat_s, flat_n, flat_l, flat_t, noLs_ints, noLs_rows, noLs_fi, q_set0, q_sets, q_get0, q_gets, q_getn, q_mapc, q_mapn, q_appc, q_appn, q_reps, q_rep0, q_bb, q_bs, q_bn, q_ms, q_mn, Nat.reduceAdd, Nat.reduceSub, q_lc, q_ln, q_pure, Bool.false_eq_true, q_ift, q_iff, q_ifb, q_ifc, ite_self, reduceCtorEq, Bool.and_true, Bool.true_and, Bool.and_false, Bool.false_and, Bool.and_self, Bool.not_true, Bool.not_false, CE.isNil, Nat.reduceEqDiff, and_self, decide_true, decide_false, rng_nat hb, e1 i (List.mem_range.mp hi), Function.comp_def]
  simp only [c__law_table, runD, getD_sh, getD_ow, getB_b, getL_t, d_sh, d_ow, getO_t, getO_f, bindT_nm, bindT_tp, setAll_nil, setAll_cons, hide_nil, hide_cons, items_l, items_t, seq_l, seq_t, zipD2, zipD3, enmD_, rev_l, rev_t, len_l, len_t, len_s, sum_l, all_l, any_l, tup_l, tup_t, lst_l, lst_t, min2_, max2_, int_i, int_b, abs_i, add_i, add_s, add_l, add_t, sub_i, mul_i, div_i, mod_i, pow_i, eq_i, ne_i, lt_i, le_i, gt_i, ge_i, isi_i, isi_ib, isi_b, isi_bi, isi_tt, isi_tn, isi_tl, isi_ll, isi_lt, isNon_n, isNon_i, isNon_t, isNon_l, isDict_i, isDict_b, isDict_t, isDict_l, isDict_n, isDict_s, ix_l, ix_t, sl_l, sl_t, atI_nat, atI_0, atI_1, atI_2, atI_3, atI_4, atI_5, atI_6, atI_7, keep_sh, keep_l, noL_i, noL_b, noL_s, noL_n, noL_t, noL_l, noLs_n, noLs_c, isNil_nil, out_rt, out_nx, ↓EE_var, varC_sh, ↓EE_cst, ↓EE_int, ↓EE_bl, ↓EE_non, ↓EE_str, ↓EE_bin, ↓EE_rep, repC_l, ↓EE_neg, negC_i, ↓EE_is, ↓EE_isn, ↓EE_eq, ↓EE_ne, ↓EE_lt, ↓EE_le, ↓EE_gt, ↓EE_ge, ↓EE_inn, ↓EE_ni, ↓EE_chain, ↓EE_and, andC_t, andC_f, ↓EE_or, orC_t, orC_f, ↓EE_not, ↓EE_ite, iteC_t, iteC_f, ↓EE_nil, ↓EE_cons, ↓EE_tup, ↓EE_lst, ↓EE_call, ↓EE_blt, ↓EE_isi, ↓EE_ix, ↓EE_sl, ↓EE_lc, ↓EE_rng, ↓EE_zip, ↓EE_enm, ↓EE_rev, ↓EE_bm, ↓EE_srt, seqR_nx, seqR_rt, seqR_bk, seqR_ct, seqR_no, iffR_t, iffR_f, appC_l, extC_l, putC_l, putX_i, popC_l, insC_l, reto_o, reto_s, unpC_t, rvsC_l, ↓EX, ↓ES_nil, ↓ES_seq, ↓ES_asg, ↓ES_unp, ↓ES_app, ↓ES_ext, ↓ES_put, ↓ES_pop, ↓ES_rvs, ↓ES_ins, ↓ES_ife, ↓ES_ret, ↓ES_reto, ↓ES_retn, ↓ES_for, ↓ES_brk, ↓ES_cnt, ↓ES_drp, forF_, shareAll_n, shareAll_c, shareAt_, shC_o, shC_s, shC_n, shC_x, memN_n, memN_c, after_, flatC_o, flatC_s, flat_i, flat_b, flat_s, flat_n, flat_l, flat_t, noLs_ints, noLs_rows, noLs_fi, q_set0, q_sets, q_get0, q_gets, q_getn, q_mapc, q_mapn, q_appc, q_appn, q_reps, q_rep0, q_bb, q_bs, q_bn, q_ms, q_mn, Nat.reduceAdd, Nat.reduceSub, q_lc, q_ln, q_pure, Bool.false_eq_true, q_ift, q_iff, q_ifb, q_ifc, ite_self, reduceCtorEq, Bool.and_true, Bool.true_and, Bool.and_false, Bool.false_and, Bool.and_self, Bool.not_true, Bool.not_false, CE.isNil, Nat.reduceEqDiff, and_self, decide_true, decide_false, List.length_map, ho, rng_nat hb, e2, encTab]
theorem contains_zero {n : Nat} {f : List Int} (hf : f.length = n) : (f.contains 0 = true) ↔ ∃ i, i < n ∧ at0 f i = 0 := by
  rw [List.contains_iff_mem]
  constructor
  · intro h
    obtain ⟨i, hi, e⟩ := List.mem_iff_getElem.mp h
    exact ⟨i, by omega, by rw [at0_lt hi]; exact e⟩
  · rintro ⟨i, hi, e⟩
    rw [← e]; exact at0_mem (by omega)
theorem idxOf_nats {o : List Nat} {j : Nat} (h : j ∈ o) : idxOf (o.map fun n => PyData.int (n : Nat)) (.int (j : Nat)) = some (o.idxOf j) := by
  induction o with
  | nil => cases h
  | cons x o ih =>
    rw [List.map_cons]
    unfold idxOf
    rw [eqv_int]
    by_cases e : x = j
    · subst e; simp
    · have e2 : ¬ ((x : Nat) : Int) = (j : Int) := by omega
      have hm : j ∈ o := by
        rcases List.mem_cons.mp h with rfl | h
        · exact absurd rfl e
        · exact h
      rw [decide_eq_false e2, ih hm]
      have : ¬ (x == j) = true := by simp [e]
      rw [List.idxOf_cons]
      simp [this, e]
theorem okEq_encNs (o : List Nat) : okEq (encNs o) = true := (okn_list (n := 0) (okn_map fun x _ => okn_int 0 _)).ok (by omega)
theorem index_ {o : List Nat} {j : Nat} (h : j ∈ o) : bmD .lindex (.list (o.map fun n => .int (n : Nat))) [.int (j : Nat)] = some (.sh (.int (o.idxOf j : Nat))) := by
  show (if (okEq (.list (o.map fun n => .int (n : Nat))) && okEq (.int (j : Nat))) = true then (idxOf (o.map fun n => PyData.int (n : Nat)) (.int (j : Nat))).map fun j => Cell.sh (.int (j : Nat)) else none) = _
  have h1 := okEq_encNs o
  rw [h1, (okn_int 0 _).ok (by omega), idxOf_nats h]; rfl
theorem lawback_g {p : Int} (hp : P4 p) {n : Nat} {o : List Nat} {f : List Int} (ho : Pm n o) (hf : f.length = n) (he : Ent p f) (hn : n ≤ 1000) : GG tab C (k + 2) 1008 [.int p, encNs o, encL f] = some (.sh (match (if ∃ i, i < n ∧ at0 f i = 0 then none else some (tabM n (newM n o) ((List.range n).map fun j => invM p (at0 f (oN (newM n o) j)))) : Option (List (List Int))) with
      | some x => encTab n n x
      | none => .none)) := by
  rw [gg (show tab 1008 = some c__law_back from rfl)]
  have hb : n ≤ 100000 := by omega
  have hin := in_ints f 0
  by_cases h0 : ∃ i, i < n ∧ at0 f i = 0
  · rw [if_pos h0]
    rw [(contains_zero hf).mpr h0] at hin
    simp only [c__law_back, runD, getD_sh, getD_ow, getB_b, getL_t, d_sh, d_ow, getO_t, getO_f, bindT_nm, bindT_tp, setAll_nil, setAll_cons, hide_nil, hide_cons, items_l, items_t, seq_l, seq_t, zipD2, zipD3, enmD_, rev_l, rev_t, len_l, len_t, len_s, sum_l, all_l, any_l, tup_l, tup_t, lst_l, lst_t, min2_, max2_, int_i, int_b, abs_i, add_i, add_s, add_l, add_t, sub_i, mul_i, div_i, mod_i, pow_i, eq_i, ne_i, lt_i, le_i, gt_i, ge_i, isi_i, isi_ib, isi_b, isi_bi, isi_tt, isi_tn, isi_tl, isi_ll, isi_lt, isNon_n, isNon_i, isNon_t, isNon_l, isDict_i, isDict_b, isDict_t, isDict_l, isDict_n, isDict_s, ix_l, ix_t, sl_l, sl_t, atI_nat, atI_0, atI_1, atI_2, atI_3, atI_4, atI_5, atI_6, atI_7, keep_sh, keep_l, noL_i, noL_b, noL_s, noL_n, noL_t, noL_l, noLs_n, noLs_c, isNil_nil, out_rt, out_nx, ↓EE_var, varC_sh, ↓EE_cst, ↓EE_int, ↓EE_bl, ↓EE_non, ↓EE_str, ↓EE_bin, ↓EE_rep, repC_l, ↓EE_neg, negC_i, ↓EE_is, ↓EE_isn, ↓EE_eq, ↓EE_ne, ↓EE_lt, ↓EE_le, ↓EE_gt, ↓EE_ge, ↓EE_inn, ↓EE_ni, ↓EE_chain, ↓EE_and, andC_t, andC_f, ↓EE_or, orC_t, orC_f, ↓EE_not, ↓EE_ite, iteC_t, iteC_f, ↓EE_nil, ↓EE_cons, ↓EE_tup, ↓EE_lst, ↓EE_call, ↓EE_blt, ↓EE_isi, ↓EE_ix, ↓EE_sl, ↓EE_lc, ↓EE_rng, ↓EE_zip, ↓EE_enm, ↓EE_rev, ↓EE_bm, ↓EE_srt, seqR_nx, seqR_rt, seqR_bk, seqR_ct, seqR_no, iffR_t, iffR_f, appC_l, extC_l, putC_l, putX_i, popC_l, insC_l, reto_o, reto_s, unpC_t, rvsC_l, ↓EX, ↓ES_nil, ↓ES_seq, ↓ES_asg, ↓ES_unp, ↓ES_app, ↓ES_ext, ↓ES_put, ↓ES_pop, ↓ES_rvs, ↓ES_ins, ↓ES_ife, ↓ES_ret, ↓ES_reto, ↓ES_retn, ↓ES_for, ↓ES_brk, ↓ES_cnt, ↓ES_drp, forF_, shareAll_n, shareAll_c, shareAt_, shC_o, shC_s, shC_n, shC_x, memN_n, memN_c, after_, flatC_o, flatC_s, flat_i, flat_b, flat_s, flat_n, flat_l, flat_t, noLs_ints, noLs_rows, noLs_fi, q_set0, q_sets, q_get0, q_gets, q_getn, q_mapc, q_mapn, q_appc, q_appn, q_reps, q_rep0, q_bb, q_bs, q_bn, q_ms, q_mn, Nat.reduceAdd, Nat.reduceSub, q_lc, q_ln, q_pure, Bool.false_eq_true, q_ift, q_iff, q_ifb, q_ifc, ite_self, reduceCtorEq, Bool.and_true, Bool.true_and, Bool.and_false, Bool.false_and, Bool.and_self, Bool.not_true, Bool.not_false, CE.isNil, Nat.reduceEqDiff, and_self, decide_true, decide_false, hin]
  · rw [if_neg h0]
    have hc : f.contains 0 = false := by
      cases hcc : f.contains 0
      · rfl
      · exact absurd ((contains_zero hf).mp hcc) h0
    rw [hc] at hin
    have hmem : ∀ j, j < n → j ∈ o := fun j hj => by
      obtain ⟨i, hi, e⟩ := ho.sur j hj
      have hi' : i < o.length := by rw [ho.len]; exact hi
      have : oN o i = o[i] := by simp [oN, hi']
      rw [← e, this]; exact List.getElem_mem hi'
    have e2 : ∀ c0 c2 c3 c4, lcGo (lcT (GG tab C (k + 1)) C [5] (.nm 5) .nil c__law_back_e2 [c0, .sh (encNs o), c2, c3, c4, .no]) ((List.range n).map fun i => PyData.int (i : Nat)) = some ((newM n o).map fun n => .int (n : Nat)) := fun c0 c2 c3 c4 => by
      unfold newM
      rw [List.map_map]
      refine lcGo_map fun j hj => ?_
      simp only [lcF_all, c__law_back_e2, runD, getD_sh, getD_ow, getB_b, getL_t, d_sh, d_ow, getO_t, getO_f, bindT_nm, bindT_tp, setAll_nil, setAll_cons, hide_nil, hide_cons, items_l, items_t, seq_l, seq_t, zipD2, zipD3, enmD_, rev_l, rev_t, len_l, len_t, len_s, sum_l, all_l, any_l, tup_l, tup_t, lst_l, lst_t, min2_, max2_, int_i, int_b, abs_i, add_i, add_s, add_l, add_t, sub_i, mul_i, div_i, mod_i, pow_i, eq_i, ne_i, lt_i, le_i, gt_i, ge_i, isi_i, isi_ib, isi_b, isi_bi, isi_tt, isi_tn, isi_tl, isi_ll, isi_lt, isNon_n, isNon_i, isNon_t, isNon_l, isDict_i, isDict_b, isDict_t, isDict_l, isDict_n, isDict_s, ix_l, ix_t, sl_l, sl_t, atI_nat, atI_0, atI_1, atI_2, atI_3, atI_4, atI_5, atI_6, atI_7, keep_sh, keep_l, noL_i, noL_b, noL_s, noL_n, noL_t, noL_l, noLs_n, noLs_c, isNil_nil, out_rt, out_nx, ↓EE_var, varC_sh, ↓EE_cst, ↓EE_int, ↓EE_bl, ↓EE_non, ↓EE_str, ↓EE_bin, ↓EE_rep, repC_l, ↓EE_neg, negC_i, ↓EE_is, ↓EE_isn, ↓EE_eq, ↓EE_ne, ↓EE_lt, ↓EE_le, ↓EE_gt, ↓EE_ge, ↓EE_inn, ↓EE_ni, ↓EE_chain, ↓EE_and, andC_t, andC_f, ↓EE_or, orC_t, orC_f, ↓EE_not, ↓EE_ite, iteC_t, iteC_f, ↓EE_nil, ↓EE_cons, ↓EE_tup, ↓EE_lst, ↓EE_call, ↓EE_blt, ↓EE_isi, ↓EE_ix, ↓EE_sl, ↓EE_lc, ↓EE_rng, ↓EE_zip, ↓EE_enm, ↓EE_rev, ↓EE_bm, ↓EE_srt, seqR_nx, seqR_rt, seqR_bk, seqR_ct, seqR_no, iffR_t, iffR_f, appC_l, extC_l, putC_l, putX_i, popC_l, insC_l, reto_o, reto_s, unpC_t, rvsC_l, ↓EX, ↓ES_nil, ↓ES_seq, ↓ES_asg, ↓ES_unp, ↓ES_app, ↓ES_ext, ↓ES_put, ↓ES_pop, ↓ES_rvs, ↓ES_ins, ↓ES_ife, ↓ES_ret, ↓ES_reto, ↓ES_retn, ↓ES_for, ↓ES_brk, ↓ES_cnt, ↓ES_drp, forF_, shareAll_n, shareAll_c, shareAt_, shC_o, shC_s, shC_n, shC_x, memN_n, memN_c, after_, flatC_o, flatC_s, flat_i, flat_b, flat_s, flat_n, flat_l, flat_t, noLs_ints, noLs_rows, noLs_fi, q_set0, q_sets, q_get0, q_gets, q_getn, q_mapc, q_mapn, q_appc, q_appn, q_reps, q_rep0, q_bb, q_bs, q_bn, q_ms, q_mn, Nat.reduceAdd, Nat.reduceSub, q_lc, q_ln, q_pure, Bool.false_eq_true, q_ift, q_iff, q_ifb, q_ifc, ite_self, reduceCtorEq, Bool.and_true, Bool.true_and, Bool.and_false, Bool.false_and, Bool.and_self, Bool.not_true, Bool.not_false, CE.isNil, Nat.reduceEqDiff, and_self, decide_true, decide_false, index_ (hmem j (List.mem_range.mp hj)), Function.comp_def]
    have hnl : (newM n o).length = n := by simp [newM]
    have e1 : ∀ c1 c3, lcGo (lcT (GG tab C (k + 1)) C [5] (.nm 5) .nil c__law_back_e1 [.sh (.int p), c1, .sh (encL f), c3, .sh (encNs (newM n o)), .no]) ((List.range n).map fun i => PyData.int (i : Nat)) = some (((List.range n).map fun j => invM p (at0 f (oN (newM n o) j))).map .int) := fun c1 c3 => by
      rw [List.map_map]
      refine lcGo_map (g := fun j => PyData.int (invM p (at0 f (oN (newM n o) j)))) fun j hj => ?_
      obtain ⟨m1, m2⟩ := new_at ho (List.mem_range.mp hj)
      have h1 := he _ (at0_mem (k := oN (newM n o) j) (by omega))
      have h2 : at0 f (oN (newM n o) j) ≠ 0 := fun e => h0 ⟨_, m1, e⟩
      have h := over_g (C := C) (k := k) hp (x := at0 f (oN (newM n o) j)) (by omega) h1.2
      simp only [lcF_all, c__law_back_e1, runD, getD_sh, getD_ow, getB_b, getL_t, d_sh, d_ow, getO_t, getO_f, bindT_nm, bindT_tp, setAll_nil, setAll_cons, hide_nil, hide_cons, items_l, items_t, seq_l, seq_t, zipD2, zipD3, enmD_, rev_l, rev_t, len_l, len_t, len_s, sum_l, all_l, any_l, tup_l, tup_t, lst_l, lst_t, min2_, max2_, int_i, int_b, abs_i, add_i, add_s, add_l, add_t, sub_i, mul_i, div_i, mod_i, pow_i, eq_i, ne_i, lt_i, le_i, gt_i, ge_i, isi_i, isi_ib, isi_b, isi_bi, isi_tt, isi_tn, isi_tl, isi_ll, isi_lt, isNon_n, isNon_i, isNon_t, isNon_l, isDict_i, isDict_b, isDict_t, isDict_l, isDict_n, isDict_s, ix_l, ix_t, sl_l, sl_t, atI_nat, atI_0, atI_1, atI_2, atI_3, atI_4, atI_5, atI_6, atI_7, keep_sh, keep_l, noL_i, noL_b, noL_s, noL_n, noL_t, noL_l, noLs_n, noLs_c, isNil_nil, out_rt, out_nx, ↓EE_var, varC_sh, ↓EE_cst, ↓EE_int, ↓EE_bl, ↓EE_non, ↓EE_str, ↓EE_bin, ↓EE_rep, repC_l, ↓EE_neg, negC_i, ↓EE_is, ↓EE_isn, ↓EE_eq, ↓EE_ne, ↓EE_lt, ↓EE_le, ↓EE_gt, ↓EE_ge, ↓EE_inn, ↓EE_ni, ↓EE_chain, ↓EE_and, andC_t, andC_f, ↓EE_or, orC_t, orC_f, ↓EE_not, ↓EE_ite, iteC_t, iteC_f, ↓EE_nil, ↓EE_cons, ↓EE_tup, ↓EE_lst, ↓EE_call, ↓EE_blt, ↓EE_isi, ↓EE_ix, ↓EE_sl, ↓EE_lc, ↓EE_rng, ↓EE_zip, ↓EE_enm, ↓EE_rev, ↓EE_bm, ↓EE_srt, seqR_nx, seqR_rt, seqR_bk, seqR_ct, seqR_no, iffR_t, iffR_f, appC_l, extC_l, putC_l, putX_i, popC_l, insC_l, reto_o, reto_s, unpC_t, rvsC_l, ↓EX, ↓ES_nil, ↓ES_seq, ↓ES_asg, ↓ES_unp, ↓ES_app, ↓ES_ext, ↓ES_put, ↓ES_pop, ↓ES_rvs, ↓ES_ins, ↓ES_ife, ↓ES_ret, ↓ES_reto, ↓ES_retn, ↓ES_for, ↓ES_brk, ↓ES_cnt, ↓ES_drp, forF_, shareAll_n, shareAll_c, shareAt_, shC_o, shC_s, shC_n, shC_x, memN_n, memN_c, after_, flatC_o, flatC_s, flat_i, flat_b, flat_s, flat_n, flat_l, flat_t, noLs_ints, noLs_rows, noLs_fi, q_set0, q_sets, q_get0, q_gets, q_getn, q_mapc, q_mapn, q_appc, q_appn, q_reps, q_rep0, q_bb, q_bs, q_bn, q_ms, q_mn, Nat.reduceAdd, Nat.reduceSub, q_lc, q_ln, q_pure, Bool.false_eq_true, q_ift, q_iff, q_ifb, q_ifc, ite_self, reduceCtorEq, Bool.and_true, Bool.true_and, Bool.and_false, Bool.false_and, Bool.and_self, Bool.not_true, Bool.not_false, CE.isNil, Nat.reduceEqDiff, and_self, decide_true, decide_false, atI_nat, oN_get (show j < (newM n o).length by rw [hnl]; exact List.mem_range.mp hj), at0_get (show oN (newM n o) j < f.length by omega), h]
    have ht := table_g (C := C) (k := k) hp (o := newM n o) (f := (List.range n).map fun j => invM p (at0 f (oN (newM n o) j))) (n := n) hnl (by simp) (fun x hx => by
      obtain ⟨j, hj, rfl⟩ := List.mem_map.mp hx
      obtain ⟨m1, m2⟩ := new_at ho (List.mem_range.mp hj)
      have h1 := he _ (at0_mem (k := oN (newM n o) j) (by omega))
      have h2 : at0 f (oN (newM n o) j) ≠ 0 := fun e => h0 ⟨_, m1, e⟩
      exact (invM_mul hp (by omega) h1.2).2) hn
    have hol := ho.len
    simp only [c__law_back, runD, getD_sh, getD_ow, getB_b, getL_t, d_sh, d_ow, getO_t, getO_f, bindT_nm, bindT_tp, setAll_nil, setAll_cons, hide_nil, hide_cons, items_l, items_t, seq_l, seq_t, zipD2, zipD3, enmD_, rev_l, rev_t, len_l, len_t, len_s, sum_l, all_l, any_l, tup_l, tup_t, lst_l, lst_t, min2_, max2_, int_i, int_b, abs_i, add_i, add_s, add_l, add_t, sub_i, mul_i, div_i, mod_i, pow_i, eq_i, ne_i, lt_i, le_i, gt_i, ge_i, isi_i, isi_ib, isi_b, isi_bi, isi_tt, isi_tn, isi_tl, isi_ll, isi_lt, isNon_n, isNon_i, isNon_t, isNon_l, isDict_i, isDict_b, isDict_t, isDict_l, isDict_n, isDict_s, ix_l, ix_t, sl_l, sl_t, atI_nat, atI_0, atI_1, atI_2, atI_3, atI_4, atI_5, atI_6, atI_7, keep_sh, keep_l, noL_i, noL_b, noL_s, noL_n, noL_t, noL_l, noLs_n, noLs_c, isNil_nil, out_rt, out_nx, ↓EE_var, varC_sh, ↓EE_cst, ↓EE_int, ↓EE_bl, ↓EE_non, ↓EE_str, ↓EE_bin, ↓EE_rep, repC_l, ↓EE_neg, negC_i, ↓EE_is, ↓EE_isn, ↓EE_eq, ↓EE_ne, ↓EE_lt, ↓EE_le, ↓EE_gt, ↓EE_ge, ↓EE_inn, ↓EE_ni, ↓EE_chain, ↓EE_and, andC_t, andC_f, ↓EE_or, orC_t, orC_f, ↓EE_not, ↓EE_ite, iteC_t, iteC_f, ↓EE_nil, ↓EE_cons, ↓EE_tup, ↓EE_lst, ↓EE_call, ↓EE_blt, ↓EE_isi, ↓EE_ix, ↓EE_sl, ↓EE_lc, ↓EE_rng, ↓EE_zip, ↓EE_enm, ↓EE_rev, ↓EE_bm, ↓EE_srt, seqR_nx, seqR_rt, seqR_bk, seqR_ct, seqR_no, iffR_t, iffR_f, appC_l, extC_l, putC_l, putX_i, popC_l, insC_l, reto_o, reto_s, unpC_t, rvsC_l, ↓EX, ↓ES_nil, ↓ES_seq, ↓ES_asg, ↓ES_unp, ↓ES_app, ↓ES_ext, ↓ES_put, ↓ES_pop, ↓ES_rvs, ↓ES_ins, ↓ES_ife, ↓ES_ret, ↓ES_reto, ↓ES_retn, ↓ES_for, ↓ES_brk, ↓ES_cnt, ↓ES_drp, forF_, shareAll_n, shareAll_c, shareAt_, shC_o, shC_s, shC_n, shC_x, memN_n, memN_c, after_, flatC_o, flatC_s, flat_i, flat_b, flat_s, flat_n, flat_l, flat_t, noLs_ints, noLs_rows, noLs_fi, q_set0, q_sets, q_get0, q_gets, q_getn, q_mapc, q_mapn, q_appc, q_appn, q_reps, q_rep0, q_bb, q_bs, q_bn, q_ms, q_mn, Nat.reduceAdd, Nat.reduceSub, q_lc, q_ln, q_pure, Bool.false_eq_true, q_ift, q_iff, q_ifb, q_ifc, ite_self, reduceCtorEq, Bool.and_true, Bool.true_and, Bool.and_false, Bool.false_and, Bool.and_self, Bool.not_true, Bool.not_false, CE.isNil, Nat.reduceEqDiff, and_self, decide_true, decide_false, hin, List.length_map, hol, rng_nat hb, e2, e1, ht]

theorem lawsolved_g {p : Int} (hp : P4 p) {n : Nat} {o : List Nat} {f load : List Int} (ho : Pm n o) (hf : f.length = n) (he : Ent p f) (hl : load.length = n) (hle : Ent p load) : GG tab C (k + 2) 1009 [.int p, encNs o, encL f, encL load] = some (match lsGo p o f load.zipIdx (List.replicate n 0) with
      | some x => .ow (encL x)
      | none => .sh .none) := by
  rw [gg (show tab 1009 = some c__law_solved from rfl)]
  have e2 : ∀ c0 c1 c2 c3 c4 c6, lcGo (lcT (GG tab C (k + 1)) C [5] (.nm 5) .nil c__law_solved_e2 [c0, c1, c2, c3, c4, .no, c6]) (load.map .int) = some ((List.replicate n 0).map .int) := fun c0 c1 c2 c3 c4 c6 => by
    have : (List.replicate n (0 : Int)).map PyData.int = load.map fun _ => .int 0 := by
      refine List.ext_getElem (by simp [hl]) fun i h1 h2 => by simp
    rw [this]
    refine lcGo_map fun j hj => ?_
    simp only [lcF_all, c__law_solved_e2, runD, getD_sh, getD_ow, getB_b, getL_t, d_sh, d_ow, getO_t, getO_f, bindT_nm, bindT_tp, setAll_nil, setAll_cons, hide_nil, hide_cons, items_l, items_t, seq_l, seq_t, zipD2, zipD3, enmD_, rev_l, rev_t, len_l, len_t, len_s, sum_l, all_l, any_l, tup_l, tup_t, lst_l, lst_t, min2_, max2_, int_i, int_b, abs_i, add_i, add_s, add_l, add_t, sub_i, mul_i, div_i, mod_i, pow_i, eq_i, ne_i, lt_i, le_i, gt_i, ge_i, isi_i, isi_ib, isi_b, isi_bi, isi_tt, isi_tn, isi_tl, isi_ll, isi_lt, isNon_n, isNon_i, isNon_t, isNon_l, isDict_i, isDict_b, isDict_t, isDict_l, isDict_n, isDict_s, ix_l, ix_t, sl_l, sl_t, atI_nat, atI_0, atI_1, atI_2, atI_3, atI_4, atI_5, atI_6, atI_7, keep_sh, keep_l, noL_i, noL_b, noL_s, noL_n, noL_t, noL_l, noLs_n, noLs_c, isNil_nil, out_rt, out_nx, ↓EE_var, varC_sh, ↓EE_cst, ↓EE_int, ↓EE_bl, ↓EE_non, ↓EE_str, ↓EE_bin, ↓EE_rep, repC_l, ↓EE_neg, negC_i, ↓EE_is, ↓EE_isn, ↓EE_eq, ↓EE_ne, ↓EE_lt, ↓EE_le, ↓EE_gt, ↓EE_ge, ↓EE_inn, ↓EE_ni, ↓EE_chain, ↓EE_and, andC_t, andC_f, ↓EE_or, orC_t, orC_f, ↓EE_not, ↓EE_ite, iteC_t, iteC_f, ↓EE_nil, ↓EE_cons, ↓EE_tup, ↓EE_lst, ↓EE_call, ↓EE_blt, ↓EE_isi, ↓EE_ix, ↓EE_sl, ↓EE_lc, ↓EE_rng, ↓EE_zip, ↓EE_enm, ↓EE_rev, ↓EE_bm, ↓EE_srt, seqR_nx, seqR_rt, seqR_bk, seqR_ct, seqR_no, iffR_t, iffR_f, appC_l, extC_l, putC_l, putX_i, popC_l, insC_l, reto_o, reto_s, unpC_t, rvsC_l, ↓EX, ↓ES_nil, ↓ES_seq, ↓ES_asg, ↓ES_unp, ↓ES_app, ↓ES_ext, ↓ES_put, ↓ES_pop, ↓ES_rvs, ↓ES_ins, ↓ES_ife, ↓ES_ret, ↓ES_reto, ↓ES_retn, ↓ES_for, ↓ES_brk, ↓ES_cnt, ↓ES_drp, forF_, shareAll_n, shareAll_c, shareAt_, shC_o, shC_s, shC_n, shC_x, memN_n, memN_c, after_, flatC_o, flatC_s, flat_i, flat_b, flat_s, flat_n, flat_l, flat_t, noLs_ints, noLs_rows, noLs_fi, q_set0, q_sets, q_get0, q_gets, q_getn, q_mapc, q_mapn, q_appc, q_appn, q_reps, q_rep0, q_bb, q_bs, q_bn, q_ms, q_mn, Nat.reduceAdd, Nat.reduceSub, q_lc, q_ln, q_pure, Bool.false_eq_true, q_ift, q_iff, q_ifb, q_ifc, ite_self, reduceCtorEq, Bool.and_true, Bool.true_and, Bool.and_false, Bool.false_and, Bool.and_self, Bool.not_true, Bool.not_false, CE.isNil, Nat.reduceEqDiff, and_self, decide_true, decide_false]
  have loop : ∀ (l : List Int) (s : Nat) (x : List Int) (c5 c6 : Cell), Ent p l → s + l.length ≤ n → x.length = n →
      ((lsGo p o f (l.zipIdx s) x = none ∧ forGo (forF (GG tab C (k + 1)) C (.tp [6, 5]) c__law_solved_b1) ((l.zipIdx s).map fun q => PyData.tuple [.int (q.2 : Nat), .int q.1]) [.sh (.int p), .sh (encNs o), .sh (encL f), .sh (encL load), .ow (encL x), c5, c6] = some (.rt (.sh .none))) ∨
      (∃ y c5' c6', lsGo p o f (l.zipIdx s) x = some y ∧ forGo (forF (GG tab C (k + 1)) C (.tp [6, 5]) c__law_solved_b1) ((l.zipIdx s).map fun q => PyData.tuple [.int (q.2 : Nat), .int q.1]) [.sh (.int p), .sh (encNs o), .sh (encL f), .sh (encL load), .ow (encL x), c5, c6] = some (.nx [.sh (.int p), .sh (encNs o), .sh (encL f), .sh (encL load), .ow (encL y), c5', c6']))) := fun l => by
    induction l with
    | nil => intro s x c5 c6 _ _ _; exact .inr ⟨x, c5, c6, rfl, rfl⟩
    | cons y l ih =>
      intro s x c5 c6 hle hs hx
      rw [List.length_cons] at hs
      have hof := ho.len
      have hlt := ho.lt s (by omega)
      have hfs := he _ (at0_mem (k := s) (by omega))
      have hy := hle y (by simp)
      have hy2 := hle.sm hp y (by simp)
      have hat := at0_get (row := f) (k := s) (by omega)
      have hoa := oN_get (o := o) (i := s) (by omega)
      rw [List.zipIdx_cons, List.map_cons]
      unfold lsGo
      simp only
      by_cases h1 : at0 f s = 0 ∧ y ≠ 0
      · rw [if_pos h1]
        refine .inl ⟨rfl, forGo_r ?_⟩
        obtain ⟨h1, h2⟩ := h1
        simp only [c__law_solved_b1, runD, getD_sh, getD_ow, getB_b, getL_t, d_sh, d_ow, getO_t, getO_f, bindT_nm, bindT_tp, setAll_nil, setAll_cons, hide_nil, hide_cons, items_l, items_t, seq_l, seq_t, zipD2, zipD3, enmD_, rev_l, rev_t, len_l, len_t, len_s, sum_l, all_l, any_l, tup_l, tup_t, lst_l, lst_t, min2_, max2_, int_i, int_b, abs_i, add_i, add_s, add_l, add_t, sub_i, mul_i, div_i, mod_i, pow_i, eq_i, ne_i, lt_i, le_i, gt_i, ge_i, isi_i, isi_ib, isi_b, isi_bi, isi_tt, isi_tn, isi_tl, isi_ll, isi_lt, isNon_n, isNon_i, isNon_t, isNon_l, isDict_i, isDict_b, isDict_t, isDict_l, isDict_n, isDict_s, ix_l, ix_t, sl_l, sl_t, atI_nat, atI_0, atI_1, atI_2, atI_3, atI_4, atI_5, atI_6, atI_7, keep_sh, keep_l, noL_i, noL_b, noL_s, noL_n, noL_t, noL_l, noLs_n, noLs_c, isNil_nil, out_rt, out_nx, ↓EE_var, varC_sh, ↓EE_cst, ↓EE_int, ↓EE_bl, ↓EE_non, ↓EE_str, ↓EE_bin, ↓EE_rep, repC_l, ↓EE_neg, negC_i, ↓EE_is, ↓EE_isn, ↓EE_eq, ↓EE_ne, ↓EE_lt, ↓EE_le, ↓EE_gt, ↓EE_ge, ↓EE_inn, ↓EE_ni, ↓EE_chain, ↓EE_and, andC_t, andC_f, ↓EE_or, orC_t, orC_f, ↓EE_not, ↓EE_ite, iteC_t, iteC_f, ↓EE_nil, ↓EE_cons, ↓EE_tup, ↓EE_lst, ↓EE_call, ↓EE_blt, ↓EE_isi, ↓EE_ix, ↓EE_sl, ↓EE_lc, ↓EE_rng, ↓EE_zip, ↓EE_enm, ↓EE_rev, ↓EE_bm, ↓EE_srt, seqR_nx, seqR_rt, seqR_bk, seqR_ct, seqR_no, iffR_t, iffR_f, appC_l, extC_l, putC_l, putX_i, popC_l, insC_l, reto_o, reto_s, unpC_t, rvsC_l, ↓EX, ↓ES_nil, ↓ES_seq, ↓ES_asg, ↓ES_unp, ↓ES_app, ↓ES_ext, ↓ES_put, ↓ES_pop, ↓ES_rvs, ↓ES_ins, ↓ES_ife, ↓ES_ret, ↓ES_reto, ↓ES_retn, ↓ES_for, ↓ES_brk, ↓ES_cnt, ↓ES_drp, forF_, shareAll_n, shareAll_c, shareAt_, shC_o, shC_s, shC_n, shC_x, memN_n, memN_c, after_, flatC_o, flatC_s, flat_i, flat_b, flat_s, flat_n, flat_l, flat_t, noLs_ints, noLs_rows, noLs_fi, q_set0, q_sets, q_get0, q_gets, q_getn, q_mapc, q_mapn, q_appc, q_appn, q_reps, q_rep0, q_bb, q_bs, q_bn, q_ms, q_mn, Nat.reduceAdd, Nat.reduceSub, q_lc, q_ln, q_pure, Bool.false_eq_true, q_ift, q_iff, q_ifb, q_ifc, ite_self, reduceCtorEq, Bool.and_true, Bool.true_and, Bool.and_false, Bool.false_and, Bool.and_self, Bool.not_true, Bool.not_false, CE.isNil, Nat.reduceEqDiff, and_self, decide_true, decide_false, atI_nat, hat, h1, h2, decide_true, decide_false]
      · rw [if_neg h1]
        by_cases h2 : at0 f s = 0
        · have hy0 : y = 0 := Classical.byContradiction fun h => h1 ⟨h2, h⟩
          rw [if_neg (fun h => h h2)]
          have st : forF (GG tab C (k + 1)) C (.tp [6, 5]) c__law_solved_b1 (.tuple [.int (s : Nat), .int y]) [.sh (.int p), .sh (encNs o), .sh (encL f), .sh (encL load), .ow (encL x), c5, c6] = some (.nx [.sh (.int p), .sh (encNs o), .sh (encL f), .sh (encL load), .ow (encL x), .sh (.int y), .sh (.int (s : Nat))]) := by
            simp only [c__law_solved_b1, runD, getD_sh, getD_ow, getB_b, getL_t, d_sh, d_ow, getO_t, getO_f, bindT_nm, bindT_tp, setAll_nil, setAll_cons, hide_nil, hide_cons, items_l, items_t, seq_l, seq_t, zipD2, zipD3, enmD_, rev_l, rev_t, len_l, len_t, len_s, sum_l, all_l, any_l, tup_l, tup_t, lst_l, lst_t, min2_, max2_, int_i, int_b, abs_i, add_i, add_s, add_l, add_t, sub_i, mul_i, div_i, mod_i, pow_i, eq_i, ne_i, lt_i, le_i, gt_i, ge_i, isi_i, isi_ib, isi_b, isi_bi, isi_tt, isi_tn, isi_tl, isi_ll, isi_lt, isNon_n, isNon_i, isNon_t, isNon_l, isDict_i, isDict_b, isDict_t, isDict_l, isDict_n, isDict_s, ix_l, ix_t, sl_l, sl_t, atI_nat, atI_0, atI_1, atI_2, atI_3, atI_4, atI_5, atI_6, atI_7, keep_sh, keep_l, noL_i, noL_b, noL_s, noL_n, noL_t, noL_l, noLs_n, noLs_c, isNil_nil, out_rt, out_nx, ↓EE_var, varC_sh, ↓EE_cst, ↓EE_int, ↓EE_bl, ↓EE_non, ↓EE_str, ↓EE_bin, ↓EE_rep, repC_l, ↓EE_neg, negC_i, ↓EE_is, ↓EE_isn, ↓EE_eq, ↓EE_ne, ↓EE_lt, ↓EE_le, ↓EE_gt, ↓EE_ge, ↓EE_inn, ↓EE_ni, ↓EE_chain, ↓EE_and, andC_t, andC_f, ↓EE_or, orC_t, orC_f, ↓EE_not, ↓EE_ite, iteC_t, iteC_f, ↓EE_nil, ↓EE_cons, ↓EE_tup, ↓EE_lst, ↓EE_call, ↓EE_blt, ↓EE_isi, ↓EE_ix, ↓EE_sl, ↓EE_lc, ↓EE_rng, ↓EE_zip, ↓EE_enm, ↓EE_rev, ↓EE_bm, ↓EE_srt, seqR_nx, seqR_rt, seqR_bk, seqR_ct, seqR_no, iffR_t, iffR_f, appC_l, extC_l, putC_l, putX_i, popC_l, insC_l, reto_o, reto_s, unpC_t, rvsC_l, ↓EX, ↓ES_nil, ↓ES_seq, ↓ES_asg, ↓ES_unp, ↓ES_app, ↓ES_ext, ↓ES_put, ↓ES_pop, ↓ES_rvs, ↓ES_ins, ↓ES_ife, ↓ES_ret, ↓ES_reto, ↓ES_retn, ↓ES_for, ↓ES_brk, ↓ES_cnt, ↓ES_drp, forF_, shareAll_n, shareAll_c, shareAt_, shC_o, shC_s, shC_n, shC_x, memN_n, memN_c, after_, flatC_o, flatC_s, flat_i, flat_b, flat_s, flat_n, flat_l, flat_t, noLs_ints, noLs_rows, noLs_fi, q_set0, q_sets, q_get0, q_gets, q_getn, q_mapc, q_mapn, q_appc, q_appn, q_reps, q_rep0, q_bb, q_bs, q_bn, q_ms, q_mn, Nat.reduceAdd, Nat.reduceSub, q_lc, q_ln, q_pure, Bool.false_eq_true, q_ift, q_iff, q_ifb, q_ifc, ite_self, reduceCtorEq, Bool.and_true, Bool.true_and, Bool.and_false, Bool.false_and, Bool.and_self, Bool.not_true, Bool.not_false, CE.isNil, Nat.reduceEqDiff, and_self, decide_true, decide_false, atI_nat, hat, h2, hy0, decide_true]
          rw [forGo_c st]
          exact ih (s + 1) x _ _ (fun z hz => hle z (by simp [hz])) (by omega) hx
        · rw [if_pos h2]
          have hov := over_g (C := C) (k := k) hp (x := at0 f s) (by omega) hfs.2
          have hm : mulOk y (invM p (at0 f s)) = true := mulOk_l hy2
          have hix : ixN x.length (oN o s : Int) = some (oN o s) := ixN_nat (by omega)
          have st : forF (GG tab C (k + 1)) C (.tp [6, 5]) c__law_solved_b1 (.tuple [.int (s : Nat), .int y]) [.sh (.int p), .sh (encNs o), .sh (encL f), .sh (encL load), .ow (encL x), c5, c6] = some (.nx [.sh (.int p), .sh (encNs o), .sh (encL f), .sh (encL load), .ow (encL (x.set (oN o s) (y * invM p (at0 f s) % p))), .sh (.int y), .sh (.int (s : Nat))]) := by
            simp only [c__law_solved_b1, runD, getD_sh, getD_ow, getB_b, getL_t, d_sh, d_ow, getO_t, getO_f, bindT_nm, bindT_tp, setAll_nil, setAll_cons, hide_nil, hide_cons, items_l, items_t, seq_l, seq_t, zipD2, zipD3, enmD_, rev_l, rev_t, len_l, len_t, len_s, sum_l, all_l, any_l, tup_l, tup_t, lst_l, lst_t, min2_, max2_, int_i, int_b, abs_i, add_i, add_s, add_l, add_t, sub_i, mul_i, div_i, mod_i, pow_i, eq_i, ne_i, lt_i, le_i, gt_i, ge_i, isi_i, isi_ib, isi_b, isi_bi, isi_tt, isi_tn, isi_tl, isi_ll, isi_lt, isNon_n, isNon_i, isNon_t, isNon_l, isDict_i, isDict_b, isDict_t, isDict_l, isDict_n, isDict_s, ix_l, ix_t, sl_l, sl_t, atI_nat, atI_0, atI_1, atI_2, atI_3, atI_4, atI_5, atI_6, atI_7, keep_sh, keep_l, noL_i, noL_b, noL_s, noL_n, noL_t, noL_l, noLs_n, noLs_c, isNil_nil, out_rt, out_nx, ↓EE_var, varC_sh, ↓EE_cst, ↓EE_int, ↓EE_bl, ↓EE_non, ↓EE_str, ↓EE_bin, ↓EE_rep, repC_l, ↓EE_neg, negC_i, ↓EE_is, ↓EE_isn, ↓EE_eq, ↓EE_ne, ↓EE_lt, ↓EE_le, ↓EE_gt, ↓EE_ge, ↓EE_inn, ↓EE_ni, ↓EE_chain, ↓EE_and, andC_t, andC_f, ↓EE_or, orC_t, orC_f, ↓EE_not, ↓EE_ite, iteC_t, iteC_f, ↓EE_nil, ↓EE_cons, ↓EE_tup, ↓EE_lst, ↓EE_call, ↓EE_blt, ↓EE_isi, ↓EE_ix, ↓EE_sl, ↓EE_lc, ↓EE_rng, ↓EE_zip, ↓EE_enm, ↓EE_rev, ↓EE_bm, ↓EE_srt, seqR_nx, seqR_rt, seqR_bk, seqR_ct, seqR_no, iffR_t, iffR_f, appC_l, extC_l, putC_l, putX_i, popC_l, insC_l, reto_o, reto_s, unpC_t, rvsC_l, ↓EX, ↓ES_nil, ↓ES_seq, ↓ES_asg, ↓ES_unp, ↓ES_app, ↓ES_ext, ↓ES_put, ↓ES_pop, ↓ES_rvs, ↓ES_ins, ↓ES_ife, ↓ES_ret, ↓ES_reto, ↓ES_retn, ↓ES_for, ↓ES_brk, ↓ES_cnt, ↓ES_drp, forF_, shareAll_n, shareAll_c, shareAt_, shC_o, shC_s, shC_n, shC_x, memN_n, memN_c, after_, flatC_o, flatC_s, flat_i, flat_b, flat_s, flat_n, flat_l, flat_t, noLs_ints, noLs_rows, noLs_fi, q_set0, q_sets, q_get0, q_gets, q_getn, q_mapc, q_mapn, q_appc, q_appn, q_reps, q_rep0, q_bb, q_bs, q_bn, q_ms, q_mn, Nat.reduceAdd, Nat.reduceSub, q_lc, q_ln, q_pure, Bool.false_eq_true, q_ift, q_iff, q_ifb, q_ifc, ite_self, reduceCtorEq, Bool.and_true, Bool.true_and, Bool.and_false, Bool.false_and, Bool.and_self, Bool.not_true, Bool.not_false, CE.isNil, Nat.reduceEqDiff, and_self, decide_true, decide_false, atI_nat, hat, hoa, h2, decide_false, hov, hm, hp.pos, List.length_map, hix, ← List.map_set]
          rw [forGo_c st]
          exact ih (s + 1) _ _ _ (fun z hz => hle z (by simp [hz])) (by omega) (by rw [List.length_set]; exact hx)
  rcases loop load 0 (List.replicate n 0) .no .no hle (by omega) (by simp) with ⟨e4, e5⟩ | ⟨x, c5', c6', e4, e5⟩
  · rw [e4]
    simp only [c__law_solved, runD, getD_sh, getD_ow, getB_b, getL_t, d_sh, d_ow, getO_t, getO_f, bindT_nm, bindT_tp, setAll_nil, setAll_cons, hide_nil, hide_cons, items_l, items_t, seq_l, seq_t, zipD2, zipD3, enmD_, rev_l, rev_t, len_l, len_t, len_s, sum_l, all_l, any_l, tup_l, tup_t, lst_l, lst_t, min2_, max2_, int_i, int_b, abs_i, add_i, add_s, add_l, add_t, sub_i, mul_i, div_i, mod_i, pow_i, eq_i, ne_i, lt_i, le_i, gt_i, ge_i, isi_i, isi_ib, isi_b, isi_bi, isi_tt, isi_tn, isi_tl, isi_ll, isi_lt, isNon_n, isNon_i, isNon_t, isNon_l, isDict_i, isDict_b, isDict_t, isDict_l, isDict_n, isDict_s, ix_l, ix_t, sl_l, sl_t, atI_nat, atI_0, atI_1, atI_2, atI_3, atI_4, atI_5, atI_6, atI_7, keep_sh, keep_l, noL_i, noL_b, noL_s, noL_n, noL_t, noL_l, noLs_n, noLs_c, isNil_nil, out_rt, out_nx, ↓EE_var, varC_sh, ↓EE_cst, ↓EE_int, ↓EE_bl, ↓EE_non, ↓EE_str, ↓EE_bin, ↓EE_rep, repC_l, ↓EE_neg, negC_i, ↓EE_is, ↓EE_isn, ↓EE_eq, ↓EE_ne, ↓EE_lt, ↓EE_le, ↓EE_gt, ↓EE_ge, ↓EE_inn, ↓EE_ni, ↓EE_chain, ↓EE_and, andC_t, andC_f, ↓EE_or, orC_t, orC_f, ↓EE_not, ↓EE_ite, iteC_t, iteC_f, ↓EE_nil, ↓EE_cons, ↓EE_tup, ↓EE_lst, ↓EE_call, ↓EE_blt, ↓EE_isi, ↓EE_ix, ↓EE_sl, ↓EE_lc, ↓EE_rng, ↓EE_zip, ↓EE_enm, ↓EE_rev, ↓EE_bm, ↓EE_srt, seqR_nx, seqR_rt, seqR_bk, seqR_ct, seqR_no, iffR_t, iffR_f, appC_l, extC_l, putC_l, putX_i, popC_l, insC_l, reto_o, reto_s, unpC_t, rvsC_l, ↓EX, ↓ES_nil, ↓ES_seq, ↓ES_asg, ↓ES_unp, ↓ES_app, ↓ES_ext, ↓ES_put, ↓ES_pop, ↓ES_rvs, ↓ES_ins, ↓ES_ife, ↓ES_ret, ↓ES_reto, ↓ES_retn, ↓ES_for, ↓ES_brk, ↓ES_cnt, ↓ES_drp, forF_, shareAll_n, shareAll_c, shareAt_, shC_o, shC_s, shC_n, shC_x, memN_n, memN_c, after_, flatC_o, flatC_s, flat_i, flat_b, flat_s, flat_n, flat_l, flat_t, noLs_ints, noLs_rows, noLs_fi, q_set0, q_sets, q_get0, q_gets, q_getn, q_mapc, q_mapn, q_appc, q_appn, q_reps, q_rep0, q_bb, q_bs, q_bn, q_ms, q_mn, Nat.reduceAdd, Nat.reduceSub, q_lc, q_ln, q_pure, Bool.false_eq_true, q_ift, q_iff, q_ifb, q_ifc, ite_self, reduceCtorEq, Bool.and_true, Bool.true_and, Bool.and_false, Bool.false_and, Bool.and_self, Bool.not_true, Bool.not_false, CE.isNil, Nat.reduceEqDiff, and_self, decide_true, decide_false, e2, enmFrom_map, e5]
  · rw [e4]
    simp only [c__law_solved, runD, getD_sh, getD_ow, getB_b, getL_t, d_sh, d_ow, getO_t, getO_f, bindT_nm, bindT_tp, setAll_nil, setAll_cons, hide_nil, hide_cons, items_l, items_t, seq_l, seq_t, zipD2, zipD3, enmD_, rev_l, rev_t, len_l, len_t, len_s, sum_l, all_l, any_l, tup_l, tup_t, lst_l, lst_t, min2_, max2_, int_i, int_b, abs_i, add_i, add_s, add_l, add_t, sub_i, mul_i, div_i, mod_i, pow_i, eq_i, ne_i, lt_i, le_i, gt_i, ge_i, isi_i, isi_ib, isi_b, isi_bi, isi_tt, isi_tn, isi_tl, isi_ll, isi_lt, isNon_n, isNon_i, isNon_t, isNon_l, isDict_i, isDict_b, isDict_t, isDict_l, isDict_n, isDict_s, ix_l, ix_t, sl_l, sl_t, atI_nat, atI_0, atI_1, atI_2, atI_3, atI_4, atI_5, atI_6, atI_7, keep_sh, keep_l, noL_i, noL_b, noL_s, noL_n, noL_t, noL_l, noLs_n, noLs_c, isNil_nil, out_rt, out_nx, ↓EE_var, varC_sh, ↓EE_cst, ↓EE_int, ↓EE_bl, ↓EE_non, ↓EE_str, ↓EE_bin, ↓EE_rep, repC_l, ↓EE_neg, negC_i, ↓EE_is, ↓EE_isn, ↓EE_eq, ↓EE_ne, ↓EE_lt, ↓EE_le, ↓EE_gt, ↓EE_ge, ↓EE_inn, ↓EE_ni, ↓EE_chain, ↓EE_and, andC_t, andC_f, ↓EE_or, orC_t, orC_f, ↓EE_not, ↓EE_ite, iteC_t, iteC_f, ↓EE_nil, ↓EE_cons, ↓EE_tup, ↓EE_lst, ↓EE_call, ↓EE_blt, ↓EE_isi, ↓EE_ix, ↓EE_sl, ↓EE_lc, ↓EE_rng, ↓EE_zip, ↓EE_enm, ↓EE_rev, ↓EE_bm, ↓EE_srt, seqR_nx, seqR_rt, seqR_bk, seqR_ct, seqR_no, iffR_t, iffR_f, appC_l, extC_l, putC_l, putX_i, popC_l, insC_l, reto_o, reto_s, unpC_t, rvsC_l, ↓EX, ↓ES_nil, ↓ES_seq, ↓ES_asg, ↓ES_unp, ↓ES_app, ↓ES_ext, ↓ES_put, ↓ES_pop, ↓ES_rvs, ↓ES_ins, ↓ES_ife, ↓ES_ret, ↓ES_reto, ↓ES_retn, ↓ES_for, ↓ES_brk, ↓ES_cnt, ↓ES_drp, forF_, shareAll_n, shareAll_c, shareAt_, shC_o, shC_s, shC_n, shC_x, memN_n, memN_c, after_, flatC_o, flatC_s, flat_i, flat_b, flat_s, flat_n, flat_l, flat_t, noLs_ints, noLs_rows, noLs_fi, q_set0, q_sets, q_get0, q_gets, q_getn, q_mapc, q_mapn, q_appc, q_appn, q_reps, q_rep0, q_bb, q_bs, q_bn, q_ms, q_mn, Nat.reduceAdd, Nat.reduceSub, q_lc, q_ln, q_pure, Bool.false_eq_true, q_ift, q_iff, q_ifb, q_ifc, ite_self, reduceCtorEq, Bool.and_true, Bool.true_and, Bool.and_false, Bool.false_and, Bool.and_self, Bool.not_true, Bool.not_false, CE.isNil, Nat.reduceEqDiff, and_self, decide_true, decide_false, e2, enmFrom_map, e5]
/-! sorted -/
def insN (x : Nat) : List Nat → List Nat
  | [] => [x]
  | y :: r => if x ≤ y then x :: y :: r else y :: insN x r
def sortN : List Nat → List Nat
  | [] => []
  | x :: r => insN x (sortN r)
theorem insI_nat (x : Nat) : ∀ l : List Nat, insI (x : Int) (l.map fun n => ((n : Nat) : Int)) = (insN x l).map fun n => ((n : Nat) : Int)
  | [] => rfl
  | y :: r => by
    rw [List.map_cons]
    unfold insI insN
    by_cases h : x ≤ y
    · rw [if_pos h, if_pos (by omega)]; rfl
    · rw [if_neg h, if_neg (by omega), List.map_cons, insI_nat x r]
theorem sortI_nat : ∀ l : List Nat, sortI (l.map fun n => ((n : Nat) : Int)) = (sortN l).map fun n => ((n : Nat) : Int)
  | [] => rfl
  | x :: r => by
    rw [List.map_cons]
    unfold sortI sortN
    rw [sortI_nat r, insI_nat]
theorem srt_nats (l : List Nat) : srtD (encNs l) = some (.ow (encNs (sortN l))) := by
  show (match intsOf (l.map fun n => PyData.int (n : Nat)) with
    | some ns => some (Cell.ow (.list ((sortI ns).map .int)))
    | none => _) = _
  rw [intsOf_f (fun n : Nat => (n : Int)) l]
  simp only [sortI_nat, List.map_map]
  rfl
theorem mem_insN {x z : Nat} : ∀ {l : List Nat}, z ∈ insN x l ↔ z = x ∨ z ∈ l
  | [] => by simp [insN]
  | y :: r => by
    unfold insN
    split
    · simp
    · rw [List.mem_cons, mem_insN, List.mem_cons]
      constructor
      · rintro (h | h | h) <;> simp [h]
      · rintro (h | h | h) <;> simp [h]
theorem mem_sortN {z : Nat} : ∀ {l : List Nat}, z ∈ sortN l ↔ z ∈ l
  | [] => by simp [sortN]
  | x :: r => by unfold sortN; rw [mem_insN, mem_sortN, List.mem_cons]
theorem insN_lt {x : Nat} : ∀ {l : List Nat}, l.Pairwise (· < ·) → x ∉ l → (insN x l).Pairwise (· < ·)
  | [], _, _ => by simp [insN]
  | y :: r, h, hx => by
    rw [List.pairwise_cons] at h
    unfold insN
    split
    · rename_i hle
      refine List.pairwise_cons.mpr ⟨fun z hz => ?_, List.pairwise_cons.mpr h⟩
      have hne : x ≠ y := fun e => hx (by simp [e])
      rcases List.mem_cons.mp hz with rfl | hz
      · omega
      · have := h.1 z hz; omega
    · rename_i hle
      refine List.pairwise_cons.mpr ⟨fun z hz => ?_, insN_lt h.2 fun hm => hx (by simp [hm])⟩
      rcases mem_insN.mp hz with rfl | hz
      · omega
      · exact h.1 z hz
theorem sortN_lt : ∀ {l : List Nat}, l.Nodup → (sortN l).Pairwise (· < ·)
  | [], _ => by simp [sortN]
  | x :: r, h => by
    rw [List.nodup_cons] at h
    unfold sortN
    exact insN_lt (sortN_lt h.2) fun hm => h.1 (mem_sortN.mp hm)
theorem units_g {n : Nat} {pl : List Nat} (hn : n ≤ 1000) : GG tab C (k + 1) 1010 [.int (n : Nat), encNs pl] = some (.ow (encB ((sortN pl).map (unitM n)))) := by
  rw [gg (show tab 1010 = some c__law_units from rfl)]
  have hb : n ≤ 100000 := by omega
  have e1 : ∀ (x : Nat) c0 c1, lcGo (lcT (GG tab C k) C [3] (.nm 3) .nil c__law_units_e1 [c0, c1, .sh (.int (x : Nat)), .no]) ((List.range n).map fun i => PyData.int (i : Nat)) = some ((unitM n x).map .int) := fun x c0 c1 => by
    rw [← unit_f]
    refine lcGo_map fun j hj => ?_
    simp only [lcF_all, c__law_units_e1, runD, getD_sh, getD_ow, getB_b, getL_t, d_sh, d_ow, getO_t, getO_f, bindT_nm, bindT_tp, setAll_nil, setAll_cons, hide_nil, hide_cons, items_l, items_t, seq_l, seq_t, zipD2, zipD3, enmD_, rev_l, rev_t, len_l, len_t, len_s, sum_l, all_l, any_l, tup_l, tup_t, lst_l, lst_t, min2_, max2_, int_i, int_b, abs_i, add_i, add_s, add_l, add_t, sub_i, mul_i, div_i, mod_i, pow_i, eq_i, ne_i, lt_i, le_i, gt_i, ge_i, isi_i, isi_ib, isi_b, isi_bi, isi_tt, isi_tn, isi_tl, isi_ll, isi_lt, isNon_n, isNon_i, isNon_t, isNon_l, isDict_i, isDict_b, isDict_t, isDict_l, isDict_n, isDict_s, ix_l, ix_t, sl_l, sl_t, atI_nat, atI_0, atI_1, atI_2, atI_3, atI_4, atI_5, atI_6, atI_7, keep_sh, keep_l, noL_i, noL_b, noL_s, noL_n, noL_t, noL_l, noLs_n, noLs_c, isNil_nil, out_rt, out_nx, ↓EE_var, varC_sh, ↓EE_cst, ↓EE_int, ↓EE_bl, ↓EE_non, ↓EE_str, ↓EE_bin, ↓EE_rep, repC_l, ↓EE_neg, negC_i, ↓EE_is, ↓EE_isn, ↓EE_eq, ↓EE_ne, ↓EE_lt, ↓EE_le, ↓EE_gt, ↓EE_ge, ↓EE_inn, ↓EE_ni, ↓EE_chain, ↓EE_and, andC_t, andC_f, ↓EE_or, orC_t, orC_f, ↓EE_not, ↓EE_ite, iteC_t, iteC_f, ↓EE_nil, ↓EE_cons, ↓EE_tup, ↓EE_lst, ↓EE_call, ↓EE_blt, ↓EE_isi, ↓EE_ix, ↓EE_sl, ↓EE_lc, ↓EE_rng, ↓EE_zip, ↓EE_enm, ↓EE_rev, ↓EE_bm, ↓EE_srt, seqR_nx, seqR_rt, seqR_bk, seqR_ct, seqR_no, iffR_t, iffR_f, appC_l, extC_l, putC_l, putX_i, popC_l, insC_l, reto_o, reto_s, unpC_t, rvsC_l, ↓EX, ↓ES_nil, ↓ES_seq, ↓ES_asg, ↓ES_unp, ↓ES_app, ↓ES_ext, ↓ES_put, ↓ES_pop, ↓ES_rvs, ↓ES_ins, ↓ES_ife, ↓ES_ret, ↓ES_reto, ↓ES_retn, ↓ES_for, ↓ES_brk, ↓ES_cnt, ↓ES_drp, forF_, shareAll_n, shareAll_c, shareAt_, shC_o, shC_s, shC_n, shC_x, memN_n, memN_c, after_, flatC_o, flatC_s, flat_i, flat_b, flat_s, flat_n, flat_l, flat_t, noLs_ints, noLs_rows, noLs_fi, q_set0, q_sets, q_get0, q_gets, q_getn, q_mapc, q_mapn, q_appc, q_appn, q_reps, q_rep0, q_bb, q_bs, q_bn, q_ms, q_mn, Nat.reduceAdd, Nat.reduceSub, q_lc, q_ln, q_pure, Bool.false_eq_true, q_ift, q_iff, q_ifb, q_ifc, ite_self, reduceCtorEq, Bool.and_true, Bool.true_and, Bool.and_false, Bool.false_and, Bool.and_self, Bool.not_true, Bool.not_false, CE.isNil, Nat.reduceEqDiff, and_self, decide_true, decide_false]
  have e2 : lcGo (lcT (GG tab C k) C [2] (.nm 2) .nil c__law_units_e2 [.sh (.int (n : Nat)), .sh (encNs pl), .no, .no]) ((sortN pl).map fun n => PyData.int (n : Nat)) = some (((sortN pl).map (unitM n)).map encT) := by
    rw [List.map_map]
    refine lcGo_map fun x hx => ?_
    simp only [lcF_all, c__law_units_e2, runD, getD_sh, getD_ow, getB_b, getL_t, d_sh, d_ow, getO_t, getO_f, bindT_nm, bindT_tp, setAll_nil, setAll_cons, hide_nil, hide_cons, items_l, items_t, seq_l, seq_t, zipD2, zipD3, enmD_, rev_l, rev_t, len_l, len_t, len_s, sum_l, all_l, any_l, tup_l, tup_t, lst_l, lst_t, min2_, max2_, int_i, int_b, abs_i, add_i, add_s, add_l, add_t, sub_i, mul_i, div_i, mod_i, pow_i, eq_i, ne_i, lt_i, le_i, gt_i, ge_i, isi_i, isi_ib, isi_b, isi_bi, isi_tt, isi_tn, isi_tl, isi_ll, isi_lt, isNon_n, isNon_i, isNon_t, isNon_l, isDict_i, isDict_b, isDict_t, isDict_l, isDict_n, isDict_s, ix_l, ix_t, sl_l, sl_t, atI_nat, atI_0, atI_1, atI_2, atI_3, atI_4, atI_5, atI_6, atI_7, keep_sh, keep_l, noL_i, noL_b, noL_s, noL_n, noL_t, noL_l, noLs_n, noLs_c, isNil_nil, out_rt, out_nx, ↓EE_var, varC_sh, ↓EE_cst, ↓EE_int, ↓EE_bl, ↓EE_non, ↓EE_str, ↓EE_bin, ↓EE_rep, repC_l, ↓EE_neg, negC_i, ↓EE_is, ↓EE_isn, ↓EE_eq, ↓EE_ne, ↓EE_lt, ↓EE_le, ↓EE_gt, ↓EE_ge, ↓EE_inn, ↓EE_ni, ↓EE_chain, ↓EE_and, andC_t, andC_f, ↓EE_or, orC_t, orC_f, ↓EE_not, ↓EE_ite, iteC_t, iteC_f, ↓EE_nil, ↓EE_cons, ↓EE_tup, ↓EE_lst, ↓EE_call, ↓EE_blt, ↓EE_isi, ↓EE_ix, ↓EE_sl, ↓EE_lc, ↓EE_rng, ↓EE_zip, ↓EE_enm, ↓EE_rev, ↓EE_bm, ↓EE_srt, seqR_nx, seqR_rt, seqR_bk, seqR_ct, seqR_no, iffR_t, iffR_f, appC_l, extC_l, putC_l, putX_i, popC_l, insC_l, reto_o, reto_s, unpC_t, rvsC_l, ↓EX, ↓ES_nil, ↓ES_seq, ↓ES_asg, ↓ES_unp, ↓ES_app, ↓ES_ext, ↓ES_put, ↓ES_pop, ↓ES_rvs, ↓ES_ins, ↓ES_ife, ↓ES_ret, ↓ES_reto, ↓ES_retn, ↓ES_for, ↓ES_brk, ↓ES_cnt, ↓ES_drp, forF_, shareAll_n, shareAll_c, shareAt_, shC_o, shC_s, shC_n, shC_x, memN_n, memN_c, after_, flatC_o, flatC_s, flat_i, flat_b, flat_s, flat_n, flat_l, flat_t, noLs_ints, noLs_rows, noLs_fi, q_set0, q_sets, q_get0, q_gets, q_getn, q_mapc, q_mapn, q_appc, q_appn, q_reps, q_rep0, q_bb, q_bs, q_bn, q_ms, q_mn, Nat.reduceAdd, Nat.reduceSub, q_lc, q_ln, q_pure, Bool.false_eq_true, q_ift, q_iff, q_ifb, q_ifc, ite_self, reduceCtorEq, Bool.and_true, Bool.true_and, Bool.and_false, Bool.false_and, Bool.and_self, Bool.not_true, Bool.not_false, CE.isNil, Nat.reduceEqDiff, and_self, decide_true, decide_false, rng_nat hb, e1, Function.comp_def]
  have hs := srt_nats pl
  simp only [c__law_units, runD, getD_sh, getD_ow, getB_b, getL_t, d_sh, d_ow, getO_t, getO_f, bindT_nm, bindT_tp, setAll_nil, setAll_cons, hide_nil, hide_cons, items_l, items_t, seq_l, seq_t, zipD2, zipD3, enmD_, rev_l, rev_t, len_l, len_t, len_s, sum_l, all_l, any_l, tup_l, tup_t, lst_l, lst_t, min2_, max2_, int_i, int_b, abs_i, add_i, add_s, add_l, add_t, sub_i, mul_i, div_i, mod_i, pow_i, eq_i, ne_i, lt_i, le_i, gt_i, ge_i, isi_i, isi_ib, isi_b, isi_bi, isi_tt, isi_tn, isi_tl, isi_ll, isi_lt, isNon_n, isNon_i, isNon_t, isNon_l, isDict_i, isDict_b, isDict_t, isDict_l, isDict_n, isDict_s, ix_l, ix_t, sl_l, sl_t, atI_nat, atI_0, atI_1, atI_2, atI_3, atI_4, atI_5, atI_6, atI_7, keep_sh, keep_l, noL_i, noL_b, noL_s, noL_n, noL_t, noL_l, noLs_n, noLs_c, isNil_nil, out_rt, out_nx, ↓EE_var, varC_sh, ↓EE_cst, ↓EE_int, ↓EE_bl, ↓EE_non, ↓EE_str, ↓EE_bin, ↓EE_rep, repC_l, ↓EE_neg, negC_i, ↓EE_is, ↓EE_isn, ↓EE_eq, ↓EE_ne, ↓EE_lt, ↓EE_le, ↓EE_gt, ↓EE_ge, ↓EE_inn, ↓EE_ni, ↓EE_chain, ↓EE_and, andC_t, andC_f, ↓EE_or, orC_t, orC_f, ↓EE_not, ↓EE_ite, iteC_t, iteC_f, ↓EE_nil, ↓EE_cons, ↓EE_tup, ↓EE_lst, ↓EE_call, ↓EE_blt, ↓EE_isi, ↓EE_ix, ↓EE_sl, ↓EE_lc, ↓EE_rng, ↓EE_zip, ↓EE_enm, ↓EE_rev, ↓EE_bm, ↓EE_srt, seqR_nx, seqR_rt, seqR_bk, seqR_ct, seqR_no, iffR_t, iffR_f, appC_l, extC_l, putC_l, putX_i, popC_l, insC_l, reto_o, reto_s, unpC_t, rvsC_l, ↓EX, ↓ES_nil, ↓ES_seq, ↓ES_asg, ↓ES_unp, ↓ES_app, ↓ES_ext, ↓ES_put, ↓ES_pop, ↓ES_rvs, ↓ES_ins, ↓ES_ife, ↓ES_ret, ↓ES_reto, ↓ES_retn, ↓ES_for, ↓ES_brk, ↓ES_cnt, ↓ES_drp, forF_, shareAll_n, shareAll_c, shareAt_, shC_o, shC_s, shC_n, shC_x, memN_n, memN_c, after_, flatC_o, flatC_s, flat_i, flat_b, flat_s, flat_n, flat_l, flat_t, noLs_ints, noLs_rows, noLs_fi, q_set0, q_sets, q_get0, q_gets, q_getn, q_mapc, q_mapn, q_appc, q_appn, q_reps, q_rep0, q_bb, q_bs, q_bn, q_ms, q_mn, Nat.reduceAdd, Nat.reduceSub, q_lc, q_ln, q_pure, Bool.false_eq_true, q_ift, q_iff, q_ifb, q_ifc, ite_self, reduceCtorEq, Bool.and_true, Bool.true_and, Bool.and_false, Bool.false_and, Bool.and_self, Bool.not_true, Bool.not_false, CE.isNil, Nat.reduceEqDiff, and_self, decide_true, decide_false, hs, e2]
theorem no_back_g {p : Int} {n : Nat} {rows : List (List Int)} (hn : 0 < n) : GG tab C (k + 2) 1011 [.int p, .int (n : Nat), .tuple (rows.map encT)] = some (.sh (.bool true)) := by
  rw [gg (show tab 1011 = some c__law_no_back from rfl)]
  have hb1 : ∀ t : D, GG tab C (k + 1) 26 [.int p, .tuple [.int ((n : Int) - 1), .int (n : Nat), t]] = some (.sh .none) := fun t => by
    rw [gg (pt.go 26 _ rfl)]
    have hd : ¬ ((n : Int) - 1 = (n : Int)) := by omega
    simp only [c_back_of, runD, getD_sh, getD_ow, getB_b, getL_t, d_sh, d_ow, getO_t, getO_f, bindT_nm, bindT_tp, setAll_nil, setAll_cons, hide_nil, hide_cons, items_l, items_t, seq_l, seq_t, zipD2, zipD3, enmD_, rev_l, rev_t, len_l, len_t, len_s, sum_l, all_l, any_l, tup_l, tup_t, lst_l, lst_t, min2_, max2_, int_i, int_b, abs_i, add_i, add_s, add_l, add_t, sub_i, mul_i, div_i, mod_i, pow_i, eq_i, ne_i, lt_i, le_i, gt_i, ge_i, isi_i, isi_ib, isi_b, isi_bi, isi_tt, isi_tn, isi_tl, isi_ll, isi_lt, isNon_n, isNon_i, isNon_t, isNon_l, isDict_i, isDict_b, isDict_t, isDict_l, isDict_n, isDict_s, ix_l, ix_t, sl_l, sl_t, atI_nat, atI_0, atI_1, atI_2, atI_3, atI_4, atI_5, atI_6, atI_7, keep_sh, keep_l, noL_i, noL_b, noL_s, noL_n, noL_t, noL_l, noLs_n, noLs_c, isNil_nil, out_rt, out_nx, ↓EE_var, varC_sh, ↓EE_cst, ↓EE_int, ↓EE_bl, ↓EE_non, ↓EE_str, ↓EE_bin, ↓EE_rep, repC_l, ↓EE_neg, negC_i, ↓EE_is, ↓EE_isn, ↓EE_eq, ↓EE_ne, ↓EE_lt, ↓EE_le, ↓EE_gt, ↓EE_ge, ↓EE_inn, ↓EE_ni, ↓EE_chain, ↓EE_and, andC_t, andC_f, ↓EE_or, orC_t, orC_f, ↓EE_not, ↓EE_ite, iteC_t, iteC_f, ↓EE_nil, ↓EE_cons, ↓EE_tup, ↓EE_lst, ↓EE_call, ↓EE_blt, ↓EE_isi, ↓EE_ix, ↓EE_sl, ↓EE_lc, ↓EE_rng, ↓EE_zip, ↓EE_enm, ↓EE_rev, ↓EE_bm, ↓EE_srt, seqR_nx, seqR_rt, seqR_bk, seqR_ct, seqR_no, iffR_t, iffR_f, appC_l, extC_l, putC_l, putX_i, popC_l, insC_l, reto_o, reto_s, unpC_t, rvsC_l, ↓EX, ↓ES_nil, ↓ES_seq, ↓ES_asg, ↓ES_unp, ↓ES_app, ↓ES_ext, ↓ES_put, ↓ES_pop, ↓ES_rvs, ↓ES_ins, ↓ES_ife, ↓ES_ret, ↓ES_reto, ↓ES_retn, ↓ES_for, ↓ES_brk, ↓ES_cnt, ↓ES_drp, forF_, shareAll_n, shareAll_c, shareAt_, shC_o, shC_s, shC_n, shC_x, memN_n, memN_c, after_, flatC_o, flatC_s, flat_i, flat_b, flat_s, flat_n, flat_l, flat_t, noLs_ints, noLs_rows, noLs_fi, q_set0, q_sets, q_get0, q_gets, q_getn, q_mapc, q_mapn, q_appc, q_appn, q_reps, q_rep0, q_bb, q_bs, q_bn, q_ms, q_mn, Nat.reduceAdd, Nat.reduceSub, q_lc, q_ln, q_pure, Bool.false_eq_true, q_ift, q_iff, q_ifb, q_ifc, ite_self, reduceCtorEq, Bool.and_true, Bool.true_and, Bool.and_false, Bool.false_and, Bool.and_self, Bool.not_true, Bool.not_false, CE.isNil, Nat.reduceEqDiff, and_self, decide_true, decide_false, hd]
  have hb2 : ∀ t : D, GG tab C (k + 1) 26 [.int p, .tuple [.int (n : Nat), .int ((n : Int) - 1), t]] = some (.sh .none) := fun t => by
    rw [gg (pt.go 26 _ rfl)]
    have hd : ¬ ((n : Int) = (n : Int) - 1) := by omega
    simp only [c_back_of, runD, getD_sh, getD_ow, getB_b, getL_t, d_sh, d_ow, getO_t, getO_f, bindT_nm, bindT_tp, setAll_nil, setAll_cons, hide_nil, hide_cons, items_l, items_t, seq_l, seq_t, zipD2, zipD3, enmD_, rev_l, rev_t, len_l, len_t, len_s, sum_l, all_l, any_l, tup_l, tup_t, lst_l, lst_t, min2_, max2_, int_i, int_b, abs_i, add_i, add_s, add_l, add_t, sub_i, mul_i, div_i, mod_i, pow_i, eq_i, ne_i, lt_i, le_i, gt_i, ge_i, isi_i, isi_ib, isi_b, isi_bi, isi_tt, isi_tn, isi_tl, isi_ll, isi_lt, isNon_n, isNon_i, isNon_t, isNon_l, isDict_i, isDict_b, isDict_t, isDict_l, isDict_n, isDict_s, ix_l, ix_t, sl_l, sl_t, atI_nat, atI_0, atI_1, atI_2, atI_3, atI_4, atI_5, atI_6, atI_7, keep_sh, keep_l, noL_i, noL_b, noL_s, noL_n, noL_t, noL_l, noLs_n, noLs_c, isNil_nil, out_rt, out_nx, ↓EE_var, varC_sh, ↓EE_cst, ↓EE_int, ↓EE_bl, ↓EE_non, ↓EE_str, ↓EE_bin, ↓EE_rep, repC_l, ↓EE_neg, negC_i, ↓EE_is, ↓EE_isn, ↓EE_eq, ↓EE_ne, ↓EE_lt, ↓EE_le, ↓EE_gt, ↓EE_ge, ↓EE_inn, ↓EE_ni, ↓EE_chain, ↓EE_and, andC_t, andC_f, ↓EE_or, orC_t, orC_f, ↓EE_not, ↓EE_ite, iteC_t, iteC_f, ↓EE_nil, ↓EE_cons, ↓EE_tup, ↓EE_lst, ↓EE_call, ↓EE_blt, ↓EE_isi, ↓EE_ix, ↓EE_sl, ↓EE_lc, ↓EE_rng, ↓EE_zip, ↓EE_enm, ↓EE_rev, ↓EE_bm, ↓EE_srt, seqR_nx, seqR_rt, seqR_bk, seqR_ct, seqR_no, iffR_t, iffR_f, appC_l, extC_l, putC_l, putX_i, popC_l, insC_l, reto_o, reto_s, unpC_t, rvsC_l, ↓EX, ↓ES_nil, ↓ES_seq, ↓ES_asg, ↓ES_unp, ↓ES_app, ↓ES_ext, ↓ES_put, ↓ES_pop, ↓ES_rvs, ↓ES_ins, ↓ES_ife, ↓ES_ret, ↓ES_reto, ↓ES_retn, ↓ES_for, ↓ES_brk, ↓ES_cnt, ↓ES_drp, forF_, shareAll_n, shareAll_c, shareAt_, shC_o, shC_s, shC_n, shC_x, memN_n, memN_c, after_, flatC_o, flatC_s, flat_i, flat_b, flat_s, flat_n, flat_l, flat_t, noLs_ints, noLs_rows, noLs_fi, q_set0, q_sets, q_get0, q_gets, q_getn, q_mapc, q_mapn, q_appc, q_appn, q_reps, q_rep0, q_bb, q_bs, q_bn, q_ms, q_mn, Nat.reduceAdd, Nat.reduceSub, q_lc, q_ln, q_pure, Bool.false_eq_true, q_ift, q_iff, q_ifb, q_ifc, ite_self, reduceCtorEq, Bool.and_true, Bool.true_and, Bool.and_false, Bool.false_and, Bool.and_self, Bool.not_true, Bool.not_false, CE.isNil, Nat.reduceEqDiff, and_self, decide_true, decide_false, hd]
  have e1 : ∀ c0 c1 c2, lcGo (lcT (GG tab C (k + 1)) C [3] (.nm 3) .nil c__law_no_back_e1 [c0, c1, c2, .no]) (rows.map encT) = some (rows.map fun r => .tuple (cutD (r.map .int) (some 1) none)) := fun c0 c1 c2 => by
    refine lcGo_map fun r hr => ?_
    simp only [lcF_all, c__law_no_back_e1, runD, getD_sh, getD_ow, getB_b, getL_t, d_sh, d_ow, getO_t, getO_f, bindT_nm, bindT_tp, setAll_nil, setAll_cons, hide_nil, hide_cons, items_l, items_t, seq_l, seq_t, zipD2, zipD3, enmD_, rev_l, rev_t, len_l, len_t, len_s, sum_l, all_l, any_l, tup_l, tup_t, lst_l, lst_t, min2_, max2_, int_i, int_b, abs_i, add_i, add_s, add_l, add_t, sub_i, mul_i, div_i, mod_i, pow_i, eq_i, ne_i, lt_i, le_i, gt_i, ge_i, isi_i, isi_ib, isi_b, isi_bi, isi_tt, isi_tn, isi_tl, isi_ll, isi_lt, isNon_n, isNon_i, isNon_t, isNon_l, isDict_i, isDict_b, isDict_t, isDict_l, isDict_n, isDict_s, ix_l, ix_t, sl_l, sl_t, atI_nat, atI_0, atI_1, atI_2, atI_3, atI_4, atI_5, atI_6, atI_7, keep_sh, keep_l, noL_i, noL_b, noL_s, noL_n, noL_t, noL_l, noLs_n, noLs_c, isNil_nil, out_rt, out_nx, ↓EE_var, varC_sh, ↓EE_cst, ↓EE_int, ↓EE_bl, ↓EE_non, ↓EE_str, ↓EE_bin, ↓EE_rep, repC_l, ↓EE_neg, negC_i, ↓EE_is, ↓EE_isn, ↓EE_eq, ↓EE_ne, ↓EE_lt, ↓EE_le, ↓EE_gt, ↓EE_ge, ↓EE_inn, ↓EE_ni, ↓EE_chain, ↓EE_and, andC_t, andC_f, ↓EE_or, orC_t, orC_f, ↓EE_not, ↓EE_ite, iteC_t, iteC_f, ↓EE_nil, ↓EE_cons, ↓EE_tup, ↓EE_lst, ↓EE_call, ↓EE_blt, ↓EE_isi, ↓EE_ix, ↓EE_sl, ↓EE_lc, ↓EE_rng, ↓EE_zip, ↓EE_enm, ↓EE_rev, ↓EE_bm, ↓EE_srt, seqR_nx, seqR_rt, seqR_bk, seqR_ct, seqR_no, iffR_t, iffR_f, appC_l, extC_l, putC_l, putX_i, popC_l, insC_l, reto_o, reto_s, unpC_t, rvsC_l, ↓EX, ↓ES_nil, ↓ES_seq, ↓ES_asg, ↓ES_unp, ↓ES_app, ↓ES_ext, ↓ES_put, ↓ES_pop, ↓ES_rvs, ↓ES_ins, ↓ES_ife, ↓ES_ret, ↓ES_reto, ↓ES_retn, ↓ES_for, ↓ES_brk, ↓ES_cnt, ↓ES_drp, forF_, shareAll_n, shareAll_c, shareAt_, shC_o, shC_s, shC_n, shC_x, memN_n, memN_c, after_, flatC_o, flatC_s, flat_i, flat_b, flat_s, flat_n, flat_l, flat_t, noLs_ints, noLs_rows, noLs_fi, q_set0, q_sets, q_get0, q_gets, q_getn, q_mapc, q_mapn, q_appc, q_appn, q_reps, q_rep0, q_bb, q_bs, q_bn, q_ms, q_mn, Nat.reduceAdd, Nat.reduceSub, q_lc, q_ln, q_pure, Bool.false_eq_true, q_ift, q_iff, q_ifb, q_ifc, ite_self, reduceCtorEq, Bool.and_true, Bool.true_and, Bool.and_false, Bool.false_and, Bool.and_self, Bool.not_true, Bool.not_false, CE.isNil, Nat.reduceEqDiff, and_self, decide_true, decide_false]
  simp only [c__law_no_back, runD, getD_sh, getD_ow, getB_b, getL_t, d_sh, d_ow, getO_t, getO_f, bindT_nm, bindT_tp, setAll_nil, setAll_cons, hide_nil, hide_cons, items_l, items_t, seq_l, seq_t, zipD2, zipD3, enmD_, rev_l, rev_t, len_l, len_t, len_s, sum_l, all_l, any_l, tup_l, tup_t, lst_l, lst_t, min2_, max2_, int_i, int_b, abs_i, add_i, add_s, add_l, add_t, sub_i, mul_i, div_i, mod_i, pow_i, eq_i, ne_i, lt_i, le_i, gt_i, ge_i, isi_i, isi_ib, isi_b, isi_bi, isi_tt, isi_tn, isi_tl, isi_ll, isi_lt, isNon_n, isNon_i, isNon_t, isNon_l, isDict_i, isDict_b, isDict_t, isDict_l, isDict_n, isDict_s, ix_l, ix_t, sl_l, sl_t, atI_nat, atI_0, atI_1, atI_2, atI_3, atI_4, atI_5, atI_6, atI_7, keep_sh, keep_l, noL_i, noL_b, noL_s, noL_n, noL_t, noL_l, noLs_n, noLs_c, isNil_nil, out_rt, out_nx, ↓EE_var, varC_sh, ↓EE_cst, ↓EE_int, ↓EE_bl, ↓EE_non, ↓EE_str, ↓EE_bin, ↓EE_rep, repC_l, ↓EE_neg, negC_i, ↓EE_is, ↓EE_isn, ↓EE_eq, ↓EE_ne, ↓EE_lt, ↓EE_le, ↓EE_gt, ↓EE_ge, ↓EE_inn, ↓EE_ni, ↓EE_chain, ↓EE_and, andC_t, andC_f, ↓EE_or, orC_t, orC_f, ↓EE_not, ↓EE_ite, iteC_t, iteC_f, ↓EE_nil, ↓EE_cons, ↓EE_tup, ↓EE_lst, ↓EE_call, ↓EE_blt, ↓EE_isi, ↓EE_ix, ↓EE_sl, ↓EE_lc, ↓EE_rng, ↓EE_zip, ↓EE_enm, ↓EE_rev, ↓EE_bm, ↓EE_srt, seqR_nx, seqR_rt, seqR_bk, seqR_ct, seqR_no, iffR_t, iffR_f, appC_l, extC_l, putC_l, putX_i, popC_l, insC_l, reto_o, reto_s, unpC_t, rvsC_l, ↓EX, ↓ES_nil, ↓ES_seq, ↓ES_asg, ↓ES_unp, ↓ES_app, ↓ES_ext, ↓ES_put, ↓ES_pop, ↓ES_rvs, ↓ES_ins, ↓ES_ife, ↓ES_ret, ↓ES_reto, ↓ES_retn, ↓ES_for, ↓ES_brk, ↓ES_cnt, ↓ES_drp, forF_, shareAll_n, shareAll_c, shareAt_, shC_o, shC_s, shC_n, shC_x, memN_n, memN_c, after_, flatC_o, flatC_s, flat_i, flat_b, flat_s, flat_n, flat_l, flat_t, noLs_ints, noLs_rows, noLs_fi, q_set0, q_sets, q_get0, q_gets, q_getn, q_mapc, q_mapn, q_appc, q_appn, q_reps, q_rep0, q_bb, q_bs, q_bn, q_ms, q_mn, Nat.reduceAdd, Nat.reduceSub, q_lc, q_ln, q_pure, Bool.false_eq_true, q_ift, q_iff, q_ifb, q_ifc, ite_self, reduceCtorEq, Bool.and_true, Bool.true_and, Bool.and_false, Bool.false_and, Bool.and_self, Bool.not_true, Bool.not_false, CE.isNil, Nat.reduceEqDiff, and_self, decide_true, decide_false, hb1, e1, hb2]

theorem sortN_id : ∀ {l : List Nat}, l.Pairwise (· < ·) → sortN l = l
  | [], _ => rfl
  | x :: r, h => by
    rw [List.pairwise_cons] at h
    unfold sortN
    rw [sortN_id h.2]
    cases r with
    | nil => rfl
    | cons y r =>
      unfold insN
      rw [if_pos (Nat.le_of_lt (h.1 y (by simp)))]
def thereM (ns : List Int) (cell : Int) (i : Nat) : Bool := decide (cell / 124 % 3 - 1 < cM ns (63 + i) / 16 % 8)
def facM (ns : List Int) (cell p : Int) (i : Nat) : Int := (if thereM ns cell i = true then 1 else 0) * (1 + cM ns (63 + i) / 16 / 8 % (p - 1))
def facsM (ns : List Int) (cell p : Int) (n : Nat) : List Int := (List.range n).map (facM ns cell p)
def othersM (ns : List Int) (p : Int) (n : Nat) : List Int := (List.range n).map fun i => 1 + cM ns (94 + i) / 16 % (p - 1)
def load0M (ns : List Int) (p : Int) (n : Nat) : List Int := (List.range n).map fun i => cM ns (125 + i) / 16 % p
def load1M (ns : List Int) (p : Int) (n : Nat) (f : List Int) : List Int := (List.range n).map fun i => at0 (load0M ns p n) i * (if decide (at0 f i = 0) = true then 0 else 1)
theorem ent_range {p : Int} {n : Nat} {g : Nat → Int} (h : ∀ i, i < n → 0 ≤ g i ∧ g i < p) : Ent p ((List.range n).map g) := fun x hx => by
  obtain ⟨i, hi, rfl⟩ := List.mem_map.mp hx
  exact h i (List.mem_range.mp hi)
theorem fac_bd {ns : List Int} {cell p : Int} (hp : P4 p) (i : Nat) : 0 ≤ facM ns cell p i ∧ facM ns cell p i < p := by
  unfold facM
  have h := hp.one
  have h1 := Int.emod_nonneg (cM ns (63 + i) / 16 / 8) (b := p - 1) (by omega)
  have h2 := Int.emod_lt_of_pos (cM ns (63 + i) / 16 / 8) (b := p - 1) (by omega)
  split <;> omega
theorem main_ (ns : List Int) (hns : ns.length ≤ 63) : GG tab C (k + 8) 1012 [.list (ns.map .int)] = some (.sh (.bool true)) := by
  rw [gg (show tab 1012 = some c_law from rfl)]
  have hcb := cM_bd ns 0
  have m0 : GG tab C (k + 7) 1000 [scr ns, .int 0] = some (.sh (.int (cM ns 0))) := cell_g (C := C) (k := k + 6) hns (j := 0) (by omega)
  generalize hcell : cM ns 0 = cell at *
  obtain ⟨p, hp, ixp⟩ : ∃ p : Int, P4 p ∧ atI [PyData.int 2, .int 3, .int 5, .int 7] (cell % 4) = some (.int p) := by
    have : cell % 4 = 0 ∨ cell % 4 = 1 ∨ cell % 4 = 2 ∨ cell % 4 = 3 := by omega
    rcases this with e | e | e | e <;> rw [e]
    · exact ⟨2, .inl rfl, rfl⟩
    · exact ⟨3, .inr (.inl rfl), rfl⟩
    · exact ⟨5, .inr (.inr (.inl rfl)), rfl⟩
    · exact ⟨7, .inr (.inr (.inr rfl)), rfl⟩
  obtain ⟨n, hn⟩ : ∃ n : Nat, cell / 4 % 31 = n := ⟨(cell / 4 % 31).toNat, by omega⟩
  have hn30 : n ≤ 30 := by omega
  have hb : n ≤ 100000 := by omega
  have hp0 := hp.pos
  have hp1 := hp.one
  have hpl := hp.lt
  have o1 : GG tab C (k + 7) 1003 [scr ns, .int 1, .int (n : Nat)] = some (.ow (encNs (orderM ns 1 n))) := order_g (C := C) (k := k + 5) hns (a := 1) (by omega) (by omega)
  have o2 : GG tab C (k + 7) 1003 [scr ns, .int 32, .int (n : Nat)] = some (.ow (encNs (orderM ns 32 n))) := order_g (C := C) (k := k + 5) hns (a := 32) (by omega) (by omega)
  have P1 := Pm.of_perm (order_perm ns 1 n)
  have P2 := Pm.of_perm (order_perm ns 32 n)
  generalize orderM ns 1 n = o at *
  generalize orderM ns 32 n = oo at *
  have d16 : ((0 : Int) < 16 ∧ (16 : Int) < 1073741824) = True := by simp
  have d4 : ((0 : Int) < 4 ∧ (4 : Int) < 1073741824) = True := by simp
  have d8 : ((0 : Int) < 8 ∧ (8 : Int) < 1073741824) = True := by simp
  have d124 : ((0 : Int) < 124 ∧ (124 : Int) < 1073741824) = True := by simp
  have d372 : ((0 : Int) < 372 ∧ (372 : Int) < 1073741824) = True := by simp
  have dp1 : (0 : Int) < p - 1 := by omega
  -- the factors
  obtain ⟨env', hf, c7, c8, c9, rfl⟩ := forGo_app (f := forF (GG tab C (k + 7)) C (.nm 7) c_law_b11) (enc := fun i : Nat => PyData.int (i : Nat)) (xs := List.range n) (g := fun i => .int (facM ns cell p i)) (acc := []) (N := n)
    (R := fun acc env => ∃ c7 c8 c9, env = [Cell.sh (scr ns), .sh (.int cell), .sh (.int p), .sh (.int (n : Nat)), .ow (encNs o), .ow (encNs oo), .ow (.list acc), c7, c8, c9, .no, .no, .no, .no, .no, .no, .no, .no])
    (env := [Cell.sh (scr ns), .sh (.int cell), .sh (.int p), .sh (.int (n : Nat)), .ow (encNs o), .ow (encNs oo), .ow (.list []), .no, .no, .no, .no, .no, .no, .no, .no, .no, .no, .no]) (by simp) ⟨_, _, _, rfl⟩ fun i hi acc env hacc hR => by
      obtain ⟨c7, c8, c9, rfl⟩ := hR
      have hin := List.mem_range.mp hi
      have h2 := cell_g (C := C) (k := k + 6) hns (j := 63 + i) (by omega)
      rw [show ((63 + i : Nat) : Int) = 63 + (i : Int) by omega] at h2
      have hm : ∀ (b : Bool) (y : Int), mulOk (if b = true then 1 else 0) y = true := fun b y => mulOk_l (by split <;> omega)
      have hbb : acc.length < big := by unfold big; omega
      simp only [c_law_b11, runD, getD_sh, getD_ow, getB_b, getL_t, d_sh, d_ow, getO_t, getO_f, bindT_nm, bindT_tp, setAll_nil, setAll_cons, hide_nil, hide_cons, items_l, items_t, seq_l, seq_t, zipD2, zipD3, enmD_, rev_l, rev_t, len_l, len_t, len_s, sum_l, all_l, any_l, tup_l, tup_t, lst_l, lst_t, min2_, max2_, int_i, int_b, abs_i, add_i, add_s, add_l, add_t, sub_i, mul_i, div_i, mod_i, pow_i, eq_i, ne_i, lt_i, le_i, gt_i, ge_i, isi_i, isi_ib, isi_b, isi_bi, isi_tt, isi_tn, isi_tl, isi_ll, isi_lt, isNon_n, isNon_i, isNon_t, isNon_l, isDict_i, isDict_b, isDict_t, isDict_l, isDict_n, isDict_s, ix_l, ix_t, sl_l, sl_t, atI_nat, atI_0, atI_1, atI_2, atI_3, atI_4, atI_5, atI_6, atI_7, keep_sh, keep_l, noL_i, noL_b, noL_s, noL_n, noL_t, noL_l, noLs_n, noLs_c, isNil_nil, out_rt, out_nx, ↓EE_var, varC_sh, ↓EE_cst, ↓EE_int, ↓EE_bl, ↓EE_non, ↓EE_str, ↓EE_bin, ↓EE_rep, repC_l, ↓EE_neg, negC_i, ↓EE_is, ↓EE_isn, ↓EE_eq, ↓EE_ne, ↓EE_lt, ↓EE_le, ↓EE_gt, ↓EE_ge, ↓EE_inn, ↓EE_ni, ↓EE_chain, ↓EE_and, andC_t, andC_f, ↓EE_or, orC_t, orC_f, ↓EE_not, ↓EE_ite, iteC_t, iteC_f, ↓EE_nil, ↓EE_cons, ↓EE_tup, ↓EE_lst, ↓EE_call, ↓EE_blt, ↓EE_isi, ↓EE_ix, ↓EE_sl, ↓EE_lc, ↓EE_rng, ↓EE_zip, ↓EE_enm, ↓EE_rev, ↓EE_bm, ↓EE_srt, seqR_nx, seqR_rt, seqR_bk, seqR_ct, seqR_no, iffR_t, iffR_f, appC_l, extC_l, putC_l, putX_i, popC_l, insC_l, reto_o, reto_s, unpC_t, rvsC_l, ↓EX, ↓ES_nil, ↓ES_seq, ↓ES_asg, ↓ES_unp, ↓ES_app, ↓ES_ext, ↓ES_put, ↓ES_pop, ↓ES_rvs, ↓ES_ins, ↓ES_ife, ↓ES_ret, ↓ES_reto, ↓ES_retn, ↓ES_for, ↓ES_brk, ↓ES_cnt, ↓ES_drp, forF_, shareAll_n, shareAll_c, shareAt_, shC_o, shC_s, shC_n, shC_x, memN_n, memN_c, after_, flatC_o, flatC_s, flat_i, flat_b, flat_s, flat_n, flat_l, flat_t, noLs_ints, noLs_rows, noLs_fi, q_set0, q_sets, q_get0, q_gets, q_getn, q_mapc, q_mapn, q_appc, q_appn, q_reps, q_rep0, q_bb, q_bs, q_bn, q_ms, q_mn, Nat.reduceAdd, Nat.reduceSub, q_lc, q_ln, q_pure, Bool.false_eq_true, q_ift, q_iff, q_ifb, q_ifc, ite_self, reduceCtorEq, Bool.and_true, Bool.true_and, Bool.and_false, Bool.false_and, Bool.and_self, Bool.not_true, Bool.not_false, CE.isNil, Nat.reduceEqDiff, and_self, decide_true, decide_false, h2, d16, d8, d124, Int.reduceLT, dp1, hm, hbb]
      exact ⟨_, rfl, _, _, _, rfl⟩
  rw [List.nil_append] at hf
  have e10 : ∀ x1 x3 x4 x5 x6 x7 x8 x9 x10 x11 x12 x13 x14 x15 x16 x17, lcGo (lcT (GG tab C (k + 7)) C [7] (.nm 7) .nil c_law_e10 [Cell.sh (scr ns), x1, .sh (.int p), x3, x4, x5, x6, x7, x8, x9, x10, x11, x12, x13, x14, x15, x16, x17]) ((List.range n).map fun i => PyData.int (i : Nat)) = some ((othersM ns p n).map .int) := fun x1 x3 x4 x5 x6 x7 x8 x9 x10 x11 x12 x13 x14 x15 x16 x17 => by
    unfold othersM
    rw [List.map_map]
    refine lcGo_map (g := fun i : Nat => PyData.int (1 + cM ns (94 + i) / 16 % (p - 1))) fun i hi => ?_
    have h2 := cell_g (C := C) (k := k + 6) hns (j := 94 + i) (by have := List.mem_range.mp hi; omega)
    rw [show ((94 + i : Nat) : Int) = 94 + (i : Int) by omega] at h2
    simp only [lcF_all, c_law_e10, runD, getD_sh, getD_ow, getB_b, getL_t, d_sh, d_ow, getO_t, getO_f, bindT_nm, bindT_tp, setAll_nil, setAll_cons, hide_nil, hide_cons, items_l, items_t, seq_l, seq_t, zipD2, zipD3, enmD_, rev_l, rev_t, len_l, len_t, len_s, sum_l, all_l, any_l, tup_l, tup_t, lst_l, lst_t, min2_, max2_, int_i, int_b, abs_i, add_i, add_s, add_l, add_t, sub_i, mul_i, div_i, mod_i, pow_i, eq_i, ne_i, lt_i, le_i, gt_i, ge_i, isi_i, isi_ib, isi_b, isi_bi, isi_tt, isi_tn, isi_tl, isi_ll, isi_lt, isNon_n, isNon_i, isNon_t, isNon_l, isDict_i, isDict_b, isDict_t, isDict_l, isDict_n, isDict_s, ix_l, ix_t, sl_l, sl_t, atI_nat, atI_0, atI_1, atI_2, atI_3, atI_4, atI_5, atI_6, atI_7, keep_sh, keep_l, noL_i, noL_b, noL_s, noL_n, noL_t, noL_l, noLs_n, noLs_c, isNil_nil, out_rt, out_nx, ↓EE_var, varC_sh, ↓EE_cst, ↓EE_int, ↓EE_bl, ↓EE_non, ↓EE_str, ↓EE_bin, ↓EE_rep, repC_l, ↓EE_neg, negC_i, ↓EE_is, ↓EE_isn, ↓EE_eq, ↓EE_ne, ↓EE_lt, ↓EE_le, ↓EE_gt, ↓EE_ge, ↓EE_inn, ↓EE_ni, ↓EE_chain, ↓EE_and, andC_t, andC_f, ↓EE_or, orC_t, orC_f, ↓EE_not, ↓EE_ite, iteC_t, iteC_f, ↓EE_nil, ↓EE_cons, ↓EE_tup, ↓EE_lst, ↓EE_call, ↓EE_blt, ↓EE_isi, ↓EE_ix, ↓EE_sl, ↓EE_lc, ↓EE_rng, ↓EE_zip, ↓EE_enm, ↓EE_rev, ↓EE_bm, ↓EE_srt, seqR_nx, seqR_rt, seqR_bk, seqR_ct, seqR_no, iffR_t, iffR_f, appC_l, extC_l, putC_l, putX_i, popC_l, insC_l, reto_o, reto_s, unpC_t, rvsC_l, ↓EX, ↓ES_nil, ↓ES_seq, ↓ES_asg, ↓ES_unp, ↓ES_app, ↓ES_ext, ↓ES_put, ↓ES_pop, ↓ES_rvs, ↓ES_ins, ↓ES_ife, ↓ES_ret, ↓ES_reto, ↓ES_retn, ↓ES_for, ↓ES_brk, ↓ES_cnt, ↓ES_drp, forF_, shareAll_n, shareAll_c, shareAt_, shC_o, shC_s, shC_n, shC_x, memN_n, memN_c, after_, flatC_o, flatC_s, flat_i, flat_b, flat_s, flat_n, flat_l, flat_t, noLs_ints, noLs_rows, noLs_fi, q_set0, q_sets, q_get0, q_gets, q_getn, q_mapc, q_mapn, q_appc, q_appn, q_reps, q_rep0, q_bb, q_bs, q_bn, q_ms, q_mn, Nat.reduceAdd, Nat.reduceSub, q_lc, q_ln, q_pure, Bool.false_eq_true, q_ift, q_iff, q_ifb, q_ifc, ite_self, reduceCtorEq, Bool.and_true, Bool.true_and, Bool.and_false, Bool.false_and, Bool.and_self, Bool.not_true, Bool.not_false, CE.isNil, Nat.reduceEqDiff, and_self, decide_true, decide_false, h2, d16, dp1]
  have e9 : ∀ x1 x3 x4 x5 x6 x7 x8 x9 x10 x11 x12 x13 x14 x15 x16 x17, lcGo (lcT (GG tab C (k + 7)) C [7] (.nm 7) .nil c_law_e9 [Cell.sh (scr ns), x1, .sh (.int p), x3, x4, x5, x6, x7, x8, x9, x10, x11, x12, x13, x14, x15, x16, x17]) ((List.range n).map fun i => PyData.int (i : Nat)) = some ((load0M ns p n).map .int) := fun x1 x3 x4 x5 x6 x7 x8 x9 x10 x11 x12 x13 x14 x15 x16 x17 => by
    unfold load0M
    rw [List.map_map]
    refine lcGo_map (g := fun i : Nat => PyData.int (cM ns (125 + i) / 16 % p)) fun i hi => ?_
    have h2 := cell_g (C := C) (k := k + 6) hns (j := 125 + i) (by have := List.mem_range.mp hi; omega)
    rw [show ((125 + i : Nat) : Int) = 125 + (i : Int) by omega] at h2
    simp only [lcF_all, c_law_e9, runD, getD_sh, getD_ow, getB_b, getL_t, d_sh, d_ow, getO_t, getO_f, bindT_nm, bindT_tp, setAll_nil, setAll_cons, hide_nil, hide_cons, items_l, items_t, seq_l, seq_t, zipD2, zipD3, enmD_, rev_l, rev_t, len_l, len_t, len_s, sum_l, all_l, any_l, tup_l, tup_t, lst_l, lst_t, min2_, max2_, int_i, int_b, abs_i, add_i, add_s, add_l, add_t, sub_i, mul_i, div_i, mod_i, pow_i, eq_i, ne_i, lt_i, le_i, gt_i, ge_i, isi_i, isi_ib, isi_b, isi_bi, isi_tt, isi_tn, isi_tl, isi_ll, isi_lt, isNon_n, isNon_i, isNon_t, isNon_l, isDict_i, isDict_b, isDict_t, isDict_l, isDict_n, isDict_s, ix_l, ix_t, sl_l, sl_t, atI_nat, atI_0, atI_1, atI_2, atI_3, atI_4, atI_5, atI_6, atI_7, keep_sh, keep_l, noL_i, noL_b, noL_s, noL_n, noL_t, noL_l, noLs_n, noLs_c, isNil_nil, out_rt, out_nx, ↓EE_var, varC_sh, ↓EE_cst, ↓EE_int, ↓EE_bl, ↓EE_non, ↓EE_str, ↓EE_bin, ↓EE_rep, repC_l, ↓EE_neg, negC_i, ↓EE_is, ↓EE_isn, ↓EE_eq, ↓EE_ne, ↓EE_lt, ↓EE_le, ↓EE_gt, ↓EE_ge, ↓EE_inn, ↓EE_ni, ↓EE_chain, ↓EE_and, andC_t, andC_f, ↓EE_or, orC_t, orC_f, ↓EE_not, ↓EE_ite, iteC_t, iteC_f, ↓EE_nil, ↓EE_cons, ↓EE_tup, ↓EE_lst, ↓EE_call, ↓EE_blt, ↓EE_isi, ↓EE_ix, ↓EE_sl, ↓EE_lc, ↓EE_rng, ↓EE_zip, ↓EE_enm, ↓EE_rev, ↓EE_bm, ↓EE_srt, seqR_nx, seqR_rt, seqR_bk, seqR_ct, seqR_no, iffR_t, iffR_f, appC_l, extC_l, putC_l, putX_i, popC_l, insC_l, reto_o, reto_s, unpC_t, rvsC_l, ↓EX, ↓ES_nil, ↓ES_seq, ↓ES_asg, ↓ES_unp, ↓ES_app, ↓ES_ext, ↓ES_put, ↓ES_pop, ↓ES_rvs, ↓ES_ins, ↓ES_ife, ↓ES_ret, ↓ES_reto, ↓ES_retn, ↓ES_for, ↓ES_brk, ↓ES_cnt, ↓ES_drp, forF_, shareAll_n, shareAll_c, shareAt_, shC_o, shC_s, shC_n, shC_x, memN_n, memN_c, after_, flatC_o, flatC_s, flat_i, flat_b, flat_s, flat_n, flat_l, flat_t, noLs_ints, noLs_rows, noLs_fi, q_set0, q_sets, q_get0, q_gets, q_getn, q_mapc, q_mapn, q_appc, q_appn, q_reps, q_rep0, q_bb, q_bs, q_bn, q_ms, q_mn, Nat.reduceAdd, Nat.reduceSub, q_lc, q_ln, q_pure, Bool.false_eq_true, q_ift, q_iff, q_ifb, q_ifc, ite_self, reduceCtorEq, Bool.and_true, Bool.true_and, Bool.and_false, Bool.false_and, Bool.and_self, Bool.not_true, Bool.not_false, CE.isNil, Nat.reduceEqDiff, and_self, decide_true, decide_false, h2, d16, hp0]
  have hff : (List.range n).map (fun i => PyData.int (facM ns cell p i)) = (facsM ns cell p n).map .int := by unfold facsM; rw [List.map_map]; rfl
  rw [hff] at hf
  have hfe : Ent p (facsM ns cell p n) := ent_range fun i _ => fac_bd hp i
  have hfl : (facsM ns cell p n).length = n := by simp [facsM]
  generalize facsM ns cell p n = f at *
  have hge : Ent p (othersM ns p n) := ent_range fun i _ => by
    have h1 := Int.emod_nonneg (cM ns (94 + i) / 16) (b := p - 1) (by omega)
    have h2 := Int.emod_lt_of_pos (cM ns (94 + i) / 16) (b := p - 1) (by omega)
    omega
  have hgl : (othersM ns p n).length = n := by simp [othersM]
  generalize othersM ns p n = g at *
  have hl0e : Ent p (load0M ns p n) := ent_range fun i _ => ⟨Int.emod_nonneg _ (by omega), Int.emod_lt_of_pos _ hp0⟩
  have hl0l : (load0M ns p n).length = n := by simp [load0M]
  have e8 : ∀ x0 x1 x2 x3 x4 x5 x7 x8 x9 x10 x12 x13 x14 x15 x16 x17, lcGo (lcT (GG tab C (k + 7)) C [7] (.nm 7) .nil c_law_e8 [x0, x1, x2, x3, x4, x5, .sh (encL f), x7, x8, x9, x10, .sh (encL (load0M ns p n)), x12, x13, x14, x15, x16, x17]) ((List.range n).map fun i => PyData.int (i : Nat)) = some ((load1M ns p n f).map .int) := fun x0 x1 x2 x3 x4 x5 x7 x8 x9 x10 x12 x13 x14 x15 x16 x17 => by
    unfold load1M
    rw [List.map_map]
    refine lcGo_map (g := fun i : Nat => PyData.int (at0 (load0M ns p n) i * (if decide (at0 f i = 0) = true then 0 else 1))) fun i hi => ?_
    have hin := List.mem_range.mp hi
    have hm : ∀ y, mulOk (at0 (load0M ns p n) i) y = true := fun y => mulOk_l (hl0e.sm hp _ (at0_mem (by omega)))
    have hd : (if (!decide (at0 f i = 0)) = true then (1 : Int) else 0) = if decide (at0 f i = 0) = true then 0 else 1 := by by_cases e : at0 f i = 0 <;> simp [e]
    simp only [lcF_all, c_law_e8, runD, getD_sh, getD_ow, getB_b, getL_t, d_sh, d_ow, getO_t, getO_f, bindT_nm, bindT_tp, setAll_nil, setAll_cons, hide_nil, hide_cons, items_l, items_t, seq_l, seq_t, zipD2, zipD3, enmD_, rev_l, rev_t, len_l, len_t, len_s, sum_l, all_l, any_l, tup_l, tup_t, lst_l, lst_t, min2_, max2_, int_i, int_b, abs_i, add_i, add_s, add_l, add_t, sub_i, mul_i, div_i, mod_i, pow_i, eq_i, ne_i, lt_i, le_i, gt_i, ge_i, isi_i, isi_ib, isi_b, isi_bi, isi_tt, isi_tn, isi_tl, isi_ll, isi_lt, isNon_n, isNon_i, isNon_t, isNon_l, isDict_i, isDict_b, isDict_t, isDict_l, isDict_n, isDict_s, ix_l, ix_t, sl_l, sl_t, atI_nat, atI_0, atI_1, atI_2, atI_3, atI_4, atI_5, atI_6, atI_7, keep_sh, keep_l, noL_i, noL_b, noL_s, noL_n, noL_t, noL_l, noLs_n, noLs_c, isNil_nil, out_rt, out_nx, ↓EE_var, varC_sh, ↓EE_cst, ↓EE_int, ↓EE_bl, ↓EE_non, ↓EE_str, ↓EE_bin, ↓EE_rep, repC_l, ↓EE_neg, negC_i, ↓EE_is, ↓EE_isn, ↓EE_eq, ↓EE_ne, ↓EE_lt, ↓EE_le, ↓EE_gt, ↓EE_ge, ↓EE_inn, ↓EE_ni, ↓EE_chain, ↓EE_and, andC_t, andC_f, ↓EE_or, orC_t, orC_f, ↓EE_not, ↓EE_ite, iteC_t, iteC_f, ↓EE_nil, ↓EE_cons, ↓EE_tup, ↓EE_lst, ↓EE_call, ↓EE_blt, ↓EE_isi, ↓EE_ix, ↓EE_sl, ↓EE_lc, ↓EE_rng, ↓EE_zip, ↓EE_enm, ↓EE_rev, ↓EE_bm, ↓EE_srt, seqR_nx, seqR_rt, seqR_bk, seqR_ct, seqR_no, iffR_t, iffR_f, appC_l, extC_l, putC_l, putX_i, popC_l, insC_l, reto_o, reto_s, unpC_t, rvsC_l, ↓EX, ↓ES_nil, ↓ES_seq, ↓ES_asg, ↓ES_unp, ↓ES_app, ↓ES_ext, ↓ES_put, ↓ES_pop, ↓ES_rvs, ↓ES_ins, ↓ES_ife, ↓ES_ret, ↓ES_reto, ↓ES_retn, ↓ES_for, ↓ES_brk, ↓ES_cnt, ↓ES_drp, forF_, shareAll_n, shareAll_c, shareAt_, shC_o, shC_s, shC_n, shC_x, memN_n, memN_c, after_, flatC_o, flatC_s, flat_i, flat_b, flat_s, flat_n, flat_l, flat_t, noLs_ints, noLs_rows, noLs_fi, q_set0, q_sets, q_get0, q_gets, q_getn, q_mapc, q_mapn, q_appc, q_appn, q_reps, q_rep0, q_bb, q_bs, q_bn, q_ms, q_mn, Nat.reduceAdd, Nat.reduceSub, q_lc, q_ln, q_pure, Bool.false_eq_true, q_ift, q_iff, q_ifb, q_ifc, ite_self, reduceCtorEq, Bool.and_true, Bool.true_and, Bool.and_false, Bool.false_and, Bool.and_self, Bool.not_true, Bool.not_false, CE.isNil, Nat.reduceEqDiff, and_self, decide_true, decide_false, atI_nat, at0_get (show i < f.length by omega), at0_get (show i < (load0M ns p n).length by omega), hm, hd]
  have e7 : ∀ x0 x1 x3 x5 x7 x8 x9 x11 x12 x13 x14 x15 x16 x17, lcGo (lcT (GG tab C (k + 7)) C [14] (.nm 14) .nil c_law_e7 [x0, x1, .sh (.int p), x3, .sh (encNs o), x5, .sh (encL f), x7, x8, x9, .sh (encL g), x11, x12, x13, x14, x15, x16, x17]) ((List.range n).map fun i => PyData.int (i : Nat)) = some (((List.range n).map fun i => at0 f i * at0 g (oN o i) % p).map .int) := fun x0 x1 x3 x5 x7 x8 x9 x11 x12 x13 x14 x15 x16 x17 => by
    rw [List.map_map]
    refine lcGo_map (g := fun i : Nat => PyData.int (at0 f i * at0 g (oN o i) % p)) fun i hi => ?_
    have hin := List.mem_range.mp hi
    have hm : ∀ y, mulOk (at0 f i) y = true := fun y => mulOk_l (hfe.sm hp _ (at0_mem (by omega)))
    have hol := P1.len
    have hoi := P1.lt i hin
    simp only [lcF_all, c_law_e7, runD, getD_sh, getD_ow, getB_b, getL_t, d_sh, d_ow, getO_t, getO_f, bindT_nm, bindT_tp, setAll_nil, setAll_cons, hide_nil, hide_cons, items_l, items_t, seq_l, seq_t, zipD2, zipD3, enmD_, rev_l, rev_t, len_l, len_t, len_s, sum_l, all_l, any_l, tup_l, tup_t, lst_l, lst_t, min2_, max2_, int_i, int_b, abs_i, add_i, add_s, add_l, add_t, sub_i, mul_i, div_i, mod_i, pow_i, eq_i, ne_i, lt_i, le_i, gt_i, ge_i, isi_i, isi_ib, isi_b, isi_bi, isi_tt, isi_tn, isi_tl, isi_ll, isi_lt, isNon_n, isNon_i, isNon_t, isNon_l, isDict_i, isDict_b, isDict_t, isDict_l, isDict_n, isDict_s, ix_l, ix_t, sl_l, sl_t, atI_nat, atI_0, atI_1, atI_2, atI_3, atI_4, atI_5, atI_6, atI_7, keep_sh, keep_l, noL_i, noL_b, noL_s, noL_n, noL_t, noL_l, noLs_n, noLs_c, isNil_nil, out_rt, out_nx, ↓EE_var, varC_sh, ↓EE_cst, ↓EE_int, ↓EE_bl, ↓EE_non, ↓EE_str, ↓EE_bin, ↓EE_rep, repC_l, ↓EE_neg, negC_i, ↓EE_is, ↓EE_isn, ↓EE_eq, ↓EE_ne, ↓EE_lt, ↓EE_le, ↓EE_gt, ↓EE_ge, ↓EE_inn, ↓EE_ni, ↓EE_chain, ↓EE_and, andC_t, andC_f, ↓EE_or, orC_t, orC_f, ↓EE_not, ↓EE_ite, iteC_t, iteC_f, ↓EE_nil, ↓EE_cons, ↓EE_tup, ↓EE_lst, ↓EE_call, ↓EE_blt, ↓EE_isi, ↓EE_ix, ↓EE_sl, ↓EE_lc, ↓EE_rng, ↓EE_zip, ↓EE_enm, ↓EE_rev, ↓EE_bm, ↓EE_srt, seqR_nx, seqR_rt, seqR_bk, seqR_ct, seqR_no, iffR_t, iffR_f, appC_l, extC_l, putC_l, putX_i, popC_l, insC_l, reto_o, reto_s, unpC_t, rvsC_l, ↓EX, ↓ES_nil, ↓ES_seq, ↓ES_asg, ↓ES_unp, ↓ES_app, ↓ES_ext, ↓ES_put, ↓ES_pop, ↓ES_rvs, ↓ES_ins, ↓ES_ife, ↓ES_ret, ↓ES_reto, ↓ES_retn, ↓ES_for, ↓ES_brk, ↓ES_cnt, ↓ES_drp, forF_, shareAll_n, shareAll_c, shareAt_, shC_o, shC_s, shC_n, shC_x, memN_n, memN_c, after_, flatC_o, flatC_s, flat_i, flat_b, flat_s, flat_n, flat_l, flat_t, noLs_ints, noLs_rows, noLs_fi, q_set0, q_sets, q_get0, q_gets, q_getn, q_mapc, q_mapn, q_appc, q_appn, q_reps, q_rep0, q_bb, q_bs, q_bn, q_ms, q_mn, Nat.reduceAdd, Nat.reduceSub, q_lc, q_ln, q_pure, Bool.false_eq_true, q_ift, q_iff, q_ifb, q_ifc, ite_self, reduceCtorEq, Bool.and_true, Bool.true_and, Bool.and_false, Bool.false_and, Bool.and_self, Bool.not_true, Bool.not_false, CE.isNil, Nat.reduceEqDiff, and_self, decide_true, decide_false, atI_nat, at0_get (show i < f.length by omega), oN_get (show i < o.length by omega), at0_get (show oN o i < g.length by omega), hm, hp0]
  have e6 : ∀ x0 x1 x2 x3 x6 x7 x8 x9 x10 x11 x12 x13 x14 x15 x16 x17, lcGo (lcT (GG tab C (k + 7)) C [14] (.nm 14) .nil c_law_e6 [x0, x1, x2, x3, .sh (encNs o), .sh (encNs oo), x6, x7, x8, x9, x10, x11, x12, x13, x14, x15, x16, x17]) ((List.range n).map fun i => PyData.int (i : Nat)) = some (((List.range n).map fun i => oN oo (oN o i)).map fun n => .int (n : Nat)) := fun x0 x1 x2 x3 x6 x7 x8 x9 x10 x11 x12 x13 x14 x15 x16 x17 => by
    rw [List.map_map]
    refine lcGo_map (g := fun i : Nat => PyData.int (oN oo (oN o i) : Nat)) fun i hi => ?_
    have hin := List.mem_range.mp hi
    have hol := P1.len
    have hol2 := P2.len
    have hoi := P1.lt i hin
    simp only [lcF_all, c_law_e6, runD, getD_sh, getD_ow, getB_b, getL_t, d_sh, d_ow, getO_t, getO_f, bindT_nm, bindT_tp, setAll_nil, setAll_cons, hide_nil, hide_cons, items_l, items_t, seq_l, seq_t, zipD2, zipD3, enmD_, rev_l, rev_t, len_l, len_t, len_s, sum_l, all_l, any_l, tup_l, tup_t, lst_l, lst_t, min2_, max2_, int_i, int_b, abs_i, add_i, add_s, add_l, add_t, sub_i, mul_i, div_i, mod_i, pow_i, eq_i, ne_i, lt_i, le_i, gt_i, ge_i, isi_i, isi_ib, isi_b, isi_bi, isi_tt, isi_tn, isi_tl, isi_ll, isi_lt, isNon_n, isNon_i, isNon_t, isNon_l, isDict_i, isDict_b, isDict_t, isDict_l, isDict_n, isDict_s, ix_l, ix_t, sl_l, sl_t, atI_nat, atI_0, atI_1, atI_2, atI_3, atI_4, atI_5, atI_6, atI_7, keep_sh, keep_l, noL_i, noL_b, noL_s, noL_n, noL_t, noL_l, noLs_n, noLs_c, isNil_nil, out_rt, out_nx, ↓EE_var, varC_sh, ↓EE_cst, ↓EE_int, ↓EE_bl, ↓EE_non, ↓EE_str, ↓EE_bin, ↓EE_rep, repC_l, ↓EE_neg, negC_i, ↓EE_is, ↓EE_isn, ↓EE_eq, ↓EE_ne, ↓EE_lt, ↓EE_le, ↓EE_gt, ↓EE_ge, ↓EE_inn, ↓EE_ni, ↓EE_chain, ↓EE_and, andC_t, andC_f, ↓EE_or, orC_t, orC_f, ↓EE_not, ↓EE_ite, iteC_t, iteC_f, ↓EE_nil, ↓EE_cons, ↓EE_tup, ↓EE_lst, ↓EE_call, ↓EE_blt, ↓EE_isi, ↓EE_ix, ↓EE_sl, ↓EE_lc, ↓EE_rng, ↓EE_zip, ↓EE_enm, ↓EE_rev, ↓EE_bm, ↓EE_srt, seqR_nx, seqR_rt, seqR_bk, seqR_ct, seqR_no, iffR_t, iffR_f, appC_l, extC_l, putC_l, putX_i, popC_l, insC_l, reto_o, reto_s, unpC_t, rvsC_l, ↓EX, ↓ES_nil, ↓ES_seq, ↓ES_asg, ↓ES_unp, ↓ES_app, ↓ES_ext, ↓ES_put, ↓ES_pop, ↓ES_rvs, ↓ES_ins, ↓ES_ife, ↓ES_ret, ↓ES_reto, ↓ES_retn, ↓ES_for, ↓ES_brk, ↓ES_cnt, ↓ES_drp, forF_, shareAll_n, shareAll_c, shareAt_, shC_o, shC_s, shC_n, shC_x, memN_n, memN_c, after_, flatC_o, flatC_s, flat_i, flat_b, flat_s, flat_n, flat_l, flat_t, noLs_ints, noLs_rows, noLs_fi, q_set0, q_sets, q_get0, q_gets, q_getn, q_mapc, q_mapn, q_appc, q_appn, q_reps, q_rep0, q_bb, q_bs, q_bn, q_ms, q_mn, Nat.reduceAdd, Nat.reduceSub, q_lc, q_ln, q_pure, Bool.false_eq_true, q_ift, q_iff, q_ifb, q_ifc, ite_self, reduceCtorEq, Bool.and_true, Bool.true_and, Bool.and_false, Bool.false_and, Bool.and_self, Bool.not_true, Bool.not_false, CE.isNil, Nat.reduceEqDiff, and_self, decide_true, decide_false, atI_nat, oN_get (show i < o.length by omega), oN_get (show oN o i < oo.length by omega)]
  have e4 : ∀ x0 x1 x2 x3 x4 x5 x7 x8 x9 x10 x11 x12 x13 x14 x15 x16 x17, lcGo (lcT (GG tab C (k + 7)) C [14] (.nm 14) c_law_c3 c_law_e4 [x0, x1, x2, x3, x4, x5, .sh (encL f), x7, x8, x9, x10, x11, x12, x13, x14, x15, x16, x17]) ((List.range n).map fun i => PyData.int (i : Nat)) = some (((List.range n).filter fun i => decide (at0 f i ≠ 0)).map fun n => .int (n : Nat)) := fun x0 x1 x2 x3 x4 x5 x7 x8 x9 x10 x11 x12 x13 x14 x15 x16 x17 => by
    refine lcGo_filter fun i hi => ?_
    have hin := List.mem_range.mp hi
    rw [lcF_if rfl]
    by_cases e : at0 f i = 0
    · simp only [c_law_c3, c_law_e4, runD, getD_sh, getD_ow, getB_b, getL_t, d_sh, d_ow, getO_t, getO_f, bindT_nm, bindT_tp, setAll_nil, setAll_cons, hide_nil, hide_cons, items_l, items_t, seq_l, seq_t, zipD2, zipD3, enmD_, rev_l, rev_t, len_l, len_t, len_s, sum_l, all_l, any_l, tup_l, tup_t, lst_l, lst_t, min2_, max2_, int_i, int_b, abs_i, add_i, add_s, add_l, add_t, sub_i, mul_i, div_i, mod_i, pow_i, eq_i, ne_i, lt_i, le_i, gt_i, ge_i, isi_i, isi_ib, isi_b, isi_bi, isi_tt, isi_tn, isi_tl, isi_ll, isi_lt, isNon_n, isNon_i, isNon_t, isNon_l, isDict_i, isDict_b, isDict_t, isDict_l, isDict_n, isDict_s, ix_l, ix_t, sl_l, sl_t, atI_nat, atI_0, atI_1, atI_2, atI_3, atI_4, atI_5, atI_6, atI_7, keep_sh, keep_l, noL_i, noL_b, noL_s, noL_n, noL_t, noL_l, noLs_n, noLs_c, isNil_nil, out_rt, out_nx, ↓EE_var, varC_sh, ↓EE_cst, ↓EE_int, ↓EE_bl, ↓EE_non, ↓EE_str, ↓EE_bin, ↓EE_rep, repC_l, ↓EE_neg, negC_i, ↓EE_is, ↓EE_isn, ↓EE_eq, ↓EE_ne, ↓EE_lt, ↓EE_le, ↓EE_gt, ↓EE_ge, ↓EE_inn, ↓EE_ni, ↓EE_chain, ↓EE_and, andC_t, andC_f, ↓EE_or, orC_t, orC_f, ↓EE_not, ↓EE_ite, iteC_t, iteC_f, ↓EE_nil, ↓EE_cons, ↓EE_tup, ↓EE_lst, ↓EE_call, ↓EE_blt, ↓EE_isi, ↓EE_ix, ↓EE_sl, ↓EE_lc, ↓EE_rng, ↓EE_zip, ↓EE_enm, ↓EE_rev, ↓EE_bm, ↓EE_srt, seqR_nx, seqR_rt, seqR_bk, seqR_ct, seqR_no, iffR_t, iffR_f, appC_l, extC_l, putC_l, putX_i, popC_l, insC_l, reto_o, reto_s, unpC_t, rvsC_l, ↓EX, ↓ES_nil, ↓ES_seq, ↓ES_asg, ↓ES_unp, ↓ES_app, ↓ES_ext, ↓ES_put, ↓ES_pop, ↓ES_rvs, ↓ES_ins, ↓ES_ife, ↓ES_ret, ↓ES_reto, ↓ES_retn, ↓ES_for, ↓ES_brk, ↓ES_cnt, ↓ES_drp, forF_, shareAll_n, shareAll_c, shareAt_, shC_o, shC_s, shC_n, shC_x, memN_n, memN_c, after_, flatC_o, flatC_s, flat_i, flat_b, flat_s, flat_n, flat_l, flat_t, noLs_ints, noLs_rows, noLs_fi, q_set0, q_sets, q_get0, q_gets, q_getn, q_mapc, q_mapn, q_appc, q_appn, q_reps, q_rep0, q_bb, q_bs, q_bn, q_ms, q_mn, Nat.reduceAdd, Nat.reduceSub, q_lc, q_ln, q_pure, Bool.false_eq_true, q_ift, q_iff, q_ifb, q_ifc, ite_self, reduceCtorEq, Bool.and_true, Bool.true_and, Bool.and_false, Bool.false_and, Bool.and_self, Bool.not_true, Bool.not_false, CE.isNil, Nat.reduceEqDiff, and_self, decide_true, decide_false, atI_nat, at0_get (show i < f.length by omega), e, ne_eq, not_true_eq_false]
    · simp only [c_law_c3, c_law_e4, runD, getD_sh, getD_ow, getB_b, getL_t, d_sh, d_ow, getO_t, getO_f, bindT_nm, bindT_tp, setAll_nil, setAll_cons, hide_nil, hide_cons, items_l, items_t, seq_l, seq_t, zipD2, zipD3, enmD_, rev_l, rev_t, len_l, len_t, len_s, sum_l, all_l, any_l, tup_l, tup_t, lst_l, lst_t, min2_, max2_, int_i, int_b, abs_i, add_i, add_s, add_l, add_t, sub_i, mul_i, div_i, mod_i, pow_i, eq_i, ne_i, lt_i, le_i, gt_i, ge_i, isi_i, isi_ib, isi_b, isi_bi, isi_tt, isi_tn, isi_tl, isi_ll, isi_lt, isNon_n, isNon_i, isNon_t, isNon_l, isDict_i, isDict_b, isDict_t, isDict_l, isDict_n, isDict_s, ix_l, ix_t, sl_l, sl_t, atI_nat, atI_0, atI_1, atI_2, atI_3, atI_4, atI_5, atI_6, atI_7, keep_sh, keep_l, noL_i, noL_b, noL_s, noL_n, noL_t, noL_l, noLs_n, noLs_c, isNil_nil, out_rt, out_nx, ↓EE_var, varC_sh, ↓EE_cst, ↓EE_int, ↓EE_bl, ↓EE_non, ↓EE_str, ↓EE_bin, ↓EE_rep, repC_l, ↓EE_neg, negC_i, ↓EE_is, ↓EE_isn, ↓EE_eq, ↓EE_ne, ↓EE_lt, ↓EE_le, ↓EE_gt, ↓EE_ge, ↓EE_inn, ↓EE_ni, ↓EE_chain, ↓EE_and, andC_t, andC_f, ↓EE_or, orC_t, orC_f, ↓EE_not, ↓EE_ite, iteC_t, iteC_f, ↓EE_nil, ↓EE_cons, ↓EE_tup, ↓EE_lst, ↓EE_call, ↓EE_blt, ↓EE_isi, ↓EE_ix, ↓EE_sl, ↓EE_lc, ↓EE_rng, ↓EE_zip, ↓EE_enm, ↓EE_rev, ↓EE_bm, ↓EE_srt, seqR_nx, seqR_rt, seqR_bk, seqR_ct, seqR_no, iffR_t, iffR_f, appC_l, extC_l, putC_l, putX_i, popC_l, insC_l, reto_o, reto_s, unpC_t, rvsC_l, ↓EX, ↓ES_nil, ↓ES_seq, ↓ES_asg, ↓ES_unp, ↓ES_app, ↓ES_ext, ↓ES_put, ↓ES_pop, ↓ES_rvs, ↓ES_ins, ↓ES_ife, ↓ES_ret, ↓ES_reto, ↓ES_retn, ↓ES_for, ↓ES_brk, ↓ES_cnt, ↓ES_drp, forF_, shareAll_n, shareAll_c, shareAt_, shC_o, shC_s, shC_n, shC_x, memN_n, memN_c, after_, flatC_o, flatC_s, flat_i, flat_b, flat_s, flat_n, flat_l, flat_t, noLs_ints, noLs_rows, noLs_fi, q_set0, q_sets, q_get0, q_gets, q_getn, q_mapc, q_mapn, q_appc, q_appn, q_reps, q_rep0, q_bb, q_bs, q_bn, q_ms, q_mn, Nat.reduceAdd, Nat.reduceSub, q_lc, q_ln, q_pure, Bool.false_eq_true, q_ift, q_iff, q_ifb, q_ifc, ite_self, reduceCtorEq, Bool.and_true, Bool.true_and, Bool.and_false, Bool.false_and, Bool.and_self, Bool.not_true, Bool.not_false, CE.isNil, Nat.reduceEqDiff, and_self, decide_true, decide_false, atI_nat, at0_get (show i < f.length by omega), e, ne_eq, not_false_eq_true]
  have e2 : ∀ x0 x1 x2 x3 x5 x7 x8 x9 x10 x11 x12 x13 x14 x15 x16 x17, lcGo (lcT (GG tab C (k + 7)) C [14] (.nm 14) c_law_c1 c_law_e2 [x0, x1, x2, x3, .sh (encNs o), x5, .sh (encL f), x7, x8, x9, x10, x11, x12, x13, x14, x15, x16, x17]) ((List.range n).map fun i => PyData.int (i : Nat)) = some (((List.range n).filter fun i => decide (at0 f i = 0)).map fun i => .int (oN o i : Nat)) := fun x0 x1 x2 x3 x5 x7 x8 x9 x10 x11 x12 x13 x14 x15 x16 x17 => by
    refine lcGo_filter (g := fun i : Nat => PyData.int (oN o i : Nat)) fun i hi => ?_
    have hin := List.mem_range.mp hi
    have hol := P1.len
    rw [lcF_if rfl]
    by_cases e : at0 f i = 0
    · simp only [c_law_c1, c_law_e2, runD, getD_sh, getD_ow, getB_b, getL_t, d_sh, d_ow, getO_t, getO_f, bindT_nm, bindT_tp, setAll_nil, setAll_cons, hide_nil, hide_cons, items_l, items_t, seq_l, seq_t, zipD2, zipD3, enmD_, rev_l, rev_t, len_l, len_t, len_s, sum_l, all_l, any_l, tup_l, tup_t, lst_l, lst_t, min2_, max2_, int_i, int_b, abs_i, add_i, add_s, add_l, add_t, sub_i, mul_i, div_i, mod_i, pow_i, eq_i, ne_i, lt_i, le_i, gt_i, ge_i, isi_i, isi_ib, isi_b, isi_bi, isi_tt, isi_tn, isi_tl, isi_ll, isi_lt, isNon_n, isNon_i, isNon_t, isNon_l, isDict_i, isDict_b, isDict_t, isDict_l, isDict_n, isDict_s, ix_l, ix_t, sl_l, sl_t, atI_nat, atI_0, atI_1, atI_2, atI_3, atI_4, atI_5, atI_6, atI_7, keep_sh, keep_l, noL_i, noL_b, noL_s, noL_n, noL_t, noL_l, noLs_n, noLs_c, isNil_nil, out_rt, out_nx, ↓EE_var, varC_sh, ↓EE_cst, ↓EE_int, ↓EE_bl, ↓EE_non, ↓EE_str, ↓EE_bin, ↓EE_rep, repC_l, ↓EE_neg, negC_i, ↓EE_is, ↓EE_isn, ↓EE_eq, ↓EE_ne, ↓EE_lt, ↓EE_le, ↓EE_gt, ↓EE_ge, ↓EE_inn, ↓EE_ni, ↓EE_chain, ↓EE_and, andC_t, andC_f, ↓EE_or, orC_t, orC_f, ↓EE_not, ↓EE_ite, iteC_t, iteC_f, ↓EE_nil, ↓EE_cons, ↓EE_tup, ↓EE_lst, ↓EE_call, ↓EE_blt, ↓EE_isi, ↓EE_ix, ↓EE_sl, ↓EE_lc, ↓EE_rng, ↓EE_zip, ↓EE_enm, ↓EE_rev, ↓EE_bm, ↓EE_srt, seqR_nx, seqR_rt, seqR_bk, seqR_ct, seqR_no, iffR_t, iffR_f, appC_l, extC_l, putC_l, putX_i, popC_l, insC_l, reto_o, reto_s, unpC_t, rvsC_l, ↓EX, ↓ES_nil, ↓ES_seq, ↓ES_asg, ↓ES_unp, ↓ES_app, ↓ES_ext, ↓ES_put, ↓ES_pop, ↓ES_rvs, ↓ES_ins, ↓ES_ife, ↓ES_ret, ↓ES_reto, ↓ES_retn, ↓ES_for, ↓ES_brk, ↓ES_cnt, ↓ES_drp, forF_, shareAll_n, shareAll_c, shareAt_, shC_o, shC_s, shC_n, shC_x, memN_n, memN_c, after_, flatC_o, flatC_s, flat_i, flat_b, flat_s, flat_n, flat_l, flat_t, noLs_ints, noLs_rows, noLs_fi, q_set0, q_sets, q_get0, q_gets, q_getn, q_mapc, q_mapn, q_appc, q_appn, q_reps, q_rep0, q_bb, q_bs, q_bn, q_ms, q_mn, Nat.reduceAdd, Nat.reduceSub, q_lc, q_ln, q_pure, Bool.false_eq_true, q_ift, q_iff, q_ifb, q_ifc, ite_self, reduceCtorEq, Bool.and_true, Bool.true_and, Bool.and_false, Bool.false_and, Bool.and_self, Bool.not_true, Bool.not_false, CE.isNil, Nat.reduceEqDiff, and_self, decide_true, decide_false, atI_nat, at0_get (show i < f.length by omega), oN_get (show i < o.length by omega), e]
    · simp only [c_law_c1, c_law_e2, runD, getD_sh, getD_ow, getB_b, getL_t, d_sh, d_ow, getO_t, getO_f, bindT_nm, bindT_tp, setAll_nil, setAll_cons, hide_nil, hide_cons, items_l, items_t, seq_l, seq_t, zipD2, zipD3, enmD_, rev_l, rev_t, len_l, len_t, len_s, sum_l, all_l, any_l, tup_l, tup_t, lst_l, lst_t, min2_, max2_, int_i, int_b, abs_i, add_i, add_s, add_l, add_t, sub_i, mul_i, div_i, mod_i, pow_i, eq_i, ne_i, lt_i, le_i, gt_i, ge_i, isi_i, isi_ib, isi_b, isi_bi, isi_tt, isi_tn, isi_tl, isi_ll, isi_lt, isNon_n, isNon_i, isNon_t, isNon_l, isDict_i, isDict_b, isDict_t, isDict_l, isDict_n, isDict_s, ix_l, ix_t, sl_l, sl_t, atI_nat, atI_0, atI_1, atI_2, atI_3, atI_4, atI_5, atI_6, atI_7, keep_sh, keep_l, noL_i, noL_b, noL_s, noL_n, noL_t, noL_l, noLs_n, noLs_c, isNil_nil, out_rt, out_nx, ↓EE_var, varC_sh, ↓EE_cst, ↓EE_int, ↓EE_bl, ↓EE_non, ↓EE_str, ↓EE_bin, ↓EE_rep, repC_l, ↓EE_neg, negC_i, ↓EE_is, ↓EE_isn, ↓EE_eq, ↓EE_ne, ↓EE_lt, ↓EE_le, ↓EE_gt, ↓EE_ge, ↓EE_inn, ↓EE_ni, ↓EE_chain, ↓EE_and, andC_t, andC_f, ↓EE_or, orC_t, orC_f, ↓EE_not, ↓EE_ite, iteC_t, iteC_f, ↓EE_nil, ↓EE_cons, ↓EE_tup, ↓EE_lst, ↓EE_call, ↓EE_blt, ↓EE_isi, ↓EE_ix, ↓EE_sl, ↓EE_lc, ↓EE_rng, ↓EE_zip, ↓EE_enm, ↓EE_rev, ↓EE_bm, ↓EE_srt, seqR_nx, seqR_rt, seqR_bk, seqR_ct, seqR_no, iffR_t, iffR_f, appC_l, extC_l, putC_l, putX_i, popC_l, insC_l, reto_o, reto_s, unpC_t, rvsC_l, ↓EX, ↓ES_nil, ↓ES_seq, ↓ES_asg, ↓ES_unp, ↓ES_app, ↓ES_ext, ↓ES_put, ↓ES_pop, ↓ES_rvs, ↓ES_ins, ↓ES_ife, ↓ES_ret, ↓ES_reto, ↓ES_retn, ↓ES_for, ↓ES_brk, ↓ES_cnt, ↓ES_drp, forF_, shareAll_n, shareAll_c, shareAt_, shC_o, shC_s, shC_n, shC_x, memN_n, memN_c, after_, flatC_o, flatC_s, flat_i, flat_b, flat_s, flat_n, flat_l, flat_t, noLs_ints, noLs_rows, noLs_fi, q_set0, q_sets, q_get0, q_gets, q_getn, q_mapc, q_mapn, q_appc, q_appn, q_reps, q_rep0, q_bb, q_bs, q_bn, q_ms, q_mn, Nat.reduceAdd, Nat.reduceSub, q_lc, q_ln, q_pure, Bool.false_eq_true, q_ift, q_iff, q_ifb, q_ifc, ite_self, reduceCtorEq, Bool.and_true, Bool.true_and, Bool.and_false, Bool.false_and, Bool.and_self, Bool.not_true, Bool.not_false, CE.isNil, Nat.reduceEqDiff, and_self, decide_true, decide_false, atI_nat, at0_get (show i < f.length by omega), oN_get (show i < o.length by omega), e]
  have hl1e : Ent p (load1M ns p n f) := ent_range fun i hi => by
    have := hl0e _ (at0_mem (k := i) (by omega))
    split <;> omega
  have hl1l : (load1M ns p n f).length = n := by simp [load1M]
  have t1 := table_g (C := C) (k := k + 6) hp P1.len hfl hfe (by omega)
  have t2 := table_g (C := C) (k := k + 6) hp P2.len hgl hge (by omega)
  have t3 := table_g (C := C) (k := k + 6) hp (n := n) (o := (List.range n).map fun i => oN oo (oN o i)) (f := (List.range n).map fun i => at0 f i * at0 g (oN o i) % p) (by simp) (by simp) (ent_range fun i _ => ⟨Int.emod_nonneg _ (by omega), Int.emod_lt_of_pos _ hp0⟩) (by omega)
  have R1 := tabM_rws (n := n) (o := o) hp0 hfe
  have R2 := tabM_rws (n := n) (o := oo) hp0 hge
  have pr := product_g pt (C := C) (k := k + 5) (high := n) (wide := n) (wide2 := n) (h2 := .int (n : Nat)) hp R1.1 (fun r h => by rw [(R2.1 r h).1]; exact Nat.le_refl _) (by omega)
  rw [tab_prod P1] at pr
  have ti := table_is_g (C := C) (k := k + 4) (h := n) (w := n) (rows := tabM n ((List.range n).map fun i => oN oo (oN o i)) ((List.range n).map fun i => at0 f i * at0 g (oN o i) % p))
  -- whatever the load
  have rk := rank_g pt (C := C) (k := k + 3) hp R1.1 R1.2 (show n ≤ 1000 by omega) (show n ≤ 1000 by omega)
  rw [tab_image hp P1 hfe, List.length_map] at rk
  have im := image_g pt (C := C) (k := k + 4) hp R1.1 R1.2 (show n ≤ 1000 by omega) (show n ≤ 1000 by omega)
  rw [tab_image hp P1 hfe] at im
  have hws := wholes_mono n fun i => decide (at0 f i ≠ 0)
  have un1 := units_g (C := C) (k := k + 6) (n := n) (pl := (List.range n).filter fun i => decide (at0 f i ≠ 0)) (by omega)
  rw [sortN_id hws] at un1
  have ib1 := is_base_g (C := C) (k := k + 5) (rows := ((List.range n).filter fun i => decide (at0 f i ≠ 0)).map (unitM n))
  have hnd : (((List.range n).filter fun i => decide (at0 f i = 0)).map (oN o)).Nodup := by
    unfold List.Nodup
    rw [List.pairwise_map]
    refine List.Pairwise.imp_of_mem (fun {a b} ha hb2 hab e => ?_) (wholes_mono n fun i => decide (at0 f i = 0))
    have ha := List.mem_range.mp (List.mem_filter.mp ha).1
    have hb2 := List.mem_range.mp (List.mem_filter.mp hb2).1
    have := P1.inj a b ha hb2 e
    omega
  have ke := kernel_g pt (C := C) (k := k + 4) (hi := .int (n : Nat)) hp (show n ≤ 1000 by omega) (show (tabM n o f).length ≤ 1000 by rw [R1.2]; omega) R1.1
  rw [tab_kernel hp P1 hfe (sortN_lt hnd) fun j => by rw [mem_sortN]; simp [and_assoc]] at ke
  have un2 : GG tab C (k + 7) 1010 [.int (n : Nat), .list (((List.range n).filter fun i => decide (at0 f i = 0)).map fun i => .int (oN o i : Nat))] = some (.ow (encB ((sortN (((List.range n).filter fun i => decide (at0 f i = 0)).map (oN o))).map (unitM n)))) := by
    have h := units_g (C := C) (k := k + 6) (n := n) (pl := ((List.range n).filter fun i => decide (at0 f i = 0)).map (oN o)) (by omega)
    rw [encNs, List.map_map] at h
    exact h
  have ib2 := is_base_g (C := C) (k := k + 5) (rows := (sortN (((List.range n).filter fun i => decide (at0 f i = 0)).map (oN o))).map (unitM n))
  have ba := back_of_g pt (C := C) (k := k + 4) hp R1.1 R1.2 (by omega)
  rw [tab_back hp P1 hfe hfl] at ba
  have lb := lawback_g (C := C) (k := k + 5) hp P1 hfl hfe (by omega)
  have wh : ∀ x, GG tab C (k + 7) 1001 [.int x] = some (.sh (.bool true)) := fun x => whole_g
  have hlen : ∀ x : Int, (!decide (x = x)) = false := fun x => by simp
  have ts : ∃ d, GG tab C (k + 7) 26 [.int p, encTab n n (tabM n o f)] = some (.sh d) ∧ GG tab C (k + 7) 1008 [.int p, encNs o, encL f] = some (.sh d) ∧ GG tab C (k + 7) 1006 [d, d] = some (.sh (.bool true)) := by
    refine ⟨_, ba, lb, ?_⟩
    split
    · exact table_is_g
    · exact table_is_none
  obtain ⟨dd, ts2, ts3, ts4⟩ := ts
  have lastE : orC (some (decide ((n : Int) = 0))) (getB (GG tab C (k + 7) 1011 [.int p, .int (n : Nat), .tuple ((tabM n o f).map encT)])) = some (.sh (.bool true)) := by
    by_cases hn0 : n = 0
    · subst hn0; rfl
    · rw [no_back_g (C := C) (k := k + 5) (by omega)]
      have : ¬ (n : Int) = 0 := by omega
      rw [decide_eq_false this]; rfl
  simp only [c_law, runD, getD_sh, getD_ow, getB_b, getL_t, d_sh, d_ow, getO_t, getO_f, bindT_nm, bindT_tp, setAll_nil, setAll_cons, hide_nil, hide_cons, items_l, items_t, seq_l, seq_t, zipD2, zipD3, enmD_, rev_l, rev_t, len_l, len_t, len_s, sum_l, all_l, any_l, tup_l, tup_t, lst_l, lst_t, min2_, max2_, int_i, int_b, abs_i, add_i, add_s, add_l, add_t, sub_i, mul_i, div_i, mod_i, pow_i, eq_i, ne_i, lt_i, le_i, gt_i, ge_i, isi_i, isi_ib, isi_b, isi_bi, isi_tt, isi_tn, isi_tl, isi_ll, isi_lt, isNon_n, isNon_i, isNon_t, isNon_l, isDict_i, isDict_b, isDict_t, isDict_l, isDict_n, isDict_s, ix_l, ix_t, sl_l, sl_t, atI_nat, atI_0, atI_1, atI_2, atI_3, atI_4, atI_5, atI_6, atI_7, keep_sh, keep_l, noL_i, noL_b, noL_s, noL_n, noL_t, noL_l, noLs_n, noLs_c, isNil_nil, out_rt, out_nx, ↓EE_var, varC_sh, ↓EE_cst, ↓EE_int, ↓EE_bl, ↓EE_non, ↓EE_str, ↓EE_bin, ↓EE_rep, repC_l, ↓EE_neg, negC_i, ↓EE_is, ↓EE_isn, ↓EE_eq, ↓EE_ne, ↓EE_lt, ↓EE_le, ↓EE_gt, ↓EE_ge, ↓EE_inn, ↓EE_ni, ↓EE_chain, ↓EE_and, andC_t, andC_f, ↓EE_or, orC_t, orC_f, ↓EE_not, ↓EE_ite, iteC_t, iteC_f, ↓EE_nil, ↓EE_cons, ↓EE_tup, ↓EE_lst, ↓EE_call, ↓EE_blt, ↓EE_isi, ↓EE_ix, ↓EE_sl, ↓EE_lc, ↓EE_rng, ↓EE_zip, ↓EE_enm, ↓EE_rev, ↓EE_bm, ↓EE_srt, seqR_nx, seqR_rt, seqR_bk, seqR_ct, seqR_no, iffR_t, iffR_f, appC_l, extC_l, putC_l, putX_i, popC_l, insC_l, reto_o, reto_s, unpC_t, rvsC_l, ↓EX, ↓ES_nil, ↓ES_seq, ↓ES_asg, ↓ES_unp, ↓ES_app, ↓ES_ext, ↓ES_put, ↓ES_pop, ↓ES_rvs, ↓ES_ins, ↓ES_ife, ↓ES_ret, ↓ES_reto, ↓ES_retn, ↓ES_for, ↓ES_brk, ↓ES_cnt, ↓ES_drp, forF_, shareAll_n, shareAll_c, shareAt_, shC_o, shC_s, shC_n, shC_x, memN_n, memN_c, after_, flatC_o, flatC_s, flat_i, flat_b, flat_s, flat_n, flat_l, flat_t, noLs_ints, noLs_rows, noLs_fi, q_set0, q_sets, q_get0, q_gets, q_getn, q_mapc, q_mapn, q_appc, q_appn, q_reps, q_rep0, q_bb, q_bs, q_bn, q_ms, q_mn, Nat.reduceAdd, Nat.reduceSub, q_lc, q_ln, q_pure, Bool.false_eq_true, q_ift, q_iff, q_ifb, q_ifc, ite_self, reduceCtorEq, Bool.and_true, Bool.true_and, Bool.and_false, Bool.false_and, Bool.and_self, Bool.not_true, Bool.not_false, CE.isNil, Nat.reduceEqDiff, and_self, decide_true, decide_false, m0, ixp, Int.reduceLT, d4, hn, o1, o2, rng_nat hb, hf, e10, e9, d372]
  by_cases hodd : cell / 372 % 2 = 1
  · simp only [hodd]
    have ld := led_g pt (C := C) (k := k + 5) (l := encT (load1M ns p n f)) (load := (load1M ns p n f)) (high := .int (n : Nat)) (wide := .int (n : Nat)) (rows := tabM n o f) rfl hp0 fun r h => (R1.1 r h).2.sm hp
    rw [tab_led P1] at ld
    have e5 : ∀ x0 x1 x3 x5 x7 x8 x9 x10 x12 x13 x14 x15 x16 x17, lcGo (lcT (GG tab C (k + 7)) C [14] (.nm 14) .nil c_law_e5 [x0, x1, .sh (.int p), x3, .sh (encNs o), x5, .sh (encL f), x7, x8, x9, x10, .sh (encL (load1M ns p n f)), x12, x13, x14, x15, x16, x17]) ((List.range n).map fun i => PyData.int (i : Nat)) = some (((List.range n).map fun i => at0 f i * at0 (load1M ns p n f) (oN o i) % p).map .int) := fun x0 x1 x3 x5 x7 x8 x9 x10 x12 x13 x14 x15 x16 x17 => by
      rw [List.map_map]
      refine lcGo_map (g := fun i : Nat => PyData.int (at0 f i * at0 (load1M ns p n f) (oN o i) % p)) fun i hi => ?_
      have hin := List.mem_range.mp hi
      have hm : ∀ y, mulOk (at0 f i) y = true := fun y => mulOk_l (hfe.sm hp _ (at0_mem (by omega)))
      have hol := P1.len
      have hoi := P1.lt i hin
      simp only [lcF_all, c_law_e5, runD, getD_sh, getD_ow, getB_b, getL_t, d_sh, d_ow, getO_t, getO_f, bindT_nm, bindT_tp, setAll_nil, setAll_cons, hide_nil, hide_cons, items_l, items_t, seq_l, seq_t, zipD2, zipD3, enmD_, rev_l, rev_t, len_l, len_t, len_s, sum_l, all_l, any_l, tup_l, tup_t, lst_l, lst_t, min2_, max2_, int_i, int_b, abs_i, add_i, add_s, add_l, add_t, sub_i, mul_i, div_i, mod_i, pow_i, eq_i, ne_i, lt_i, le_i, gt_i, ge_i, isi_i, isi_ib, isi_b, isi_bi, isi_tt, isi_tn, isi_tl, isi_ll, isi_lt, isNon_n, isNon_i, isNon_t, isNon_l, isDict_i, isDict_b, isDict_t, isDict_l, isDict_n, isDict_s, ix_l, ix_t, sl_l, sl_t, atI_nat, atI_0, atI_1, atI_2, atI_3, atI_4, atI_5, atI_6, atI_7, keep_sh, keep_l, noL_i, noL_b, noL_s, noL_n, noL_t, noL_l, noLs_n, noLs_c, isNil_nil, out_rt, out_nx, ↓EE_var, varC_sh, ↓EE_cst, ↓EE_int, ↓EE_bl, ↓EE_non, ↓EE_str, ↓EE_bin, ↓EE_rep, repC_l, ↓EE_neg, negC_i, ↓EE_is, ↓EE_isn, ↓EE_eq, ↓EE_ne, ↓EE_lt, ↓EE_le, ↓EE_gt, ↓EE_ge, ↓EE_inn, ↓EE_ni, ↓EE_chain, ↓EE_and, andC_t, andC_f, ↓EE_or, orC_t, orC_f, ↓EE_not, ↓EE_ite, iteC_t, iteC_f, ↓EE_nil, ↓EE_cons, ↓EE_tup, ↓EE_lst, ↓EE_call, ↓EE_blt, ↓EE_isi, ↓EE_ix, ↓EE_sl, ↓EE_lc, ↓EE_rng, ↓EE_zip, ↓EE_enm, ↓EE_rev, ↓EE_bm, ↓EE_srt, seqR_nx, seqR_rt, seqR_bk, seqR_ct, seqR_no, iffR_t, iffR_f, appC_l, extC_l, putC_l, putX_i, popC_l, insC_l, reto_o, reto_s, unpC_t, rvsC_l, ↓EX, ↓ES_nil, ↓ES_seq, ↓ES_asg, ↓ES_unp, ↓ES_app, ↓ES_ext, ↓ES_put, ↓ES_pop, ↓ES_rvs, ↓ES_ins, ↓ES_ife, ↓ES_ret, ↓ES_reto, ↓ES_retn, ↓ES_for, ↓ES_brk, ↓ES_cnt, ↓ES_drp, forF_, shareAll_n, shareAll_c, shareAt_, shC_o, shC_s, shC_n, shC_x, memN_n, memN_c, after_, flatC_o, flatC_s, flat_i, flat_b, flat_s, flat_n, flat_l, flat_t, noLs_ints, noLs_rows, noLs_fi, q_set0, q_sets, q_get0, q_gets, q_getn, q_mapc, q_mapn, q_appc, q_appn, q_reps, q_rep0, q_bb, q_bs, q_bn, q_ms, q_mn, Nat.reduceAdd, Nat.reduceSub, q_lc, q_ln, q_pure, Bool.false_eq_true, q_ift, q_iff, q_ifb, q_ifc, ite_self, reduceCtorEq, Bool.and_true, Bool.true_and, Bool.and_false, Bool.false_and, Bool.and_self, Bool.not_true, Bool.not_false, CE.isNil, Nat.reduceEqDiff, and_self, decide_true, decide_false, atI_nat, at0_get (show i < f.length by omega), oN_get (show i < o.length by omega), at0_get (show oN o i < ((load1M ns p n f)).length by omega), hm, hp0]
    have li := load_is_g (C := C) (k := k + 5) (x := (List.range n).map fun i => at0 f i * at0 (load1M ns p n f) (oN o i) % p) (d := encL ((List.range n).map fun i => at0 f i * at0 (load1M ns p n f) (oN o i) % p)) (.inr rfl)
    have so := solved_g pt (C := C) (k := k + 4) (high := n) (wide := n) (rows := tabM n o f) (load := (load1M ns p n f)) (hd := .int (n : Nat)) hp R1.1 hl1e (by rw [R1.2]; omega) (by omega)
    rw [tab_solved hp P1 hfe hfl hl1e hl1l] at so
    have ls := lawsolved_g (C := C) (k := k + 5) hp P1 hfl hfe hl1l hl1e
    cases hls : lsGo p o f ((load1M ns p n f)).zipIdx (List.replicate n 0) with
    | none =>
      rw [hls] at so ls
      simp only at so ls
      have si := load_is_none (C := C) (k := k + 6)
      simp only [encTab, encNs, encL, encT] at t1 t2 t3 pr ti ld e8 e7 e6 e5 e4 e2 li so ls si rk im un1 ke un2 ib1 ib2 ts2 ts3 ts4
      simp only [runD, getD_sh, getD_ow, getB_b, getL_t, d_sh, d_ow, getO_t, getO_f, bindT_nm, bindT_tp, setAll_nil, setAll_cons, hide_nil, hide_cons, items_l, items_t, seq_l, seq_t, zipD2, zipD3, enmD_, rev_l, rev_t, len_l, len_t, len_s, sum_l, all_l, any_l, tup_l, tup_t, lst_l, lst_t, min2_, max2_, int_i, int_b, abs_i, add_i, add_s, add_l, add_t, sub_i, mul_i, div_i, mod_i, pow_i, eq_i, ne_i, lt_i, le_i, gt_i, ge_i, isi_i, isi_ib, isi_b, isi_bi, isi_tt, isi_tn, isi_tl, isi_ll, isi_lt, isNon_n, isNon_i, isNon_t, isNon_l, isDict_i, isDict_b, isDict_t, isDict_l, isDict_n, isDict_s, ix_l, ix_t, sl_l, sl_t, atI_nat, atI_0, atI_1, atI_2, atI_3, atI_4, atI_5, atI_6, atI_7, keep_sh, keep_l, noL_i, noL_b, noL_s, noL_n, noL_t, noL_l, noLs_n, noLs_c, isNil_nil, out_rt, out_nx, ↓EE_var, varC_sh, ↓EE_cst, ↓EE_int, ↓EE_bl, ↓EE_non, ↓EE_str, ↓EE_bin, ↓EE_rep, repC_l, ↓EE_neg, negC_i, ↓EE_is, ↓EE_isn, ↓EE_eq, ↓EE_ne, ↓EE_lt, ↓EE_le, ↓EE_gt, ↓EE_ge, ↓EE_inn, ↓EE_ni, ↓EE_chain, ↓EE_and, andC_t, andC_f, ↓EE_or, orC_t, orC_f, ↓EE_not, ↓EE_ite, iteC_t, iteC_f, ↓EE_nil, ↓EE_cons, ↓EE_tup, ↓EE_lst, ↓EE_call, ↓EE_blt, ↓EE_isi, ↓EE_ix, ↓EE_sl, ↓EE_lc, ↓EE_rng, ↓EE_zip, ↓EE_enm, ↓EE_rev, ↓EE_bm, ↓EE_srt, seqR_nx, seqR_rt, seqR_bk, seqR_ct, seqR_no, iffR_t, iffR_f, appC_l, extC_l, putC_l, putX_i, popC_l, insC_l, reto_o, reto_s, unpC_t, rvsC_l, ↓EX, ↓ES_nil, ↓ES_seq, ↓ES_asg, ↓ES_unp, ↓ES_app, ↓ES_ext, ↓ES_put, ↓ES_pop, ↓ES_rvs, ↓ES_ins, ↓ES_ife, ↓ES_ret, ↓ES_reto, ↓ES_retn, ↓ES_for, ↓ES_brk, ↓ES_cnt, ↓ES_drp, forF_, shareAll_n, shareAll_c, shareAt_, shC_o, shC_s, shC_n, shC_x, memN_n, memN_c, after_, flatC_o, flatC_s, flat_i, flat_b, flat_s, flat_n, flat_l, flat_t, noLs_ints, noLs_rows, noLs_fi, q_set0, q_sets, q_get0, q_gets, q_getn, q_mapc, q_mapn, q_appc, q_appn, q_reps, q_rep0, q_bb, q_bs, q_bn, q_ms, q_mn, Nat.reduceAdd, Nat.reduceSub, q_lc, q_ln, q_pure, Bool.false_eq_true, q_ift, q_iff, q_ifb, q_ifc, ite_self, reduceCtorEq, Bool.and_true, Bool.true_and, Bool.and_false, Bool.false_and, Bool.and_self, Bool.not_true, Bool.not_false, CE.isNil, Nat.reduceEqDiff, and_self, decide_true, decide_false, rng_nat hb, e8, t1, e7, e6, t3, t2, pr, ti, ld, e5, li, e4, rk, wh, List.length_map, hlen, im, un1, ib1, e2, ke, un2, ib2, so, ls, si, ts2, ts3, ts4, lastE, encTab, encNs, encL, encT]
    | some y =>
      rw [hls] at so ls
      simp only at so ls
      have si := load_is_g (C := C) (k := k + 5) (x := y) (d := encL y) (.inr rfl)
      simp only [encTab, encNs, encL, encT] at t1 t2 t3 pr ti ld e8 e7 e6 e5 e4 e2 li so ls si rk im un1 ke un2 ib1 ib2 ts2 ts3 ts4
      simp only [runD, getD_sh, getD_ow, getB_b, getL_t, d_sh, d_ow, getO_t, getO_f, bindT_nm, bindT_tp, setAll_nil, setAll_cons, hide_nil, hide_cons, items_l, items_t, seq_l, seq_t, zipD2, zipD3, enmD_, rev_l, rev_t, len_l, len_t, len_s, sum_l, all_l, any_l, tup_l, tup_t, lst_l, lst_t, min2_, max2_, int_i, int_b, abs_i, add_i, add_s, add_l, add_t, sub_i, mul_i, div_i, mod_i, pow_i, eq_i, ne_i, lt_i, le_i, gt_i, ge_i, isi_i, isi_ib, isi_b, isi_bi, isi_tt, isi_tn, isi_tl, isi_ll, isi_lt, isNon_n, isNon_i, isNon_t, isNon_l, isDict_i, isDict_b, isDict_t, isDict_l, isDict_n, isDict_s, ix_l, ix_t, sl_l, sl_t, atI_nat, atI_0, atI_1, atI_2, atI_3, atI_4, atI_5, atI_6, atI_7, keep_sh, keep_l, noL_i, noL_b, noL_s, noL_n, noL_t, noL_l, noLs_n, noLs_c, isNil_nil, out_rt, out_nx, ↓EE_var, varC_sh, ↓EE_cst, ↓EE_int, ↓EE_bl, ↓EE_non, ↓EE_str, ↓EE_bin, ↓EE_rep, repC_l, ↓EE_neg, negC_i, ↓EE_is, ↓EE_isn, ↓EE_eq, ↓EE_ne, ↓EE_lt, ↓EE_le, ↓EE_gt, ↓EE_ge, ↓EE_inn, ↓EE_ni, ↓EE_chain, ↓EE_and, andC_t, andC_f, ↓EE_or, orC_t, orC_f, ↓EE_not, ↓EE_ite, iteC_t, iteC_f, ↓EE_nil, ↓EE_cons, ↓EE_tup, ↓EE_lst, ↓EE_call, ↓EE_blt, ↓EE_isi, ↓EE_ix, ↓EE_sl, ↓EE_lc, ↓EE_rng, ↓EE_zip, ↓EE_enm, ↓EE_rev, ↓EE_bm, ↓EE_srt, seqR_nx, seqR_rt, seqR_bk, seqR_ct, seqR_no, iffR_t, iffR_f, appC_l, extC_l, putC_l, putX_i, popC_l, insC_l, reto_o, reto_s, unpC_t, rvsC_l, ↓EX, ↓ES_nil, ↓ES_seq, ↓ES_asg, ↓ES_unp, ↓ES_app, ↓ES_ext, ↓ES_put, ↓ES_pop, ↓ES_rvs, ↓ES_ins, ↓ES_ife, ↓ES_ret, ↓ES_reto, ↓ES_retn, ↓ES_for, ↓ES_brk, ↓ES_cnt, ↓ES_drp, forF_, shareAll_n, shareAll_c, shareAt_, shC_o, shC_s, shC_n, shC_x, memN_n, memN_c, after_, flatC_o, flatC_s, flat_i, flat_b, flat_s, flat_n, flat_l, flat_t, noLs_ints, noLs_rows, noLs_fi, q_set0, q_sets, q_get0, q_gets, q_getn, q_mapc, q_mapn, q_appc, q_appn, q_reps, q_rep0, q_bb, q_bs, q_bn, q_ms, q_mn, Nat.reduceAdd, Nat.reduceSub, q_lc, q_ln, q_pure, Bool.false_eq_true, q_ift, q_iff, q_ifb, q_ifc, ite_self, reduceCtorEq, Bool.and_true, Bool.true_and, Bool.and_false, Bool.false_and, Bool.and_self, Bool.not_true, Bool.not_false, CE.isNil, Nat.reduceEqDiff, and_self, decide_true, decide_false, rng_nat hb, e8, t1, e7, e6, t3, t2, pr, ti, ld, e5, li, e4, rk, wh, List.length_map, hlen, im, un1, ib1, e2, ke, un2, ib2, so, ls, si, ts2, ts3, ts4, lastE, encTab, encNs, encL, encT]
  · simp only [hodd]
    have ld := led_g pt (C := C) (k := k + 5) (l := encT (load0M ns p n)) (load := (load0M ns p n)) (high := .int (n : Nat)) (wide := .int (n : Nat)) (rows := tabM n o f) rfl hp0 fun r h => (R1.1 r h).2.sm hp
    rw [tab_led P1] at ld
    have e5 : ∀ x0 x1 x3 x5 x7 x8 x9 x10 x12 x13 x14 x15 x16 x17, lcGo (lcT (GG tab C (k + 7)) C [14] (.nm 14) .nil c_law_e5 [x0, x1, .sh (.int p), x3, .sh (encNs o), x5, .sh (encL f), x7, x8, x9, x10, .sh (encL (load0M ns p n)), x12, x13, x14, x15, x16, x17]) ((List.range n).map fun i => PyData.int (i : Nat)) = some (((List.range n).map fun i => at0 f i * at0 (load0M ns p n) (oN o i) % p).map .int) := fun x0 x1 x3 x5 x7 x8 x9 x10 x12 x13 x14 x15 x16 x17 => by
      rw [List.map_map]
      refine lcGo_map (g := fun i : Nat => PyData.int (at0 f i * at0 (load0M ns p n) (oN o i) % p)) fun i hi => ?_
      have hin := List.mem_range.mp hi
      have hm : ∀ y, mulOk (at0 f i) y = true := fun y => mulOk_l (hfe.sm hp _ (at0_mem (by omega)))
      have hol := P1.len
      have hoi := P1.lt i hin
      simp only [lcF_all, c_law_e5, runD, getD_sh, getD_ow, getB_b, getL_t, d_sh, d_ow, getO_t, getO_f, bindT_nm, bindT_tp, setAll_nil, setAll_cons, hide_nil, hide_cons, items_l, items_t, seq_l, seq_t, zipD2, zipD3, enmD_, rev_l, rev_t, len_l, len_t, len_s, sum_l, all_l, any_l, tup_l, tup_t, lst_l, lst_t, min2_, max2_, int_i, int_b, abs_i, add_i, add_s, add_l, add_t, sub_i, mul_i, div_i, mod_i, pow_i, eq_i, ne_i, lt_i, le_i, gt_i, ge_i, isi_i, isi_ib, isi_b, isi_bi, isi_tt, isi_tn, isi_tl, isi_ll, isi_lt, isNon_n, isNon_i, isNon_t, isNon_l, isDict_i, isDict_b, isDict_t, isDict_l, isDict_n, isDict_s, ix_l, ix_t, sl_l, sl_t, atI_nat, atI_0, atI_1, atI_2, atI_3, atI_4, atI_5, atI_6, atI_7, keep_sh, keep_l, noL_i, noL_b, noL_s, noL_n, noL_t, noL_l, noLs_n, noLs_c, isNil_nil, out_rt, out_nx, ↓EE_var, varC_sh, ↓EE_cst, ↓EE_int, ↓EE_bl, ↓EE_non, ↓EE_str, ↓EE_bin, ↓EE_rep, repC_l, ↓EE_neg, negC_i, ↓EE_is, ↓EE_isn, ↓EE_eq, ↓EE_ne, ↓EE_lt, ↓EE_le, ↓EE_gt, ↓EE_ge, ↓EE_inn, ↓EE_ni, ↓EE_chain, ↓EE_and, andC_t, andC_f, ↓EE_or, orC_t, orC_f, ↓EE_not, ↓EE_ite, iteC_t, iteC_f, ↓EE_nil, ↓EE_cons, ↓EE_tup, ↓EE_lst, ↓EE_call, ↓EE_blt, ↓EE_isi, ↓EE_ix, ↓EE_sl, ↓EE_lc, ↓EE_rng, ↓EE_zip, ↓EE_enm, ↓EE_rev, ↓EE_bm, ↓EE_srt, seqR_nx, seqR_rt, seqR_bk, seqR_ct, seqR_no, iffR_t, iffR_f, appC_l, extC_l, putC_l, putX_i, popC_l, insC_l, reto_o, reto_s, unpC_t, rvsC_l, ↓EX, ↓ES_nil, ↓ES_seq, ↓ES_asg, ↓ES_unp, ↓ES_app, ↓ES_ext, ↓ES_put, ↓ES_pop, ↓ES_rvs, ↓ES_ins, ↓ES_ife, ↓ES_ret, ↓ES_reto, ↓ES_retn, ↓ES_for, ↓ES_brk, ↓ES_cnt, ↓ES_drp, forF_, shareAll_n, shareAll_c, shareAt_, shC_o, shC_s, shC_n, shC_x, memN_n, memN_c, after_, flatC_o, flatC_s, flat_i, flat_b, flat_s, flat_n, flat_l, flat_t, noLs_ints, noLs_rows, noLs_fi, q_set0, q_sets, q_get0, q_gets, q_getn, q_mapc, q_mapn, q_appc, q_appn, q_reps, q_rep0, q_bb, q_bs, q_bn, q_ms, q_mn, Nat.reduceAdd, Nat.reduceSub, q_lc, q_ln, q_pure, Bool.false_eq_true, q_ift, q_iff, q_ifb, q_ifc, ite_self, reduceCtorEq, Bool.and_true, Bool.true_and, Bool.and_false, Bool.false_and, Bool.and_self, Bool.not_true, Bool.not_false, CE.isNil, Nat.reduceEqDiff, and_self, decide_true, decide_false, atI_nat, at0_get (show i < f.length by omega), oN_get (show i < o.length by omega), at0_get (show oN o i < ((load0M ns p n)).length by omega), hm, hp0]
    have li := load_is_g (C := C) (k := k + 5) (x := (List.range n).map fun i => at0 f i * at0 (load0M ns p n) (oN o i) % p) (d := encL ((List.range n).map fun i => at0 f i * at0 (load0M ns p n) (oN o i) % p)) (.inr rfl)
    have so := solved_g pt (C := C) (k := k + 4) (high := n) (wide := n) (rows := tabM n o f) (load := (load0M ns p n)) (hd := .int (n : Nat)) hp R1.1 hl0e (by rw [R1.2]; omega) (by omega)
    rw [tab_solved hp P1 hfe hfl hl0e hl0l] at so
    have ls := lawsolved_g (C := C) (k := k + 5) hp P1 hfl hfe hl0l hl0e
    cases hls : lsGo p o f ((load0M ns p n)).zipIdx (List.replicate n 0) with
    | none =>
      rw [hls] at so ls
      simp only at so ls
      have si := load_is_none (C := C) (k := k + 6)
      simp only [encTab, encNs, encL, encT] at t1 t2 t3 pr ti ld e8 e7 e6 e5 e4 e2 li so ls si rk im un1 ke un2 ib1 ib2 ts2 ts3 ts4
      simp only [runD, getD_sh, getD_ow, getB_b, getL_t, d_sh, d_ow, getO_t, getO_f, bindT_nm, bindT_tp, setAll_nil, setAll_cons, hide_nil, hide_cons, items_l, items_t, seq_l, seq_t, zipD2, zipD3, enmD_, rev_l, rev_t, len_l, len_t, len_s, sum_l, all_l, any_l, tup_l, tup_t, lst_l, lst_t, min2_, max2_, int_i, int_b, abs_i, add_i, add_s, add_l, add_t, sub_i, mul_i, div_i, mod_i, pow_i, eq_i, ne_i, lt_i, le_i, gt_i, ge_i, isi_i, isi_ib, isi_b, isi_bi, isi_tt, isi_tn, isi_tl, isi_ll, isi_lt, isNon_n, isNon_i, isNon_t, isNon_l, isDict_i, isDict_b, isDict_t, isDict_l, isDict_n, isDict_s, ix_l, ix_t, sl_l, sl_t, atI_nat, atI_0, atI_1, atI_2, atI_3, atI_4, atI_5, atI_6, atI_7, keep_sh, keep_l, noL_i, noL_b, noL_s, noL_n, noL_t, noL_l, noLs_n, noLs_c, isNil_nil, out_rt, out_nx, ↓EE_var, varC_sh, ↓EE_cst, ↓EE_int, ↓EE_bl, ↓EE_non, ↓EE_str, ↓EE_bin, ↓EE_rep, repC_l, ↓EE_neg, negC_i, ↓EE_is, ↓EE_isn, ↓EE_eq, ↓EE_ne, ↓EE_lt, ↓EE_le, ↓EE_gt, ↓EE_ge, ↓EE_inn, ↓EE_ni, ↓EE_chain, ↓EE_and, andC_t, andC_f, ↓EE_or, orC_t, orC_f, ↓EE_not, ↓EE_ite, iteC_t, iteC_f, ↓EE_nil, ↓EE_cons, ↓EE_tup, ↓EE_lst, ↓EE_call, ↓EE_blt, ↓EE_isi, ↓EE_ix, ↓EE_sl, ↓EE_lc, ↓EE_rng, ↓EE_zip, ↓EE_enm, ↓EE_rev, ↓EE_bm, ↓EE_srt, seqR_nx, seqR_rt, seqR_bk, seqR_ct, seqR_no, iffR_t, iffR_f, appC_l, extC_l, putC_l, putX_i, popC_l, insC_l, reto_o, reto_s, unpC_t, rvsC_l, ↓EX, ↓ES_nil, ↓ES_seq, ↓ES_asg, ↓ES_unp, ↓ES_app, ↓ES_ext, ↓ES_put, ↓ES_pop, ↓ES_rvs, ↓ES_ins, ↓ES_ife, ↓ES_ret, ↓ES_reto, ↓ES_retn, ↓ES_for, ↓ES_brk, ↓ES_cnt, ↓ES_drp, forF_, shareAll_n, shareAll_c, shareAt_, shC_o, shC_s, shC_n, shC_x, memN_n, memN_c, after_, flatC_o, flatC_s, flat_i, flat_b, flat_s, flat_n, flat_l, flat_t, noLs_ints, noLs_rows, noLs_fi, q_set0, q_sets, q_get0, q_gets, q_getn, q_mapc, q_mapn, q_appc, q_appn, q_reps, q_rep0, q_bb, q_bs, q_bn, q_ms, q_mn, Nat.reduceAdd, Nat.reduceSub, q_lc, q_ln, q_pure, Bool.false_eq_true, q_ift, q_iff, q_ifb, q_ifc, ite_self, reduceCtorEq, Bool.and_true, Bool.true_and, Bool.and_false, Bool.false_and, Bool.and_self, Bool.not_true, Bool.not_false, CE.isNil, Nat.reduceEqDiff, and_self, decide_true, decide_false, rng_nat hb, e8, t1, e7, e6, t3, t2, pr, ti, ld, e5, li, e4, rk, wh, List.length_map, hlen, im, un1, ib1, e2, ke, un2, ib2, so, ls, si, ts2, ts3, ts4, lastE, encTab, encNs, encL, encT]
    | some y =>
      rw [hls] at so ls
      simp only at so ls
      have si := load_is_g (C := C) (k := k + 5) (x := y) (d := encL y) (.inr rfl)
      simp only [encTab, encNs, encL, encT] at t1 t2 t3 pr ti ld e8 e7 e6 e5 e4 e2 li so ls si rk im un1 ke un2 ib1 ib2 ts2 ts3 ts4
      simp only [runD, getD_sh, getD_ow, getB_b, getL_t, d_sh, d_ow, getO_t, getO_f, bindT_nm, bindT_tp, setAll_nil, setAll_cons, hide_nil, hide_cons, items_l, items_t, seq_l, seq_t, zipD2, zipD3, enmD_, rev_l, rev_t, len_l, len_t, len_s, sum_l, all_l, any_l, tup_l, tup_t, lst_l, lst_t, min2_, max2_, int_i, int_b, abs_i, add_i, add_s, add_l, add_t, sub_i, mul_i, div_i, mod_i, pow_i, eq_i, ne_i, lt_i, le_i, gt_i, ge_i, isi_i, isi_ib, isi_b, isi_bi, isi_tt, isi_tn, isi_tl, isi_ll, isi_lt, isNon_n, isNon_i, isNon_t, isNon_l, isDict_i, isDict_b, isDict_t, isDict_l, isDict_n, isDict_s, ix_l, ix_t, sl_l, sl_t, atI_nat, atI_0, atI_1, atI_2, atI_3, atI_4, atI_5, atI_6, atI_7, keep_sh, keep_l, noL_i, noL_b, noL_s, noL_n, noL_t, noL_l, noLs_n, noLs_c, isNil_nil, out_rt, out_nx, ↓EE_var, varC_sh, ↓EE_cst, ↓EE_int, ↓EE_bl, ↓EE_non, ↓EE_str, ↓EE_bin, ↓EE_rep, repC_l, ↓EE_neg, negC_i, ↓EE_is, ↓EE_isn, ↓EE_eq, ↓EE_ne, ↓EE_lt, ↓EE_le, ↓EE_gt, ↓EE_ge, ↓EE_inn, ↓EE_ni, ↓EE_chain, ↓EE_and, andC_t, andC_f, ↓EE_or, orC_t, orC_f, ↓EE_not, ↓EE_ite, iteC_t, iteC_f, ↓EE_nil, ↓EE_cons, ↓EE_tup, ↓EE_lst, ↓EE_call, ↓EE_blt, ↓EE_isi, ↓EE_ix, ↓EE_sl, ↓EE_lc, ↓EE_rng, ↓EE_zip, ↓EE_enm, ↓EE_rev, ↓EE_bm, ↓EE_srt, seqR_nx, seqR_rt, seqR_bk, seqR_ct, seqR_no, iffR_t, iffR_f, appC_l, extC_l, putC_l, putX_i, popC_l, insC_l, reto_o, reto_s, unpC_t, rvsC_l, ↓EX, ↓ES_nil, ↓ES_seq, ↓ES_asg, ↓ES_unp, ↓ES_app, ↓ES_ext, ↓ES_put, ↓ES_pop, ↓ES_rvs, ↓ES_ins, ↓ES_ife, ↓ES_ret, ↓ES_reto, ↓ES_retn, ↓ES_for, ↓ES_brk, ↓ES_cnt, ↓ES_drp, forF_, shareAll_n, shareAll_c, shareAt_, shC_o, shC_s, shC_n, shC_x, memN_n, memN_c, after_, flatC_o, flatC_s, flat_i, flat_b, flat_s, flat_n, flat_l, flat_t, noLs_ints, noLs_rows, noLs_fi, q_set0, q_sets, q_get0, q_gets, q_getn, q_mapc, q_mapn, q_appc, q_appn, q_reps, q_rep0, q_bb, q_bs, q_bn, q_ms, q_mn, Nat.reduceAdd, Nat.reduceSub, q_lc, q_ln, q_pure, Bool.false_eq_true, q_ift, q_iff, q_ifb, q_ifc, ite_self, reduceCtorEq, Bool.and_true, Bool.true_and, Bool.and_false, Bool.false_and, Bool.and_self, Bool.not_true, Bool.not_false, CE.isNil, Nat.reduceEqDiff, and_self, decide_true, decide_false, rng_nat hb, e8, t1, e7, e6, t3, t2, pr, ti, ld, e5, li, e4, rk, wh, List.length_map, hlen, im, un1, ib1, e2, ke, un2, ib2, so, ls, si, ts2, ts3, ts4, lastE, encTab, encNs, encL, encT]
end
theorem _root_.K40.main (ns : List Int) (h : ns.length ≤ 63) : GG tab T.C 40 1012 [.list (ns.map .int)] = some (.sh (.bool true)) := main_ (k := 32) ns h
end EV
end

section
set_option Elab.async false
set_option linter.all false
set_option maxRecDepth 100000
set_option maxHeartbeats 4000000
/-! the law k40: its end (printed by ends.py) -/
namespace K40
open PySem PySem.Spec PyProof.Rows L2 EV
section
variable {P : Program} {w : World} {K : PySem.W.Frag} {mg : Str → Option Value} {base h : Heap}
theorem b_inverse {a : Addr} {fd : FuncData} (F : Fun K "inverse" "inverse" (top 4) a fd) : Binds K fd (c_inverse.vars.take c_inverse.n) [] :=
  F.binds fun _ _ _ _ _ _ us hl => match us, hl with | [_, _], _ => rfl
theorem b_summed {a : Addr} {fd : FuncData} (F : Fun K "summed" "summed" (top 5) a fd) : Binds K fd (c_summed.vars.take c_summed.n) [] :=
  F.binds fun _ _ _ _ _ _ us hl => match us, hl with | [_, _, _], _ => rfl
theorem b_led {a : Addr} {fd : FuncData} (F : Fun K "led" "led" (top 6) a fd) : Binds K fd (c_led.vars.take c_led.n) [] :=
  F.binds fun _ _ _ _ _ _ us hl => match us, hl with | [_, _, _], _ => rfl
theorem b_columns_of {a : Addr} {fd : FuncData} (F : Fun K "columns_of" "columns_of" (top 7) a fd) : Binds K fd (c_columns_of.vars.take c_columns_of.n) [] :=
  F.binds fun _ _ _ _ _ _ us hl => match us, hl with | [_], _ => rfl
theorem b_product {a : Addr} {fd : FuncData} (F : Fun K "product" "product" (top 8) a fd) : Binds K fd (c_product.vars.take c_product.n) [] :=
  F.binds fun _ _ _ _ _ _ us hl => match us, hl with | [_, _, _], _ => rfl
theorem b_same_table {a : Addr} {fd : FuncData} (F : Fun K "same_table" "same_table" (top 9) a fd) : Binds K fd (c_same_table.vars.take c_same_table.n) [] :=
  F.binds fun _ _ _ _ _ _ us hl => match us, hl with | [_], _ => rfl
theorem b_less {a : Addr} {fd : FuncData} (F : Fun K "less" "less" (top 11) a fd) : Binds K fd (c_less.vars.take c_less.n) [] :=
  F.binds fun _ _ _ _ _ _ us hl => match us, hl with | [_, _, _, _], _ => rfl
theorem b_first_with {a : Addr} {fd : FuncData} (F : Fun K "first_with" "first_with" (top 12) a fd) : Binds K fd (c_first_with.vars.take c_first_with.n) [] :=
  F.binds fun _ _ _ _ _ _ us hl => match us, hl with | [_, _], _ => rfl
theorem b_base_of {a : Addr} {fd : FuncData} (F : Fun K "base_of" "base_of" (top 13) a fd) : Binds K fd (c_base_of.vars.take c_base_of.n) [] :=
  F.binds fun _ _ _ _ _ _ us hl => match us, hl with | [_, _, _], _ => rfl
theorem b_lead_of {a : Addr} {fd : FuncData} (F : Fun K "lead_of" "lead_of" (top 14) a fd) : Binds K fd (c_lead_of.vars.take c_lead_of.n) [] :=
  F.binds fun _ _ _ _ _ _ us hl => match us, hl with | [_], _ => rfl
theorem b_kernel {a : Addr} {fd : FuncData} (F : Fun K "kernel" "kernel" (top 15) a fd) : Binds K fd (c_kernel.vars.take c_kernel.n) [] :=
  F.binds fun _ _ _ _ _ _ us hl => match us, hl with | [_, _], _ => rfl
theorem b_image {a : Addr} {fd : FuncData} (F : Fun K "image" "image" (top 16) a fd) : Binds K fd (c_image.vars.take c_image.n) [] :=
  F.binds fun _ _ _ _ _ _ us hl => match us, hl with | [_, _], _ => rfl
theorem b_rank {a : Addr} {fd : FuncData} (F : Fun K "rank" "rank" (top 17) a fd) : Binds K fd (c_rank.vars.take c_rank.n) [] :=
  F.binds fun _ _ _ _ _ _ us hl => match us, hl with | [_, _], _ => rfl
theorem b_solved {a : Addr} {fd : FuncData} (F : Fun K "solved" "solved" (top 18) a fd) : Binds K fd (c_solved.vars.take c_solved.n) [] :=
  F.binds fun _ _ _ _ _ _ us hl => match us, hl with | [_, _, _], _ => rfl
theorem b_back_of {a : Addr} {fd : FuncData} (F : Fun K "back_of" "back_of" (top 19) a fd) : Binds K fd (c_back_of.vars.take c_back_of.n) [] :=
  F.binds fun _ _ _ _ _ _ us hl => match us, hl with | [_, _], _ => rfl
theorem b__law_cell {a : Addr} {fd : FuncData} (F : Fun K "_law_cell" "_law_cell" (top 21) a fd) : Binds K fd (c__law_cell.vars.take c__law_cell.n) [] :=
  F.binds fun _ _ _ _ _ _ us hl => match us, hl with | [_, _], _ => rfl
theorem b__law_whole {a : Addr} {fd : FuncData} (F : Fun K "_law_whole" "_law_whole" (top 22) a fd) : Binds K fd (c__law_whole.vars.take c__law_whole.n) [] :=
  F.binds fun _ _ _ _ _ _ us hl => match us, hl with | [_], _ => rfl
theorem b__law_is_base {a : Addr} {fd : FuncData} (F : Fun K "_law_is_base" "_law_is_base" (top 23) a fd) : Binds K fd (c__law_is_base.vars.take c__law_is_base.n) [] :=
  F.binds fun _ _ _ _ _ _ us hl => match us, hl with | [_, _], _ => rfl
theorem b__law_order {a : Addr} {fd : FuncData} (F : Fun K "_law_order" "_law_order" (top 24) a fd) : Binds K fd (c__law_order.vars.take c__law_order.n) [] :=
  F.binds fun _ _ _ _ _ _ us hl => match us, hl with | [_, _, _], _ => rfl
theorem b__law_table {a : Addr} {fd : FuncData} (F : Fun K "_law_table" "_law_table" (top 25) a fd) : Binds K fd (c__law_table.vars.take c__law_table.n) [] :=
  F.binds fun _ _ _ _ _ _ us hl => match us, hl with | [_, _], _ => rfl
theorem b__law_load_is {a : Addr} {fd : FuncData} (F : Fun K "_law_load_is" "_law_load_is" (top 26) a fd) : Binds K fd (c__law_load_is.vars.take c__law_load_is.n) [] :=
  F.binds fun _ _ _ _ _ _ us hl => match us, hl with | [_, _], _ => rfl
theorem b__law_table_is {a : Addr} {fd : FuncData} (F : Fun K "_law_table_is" "_law_table_is" (top 27) a fd) : Binds K fd (c__law_table_is.vars.take c__law_table_is.n) [] :=
  F.binds fun _ _ _ _ _ _ us hl => match us, hl with | [_, _], _ => rfl
theorem b__law_over {a : Addr} {fd : FuncData} (F : Fun K "_law_over" "_law_over" (top 28) a fd) : Binds K fd (c__law_over.vars.take c__law_over.n) [] :=
  F.binds fun _ _ _ _ _ _ us hl => match us, hl with | [_, _], _ => rfl
theorem b__law_back {a : Addr} {fd : FuncData} (F : Fun K "_law_back" "_law_back" (top 29) a fd) : Binds K fd (c__law_back.vars.take c__law_back.n) [] :=
  F.binds fun _ _ _ _ _ _ us hl => match us, hl with | [_, _, _], _ => rfl
theorem b__law_solved {a : Addr} {fd : FuncData} (F : Fun K "_law_solved" "_law_solved" (top 30) a fd) : Binds K fd (c__law_solved.vars.take c__law_solved.n) [] :=
  F.binds fun _ _ _ _ _ _ us hl => match us, hl with | [_, _, _, _], _ => rfl
theorem b__law_units {a : Addr} {fd : FuncData} (F : Fun K "_law_units" "_law_units" (top 31) a fd) : Binds K fd (c__law_units.vars.take c__law_units.n) [] :=
  F.binds fun _ _ _ _ _ _ us hl => match us, hl with | [_, _], _ => rfl
theorem b__law_no_back {a : Addr} {fd : FuncData} (F : Fun K "_law_no_back" "_law_no_back" (top 32) a fd) : Binds K fd (c__law_no_back.vars.take c__law_no_back.n) [] :=
  F.binds fun _ _ _ _ _ _ us hl => match us, hl with | [_, _, _], _ => rfl
theorem b_law {a : Addr} {fd : FuncData} (F : Fun K "law" "law" (top 33) a fd) : Binds K fd (c_law.vars.take c_law.n) [] :=
  F.binds fun _ _ _ _ _ _ us hl => match us, hl with | [_], _ => rfl
theorem all_txt (X : K.In h) (G : h.Ns mainGlobals mg) (f_inverse : FnFact K "inverse" (top 4))
    (f_summed : FnFact K "summed" (top 5))
    (f_led : FnFact K "led" (top 6))
    (f_columns_of : FnFact K "columns_of" (top 7))
    (f_product : FnFact K "product" (top 8))
    (f_same_table : FnFact K "same_table" (top 9))
    (f_less : FnFact K "less" (top 11))
    (f_first_with : FnFact K "first_with" (top 12))
    (f_base_of : FnFact K "base_of" (top 13))
    (f_lead_of : FnFact K "lead_of" (top 14))
    (f_kernel : FnFact K "kernel" (top 15))
    (f_image : FnFact K "image" (top 16))
    (f_rank : FnFact K "rank" (top 17))
    (f_solved : FnFact K "solved" (top 18))
    (f_back_of : FnFact K "back_of" (top 19))
    (f__law_cell : FnFact K "_law_cell" (top 21))
    (f__law_whole : FnFact K "_law_whole" (top 22))
    (f__law_is_base : FnFact K "_law_is_base" (top 23))
    (f__law_order : FnFact K "_law_order" (top 24))
    (f__law_table : FnFact K "_law_table" (top 25))
    (f__law_load_is : FnFact K "_law_load_is" (top 26))
    (f__law_table_is : FnFact K "_law_table_is" (top 27))
    (f__law_over : FnFact K "_law_over" (top 28))
    (f__law_back : FnFact K "_law_back" (top 29))
    (f__law_solved : FnFact K "_law_solved" (top 30))
    (f__law_units : FnFact K "_law_units" (top 31))
    (f__law_no_back : FnFact K "_law_no_back" (top 32))
    (f_law : FnFact K "law" (top 33))
    (z_len : PySem.W.nsIn K mainGlobals "len" = some none)
    (z_sum : PySem.W.nsIn K mainGlobals "sum" = some none)
    (z_all : PySem.W.nsIn K mainGlobals "all" = some none)
    (z_any : PySem.W.nsIn K mainGlobals "any" = some none)
    (z_tuple : PySem.W.nsIn K mainGlobals "tuple" = some none)
    (z_list : PySem.W.nsIn K mainGlobals "list" = some none)
    (z_min : PySem.W.nsIn K mainGlobals "min" = some none)
    (z_max : PySem.W.nsIn K mainGlobals "max" = some none)
    (z_int : PySem.W.nsIn K mainGlobals "int" = some none)
    (z_abs : PySem.W.nsIn K mainGlobals "abs" = some none)
    (z_str : PySem.W.nsIn K mainGlobals "str" = some none)
    (z_bool : PySem.W.nsIn K mainGlobals "bool" = some none)
    (z_dict : PySem.W.nsIn K mainGlobals "dict" = some none)
    (z_isinstance : PySem.W.nsIn K mainGlobals "isinstance" = some none)
    (z_range : PySem.W.nsIn K mainGlobals "range" = some none)
    (z_zip : PySem.W.nsIn K mainGlobals "zip" = some none)
    (z_enumerate : PySem.W.nsIn K mainGlobals "enumerate" = some none)
    (z_reversed : PySem.W.nsIn K mainGlobals "reversed" = some none)
    (z_sorted : PySem.W.nsIn K mainGlobals "sorted" = some none) :
    Txts P w K mg base T tab := by
  refine ⟨fun f x n hf => ?_, fun x fs hx => ?_, fun c m f n hc => ?_, fun c x d hc => ?_, blt_free X G ⟨z_len, z_sum, z_all, z_any, z_tuple, z_list, z_min, z_max, z_int, z_abs, z_str, z_bool, z_dict, z_isinstance, z_range, z_zip, z_enumerate, z_reversed, z_sorted, trivial⟩⟩
  · refine allP_mem (p := fun q => ∃ a fd ps, FnIn P w K mg base T tab q.1 q.2.2 a fd ps ∧ mg q.2.1 = some (.ref a) ∧ PySem.W.keepIn K (.ref a) = true ∧ Binds K fd ps []) (l := T.fns) ?_ (f, x, n) hf
    exact ⟨f_inverse.fn X G (fun _ _ F => b_inverse F) rfl k_inverse, f_summed.fn X G (fun _ _ F => b_summed F) rfl k_summed, f_led.fn X G (fun _ _ F => b_led F) rfl k_led, f_columns_of.fn X G (fun _ _ F => b_columns_of F) rfl k_columns_of, f_product.fn X G (fun _ _ F => b_product F) rfl k_product, f_same_table.fn X G (fun _ _ F => b_same_table F) rfl k_same_table, f_less.fn X G (fun _ _ F => b_less F) rfl k_less, f_first_with.fn X G (fun _ _ F => b_first_with F) rfl k_first_with, f_base_of.fn X G (fun _ _ F => b_base_of F) rfl k_base_of, f_lead_of.fn X G (fun _ _ F => b_lead_of F) rfl k_lead_of, f_kernel.fn X G (fun _ _ F => b_kernel F) rfl k_kernel, f_image.fn X G (fun _ _ F => b_image F) rfl k_image, f_rank.fn X G (fun _ _ F => b_rank F) rfl k_rank, f_solved.fn X G (fun _ _ F => b_solved F) rfl k_solved, f_back_of.fn X G (fun _ _ F => b_back_of F) rfl k_back_of, f__law_cell.fn X G (fun _ _ F => b__law_cell F) rfl k__law_cell, f__law_whole.fn X G (fun _ _ F => b__law_whole F) rfl k__law_whole, f__law_is_base.fn X G (fun _ _ F => b__law_is_base F) rfl k__law_is_base, f__law_order.fn X G (fun _ _ F => b__law_order F) rfl k__law_order, f__law_table.fn X G (fun _ _ F => b__law_table F) rfl k__law_table, f__law_load_is.fn X G (fun _ _ F => b__law_load_is F) rfl k__law_load_is, f__law_table_is.fn X G (fun _ _ F => b__law_table_is F) rfl k__law_table_is, f__law_over.fn X G (fun _ _ F => b__law_over F) rfl k__law_over, f__law_back.fn X G (fun _ _ F => b__law_back F) rfl k__law_back, f__law_solved.fn X G (fun _ _ F => b__law_solved F) rfl k__law_solved, f__law_units.fn X G (fun _ _ F => b__law_units F) rfl k__law_units, f__law_no_back.fn X G (fun _ _ F => b__law_no_back F) rfl k__law_no_back, f_law.fn X G (fun _ _ F => b_law F) rfl k_law, trivial⟩
  · cases hx
  · cases hc
  · cases hc
end
end K40
open PySem PySem.W PyProof.Rows in
set_option maxRecDepth 100000 in
set_option maxHeartbeats 0 in
theorem PySem.Challenge.cw_barsplit_k40_tables_of_thirty_holds : PySem.Challenge.rw_barsplit_k40_tables_of_thirty.Holds := by
  w_on; o_law; k_head; (case hw => w_witness2)
  k_fill
  refine EV.walk (l := PySem.Challenge.rw_barsplit_k40_tables_of_thirty) (T := K40.T) (tab := K40.tab) (fl := 1012) (k := 40) rfl rfl ⟨rfl, by decide, by decide⟩ (fun w h Y => PySem.W.kIn_of Y) rfl (by decide +kernel) ?F ?L K40.main
  case L =>
    intro w mg fa h KX G hmg
    refine EV.FnFact.law (d := K40.c_law) KX G hmg ?A (fun _ _ _ _ _ _ s v => .of_eq rfl) rfl K40.k_law rfl rfl
    case A =>
      refine' EV.FnFact.mk ?a ?l ?c ?k
      (case a => k_is)
      (case l => k_is)
      (case c => k_is)
      (case k => k_is)
  case F =>
    intro w mg h KX G base hB hN
    refine' K40.all_txt KX G ?f_inverse ?f_summed ?f_led ?f_columns_of ?f_product ?f_same_table ?f_less ?f_first_with ?f_base_of ?f_lead_of ?f_kernel ?f_image ?f_rank ?f_solved ?f_back_of ?f__law_cell ?f__law_whole ?f__law_is_base ?f__law_order ?f__law_table ?f__law_load_is ?f__law_table_is ?f__law_over ?f__law_back ?f__law_solved ?f__law_units ?f__law_no_back ?f_law ?z_len ?z_sum ?z_all ?z_any ?z_tuple ?z_list ?z_min ?z_max ?z_int ?z_abs ?z_str ?z_bool ?z_dict ?z_isinstance ?z_range ?z_zip ?z_enumerate ?z_reversed ?z_sorted
    (case f_inverse => refine' EV.FnFact.mk ?a ?l ?c ?k; (case a => k_is); (case l => k_is); (case c => k_is); (case k => k_is))
    (case f_summed => refine' EV.FnFact.mk ?a ?l ?c ?k; (case a => k_is); (case l => k_is); (case c => k_is); (case k => k_is))
    (case f_led => refine' EV.FnFact.mk ?a ?l ?c ?k; (case a => k_is); (case l => k_is); (case c => k_is); (case k => k_is))
    (case f_columns_of => refine' EV.FnFact.mk ?a ?l ?c ?k; (case a => k_is); (case l => k_is); (case c => k_is); (case k => k_is))
    (case f_product => refine' EV.FnFact.mk ?a ?l ?c ?k; (case a => k_is); (case l => k_is); (case c => k_is); (case k => k_is))
    (case f_same_table => refine' EV.FnFact.mk ?a ?l ?c ?k; (case a => k_is); (case l => k_is); (case c => k_is); (case k => k_is))
    (case f_less => refine' EV.FnFact.mk ?a ?l ?c ?k; (case a => k_is); (case l => k_is); (case c => k_is); (case k => k_is))
    (case f_first_with => refine' EV.FnFact.mk ?a ?l ?c ?k; (case a => k_is); (case l => k_is); (case c => k_is); (case k => k_is))
    (case f_base_of => refine' EV.FnFact.mk ?a ?l ?c ?k; (case a => k_is); (case l => k_is); (case c => k_is); (case k => k_is))
    (case f_lead_of => refine' EV.FnFact.mk ?a ?l ?c ?k; (case a => k_is); (case l => k_is); (case c => k_is); (case k => k_is))
    (case f_kernel => refine' EV.FnFact.mk ?a ?l ?c ?k; (case a => k_is); (case l => k_is); (case c => k_is); (case k => k_is))
    (case f_image => refine' EV.FnFact.mk ?a ?l ?c ?k; (case a => k_is); (case l => k_is); (case c => k_is); (case k => k_is))
    (case f_rank => refine' EV.FnFact.mk ?a ?l ?c ?k; (case a => k_is); (case l => k_is); (case c => k_is); (case k => k_is))
    (case f_solved => refine' EV.FnFact.mk ?a ?l ?c ?k; (case a => k_is); (case l => k_is); (case c => k_is); (case k => k_is))
    (case f_back_of => refine' EV.FnFact.mk ?a ?l ?c ?k; (case a => k_is); (case l => k_is); (case c => k_is); (case k => k_is))
    (case f__law_cell => refine' EV.FnFact.mk ?a ?l ?c ?k; (case a => k_is); (case l => k_is); (case c => k_is); (case k => k_is))
    (case f__law_whole => refine' EV.FnFact.mk ?a ?l ?c ?k; (case a => k_is); (case l => k_is); (case c => k_is); (case k => k_is))
    (case f__law_is_base => refine' EV.FnFact.mk ?a ?l ?c ?k; (case a => k_is); (case l => k_is); (case c => k_is); (case k => k_is))
    (case f__law_order => refine' EV.FnFact.mk ?a ?l ?c ?k; (case a => k_is); (case l => k_is); (case c => k_is); (case k => k_is))
    (case f__law_table => refine' EV.FnFact.mk ?a ?l ?c ?k; (case a => k_is); (case l => k_is); (case c => k_is); (case k => k_is))
    (case f__law_load_is => refine' EV.FnFact.mk ?a ?l ?c ?k; (case a => k_is); (case l => k_is); (case c => k_is); (case k => k_is))
    (case f__law_table_is => refine' EV.FnFact.mk ?a ?l ?c ?k; (case a => k_is); (case l => k_is); (case c => k_is); (case k => k_is))
    (case f__law_over => refine' EV.FnFact.mk ?a ?l ?c ?k; (case a => k_is); (case l => k_is); (case c => k_is); (case k => k_is))
    (case f__law_back => refine' EV.FnFact.mk ?a ?l ?c ?k; (case a => k_is); (case l => k_is); (case c => k_is); (case k => k_is))
    (case f__law_solved => refine' EV.FnFact.mk ?a ?l ?c ?k; (case a => k_is); (case l => k_is); (case c => k_is); (case k => k_is))
    (case f__law_units => refine' EV.FnFact.mk ?a ?l ?c ?k; (case a => k_is); (case l => k_is); (case c => k_is); (case k => k_is))
    (case f__law_no_back => refine' EV.FnFact.mk ?a ?l ?c ?k; (case a => k_is); (case l => k_is); (case c => k_is); (case k => k_is))
    (case f_law => refine' EV.FnFact.mk ?a ?l ?c ?k; (case a => k_is); (case l => k_is); (case c => k_is); (case k => k_is))
    (case z_len => k_is)
    (case z_sum => k_is)
    (case z_all => k_is)
    (case z_any => k_is)
    (case z_tuple => k_is)
    (case z_list => k_is)
    (case z_min => k_is)
    (case z_max => k_is)
    (case z_int => k_is)
    (case z_abs => k_is)
    (case z_str => k_is)
    (case z_bool => k_is)
    (case z_dict => k_is)
    (case z_isinstance => k_is)
    (case z_range => k_is)
    (case z_zip => k_is)
    (case z_enumerate => k_is)
    (case z_reversed => k_is)
    (case z_sorted => k_is)
end
