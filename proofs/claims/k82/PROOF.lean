import PyProof.Rows.All
import Wide.All
import OpenK.AllK
import Wide.FinOn
import PyProof.EqAt
import PyProof.EqKinds
import PyProof.TupleCall
import HandS.Base
import HandS.Call
import HandS.List
import HandS.Comp
import HandS.Iter
import HandS.Walk
import HandS.Words
import HandS.Deep
import HandS.Flow
import HandS.Style
import HandS.IsInst
import HandS.Codes
import HandS.Text
import HandS.FStr
import HandS.RaiseMore
import HandS.TupLe
import HandS.Exc
import HandS.ExcOwn
import HandS.ExcInit
import HandS.ExcField
import HandS.WordsExc
import KE.KTryMore
import HandS.TryOnly
import KE.SortData
import KE.SortCalls
import KE.DataCmp
import KE.KSortAsk
import KE.KSortTup
import KE.KExcIs
import HandS.HotCalls
import KE.IntTextLaws
import KE.KExcSuper
import HandS.ExcSuper
import HandS.Nested
import HandS.HeadHook2
import HandS.HeadNt
import KE.KStateDown
import HandS.Ends
import HandS.More
import HandS.Defaults
import HandS.Head0
import HandS.Head1
import HandS.Head2
import HandS.HeadEnd
import HandS.HeadHook1
import PySem.Challenge.RW_counthall_k82_deeds_text_reads_back
set_option Elab.async false
set_option linter.all false
set_option maxRecDepth 100000
namespace Ly
open PySem PySem.Spec PyProof.Rows L2

mutual
inductive Dv (B : Hp) : V → PyData → Prop
  | non : Dv B .non .none
  | bl (b : Bool) : Dv B (.bl b) (.bool b)
  | int (i : Int) : Dv B (.int i) (.int i)
  | str (x : Str) : Dv B (.str x) (.str x)
  | lst {a : Addr} {xs : List V} {ds : List PyData} : B a = some (.lst xs) → DvL B xs ds → Dv B (.ref a) (.list ds)
  | tup {a : Addr} {xs : List V} {ds : List PyData} : B a = some (.tup xs) → DvL B xs ds → Dv B (.ref a) (.tuple ds)
inductive DvL (B : Hp) : List V → List PyData → Prop
  | nil : DvL B [] []
  | cons {v : V} {vs : List V} {d : PyData} {ds : List PyData} : Dv B v d → DvL B vs ds → DvL B (v :: vs) (d :: ds)
end
mutual
theorem Dv.mono {B H : Hp} (s : Same B H) : ∀ {v : V} {d : PyData}, Dv B v d → Dv H v d
  | _, _, .non => .non
  | _, _, .bl b => .bl b
  | _, _, .int i => .int i
  | _, _, .str x => .str x
  | _, _, .lst e l => .lst (s _ _ e) (DvL.mono s l)
  | _, _, .tup e l => .tup (s _ _ e) (DvL.mono s l)
theorem DvL.mono {B H : Hp} (s : Same B H) : ∀ {v : List V} {d : List PyData}, DvL B v d → DvL H v d
  | _, _, .nil => .nil
  | _, _, .cons h t => .cons (Dv.mono s h) (DvL.mono s t)
end
mutual
theorem Dv.dp {K : PySem.W.Frag} {B : Hp} : ∀ {v : V} {d : PyData}, Dv B v d → Dp K B v d
  | _, _, .non => .non
  | _, _, .bl b => .bl b
  | _, _, .int i => .int i
  | _, _, .str x => .str x
  | _, _, .lst e l => .lst (SqL.of e) (DvL.dp l)
  | _, _, .tup e l => .tup (SqT.of e) (DvL.dp l)
theorem DvL.dp {K : PySem.W.Frag} {B : Hp} : ∀ {v : List V} {d : List PyData}, DvL B v d → DpAll K B v d
  | _, _, .nil => .nil
  | _, _, .cons h t => .cons (Dv.dp h) (DvL.dp t)
end
def flat : PyData → Bool
  | .none => true
  | .bool _ => true
  | .int _ => true
  | .str _ => true
  | _ => false
theorem Dv.flat {B H : Hp} {v : V} {d : PyData} (h : Dv B v d) (f : flat d = true) : Dv H v d := by
  cases h with
  | non => exact .non
  | bl b => exact .bl b
  | int i => exact .int i
  | str x => exact .str x
  | lst _ _ => cases f
  | tup _ _ => cases f
theorem DvL.length {B : Hp} : ∀ {vs : List V} {ds : List PyData}, DvL B vs ds → vs.length = ds.length
  | _, _, .nil => rfl
  | _, _, .cons _ t => congrArg Nat.succ (DvL.length t)
theorem DvL.get {B : Hp} : ∀ {vs : List V} {ds : List PyData} {i : Nat} {v : V}, DvL B vs ds → vs[i]? = some v → ∃ d, ds[i]? = some d ∧ Dv B v d
  | _, _, _, _, .nil, e => by simp at e
  | _, _, 0, v, .cons h t, e => by simp at e; subst e; exact ⟨_, rfl, h⟩
  | _, _, i + 1, v, .cons h t, e => by
    obtain ⟨d, h1, h2⟩ := DvL.get (i := i) (v := v) t (by simpa using e)
    exact ⟨d, by simpa using h1, h2⟩
theorem DvL.get' {B : Hp} : ∀ {vs : List V} {ds : List PyData} {i : Nat} {d : PyData}, DvL B vs ds → ds[i]? = some d → ∃ v, vs[i]? = some v ∧ Dv B v d
  | _, _, _, _, .nil, e => by simp at e
  | _, _, 0, v, .cons h t, e => by simp at e; subst e; exact ⟨_, rfl, h⟩
  | _, _, i + 1, v, .cons h t, e => by
    obtain ⟨d, h1, h2⟩ := DvL.get' (i := i) (d := v) t (by simpa using e)
    exact ⟨d, by simpa using h1, h2⟩
theorem DvL.append {B : Hp} : ∀ {xs ys : List V} {ds es : List PyData}, DvL B xs ds → DvL B ys es → DvL B (xs ++ ys) (ds ++ es)
  | _, _, _, _, .nil, h => h
  | _, _, _, _, .cons a t, h => .cons a (DvL.append t h)
theorem DvL.take {B : Hp} : ∀ {xs : List V} {ds : List PyData} (n : Nat), DvL B xs ds → DvL B (xs.take n) (ds.take n)
  | _, _, 0, _ => .nil
  | _, _, _ + 1, .nil => .nil
  | _, _, n + 1, .cons a t => .cons a (DvL.take n t)
theorem DvL.drop {B : Hp} : ∀ {xs : List V} {ds : List PyData} (n : Nat), DvL B xs ds → DvL B (xs.drop n) (ds.drop n)
  | _, _, 0, h => h
  | _, _, _ + 1, .nil => .nil
  | _, _, n + 1, .cons a t => DvL.drop n t
theorem DvL.set {B : Hp} {v : V} {d : PyData} (h : Dv B v d) : ∀ {xs : List V} {ds : List PyData} (n : Nat), DvL B xs ds → DvL B (xs.set n v) (ds.set n d)
  | _, _, _, .nil => .nil
  | _, _, 0, .cons a t => .cons h t
  | _, _, n + 1, .cons a t => .cons a (DvL.set h n t)
theorem DvL.one {B : Hp} {v : V} {d : PyData} (h : Dv B v d) : DvL B [v] [d] := .cons h .nil
theorem DvL.strs {B : Hp} : ∀ ys : List Str, DvL B (ys.map V.str) (ys.map PyData.str)
  | [] => .nil
  | y :: ys => .cons (.str y) (DvL.strs ys)
theorem DvL.ints {B : Hp} : ∀ ys : List Int, DvL B (ys.map V.int) (ys.map PyData.int)
  | [] => .nil
  | y :: ys => .cons (.int y) (DvL.ints ys)
theorem DvL.ofStrs {B : Hp} : ∀ {ys : List Str} {vs : List V}, DvL B vs (ys.map PyData.str) → vs = ys.map V.str
  | [], _, h => by cases h; rfl
  | y :: ys, _, h => by
    cases h with
    | cons h t => cases h; rw [DvL.ofStrs t]; rfl
theorem DvL.ofInts {B : Hp} : ∀ {ys : List Int} {vs : List V}, DvL B vs (ys.map PyData.int) → vs = ys.map V.int
  | [], _, h => by cases h; rfl
  | y :: ys, _, h => by
    cases h with
    | cons h t => cases h; rw [DvL.ofInts t]; rfl

def Two (H : Hp) (a : Addr) : Prop := ∃ i j : Int, H a = some (.lst [.int i, .int j])
theorem Two.some {H : Hp} {a : Addr} (t : Two H a) : H a ≠ Option.none := by
  obtain ⟨i, j, e⟩ := t
  rw [e]; intro q; cases q
/-- from (B, H) to (B', H'): what was frozen stays, what is newly frozen is new, all that was tracked stays but for the sources S, which stay pairs of ints -/
structure Step (S : List Addr) (B H B' H' : Hp) : Prop where
  bb : Same B B'
  bh : Same B' H'
  fr : ∀ b, B b = none → B' b ≠ none → H b = none
  kp : ∀ b o, b ∉ S → H b = some o → H' b = some o
  tw : ∀ a ∈ S, Two H' a ∧ B' a = none
section
variable {S S' : List Addr} {B H B' H' B2 H2 : Hp}
theorem Step.fresh (s : Step S B H B' H') {b : Addr} (h : H' b = none) : H b = none := by
  cases q : H b with
  | none => rfl
  | some o =>
    by_cases hb : b ∈ S
    · exact absurd h (s.tw b hb).1.some
    · rw [s.kp b o hb q] at h; cases h
theorem Step.trans (s : Step S B H B' H') (t : Step S B' H' B2 H2) : Step S B H B2 H2 :=
  ⟨s.bb.trans t.bb, t.bh, fun b h1 h2 => by
    by_cases q : B' b = none
    · exact s.fresh (t.fr b q h2)
    · exact s.fr b h1 q, fun b o hb e => t.kp b o hb (s.kp b o hb e), t.tw⟩
theorem Step.refl (h : Same B H) (t : ∀ a ∈ S, Two H a ∧ B a = none) : Step S B H B H := ⟨Same.refl _, h, fun b h1 h2 => absurd h1 h2, fun _ _ _ e => e, t⟩
theorem same_upd {o : HO} {p : Addr} (h : B p = none) : Same B (upd B p o) := fun b u e => by rw [upd_ne (ne_of_none e h)]; exact e
theorem upd_get {H : Hp} {p b : Addr} {o u : HO} (e : H b = some u) (h : H p = none) : upd H p o b = some u := by rw [upd_ne (ne_of_none e h)]; exact e
theorem Same.none {B H : Hp} (s : Same B H) {p : Addr} (h : H p = Option.none) : B p = Option.none := s.free h
theorem Step.new {o : HO} {p : Addr} (h : Same B H) (t : ∀ a ∈ S, Two H a ∧ B a = none) (n : H p = none) : Step S B H (upd B p o) (upd H p o) := by
  have nb : B p = none := h.free n
  refine ⟨same_upd nb, fun b u e => ?_, fun b h1 h2 => ?_, fun b u _ e => upd_get e n, fun a ha => ?_⟩
  · by_cases q : b = p
    · subst q; rw [upd_same] at e ⊢; exact e
    · rw [upd_ne q] at e ⊢; exact h _ _ e
  · by_cases q : b = p
    · subst q; exact n
    · rw [upd_ne q] at h2; exact absurd h1 h2
  · have q : a ≠ p := fun z => (t a ha).1.some (z ▸ n)
    obtain ⟨⟨i, j, e⟩, e2⟩ := t a ha
    exact ⟨⟨i, j, by rw [upd_ne q]; exact e⟩, by rw [upd_ne q]; exact e2⟩
/-- a new object that is not frozen -/
theorem Step.newU {o : HO} {p : Addr} (h : Same B H) (t : ∀ a ∈ S, Two H a ∧ B a = none) (n : H p = none) : Step S B H B (upd H p o) := by
  refine ⟨Same.refl _, fun b u e => upd_get (h _ _ e) n, fun b h1 h2 => absurd h1 h2, fun b u _ e => upd_get e n, fun a ha => ?_⟩
  have q : a ≠ p := fun z => (t a ha).1.some (z ▸ n)
  obtain ⟨⟨i, j, e⟩, e2⟩ := t a ha
  exact ⟨⟨i, j, by rw [upd_ne q]; exact e⟩, e2⟩
/-- what is new is written once more -/
theorem Step.wr {o : HO} {p : Addr} (s : Step S B H B' H') (n : H p = none) (nb : B' p = none) (ns : p ∉ S) : Step S B H B' (upd H' p o) := by
  refine ⟨s.bb, fun b u e => ?_, s.fr, fun b u hb e => ?_, fun a ha => ?_⟩
  · rw [upd_ne (ne_of_none e nb)]; exact s.bh _ _ e
  · rw [upd_ne (ne_of_none e n)]; exact s.kp _ _ hb e
  · have q : a ≠ p := fun z => ns (z ▸ ha)
    obtain ⟨⟨i, j, e⟩, e2⟩ := s.tw a ha
    exact ⟨⟨i, j, by rw [upd_ne q]; exact e⟩, e2⟩
theorem Step.sub (s : Step S' B H B' H') (h : ∀ a ∈ S', a ∈ S) (t : ∀ a ∈ S, Two H a ∧ B a = none) : Step S B H B' H' := by
  refine ⟨s.bb, s.bh, s.fr, fun b o hb e => s.kp b o (fun z => hb (h b z)) e, fun a ha => ?_⟩
  by_cases q : a ∈ S'
  · exact s.tw a q
  · obtain ⟨t1, e2⟩ := t a ha
    have t2 := t1
    obtain ⟨i, j, e⟩ := t1
    refine ⟨⟨i, j, s.kp a _ q e⟩, ?_⟩
    cases z : B' a with
    | none => rfl
    | some o => exact absurd (s.fr a e2 (by rw [z]; intro q; cases q)) t2.some
end

/-- frozen data; a list of one's own; a source; the script -/
inductive Ent where
  | d (x : PyData) | own (ds : List PyData) | src | scr (ns : List Int) | any | obj (C dx : Addr) (fs : List (Str × PyData))
abbrev DSt := List (Option Ent)
/-- what stood at the entry: the sources, the frozen part, the heap -/
structure Cz where
  S : List Addr
  B : Hp
  H : Hp
/-- an instance's attributes -/
def FsR (B : Hp) : List (Str × V) → List (Str × PyData) → Prop := Paired fun p q => p.1 = q.1 ∧ Dv B p.2 q.2
theorem FsR.mono {B H : Hp} (s : Same B H) {fv : List (Str × V)} {fs : List (Str × PyData)} (h : FsR B fv fs) : FsR H fv fs := Paired.mapP h fun _ _ z => ⟨z.1, z.2.mono s⟩
def VR (K : PySem.W.Frag) (C : Cz) (S : List Addr) (B H : Hp) (v : V) : Ent → Prop
  | .d x => Dv B v x
  | .own ds => ∃ a xs, v = .ref a ∧ H a = some (.lst xs) ∧ DvL B xs ds ∧ B a = none ∧ a ∉ S ∧ C.H a = none
  | .src => ∃ a, a ∈ S ∧ v = .ref a
  | .scr ns => ∃ a, v = .ref a ∧ ((Rd C.H a (.lst (ns.map V.int)) ∧ a ∉ C.S ∧ a ∉ S) ∨ ∀ H' : Hp, SqL K H' a (ns.map V.int))
  | .any => True
  | .obj Cc dx fs => ∃ a fv, v = .ref a ∧ H a = some (.ins Cc dx fv) ∧ FsR B fv fs ∧ B a = none ∧ a ∉ S ∧ C.H a = none
structure En (K : PySem.W.Frag) (C : Cz) (S : List Addr) (B H : Hp) (σ : L2.St) (Δ : DSt) : Prop where
  st : Step C.S C.B C.H B H
  sub : ∀ a ∈ C.S, a ∈ S
  tw : ∀ a ∈ S, Two H a ∧ B a = none
  nw : ∀ a ∈ S, a ∈ C.S ∨ C.H a = none
  len : Δ.length = σ.length
  vr : ∀ (i : Nat) (en : Ent), Δ[i]? = some (some en) → ∃ v, σ[i]? = some (some v) ∧ VR K C S B H v en
  ne : ∀ (i j : Nat) (ds es : List PyData) (v : V), i ≠ j → Δ[i]? = some (some (.own ds)) → Δ[j]? = some (some (.own es)) → σ[i]? = some (some v) → σ[j]? ≠ some (some v)
section
variable {K : PySem.W.Frag} {C : Cz} {S : List Addr} {B H B' H' B1 : Hp} {σ : L2.St} {Δ Δ' : DSt}
theorem En.same (e : En K C S B H σ Δ) : Same B H := e.st.bh
theorem En.st0 (e : En K C S B H σ Δ) : Step S B H B H := .refl e.same e.tw
theorem VR.step {v : V} {en : Ent} (r : VR K C S B H v en) (s : Step S B H B' H') : VR K C S B' H' v en := by
  cases en with
  | d x => exact Dv.mono s.bb r
  | own ds =>
    obtain ⟨a, xs, e1, e2, e3, e4, e5, e6⟩ := r
    refine ⟨a, xs, e1, s.kp _ _ e5 e2, e3.mono s.bb, ?_, e5, e6⟩
    cases z : B' a with
    | none => rfl
    | some o =>
      have q := s.fr a e4 (by rw [z]; intro q; cases q)
      rw [e2] at q; cases q
  | src => exact r
  | scr ns => exact r
  | any => exact r
  | obj Cc dx fs =>
    obtain ⟨a, xs, e1, e2, e3, e4, e5, e6⟩ := r
    refine ⟨a, xs, e1, s.kp _ _ e5 e2, e3.mono s.bb, ?_, e5, e6⟩
    cases z : B' a with
    | none => rfl
    | some o =>
      have q := s.fr a e4 (by rw [z]; intro q; cases q)
      rw [e2] at q; cases q
theorem En.step (e : En K C S B H σ Δ) (s : Step S B H B' H') : En K C S B' H' σ Δ := by
  refine ⟨⟨e.st.bb.trans s.bb, s.bh, fun b h1 h2 => ?_, fun b o hb q => ?_, fun a ha => s.tw a (e.sub a ha)⟩, e.sub, s.tw, e.nw, e.len, fun i en h => ?_, e.ne⟩
  · by_cases q : B b = none
    · exact e.st.fresh (s.fr b q h2)
    · exact e.st.fr b h1 q
  · by_cases z : b ∈ S
    · rcases e.nw b z with y | y
      · exact absurd y hb
      · rw [q] at y; cases y
    · exact s.kp b o z (e.st.kp b o hb q)
  · obtain ⟨v, h1, h2⟩ := e.vr i en h
    exact ⟨v, h1, h2.step s⟩
theorem set_at {α : Type} {l : List α} {i j : Nat} {x y : α} (h : (l.set i x)[j]? = some y) : (j = i ∧ y = x) ∨ (j ≠ i ∧ l[j]? = some y) := by
  by_cases q : j = i
  · subst q
    rw [List.getElem?_set] at h
    rw [if_pos rfl] at h
    split at h
    · exact .inl ⟨rfl, (Option.some.inj h).symm⟩
    · cases h
  · rw [List.getElem?_set_ne (Ne.symm q)] at h
    exact .inr ⟨q, h⟩
theorem En.put {v : V} {en : Ent} {i : Nat} (e : En K C S B H σ Δ) (r : VR K C S B H v en) (hd : ∀ ds, en = .own ds → ∀ (j : Nat) (es : List PyData), j ≠ i → Δ[j]? = some (some (.own es)) → σ[j]? ≠ some (some v)) :
    En K C S B H (σ.set i (some v)) (Δ.set i (some en)) := by
  refine ⟨e.st, e.sub, e.tw, e.nw, by rw [List.length_set, List.length_set]; exact e.len, fun j u h => ?_, fun j l ds es u hjl h1 h2 h3 h4 => ?_⟩
  · have hj : j < Δ.length := by
      have := (List.getElem?_eq_some_iff.mp h).1
      rw [List.length_set] at this
      exact this
    rcases set_at h with ⟨rfl, q⟩ | ⟨q, h⟩
    · cases q
      exact ⟨v, by rw [List.getElem?_set_self (by rw [← e.len]; exact hj)], r⟩
    · obtain ⟨w, h1, h2⟩ := e.vr j u h
      exact ⟨w, by rw [List.getElem?_set_ne (Ne.symm q)]; exact h1, h2⟩
  · rcases set_at h1 with ⟨z1, q⟩ | ⟨z1, k1⟩
    · cases q
      rcases set_at h2 with ⟨z2, _⟩ | ⟨z2, k2⟩
      · exact hjl (z1.trans z2.symm)
      · rcases set_at h3 with ⟨_, z⟩ | ⟨z, _⟩
        · cases z
          rcases set_at h4 with ⟨z, _⟩ | ⟨_, k4⟩
          · exact z2 z
          · exact hd ds rfl l es z2 k2 k4
        · exact z z1
    · rcases set_at h3 with ⟨z, _⟩ | ⟨_, k3⟩
      · exact z1 z
      · rcases set_at h2 with ⟨z2, q2⟩ | ⟨z2, k2⟩
        · cases q2
          rcases set_at h4 with ⟨_, z⟩ | ⟨z, _⟩
          · cases z
            exact hd es rfl j ds z1 k1 k3
          · exact z z2
        · rcases set_at h4 with ⟨z, _⟩ | ⟨_, k4⟩
          · exact z2 z
          · exact e.ne j l ds es u hjl k1 k2 k3 k4
theorem En.putD {v : V} {x : PyData} {i : Nat} (e : En K C S B H σ Δ) (r : Dv B v x) : En K C S B H (σ.set i (some v)) (Δ.set i (some (.d x))) :=
  e.put (en := .d x) r fun _ z => nomatch z
/-- forgetting entries -/
theorem En.less (e : En K C S B H σ Δ) (hl : Δ'.length = Δ.length) (h : ∀ (i : Nat) (en : Ent), Δ'[i]? = some (some en) → Δ[i]? = some (some en)) : En K C S B H σ Δ' :=
  ⟨e.st, e.sub, e.tw, e.nw, hl.trans e.len, fun i en q => e.vr i en (h i en q), fun i j ds es v hij h1 h2 => e.ne i j ds es v hij (h i _ h1) (h j _ h2)⟩
end

/-- the own lists hidden; the own lists frozen -/
def hd1 : Option Ent → Option Ent
  | some (.own _) => none
  | e => e
def fz1 : Option Ent → Option Ent
  | some (.own ds) => some (.d (.list ds))
  | e => e
def hide (Δ : DSt) : DSt := Δ.map hd1
def frz (Δ : DSt) : DSt := Δ.map fz1
section
variable {K : PySem.W.Frag} {C : Cz} {S : List Addr} {B H B' H' B1 : Hp} {σ : L2.St} {Δ : DSt}
theorem En.hide (e : En K C S B H σ Δ) : En K C S B H σ (hide Δ) := e.less (List.length_map ..) fun i en q => by
  unfold Ly.hide at q
  rw [List.getElem?_map] at q
  cases z : Δ[i]? with
  | none => rw [z] at q; cases q
  | some o =>
    rw [z] at q
    cases o with
    | none => cases q
    | some u => cases u <;> first | exact q | cases q
def OwnAt (σ : L2.St) (Δ : DSt) (b : Addr) : Prop := ∃ (i : Nat) (ds : List PyData), Δ[i]? = some (some (Ent.own ds)) ∧ σ[i]? = some (some (V.ref b))
open Classical in
noncomputable def addB (B H : Hp) (σ : L2.St) (Δ : DSt) : Hp := fun b => if OwnAt σ Δ b then H b else B b
theorem addB_same (h : Same B H) : Same B (addB B H σ Δ) ∧ Same (addB B H σ Δ) H := by
  refine ⟨fun b o e => ?_, fun b o e => ?_⟩
  · unfold addB
    split
    · exact h _ _ e
    · exact e
  · unfold addB at e
    split at e
    · exact e
    · exact h _ _ e
theorem En.ownAt (e : En K C S B H σ Δ) {b : Addr} (h : OwnAt σ Δ b) : b ∉ S ∧ C.H b = none ∧ B b = none := by
  obtain ⟨i, ds, h1, h2⟩ := h
  obtain ⟨v, h3, a, xs, rfl, h4, h5, h6, h7, h8⟩ := e.vr i _ h1
  rw [h2] at h3
  cases h3
  exact ⟨h7, h8, h6⟩
theorem En.frz (e : En K C S B H σ Δ) : En K C S (addB B H σ Δ) H σ (frz Δ) := by
  obtain ⟨s1, s2⟩ := addB_same (σ := σ) (Δ := Δ) e.same
  have hn : ∀ a ∈ S, addB B H σ Δ a = none := fun a ha => by
    unfold addB
    rw [if_neg (fun z => (e.ownAt z).1 ha)]
    exact (e.tw a ha).2
  refine ⟨⟨e.st.bb.trans s1, s2, fun b h1 h2 => ?_, e.st.kp, fun a ha => ⟨(e.st.tw a ha).1, hn a (e.sub a ha)⟩⟩, e.sub, fun a ha => ⟨(e.tw a ha).1, hn a ha⟩, e.nw, by unfold Ly.frz; rw [List.length_map]; exact e.len, fun i en q => ?_, fun i j ds es v hij h1 => ?_⟩
  · by_cases z : OwnAt σ Δ b
    · exact (e.ownAt z).2.1
    · unfold addB at h2
      rw [if_neg z] at h2
      exact e.st.fr b h1 h2
  · unfold Ly.frz at q
    rw [List.getElem?_map] at q
    cases z : Δ[i]? with
    | none => rw [z] at q; cases q
    | some o =>
      rw [z] at q
      cases o with
      | none => cases q
      | some u =>
        obtain ⟨v, h1, h2⟩ := e.vr i u z
        refine ⟨v, h1, ?_⟩
        cases u with
        | own ds =>
          cases q
          obtain ⟨a, xs, rfl, h4, h5, h6, h7, h8⟩ := h2
          refine Dv.lst (xs := xs) ?_ (h5.mono s1)
          unfold addB
          rw [if_pos ⟨i, ds, z, h1⟩]
          exact h4
        | d x => cases q; exact Dv.mono s1 h2
        | src => cases q; exact h2
        | scr ns => cases q; exact h2
        | any => cases q; exact h2
        | obj Cc dx fs =>
          cases q
          obtain ⟨a, fv, rfl, h4, h5, h6, h7, h8⟩ := h2
          refine ⟨a, fv, rfl, h4, h5.mono s1, ?_, h7, h8⟩
          unfold addB
          rw [if_neg (fun z => ?_)]
          · exact h6
          · obtain ⟨j, ds, k1, k2⟩ := z
            obtain ⟨w, k3, b, xs, rfl, k4, _⟩ := e.vr j _ k1
            rw [k2] at k3
            cases k3
            rw [h4] at k4
            cases k4
  · unfold Ly.frz at h1
    rw [List.getElem?_map] at h1
    cases z : Δ[i]? with
    | none => rw [z] at h1; cases h1
    | some o =>
      rw [z] at h1
      cases o with
      | none => cases h1
      | some u => cases u <;> cases h1
/-- a look that leaves nothing -/
theorem En.thaw (e : En K C S B H σ Δ) (s1 : Same B B1) (s : Step S B1 H B' H') : Step S B H B H' :=
  ⟨Same.refl _, (s1.trans s.bb).trans s.bh, fun b h1 h2 => absurd h1 h2, s.kp, fun a ha => ⟨(s.tw a ha).1, (e.tw a ha).2⟩⟩
end
end Ly
set_option Elab.async false
set_option linter.all false
set_option maxRecDepth 100000
namespace Ly
open PySem PySem.Spec PyProof.Rows L2

abbrev DE := DSt → (PyData → Prop) → Prop
abbrev DT := DSt → (Bool → Prop) → Prop
abbrev DA := DSt → (List PyData → Prop) → Prop
structure DEnds where
  nx : DSt → Prop
  rt : Ent → Prop
  bk : DSt → Prop := fun _ => False
  ct : DSt → Prop := fun _ => False
  /-- an error leaves: what it is (its class's name, what it holds), the slots -/
  ex : PyData → DSt → Prop := fun _ _ => False
/-- what is wanted of an error that leaves; how an error lies -/
structure ErT where
  W : Value → Option Addr → L2.St → Hp → Prop
  V : PyData → Value → Option Addr → Hp → Prop
abbrev DS := DEnds → DSt → Prop
abbrev DG := PyData → DSt → (DSt → Prop) → Prop

def LE (K : PySem.W.Frag) (te : TE) (d : DE) : Prop := ∀ (C : Cz) (S : List Addr) (B H : Hp) (σ : L2.St) (Δ : DSt) (Q : PyData → Prop) (R : VK), En K C S B H σ Δ → d Δ Q →
  (∀ v H' B' x, Step S B H B' H' → Dv B' v x → Q x → R v H') → te σ H R
def LT (K : PySem.W.Frag) (te : TT) (d : DT) : Prop := ∀ (C : Cz) (S : List Addr) (B H : Hp) (σ : L2.St) (Δ : DSt) (Q : Bool → Prop) (R : Bool → Hp → Prop), En K C S B H σ Δ → d Δ Q →
  (∀ b H' B', Step S B H B' H' → Q b → R b H') → te σ H R
def LA (K : PySem.W.Frag) (te : TA) (d : DA) : Prop := ∀ (C : Cz) (S : List Addr) (B H : Hp) (σ : L2.St) (Δ : DSt) (Q : List PyData → Prop) (R : List V → Hp → Prop), En K C S B H σ Δ → d Δ Q →
  (∀ vs H' B' xs, Step S B H B' H' → DvL B' vs xs → Q xs → R vs H') → te σ H R
/-- a new list of one's own -/
def LL (K : PySem.W.Frag) (te : TE) (d : DA) : Prop := ∀ (C : Cz) (S : List Addr) (B H : Hp) (σ : L2.St) (Δ : DSt) (Q : List PyData → Prop) (R : VK), En K C S B H σ Δ → d Δ Q →
  (∀ a xs H' B' ds, Step S B H B' H' → H a = none → B' a = none → H' a = some (.lst xs) → DvL B' xs ds → Q ds → R (.ref a) H') → te σ H R
/-- what is walked -/
def ItOk (J : It) (B : Hp) (ds : List PyData) : Prop := ∃ G Y, Walk J ds.length G Y ∧ (∀ H, Same B H → G H) ∧
  ∀ (S : List Addr) i B1 H x H', Same B B1 → Same B1 H → (∀ a ∈ S, Two H a ∧ B1 a = none) → i < ds.length → Y i H x H' → ∃ B2 y, Step S B1 H B2 H' ∧ ds[i]? = some y ∧ Dv B2 x y
def LI (K : PySem.W.Frag) (wi : TI) (d : DA) : Prop := ∀ (C : Cz) (S : List Addr) (B H : Hp) (σ : L2.St) (Δ : DSt) (Q : List PyData → Prop) (R : It → Hp → Prop), En K C S B H σ Δ → d Δ Q →
  (∀ J H' B' ds, Step S B H B' H' → ItOk J B' ds → Q ds → R J H') → wi σ H R
def LG (K : PySem.W.Frag) (tg : TG) (d : DG) : Prop := ∀ (C : Cz) (S : List Addr) (B H : Hp) (σ : L2.St) (Δ : DSt) (v : V) (x : PyData) (Q : DSt → Prop) (R : L2.St → Hp → Prop), En K C S B H σ Δ → Dv B v x → d x Δ Q →
  (∀ σ' Δ', En K C S B H σ' Δ' → Q Δ' → R σ' H) → tg v σ H R
structure EndsOk (K : PySem.W.Frag) (Er : ErT) (C : Cz) (B : Hp) (D : Ends) (DD : DEnds) : Prop where
  nx : ∀ S' B' H' σ' Δ', Same B B' → En K C S' B' H' σ' Δ' → DD.nx Δ' → D.nx σ' H'
  rt : ∀ S' B' H' v en, Step C.S C.B C.H B' H' → VR K C S' B' H' v en → DD.rt en → D.rt v H'
  bk : ∀ S' B' H' σ' Δ', Same B B' → En K C S' B' H' σ' Δ' → DD.bk Δ' → D.bk σ' H'
  ct : ∀ S' B' H' σ' Δ', Same B B' → En K C S' B' H' σ' Δ' → DD.ct Δ' → D.ct σ' H'
  ex : ∀ S' B' H' σ' Δ' x cls d, Same B B' → En K C S' B' H' σ' Δ' → Er.V x cls d H' → DD.ex x Δ' → Er.W cls d σ' H'
def LS (K : PySem.W.Frag) (Er : ErT) (ts : TS) (d : DS) : Prop := ∀ (C : Cz) (S : List Addr) (B H : Hp) (σ : L2.St) (Δ : DSt) (D : Ends) (DD : DEnds), En K C S B H σ Δ → d DD Δ → EndsOk K Er C B D DD → ts D σ H
theorem EndsOk.mono {K : PySem.W.Frag} {Er : ErT} {C : Cz} {B B' : Hp} {D : Ends} {DD : DEnds} (e : EndsOk K Er C B D DD) (s : Same B B') : EndsOk K Er C B' D DD :=
  ⟨fun S1 B1 H1 σ1 Δ1 h => e.nx S1 B1 H1 σ1 Δ1 (s.trans h), e.rt, fun S1 B1 H1 σ1 Δ1 h => e.bk S1 B1 H1 σ1 Δ1 (s.trans h), fun S1 B1 H1 σ1 Δ1 h => e.ct S1 B1 H1 σ1 Δ1 (s.trans h), fun S1 B1 H1 σ1 Δ1 x cls d h => e.ex S1 B1 H1 σ1 Δ1 x cls d (s.trans h)⟩

structure XE (X : Cx) (e : Expr) (d : DE) : Prop where
  ex : ∃ t, PE X e t ∧ LE X.K t d
structure XT (X : Cx) (e : Expr) (d : DT) : Prop where
  ex : ∃ t, PT X e t ∧ LT X.K t d
structure XW (X : Cx) (e : Expr) (d : DT) : Prop where
  ex : ∃ t, PW X e t ∧ LT X.K t d
structure XA (X : Cx) (e : List Expr) (d : DA) : Prop where
  ex : ∃ t, PA X e t ∧ LA X.K t d
structure XL (X : Cx) (e : Expr) (d : DA) : Prop where
  ex : ∃ t, PE X e t ∧ LL X.K t d
structure XI (X : Cx) (tg e : Expr) (d : DA) : Prop where
  ex : ∃ t, PI X tg e t ∧ LI X.K t d
structure XG (X : Cx) (e : Expr) (d : DG) : Prop where
  ex : ∃ t, PG X e t ∧ LG X.K t d
structure XS (X : Cx) (Er : ErT) (e : Stmt) (d : DS) : Prop where
  ex : ∃ t, PS X e t ∧ LS X.K Er t d
structure XB (X : Cx) (Er : ErT) (e : List Stmt) (d : DS) : Prop where
  ex : ∃ t, PSs X e t ∧ LS X.K Er t d

section
variable {X : Cx} {a b c e : Expr} {da db dc : DE} {pos : Pos}
def dVar (i : Nat) : DE := fun Δ Q => ∃ x, Δ[i]? = some (some (.d x)) ∧ Q x
def dC (x : PyData) : DE := fun _ Q => Q x
theorem xe_var (i : Nat) {x : Str} (hN : X.N[i]? = some x := by rfl) (hv : Vis X.env.scope x := by first | exact Or.inl rfl | exact Or.inr (Or.inl rfl) | exact Or.inr (Or.inr rfl)) (hd : (x == ("__debug__" : Str)) = false := by decide)
    (hcd : (x == ("__classdict__" : Str)) = false := by decide) : XE X (.Name x pos) (dVar i) := by
  refine ⟨_, pe_var hN hv hd hcd, fun C S B H σ Δ Q R en h k => ?_⟩
  obtain ⟨x, h1, h2⟩ := h
  obtain ⟨v, h3, h4⟩ := en.vr i _ h1
  exact ⟨v, h3, k _ _ _ _ en.st0 h4 h2⟩
theorem le_const {K : PySem.W.Frag} {v : V} {x : PyData} (h : ∀ B, Dv B v x) : LE K (tC v) (dC x) := fun C S B H σ Δ Q R en q k => k _ _ _ _ en.st0 (h B) q
theorem xe_int {i : Int} {j : Nat} : XE X (.Constant (.int i) j pos) (dC (.int i)) := ⟨_, pe_int, le_const fun _ => .int i⟩
theorem xe_str {x : Str} {j : Nat} : XE X (.Constant (.str x) j pos) (dC (.str x)) := ⟨_, pe_str, le_const fun _ => .str x⟩
theorem xe_non {j : Nat} : XE X (.Constant .none j pos) (dC .none) := ⟨_, pe_non, le_const fun _ => .non⟩
theorem xe_bl {k : Bool} {j : Nat} : XE X (.Constant (.bool k) j pos) (dC (.bool k)) := ⟨_, pe_bl, le_const fun _ => .bl k⟩
theorem xe_gint {x : Str} {i : Int} (hg : Gl X x) (h : ∃ t, X.mg x = some (Value.int i t)) (hd : (x == ("__debug__" : Str)) = false := by decide) : XE X (.Name x pos) (dC (.int i)) := by
  obtain ⟨t, hm⟩ := h
  exact ⟨_, pe_glob (v := .int i) hg hm ⟨t, rfl⟩ hd, le_const fun _ => .int i⟩
theorem xe_gstr {x : Str} {i : Str} (hg : Gl X x) (h : ∃ t, X.mg x = some (Value.str i t)) (hd : (x == ("__debug__" : Str)) = false := by decide) : XE X (.Name x pos) (dC (.str i)) := by
  obtain ⟨t, hm⟩ := h
  exact ⟨_, pe_glob (v := .str i) hg hm ⟨t, rfl⟩ hd, le_const fun _ => .str i⟩

def LR2 (K : PySem.W.Frag) (rr : R2) (r : PyData → PyData → (PyData → Prop) → Prop) : Prop := ∀ (S : List Addr) (B H : Hp) (x y : V) (d e : PyData) (Q : PyData → Prop) (R : VK), Same B H → (∀ a ∈ S, Two H a ∧ B a = none) → Dv B x d → Dv B y e → r d e Q →
  (∀ v H' B' z, Step S B H B' H' → Dv B' v z → Q z → R v H') → rr x y H R
def LC (K : PySem.W.Frag) (rr : List V → Hp → VK → Prop) (r : List PyData → (PyData → Prop) → Prop) : Prop := ∀ (S : List Addr) (B H : Hp) (xs : List V) (ds : List PyData) (Q : PyData → Prop) (R : VK), Same B H → (∀ a ∈ S, Two H a ∧ B a = none) → DvL B xs ds → r ds Q →
  (∀ v H' B' z, Step S B H B' H' → Dv B' v z → Q z → R v H') → rr xs H R
def dOp (r : PyData → PyData → (PyData → Prop) → Prop) (da db : DE) : DE := fun Δ Q => da Δ fun x => db Δ fun y => r x y Q
theorem le_op {K : PySem.W.Frag} {ta tb : TE} {rr : R2} {r : PyData → PyData → (PyData → Prop) → Prop} (ha : LE K ta da) (hb : LE K tb db) (hr : LR2 K rr r) : LE K (tOp rr ta tb) (dOp r da db) := fun C S B H σ Δ Q R en q k =>
  ha C S B H σ Δ _ _ en q fun v H1 B1 x s1 r1 q1 => hb C S B1 H1 σ Δ _ _ (en.step s1) q1 fun u H2 B2 y s2 r2 q2 =>
    hr S B2 H2 v u x y Q R s2.bh s2.tw (r1.mono s2.bb) r2 q2 fun w H3 B3 z s3 r3 q3 => k _ _ _ _ ((s1.trans s2).trans s3) r3 q3
theorem xe_op {op : Operator} {rr : R2} {r : PyData → PyData → (PyData → Prop) → Prop} (ho : OpR X (binaryOp op) rr) (hr : LR2 X.K rr r) (ha : XE X a da) (hb : XE X b db) : XE X (.BinOp a op b pos) (dOp r da db) := by
  obtain ⟨ta, pa, la⟩ := ha
  obtain ⟨tb, pb, lb⟩ := hb
  exact ⟨_, pe_op ho pa pb, le_op la lb hr⟩
theorem xe_cmp {op : CmpOp} {rr : R2} {r : PyData → PyData → (PyData → Prop) → Prop} (ho : OpR X (compareOp op) rr) (hr : LR2 X.K rr r) (ha : XE X a da) (hb : XE X b db) (hm : behindInMarks op b = false) : XE X (.Compare a [op] [b] pos) (dOp r da db) := by
  obtain ⟨ta, pa, la⟩ := ha
  obtain ⟨tb, pb, lb⟩ := hb
  exact ⟨_, pe_cmpR ho pa pb hm, le_op la lb hr⟩
def dTst (d : DE) : DT := fun Δ Q => d Δ fun x => ∃ k, x = .bool k ∧ Q k
theorem lt_tst {K : PySem.W.Frag} {ta : TE} (ha : LE K ta da) : LT K (tTest ta) (dTst da) := fun C S B H σ Δ Q R en q k =>
  ha C S B H σ Δ _ _ en q fun v H1 B1 x s1 r1 q1 => by
    obtain ⟨b, rfl, q1⟩ := q1
    cases r1
    exact ⟨b, rfl, k _ _ _ s1 q1⟩
theorem xt_cmp {op : CmpOp} {rr : R2} {r : PyData → PyData → (PyData → Prop) → Prop} (ho : OpR X (compareOp op) rr) (hr : LR2 X.K rr r) (ha : XE X a da) (hb : XE X b db) (hm : behindInMarks op b = false) : XT X (.Compare a [op] [b] pos) (dTst (dOp r da db)) := by
  obtain ⟨ta, pa, la⟩ := ha
  obtain ⟨tb, pb, lb⟩ := hb
  exact ⟨_, pt_cmpR ho pa pb hm, lt_tst (le_op la lb hr)⟩
/-- a op b op' c -/
def dChain (r r' : PyData → PyData → (PyData → Prop) → Prop) (da db dc : DE) : DE := fun Δ Q => da Δ fun x => db Δ fun y => r x y fun z => ∃ k, z = .bool k ∧ if k = true then dc Δ fun w => r' y w Q else Q (.bool false)

def intD (g : Int → Int → PyData) (C : Int → Int → Prop) : PyData → PyData → (PyData → Prop) → Prop
  | .int i, .int j, Q => C i j ∧ Q (g i j)
  | _, _, _ => False
theorem lr_int {K : PySem.W.Frag} {C : Int → Int → Prop} {g : Int → Int → Int} : LR2 K (rI C fun i j => .int (g i j)) (intD (fun i j => .int (g i j)) C) := fun S B H x y d e Q R hs tw hx hy q k => by
  cases hx <;> first | exact q.elim | skip
  cases hy <;> first | exact q.elim | skip
  exact ⟨_, _, rfl, rfl, q.1, k _ _ _ _ (.refl hs tw) (.int _) q.2⟩
theorem lr_int0 {K : PySem.W.Frag} {g : Int → Int → Int} : LR2 K (rI0 fun i j => .int (g i j)) (intD (fun i j => .int (g i j)) fun _ _ => True) := fun S B H x y d e Q R hs tw hx hy q k => by
  cases hx <;> first | exact q.elim | skip
  cases hy <;> first | exact q.elim | skip
  exact ⟨_, _, rfl, rfl, k _ _ _ _ (.refl hs tw) (.int _) q.2⟩
theorem lr_bool0 {K : PySem.W.Frag} {g : Int → Int → Bool} : LR2 K (rI0 fun i j => .bl (g i j)) (intD (fun i j => .bool (g i j)) fun _ _ => True) := fun S B H x y d e Q R hs tw hx hy q k => by
  cases hx <;> first | exact q.elim | skip
  cases hy <;> first | exact q.elim | skip
  exact ⟨_, _, rfl, rfl, k _ _ _ _ (.refl hs tw) (.bl _) q.2⟩
/-- a + b: ints, texts, lists -/
def addD : PyData → PyData → (PyData → Prop) → Prop
  | .int i, .int j, Q => Q (.int (i + j))
  | .str x, .str y, Q => x.length + y.length ≤ sizeLine ∧ Q (.str (x ++ y))
  | .list xs, .list ys, Q => xs.length + ys.length ≤ sizeLine ∧ Q (.list (xs ++ ys))
  | _, _, _ => False
def rAddA : R2 := fun x y H Q => (∃ i j, x = .int i ∧ y = .int j ∧ Q (.int (i + j)) H) ∨ ((∃ i j, x = .str i ∧ y = .str j ∧ i.length + j.length ≤ sizeLine ∧ Q (.str (i ++ j)) H) ∨ rCat x y H Q)
theorem op_addA : OpR X (binaryOp .Add) rAddA := OpR.or op_add (OpR.or op_add_str op_cat)
theorem lr_add {K : PySem.W.Frag} : LR2 K rAddA addD := fun S B H x y d e Q R hs tw hx hy q k => by
  cases hx with
  | int i =>
    cases hy <;> first | exact q.elim | skip
    exact .inl ⟨_, _, rfl, rfl, k _ _ _ _ (.refl hs tw) (.int _) q⟩
  | str s =>
    cases hy <;> first | exact q.elim | skip
    exact .inr (.inl ⟨_, _, rfl, rfl, q.1, k _ _ _ _ (.refl hs tw) (.str _) q.2⟩)
  | lst h1 h2 =>
    cases hy <;> first | exact q.elim | skip
    rename_i h3 h4
    refine .inr (.inr ⟨_, _, _, _, rfl, rfl, hs _ _ h1, hs _ _ h3, by rw [h2.length, h4.length]; exact q.1, fun p hp => ?_⟩)
    refine k _ _ _ _ (.new hs tw hp) (.lst upd_same ?_) q.2
    have nb : B p = none := hs.free hp
    exact (h2.append h4).mono (same_upd nb)
  | non => exact q.elim
  | bl b => exact q.elim
  | tup _ _ => exact q.elim
/-- == and != of data -/
def eqD : PyData → PyData → (PyData → Prop) → Prop
  | .str a, .str b, Q => Q (.bool (decide (a = b)))
  | .int a, .int b, Q => Q (.bool (decide (a = b)))
  | x, y, Q => SeqAt.shaped x = true ∧ SeqAt.shaped y = true ∧ Q (.bool (PyData.eqv x y))
def neD : PyData → PyData → (PyData → Prop) → Prop
  | .str a, .str b, Q => Q (.bool (!decide (a = b)))
  | .int a, .int b, Q => Q (.bool (!decide (a = b)))
  | x, y, Q => SeqAt.shaped x = true ∧ SeqAt.shaped y = true ∧ Q (.bool (!PyData.eqv x y))
def rEqA (K : PySem.W.Frag) : R2 := fun x y H Q => rEq x y H Q ∨ rEqD K x y H Q
def rNeA (K : PySem.W.Frag) : R2 := fun x y H Q => rNe x y H Q ∨ rNeD K x y H Q
theorem op_eqA (hu : X.A.units + 64 < cLine) : OpR X (compareOp .Eq) (rEqA X.K) := OpR.or op_eq (op_eqD hu)
theorem op_neA (hu : X.A.units + 64 < cLine) : OpR X (compareOp .NotEq) (rNeA X.K) := OpR.or op_ne (op_neD hu)
theorem dec_vs {a b : Str} : decide (V.str a = V.str b) = decide (a = b) := by
  by_cases h : a = b
  · rw [decide_eq_true h, decide_eq_true (by rw [h])]
  · rw [decide_eq_false h, decide_eq_false (fun z => h (by injection z))]
theorem dec_vi {a b : Int} : decide (V.int a = V.int b) = decide (a = b) := by
  by_cases h : a = b
  · rw [decide_eq_true h, decide_eq_true (by rw [h])]
  · rw [decide_eq_false h, decide_eq_false (fun z => h (by injection z))]
theorem eqD_cases {x y : PyData} {Q : PyData → Prop} (h : eqD x y Q) : (∃ a b, x = .str a ∧ y = .str b ∧ Q (.bool (decide (a = b)))) ∨ (∃ a b, x = .int a ∧ y = .int b ∧ Q (.bool (decide (a = b)))) ∨ (SeqAt.shaped x = true ∧ SeqAt.shaped y = true ∧ Q (.bool (PyData.eqv x y))) := by
  unfold eqD at h
  split at h
  · exact .inl ⟨_, _, rfl, rfl, h⟩
  · exact .inr (.inl ⟨_, _, rfl, rfl, h⟩)
  · exact .inr (.inr h)
theorem neD_cases {x y : PyData} {Q : PyData → Prop} (h : neD x y Q) : (∃ a b, x = .str a ∧ y = .str b ∧ Q (.bool (!decide (a = b)))) ∨ (∃ a b, x = .int a ∧ y = .int b ∧ Q (.bool (!decide (a = b)))) ∨ (SeqAt.shaped x = true ∧ SeqAt.shaped y = true ∧ Q (.bool (!PyData.eqv x y))) := by
  unfold neD at h
  split at h
  · exact .inl ⟨_, _, rfl, rfl, h⟩
  · exact .inr (.inl ⟨_, _, rfl, rfl, h⟩)
  · exact .inr (.inr h)
theorem lr_eq {K : PySem.W.Frag} : LR2 K (rEqA K) eqD := fun S B H x y d e Q R hs tw hx hy q k => by
  rcases eqD_cases q with ⟨a, b, rfl, rfl, q⟩ | ⟨a, b, rfl, rfl, q⟩ | q
  · cases hx; cases hy
    exact .inl ⟨rfl, k _ _ _ _ (.refl hs tw) (by rw [dec_vs]; exact .bl _) q⟩
  · cases hx; cases hy
    exact .inl ⟨rfl, k _ _ _ _ (.refl hs tw) (by rw [dec_vi]; exact .bl _) q⟩
  · exact .inr ⟨d, e, (hx.mono hs).dp, (hy.mono hs).dp, q.1, q.2.1, k _ _ _ _ (.refl hs tw) (.bl _) q.2.2⟩
theorem lr_ne {K : PySem.W.Frag} : LR2 K (rNeA K) neD := fun S B H x y d e Q R hs tw hx hy q k => by
  rcases neD_cases q with ⟨a, b, rfl, rfl, q⟩ | ⟨a, b, rfl, rfl, q⟩ | q
  · cases hx; cases hy
    exact .inl ⟨rfl, k _ _ _ _ (.refl hs tw) (by rw [dec_vs]; exact .bl _) q⟩
  · cases hx; cases hy
    exact .inl ⟨rfl, k _ _ _ _ (.refl hs tw) (by rw [dec_vi]; exact .bl _) q⟩
  · exact .inr ⟨d, e, (hx.mono hs).dp, (hy.mono hs).dp, q.1, q.2.1, k _ _ _ _ (.refl hs tw) (.bl _) q.2.2⟩
def isN : PyData → Bool
  | .none => true
  | _ => false
def isND (x y : PyData) (Q : PyData → Prop) : Prop := y = .none ∧ Q (.bool (isN x))
def ntND (x y : PyData) (Q : PyData → Prop) : Prop := y = .none ∧ Q (.bool (!isN x))
theorem isN_v {B : Hp} {v : V} {x : PyData} (h : Dv B v x) : decide (v = .non) = isN x := by
  cases h <;> rfl
theorem lr_isN {K : PySem.W.Frag} : LR2 K (fun x y H Q => y = .non ∧ Q (.bl (decide (x = .non))) H) isND := fun S B H x y d e Q R hs tw hx hy q k => by
  obtain ⟨rfl, q⟩ := q
  cases hy
  exact ⟨rfl, k _ _ _ _ (.refl hs tw) (by rw [isN_v hx]; exact .bl _) q⟩
theorem lr_ntN {K : PySem.W.Frag} : LR2 K (fun x y H Q => y = .non ∧ Q (.bl (!decide (x = .non))) H) ntND := fun S B H x y d e Q R hs tw hx hy q k => by
  obtain ⟨rfl, q⟩ := q
  cases hy
  exact ⟨rfl, k _ _ _ _ (.refl hs tw) (by rw [isN_v hx]; exact .bl _) q⟩
/-- in, not in: a list of data, a tuple of texts, a text -/
def isStr : PyData → Bool
  | .str _ => true
  | _ => false
def inD (x y : PyData) (Q : PyData → Prop) : Prop := match y with
  | .list ds => SeqAt.shaped x = true ∧ SeqAt.shaped (.list ds) = true ∧ Q (.bool (ds.any fun z => PyData.eqv z x))
  | .tuple ds => ∃ (s : Str) (ys : List Str), x = .str s ∧ ds = ys.map PyData.str ∧ Q (.bool (ys.any fun z => z == s))
  | .str t => ∃ s, x = .str s ∧ Q (.bool (!(Builtin.Str.occurrences t s 0 t.length 1).isEmpty))
  | _ => False
def ninD (x y : PyData) (Q : PyData → Prop) : Prop := inD x y fun z => ∃ k, z = .bool k ∧ Q (.bool (!k))
def rInA (K : PySem.W.Frag) : R2 := fun x y H Q => rInD K x y H Q ∨ (rIn K false x y H Q ∨ ∃ i j, x = .str i ∧ y = .str j ∧ Q (.bl (!(Builtin.Str.occurrences j i 0 j.length 1).isEmpty)) H)
def rNinA (K : PySem.W.Frag) : R2 := fun x y H Q => rNotInD K x y H Q ∨ (rIn K true x y H Q ∨ ∃ i j, x = .str i ∧ y = .str j ∧ Q (.bl (!(!(Builtin.Str.occurrences j i 0 j.length 1).isEmpty))) H)
theorem op_inA (hu : X.A.units + 65 < cLine) : OpR X (compareOp .In) (rInA X.K) := OpR.or (op_inD hu) (OpR.or op_in_seq op_in_str)
theorem op_ninA (hu : X.A.units + 65 < cLine) : OpR X (compareOp .NotIn) (rNinA X.K) := OpR.or (op_notInD hu) (OpR.or op_notIn_seq op_notin_str)
theorem any_str (s : Str) : ∀ ys : List Str, (ys.map V.str).any (fun y => eqV y (.str s)) = ys.any fun z => z == s
  | [] => rfl
  | y :: ys => by
    rw [List.map_cons, List.any_cons, List.any_cons, any_str s ys]
    rfl
theorem lr_in {K : PySem.W.Frag} : LR2 K (rInA K) inD := fun S B H x y d e Q R hs tw hx hy q k => by
  cases hy with
  | lst h1 h2 =>
    obtain ⟨q1, q2, q3⟩ := q
    exact .inl ⟨_, _, (hx.mono hs).dp, (Dv.dp (.lst (hs _ _ h1) (h2.mono hs))), q1, q2, k _ _ _ _ (.refl hs tw) (.bl _) q3⟩
  | tup h1 h2 =>
    obtain ⟨s, ys, rfl, rfl, q⟩ := q
    cases hx
    rw [h2.ofStrs] at h1
    refine .inr (.inl ⟨_, _, rfl, .inr (.of (hs _ _ h1)), rfl, by simp [flatV], ?_⟩)
    refine k _ _ _ _ (.refl hs tw) ?_ q
    rw [if_neg Bool.false_ne_true]
    unfold inV
    rw [any_str]
    exact .bl _
  | str t =>
    obtain ⟨s, rfl, q⟩ := q
    cases hx
    exact .inr (.inr ⟨_, _, rfl, rfl, k _ _ _ _ (.refl hs tw) (.bl _) q⟩)
  | non => exact q.elim
  | bl b => exact q.elim
  | int i => exact q.elim
theorem lr_nin {K : PySem.W.Frag} : LR2 K (rNinA K) ninD := fun S B H x y d e Q R hs tw hx hy q k => by
  cases hy with
  | lst h1 h2 =>
    obtain ⟨q1, q2, b, eb, q3⟩ := q
    cases eb
    exact .inl ⟨_, _, (hx.mono hs).dp, (Dv.dp (.lst (hs _ _ h1) (h2.mono hs))), q1, q2, k _ _ _ _ (.refl hs tw) (.bl _) q3⟩
  | tup h1 h2 =>
    obtain ⟨s, ys, rfl, rfl, b, eb, q⟩ := q
    cases eb
    cases hx
    rw [h2.ofStrs] at h1
    refine .inr (.inl ⟨_, _, rfl, .inr (.of (hs _ _ h1)), rfl, by simp [flatV], ?_⟩)
    refine k _ _ _ _ (.refl hs tw) ?_ q
    rw [if_pos rfl]
    unfold inV
    rw [any_str]
    exact .bl _
  | str t =>
    obtain ⟨s, rfl, b, eb, q⟩ := q
    cases eb
    cases hx
    exact .inr (.inr ⟨_, _, rfl, rfl, k _ _ _ _ (.refl hs tw) (.bl _) q⟩)
  | non => exact q.elim
  | bl b => exact q.elim
  | int i => exact q.elim

def dAnd (t u : DT) : DT := fun Δ Q => t Δ fun c => if c = true then u Δ Q else Q false
def dOr (t u : DT) : DT := fun Δ Q => t Δ fun c => if c = true then Q true else u Δ Q
def dNot (t : DT) : DT := fun Δ Q => t Δ fun c => Q (!c)
variable {rest : List Expr} {tA tB : DT}
theorem XW.pt {e : Expr} (h : XW X e tA) : XT X e tA := by
  obtain ⟨t, p, l⟩ := h
  exact ⟨t, p.pt, l⟩
theorem lt_and {K : PySem.W.Frag} {t u : TT} (ha : LT K t tA) (hb : LT K u tB) : LT K (tAnd t u) (dAnd tA tB) := fun C S B H σ Δ Q R en q k =>
  ha C S B H σ Δ _ _ en q fun b H1 B1 s1 q1 => by
    cases b with
    | true => exact hb C S B1 H1 σ Δ _ _ (en.step s1) q1 fun b H2 B2 s2 q2 => k _ _ _ (s1.trans s2) q2
    | false => exact k _ _ _ s1 q1
theorem lt_or {K : PySem.W.Frag} {t u : TT} (ha : LT K t tA) (hb : LT K u tB) : LT K (tOr t u) (dOr tA tB) := fun C S B H σ Δ Q R en q k =>
  ha C S B H σ Δ _ _ en q fun b H1 B1 s1 q1 => by
    cases b with
    | false => exact hb C S B1 H1 σ Δ _ _ (en.step s1) q1 fun b H2 B2 s2 q2 => k _ _ _ (s1.trans s2) q2
    | true => exact k _ _ _ s1 q1
theorem xw_and1 (ha : XT X a tA) : XW X (.BoolOp .And [a] pos) tA := by
  obtain ⟨t, p, l⟩ := ha
  exact ⟨t, pw_and1 p, l⟩
theorem xw_or1 (ha : XT X a tA) : XW X (.BoolOp .Or [a] pos) tA := by
  obtain ⟨t, p, l⟩ := ha
  exact ⟨t, pw_or1 p, l⟩
theorem xw_and (ha : XT X a tA) (hb : XW X (.BoolOp .And (b :: rest) pos) tB) : XW X (.BoolOp .And (a :: b :: rest) pos) (dAnd tA tB) := by
  obtain ⟨t, p, l⟩ := ha
  obtain ⟨u, p', l'⟩ := hb
  exact ⟨_, pw_and p p', lt_and l l'⟩
theorem xw_or (ha : XT X a tA) (hb : XW X (.BoolOp .Or (b :: rest) pos) tB) : XW X (.BoolOp .Or (a :: b :: rest) pos) (dOr tA tB) := by
  obtain ⟨t, p, l⟩ := ha
  obtain ⟨u, p', l'⟩ := hb
  exact ⟨_, pw_or p p', lt_or l l'⟩
theorem xt_not (ha : XT X a tA) : XT X (.UnaryOp .Not a pos) (dNot tA) := by
  obtain ⟨t, p, l⟩ := ha
  exact ⟨_, pt_not p, fun C S B H σ Δ Q R en q k => l C S B H σ Δ _ _ en q fun b H1 B1 s1 q1 => k _ _ _ s1 q1⟩
/-- a value as a test -/
def truD : PyData → Bool → Prop
  | .bool b, k => k = b
  | .str x, k => k = !(x.length == 0)
  | _, _ => False
theorem xt_val {e : Expr} {d : DE} (h : XE X e d) (he : ∀ whole, isTrue e X.env whole = (do let v ← whole; standAt e.pos; holding [v] (truthy v)) := by intro _; rfl) : XT X e (dTst d) := by
  obtain ⟨t, p, l⟩ := h
  exact ⟨_, pt_val p he, fun C S B H σ Δ Q R en q k => l C S B H σ Δ _ _ en q fun v H1 B1 x s1 r1 q1 => by
    obtain ⟨b, rfl, q1⟩ := q1
    cases r1
    exact ⟨b, rfl, k _ _ _ s1 q1⟩⟩
/-- and, or, not as values of tests -/
def dIfE (t : DT) (da db : DE) : DE := fun Δ Q => t Δ fun c => if c = true then da Δ Q else db Δ Q
theorem xe_ifExp (hc : XT X c tA) (ha : XE X a da) (hb : XE X b db) : XE X (.IfExp c a b pos) (dIfE tA da db) := by
  obtain ⟨t, p, l⟩ := hc
  obtain ⟨u, p1, l1⟩ := ha
  obtain ⟨v, p2, l2⟩ := hb
  refine ⟨_, pe_ifExp p p1 p2, fun C S B H σ Δ Q R en q k => l C S B H σ Δ _ _ en q fun b H1 B1 s1 q1 => ?_⟩
  cases b with
  | true => exact l1 C S B1 H1 σ Δ _ _ (en.step s1) q1 fun v H2 B2 x s2 r2 q2 => k _ _ _ _ (s1.trans s2) r2 q2
  | false => exact l2 C S B1 H1 σ Δ _ _ (en.step s1) q1 fun v H2 B2 x s2 r2 q2 => k _ _ _ _ (s1.trans s2) r2 q2
def dAndV (da db : DE) : DE := fun Δ Q => da Δ fun x => ∃ c, x = .bool c ∧ if c = true then db Δ Q else Q (.bool false)
def dNotV (da : DE) : DE := fun Δ Q => da Δ fun x => ∃ c, x = .bool c ∧ Q (.bool (!c))
theorem xe_one {op : BoolOp} (ha : XE X a da) : XE X (.BoolOp op [a] pos) da := by
  obtain ⟨t, p, l⟩ := ha
  exact ⟨t, pe_one p, l⟩
theorem xe_and (ha : XE X a da) (hb : XE X (.BoolOp .And (b :: rest) pos) db) : XE X (.BoolOp .And (a :: b :: rest) pos) (dAndV da db) := by
  obtain ⟨t, p, l⟩ := ha
  obtain ⟨u, p1, l1⟩ := hb
  refine ⟨_, pe_and p p1, fun C S B H σ Δ Q R en q k => l C S B H σ Δ _ _ en q fun v H1 B1 x s1 r1 q1 => ?_⟩
  obtain ⟨b, rfl, q1⟩ := q1
  cases r1
  cases b with
  | true => exact ⟨true, rfl, l1 C S B1 H1 σ Δ _ _ (en.step s1) q1 fun v H2 B2 x s2 r2 q2 => k _ _ _ _ (s1.trans s2) r2 q2⟩
  | false => exact ⟨false, rfl, k _ _ _ _ s1 (.bl false) q1⟩
theorem xe_not (ha : XE X a da) : XE X (.UnaryOp .Not a pos) (dNotV da) := by
  obtain ⟨t, p, l⟩ := ha
  refine ⟨_, pe_not p, fun C S B H σ Δ Q R en q k => l C S B H σ Δ _ _ en q fun v H1 B1 x s1 r1 q1 => ?_⟩
  obtain ⟨b, rfl, q1⟩ := q1
  cases r1
  exact ⟨b, rfl, k _ _ _ _ s1 (.bl _) q1⟩

def dNil : DA := fun _ Q => Q []
def dCons (da : DE) (dr : DA) : DA := fun Δ Q => da Δ fun x => dr Δ fun xs => Q (x :: xs)
variable {es : List Expr} {d : DA}
theorem xa_nil : XA X [] dNil := ⟨_, pa_nil, fun C S B H σ Δ Q R en q k => k _ _ _ _ en.st0 .nil q⟩
theorem xa_cons (ha : XE X a da) (hr : XA X es d) (hs : starEach (a :: es) X.env = (false, eval a X.env) :: starEach es X.env := by rfl) : XA X (a :: es) (dCons da d) := by
  obtain ⟨t, p, l⟩ := ha
  obtain ⟨u, p1, l1⟩ := hr
  exact ⟨_, pa_cons p p1 hs, fun C S B H σ Δ Q R en q k => l C S B H σ Δ _ _ en q fun v H1 B1 x s1 r1 q1 => l1 C S B1 H1 σ Δ _ _ (en.step s1) q1 fun vs H2 B2 xs s2 r2 q2 =>
    k _ _ _ _ (s1.trans s2) (.cons (r1.mono s2.bb) r2) q2⟩
def dTup (d : DA) : DE := fun Δ Q => d Δ fun xs => xs.length ≤ sizeLine ∧ Q (.tuple xs)
theorem xe_tup {k : Nat} (h : XA X es d) : XE X (.Tuple es k pos) (dTup d) := by
  obtain ⟨t, p, l⟩ := h
  refine ⟨_, pe_tup p, fun C S B H σ Δ Q R en q k => l C S B H σ Δ _ _ en q fun vs H1 B1 xs s1 r1 q1 => ⟨by rw [r1.length]; exact q1.1, fun p hp => ?_⟩⟩
  exact k _ _ _ _ (s1.trans (.new s1.bh s1.tw hp)) (.tup upd_same (r1.mono (same_upd (s1.bh.free hp)))) q1.2
def dLst (d : DA) : DA := fun Δ Q => d Δ fun xs => xs.length ≤ sizeLine ∧ Q xs
theorem xl_lst (h : XA X es d) : XL X (.List es pos) (dLst d) := by
  obtain ⟨t, p, l⟩ := h
  refine ⟨_, pe_lst p, fun C S B H σ Δ Q R en q k => l C S B H σ Δ _ _ en q fun vs H1 B1 xs s1 r1 q1 => ⟨by rw [r1.length]; exact q1.1, fun p hp => ?_⟩⟩
  exact k _ _ _ _ _ (s1.trans (.newU s1.bh s1.tw hp)) (s1.fresh hp) (s1.bh.free hp) upd_same r1 q1.2
/-- a new list, frozen at once -/
def dFzL (d : DA) : DE := fun Δ Q => d Δ fun xs => Q (.list xs)
theorem Step.fz {S : List Addr} {B H B' H' : Hp} {a : Addr} {o : HO} (s : Step S B H B' H') (n : H a = none) (nb : B' a = none) (e : H' a = some o) (ns : a ∉ S) : Step S B H (upd B' a o) H' := by
  refine ⟨s.bb.trans (same_upd nb), fun b u q => ?_, fun b h1 h2 => ?_, s.kp, fun b hb => ⟨(s.tw b hb).1, ?_⟩⟩
  · by_cases z : b = a
    · subst z; rw [upd_same] at q; cases q; exact e
    · rw [upd_ne z] at q; exact s.bh _ _ q
  · by_cases z : b = a
    · subst z; exact n
    · rw [upd_ne z] at h2; exact s.fr b h1 h2
  · have q : b ≠ a := fun z => ns (by rw [← z]; exact hb)
    rw [upd_ne q]; exact (s.tw b hb).2
theorem XL.fz {d : DA} (h : XL X e d) : XE X e (dFzL d) := by
  obtain ⟨t, p, l⟩ := h
  refine ⟨_, p, fun C S B H σ Δ Q R en q k => l C S B H σ Δ _ _ en q fun a xs H1 B1 ds s1 n nb e1 r1 q1 => ?_⟩
  have ns : a ∉ S := fun z => (en.tw a z).1.some n
  exact k _ _ _ _ (s1.fz n nb e1 ns) (.lst upd_same (r1.mono (same_upd nb))) q1
end
end Ly
namespace Ly
open PySem PySem.Spec PyProof.Rows L2
abbrev ltD : PyData → PyData → (PyData → Prop) → Prop := intD (fun i j => .bool (decide (i < j))) fun _ _ => True
abbrev leD : PyData → PyData → (PyData → Prop) → Prop := intD (fun i j => .bool (decide (i ≤ j))) fun _ _ => True
abbrev gtD : PyData → PyData → (PyData → Prop) → Prop := intD (fun i j => .bool (decide (j < i))) fun _ _ => True
abbrev geD : PyData → PyData → (PyData → Prop) → Prop := intD (fun i j => .bool (decide (j ≤ i))) fun _ _ => True
abbrev subD : PyData → PyData → (PyData → Prop) → Prop := intD (fun i j => .int (i - j)) fun _ _ => True
abbrev mulD : PyData → PyData → (PyData → Prop) → Prop := intD (fun i j => .int (i * j)) CMul
abbrev modD : PyData → PyData → (PyData → Prop) → Prop := intD (fun i j => .int (i % j)) fun _ j => 0 < j
abbrev powD : PyData → PyData → (PyData → Prop) → Prop := intD (fun i j => .int (i ^ j.toNat)) CPow
abbrev shlD : PyData → PyData → (PyData → Prop) → Prop := intD (fun i j => .int (i * 2 ^ j.toNat)) CPow
end Ly
set_option Elab.async false
set_option linter.all false
set_option maxRecDepth 100000
namespace Ly
open PySem PySem.Spec PyProof.Rows L2

section
variable {X : Cx} {a b c e : Expr} {da db dc : DE} {pos : Pos}
theorem DvL.atI {B : Hp} {xs : List V} {ds : List PyData} {i : Int} {d : PyData} (h : DvL B xs ds) (e : atI ds i = some d) : ∃ v, atI xs i = some v ∧ Dv B v d := by
  unfold L2.atI at e ⊢
  rw [h.length]
  cases q : ixN ds.length i with
  | none => rw [q] at e; cases e
  | some j =>
    rw [q] at e
    exact DvL.get' h e
def ixD : PyData → PyData → (PyData → Prop) → Prop
  | .list ds, .int i, Q => ∃ d, atI ds i = some d ∧ Q d
  | .tuple ds, .int i, Q => ∃ d, atI ds i = some d ∧ Q d
  | .str z, .int i, Q => z.length ≤ sizeLine ∧ ∃ c, atI z.cps.toList i = some c ∧ Q (.str ⟨#[c]⟩)
  | _, _, _ => False
theorem lr_ix {K : PySem.W.Frag} : LR2 K (rIx K) ixD := fun S B H x y d e Q R hs tw hx hy q k => by
  cases hy with
  | int i =>
    cases hx with
    | lst h1 h2 =>
      obtain ⟨d, q1, q2⟩ := q
      obtain ⟨v, h3, h4⟩ := h2.atI q1
      exact .inl ⟨_, _, _, _, rfl, rfl, SqL.of (hs _ _ h1), h3, k _ _ _ _ (.refl hs tw) h4 q2⟩
    | tup h1 h2 =>
      obtain ⟨d, q1, q2⟩ := q
      obtain ⟨v, h3, h4⟩ := h2.atI q1
      exact .inr (.inl ⟨_, _, _, _, rfl, rfl, SqT.of (hs _ _ h1), h3, k _ _ _ _ (.refl hs tw) h4 q2⟩)
    | str z =>
      obtain ⟨z1, c, q1, q2⟩ := q
      exact .inr (.inr ⟨_, _, _, rfl, rfl, z1, q1, k _ _ _ _ (.refl hs tw) (.str _) q2⟩)
    | non => exact q.elim
    | bl b => exact q.elim
    | int i => exact q.elim
  | non => cases hx <;> exact q.elim
  | bl b => cases hx <;> exact q.elim
  | str b => cases hx <;> exact q.elim
  | lst _ _ => cases hx <;> exact q.elim
  | tup _ _ => cases hx <;> exact q.elim
theorem xe_ix (ha : XE X a da) (hb : XE X b db) (hs : PlainIx b := by intro _ _; rfl) : XE X (.Subscript a b pos) (dOp ixD da db) := by
  obtain ⟨ta, pa, la⟩ := ha
  obtain ⟨tb, pb, lb⟩ := hb
  exact ⟨_, pe_ix ix_seq pa pb hs, le_op la lb lr_ix⟩

abbrev DO := DSt → (Option Int → Prop) → Prop
def LO (K : PySem.W.Frag) (te : TO) (d : DO) : Prop := ∀ (C : Cz) (S : List Addr) (B H : Hp) (σ : L2.St) (Δ : DSt) (Q : Option Int → Prop) (R : Option Int → Hp → Prop), En K C S B H σ Δ → d Δ Q →
  (∀ b H' B', Step S B H B' H' → Q b → R b H') → te σ H R
structure XO (X : Cx) (e : Option Expr) (d : DO) : Prop where
  ex : ∃ t, PO X e t ∧ LO X.K t d
def dNoPart : DO := fun _ Q => Q none
def dPart (d : DE) : DO := fun Δ Q => d Δ fun x => ∃ i, x = .int i ∧ Q (some i)
theorem xo_none : XO X none dNoPart := ⟨_, po_none, fun C S B H σ Δ Q R en q k => k _ _ _ en.st0 q⟩
theorem xo_some (h : XE X e da) : XO X (some e) (dPart da) := by
  obtain ⟨t, p, l⟩ := h
  refine ⟨_, po_some p, fun C S B H σ Δ Q R en q k => l C S B H σ Δ _ _ en q fun v H1 B1 x s1 r1 q1 => ?_⟩
  obtain ⟨i, rfl, q1⟩ := q1
  cases r1
  exact ⟨i, rfl, k _ _ _ s1 q1⟩
def cutD (xs : List PyData) (lo hi : Option Int) : List PyData := (xs.drop (HT.sIx xs.length 0 lo)).take (HT.sIx xs.length xs.length hi - HT.sIx xs.length 0 lo)
def slD : PyData → Option Int → Option Int → (PyData → Prop) → Prop
  | .list ds, lo, hi, Q => Q (.list (cutD ds lo hi))
  | .str z, lo, hi, Q => z.length ≤ sizeLine ∧ Q (.str (cutS z lo hi))
  | _, _, _, _ => False
def dSl (da : DE) (dl dh : DO) : DE := fun Δ Q => da Δ fun x => dl Δ fun l => dh Δ fun u => slD x l u Q
theorem xe_sl {lo hi : Option Expr} {dl dh : DO} {p2 : Pos} (he : XE X e da) (hl : XO X lo dl) (hu : XO X hi dh) : XE X (.Subscript e (.Slice lo hi none p2) pos) (dSl da dl dh) := by
  obtain ⟨t, p, l⟩ := he
  obtain ⟨t1, p1, l1⟩ := hl
  obtain ⟨t2, p2, l2⟩ := hu
  refine ⟨_, pe_slice (SlR.or sl_list sl_str) p p1 p2, fun C S B H σ Δ Q R en q k => l C S B H σ Δ _ _ en q fun v H1 B1 x s1 r1 q1 => l1 C S B1 H1 σ Δ _ _ (en.step s1) q1 fun lo H2 B2 s2 q2 =>
    l2 C S B2 H2 σ Δ _ _ (en.step (s1.trans s2)) q2 fun hi H3 B3 s3 q3 => ?_⟩
  have s := (s1.trans s2).trans s3
  have r := (r1.mono s2.bb).mono s3.bb
  cases r with
  | lst h1 h2 =>
    refine .inl ⟨_, _, rfl, SqL.of (s3.bh _ _ h1), fun p hp => ?_⟩
    refine k _ _ _ _ (s.trans (.new s.bh s.tw hp)) (.lst upd_same (DvL.mono (same_upd (s.bh.free hp)) ?_)) q3
    unfold cutV cutD
    rw [h2.length]
    exact (h2.drop _).take _
  | str z => exact .inr ⟨_, rfl, q3.1, k _ _ _ _ s (.str _) q3.2⟩
  | non => exact q3.elim
  | bl b => exact q3.elim
  | int i => exact q3.elim
  | tup _ _ => exact q3.elim

def dSplit (da db : DE) : DA := fun Δ Q => da Δ fun x => ∃ z, x = .str z ∧ db Δ fun y => ∃ w, y = .str w ∧ (w.length == 0) = false ∧ z.length + 2 ≤ sizeLine ∧ Q ((Txt.split z w).map PyData.str)
theorem xl_split {apos : Pos} (ha : XE X a da) (hb : XE X b db) (hs : starEach [b] X.env = [(false, eval b X.env)] := by rfl) (hbase : attributeBase a "split" X.env (eval a X.env) = eval a X.env := by rfl) (hline : (apos.endLine == pos.line) = true := by rfl) :
    XL X (.Call (.Attribute a "split" apos) [b] [] pos) (dSplit da db) := by
  obtain ⟨t, p, l⟩ := ha
  obtain ⟨t1, p1, l1⟩ := hb
  refine ⟨_, pe_split p p1 hs hbase hline, fun C S B H σ Δ Q R en q k => l C S B H σ Δ _ _ en q fun v H1 B1 x s1 r1 q1 => ?_⟩
  obtain ⟨z, rfl, q1⟩ := q1
  cases r1
  refine ⟨⟨z, rfl⟩, l1 C S B1 H1 σ Δ _ _ (en.step s1) q1 fun u H2 B2 y s2 r2 q2 => ?_⟩
  obtain ⟨w, rfl, q3, q4, q5⟩ := q2
  cases r2
  refine ⟨_, _, rfl, rfl, q3, q4, fun p hp => ?_⟩
  have s := s1.trans s2
  exact k _ _ _ _ _ (s.trans (.newU s.bh s.tw hp)) (s.fresh hp) (s.bh.free hp) upd_same (DvL.strs _) q5
def strsOf : PyData → Option (List PyData)
  | .list ds => some ds
  | .tuple ds => some ds
  | _ => none
def dJoin (da db : DE) : DE := fun Δ Q => da Δ fun x => ∃ z, x = .str z ∧ db Δ fun y => ∃ ys : List Str, strsOf y = some (ys.map PyData.str) ∧ (ys.map (·.length)).sum + ys.length * z.length ≤ 16777216 ∧ Q (.str (Txt.join z ys))
theorem xe_join {apos : Pos} (ha : XE X a da) (hb : XE X b db) (hs : starEach [b] X.env = [(false, eval b X.env)] := by rfl) (hbase : attributeBase a "join" X.env (eval a X.env) = eval a X.env := by rfl) (hline : (apos.endLine == pos.line) = true := by rfl) :
    XE X (.Call (.Attribute a "join" apos) [b] [] pos) (dJoin da db) := by
  obtain ⟨t, p, l⟩ := ha
  obtain ⟨t1, p1, l1⟩ := hb
  refine ⟨_, pe_join p p1 hs hbase hline, fun C S B H σ Δ Q R en q k => l C S B H σ Δ _ _ en q fun v H1 B1 x s1 r1 q1 => ?_⟩
  obtain ⟨z, rfl, q1⟩ := q1
  cases r1
  refine ⟨⟨z, rfl⟩, l1 C S B1 H1 σ Δ _ _ (en.step s1) q1 fun u H2 B2 y s2 r2 q2 => ?_⟩
  obtain ⟨ys, q3, q4, q5⟩ := q2
  cases r2 with
  | lst h1 h2 =>
    cases q3
    rw [h2.ofStrs] at h1
    exact ⟨_, _, ys, rfl, rfl, .inl (SqL.of (s2.bh _ _ h1)), q4, k _ _ _ _ (s1.trans s2) (.str _) q5⟩
  | tup h1 h2 =>
    cases q3
    rw [h2.ofStrs] at h1
    exact ⟨_, _, ys, rfl, rfl, .inr (SqT.of (s2.bh _ _ h1)), q4, k _ _ _ _ (s1.trans s2) (.str _) q5⟩
  | non => cases q3
  | bl b => cases q3
  | int i => cases q3
  | str x => cases q3
def dUpper (da : DE) : DE := fun Δ Q => da Δ fun x => ∃ z, x = .str z ∧ z.length ≤ 5592405 ∧ Q (.str (Txt.upper z))
theorem xe_upper {apos : Pos} (ha : XE X a da) (hbase : attributeBase a "upper" X.env (eval a X.env) = eval a X.env := by rfl) (hline : (apos.endLine == pos.line) = true := by rfl) : XE X (.Call (.Attribute a "upper" apos) [] [] pos) (dUpper da) := by
  obtain ⟨t, p, l⟩ := ha
  refine ⟨_, pe_upper p hbase hline, fun C S B H σ Δ Q R en q k => l C S B H σ Δ _ _ en q fun v H1 B1 x s1 r1 q1 => ?_⟩
  obtain ⟨z, rfl, q1, q2⟩ := q1
  cases r1
  exact ⟨⟨z, rfl⟩, z, rfl, rfl, q1, k _ _ _ _ s1 (.str _) q2⟩

variable {es : List Expr} {d : DA} {p : Pos} {x : Str} {id T : String}
def dCB (r : List PyData → (PyData → Prop) → Prop) (d : DA) : DE := fun Δ Q => d Δ fun xs => r xs Q
theorem le_cb {K : PySem.W.Frag} {t : TA} {rr : List V → Hp → VK → Prop} {r : List PyData → (PyData → Prop) → Prop} (h : LA K t d) (hr : LC K rr r) : LE K (tCB rr t) (dCB r d) := fun C S B H σ Δ Q R en q k =>
  h C S B H σ Δ _ _ en q fun vs H1 B1 xs s1 r1 q1 => hr S B1 H1 vs xs Q R s1.bh s1.tw r1 q1 fun v H2 B2 z s2 r2 q2 => k _ _ _ _ (s1.trans s2) r2 q2
theorem xe_cb {rr : List V → Hp → VK → Prop} {r : List PyData → (PyData → Prop) → Prop} (hc : CallR X (.builtin id) rr) (hr : LC X.K rr r) (hg : Gl X x) (hm : X.mg x = none) (hv : bootBuiltins x = some (.builtin id)) (ha : XA X (e :: es) d) (hn : x ≠ "__name__" := by decide)
    (hdb : (x == ("__debug__" : Str)) = false := by decide) (he : starEach (e :: es) X.env = (false, eval e X.env) :: starEach es X.env := by rfl) (hpl : (backTo pos (starEach es X.env)).any (·.1) = false := by rfl) : XE X (.Call (.Name x p) (e :: es) [] pos) (dCB r d) := by
  obtain ⟨t, q, l⟩ := ha
  exact ⟨_, pe_callB hc hg hm hv q hn hdb he hpl, le_cb l hr⟩
theorem xe_ct {rr : List V → Hp → VK → Prop} {r : List PyData → (PyData → Prop) → Prop} (hc : CallR X (.type T) rr) (hr : LC X.K rr r) (hg : Gl X x) (hm : X.mg x = none) (hv : bootBuiltins x = some (.type T)) (ha : XA X (e :: es) d) (hn : x ≠ "__name__" := by decide)
    (hdb : (x == ("__debug__" : Str)) = false := by decide) (he : starEach (e :: es) X.env = (false, eval e X.env) :: starEach es X.env := by rfl) (hpl : (backTo pos (starEach es X.env)).any (·.1) = false := by rfl) : XE X (.Call (.Name x p) (e :: es) [] pos) (dCB r d) := by
  obtain ⟨t, q, l⟩ := ha
  exact ⟨_, pe_callTy hc hg hm hv q hn hdb he hpl, le_cb l hr⟩
def lenD : List PyData → (PyData → Prop) → Prop
  | [.list ds], Q => Q (.int ds.length)
  | [.tuple ds], Q => Q (.int ds.length)
  | [.str z], Q => z.length ≤ sizeLine ∧ Q (.int z.length)
  | _, _ => False
theorem lc_len {K : PySem.W.Frag} : LC K (fun xs H Q => ∃ x n, xs = [x] ∧ LenV K x H n ∧ Q (.int n) H) lenD := fun S B H xs ds Q R hs tw h q k => by
  cases h with
  | nil => exact q.elim
  | cons h1 h2 =>
    cases h2 with
    | cons _ _ => cases h1 <;> exact q.elim
    | nil =>
      cases h1 with
      | lst h3 h4 => exact ⟨_, _, rfl, .inl ⟨_, SqL.of (hs _ _ h3), rfl⟩, k _ _ _ _ (.refl hs tw) (by rw [h4.length]; exact .int _) q⟩
      | tup h3 h4 => exact ⟨_, _, rfl, .inr ⟨_, SqT.of (hs _ _ h3), rfl⟩, k _ _ _ _ (.refl hs tw) (by rw [h4.length]; exact .int _) q⟩
      | str z => exact ⟨_, _, rfl, ⟨q.1, rfl⟩, k _ _ _ _ (.refl hs tw) (.int _) q.2⟩
      | non => exact q.elim
      | bl b => exact q.elim
      | int i => exact q.elim
def toIntD : List PyData → (PyData → Prop) → Prop
  | [.int i], Q => Q (.int i)
  | [.bool k], Q => Q (.int (if k then 1 else 0))
  | [.str a], Q => ∃ n, PySem.intText? a = some n ∧ a.length ≤ 640 ∧ Q (.int n)
  | _, _ => False
def rIntA : List V → Hp → VK → Prop := fun xs H Q => ((∃ i, xs = [.int i] ∧ Q (.int i) H) ∨ ∃ k, xs = [.bl k] ∧ Q (.int (if k then 1 else 0)) H) ∨ ∃ a n, xs = [.str a] ∧ PySem.intText? a = some n ∧ a.length ≤ 640 ∧ Q (.int n) H
theorem call_intA : CallR X (.type "int") rIntA := CallR.or call_int1 call_int_str
theorem lc_int {K : PySem.W.Frag} : LC K rIntA toIntD := fun S B H xs ds Q R hs tw h q k => by
  cases h with
  | nil => exact q.elim
  | cons h1 h2 =>
    cases h2 with
    | cons _ _ => cases h1 <;> exact q.elim
    | nil =>
      cases h1 with
      | int i => exact .inl (.inl ⟨_, rfl, k _ _ _ _ (.refl hs tw) (.int _) q⟩)
      | bl b => exact .inl (.inr ⟨_, rfl, k _ _ _ _ (.refl hs tw) (.int _) q⟩)
      | str z =>
        obtain ⟨n, q1, q2, q3⟩ := q
        exact .inr ⟨_, n, rfl, q1, q2, k _ _ _ _ (.refl hs tw) (.int _) q3⟩
      | non => exact q.elim
      | lst _ _ => exact q.elim
      | tup _ _ => exact q.elim
def toStrD : List PyData → (PyData → Prop) → Prop
  | [.int i], Q => i.natAbs.log2 < 1920 ∧ Q (.str (toString i))
  | [.str a], Q => Q (.str a)
  | _, _ => False
def rStrA : List V → Hp → VK → Prop := fun xs H Q => (∃ i, xs = [.int i] ∧ i.natAbs.log2 < 1920 ∧ Q (.str (toString i)) H) ∨ ∃ a, xs = [.str a] ∧ Q (.str a) H
theorem call_strA : CallR X (.type "str") rStrA := CallR.or call_str_int SkE.call_str_str
theorem lc_str {K : PySem.W.Frag} : LC K rStrA toStrD := fun S B H xs ds Q R hs tw h q k => by
  cases h with
  | nil => exact q.elim
  | cons h1 h2 =>
    cases h2 with
    | cons _ _ => cases h1 <;> exact q.elim
    | nil =>
      cases h1 with
      | int i => exact .inl ⟨_, rfl, q.1, k _ _ _ _ (.refl hs tw) (.str _) q.2⟩
      | str z => exact .inr ⟨_, rfl, k _ _ _ _ (.refl hs tw) (.str _) q⟩
      | bl b => exact q.elim
      | non => exact q.elim
      | lst _ _ => exact q.elim
      | tup _ _ => exact q.elim
def toTupD : List PyData → (PyData → Prop) → Prop
  | [.list ds], Q => Q (.tuple ds)
  | [.tuple ds], Q => Q (.tuple ds)
  | _, _ => False
theorem lc_tup {K : PySem.W.Frag} : LC K (fun xs H Q => ∃ p ys, xs = [.ref p] ∧ ((SqL K H p ys ∧ ∀ l, H l = none → Q (.ref l) (upd H l (.tup ys))) ∨ (SqT K H p ys ∧ Q (.ref p) H))) toTupD := fun S B H xs ds Q R hs tw h q k => by
  cases h with
  | nil => exact q.elim
  | cons h1 h2 =>
    cases h2 with
    | cons _ _ => cases h1 <;> exact q.elim
    | nil =>
      cases h1 with
      | lst h3 h4 => exact ⟨_, _, rfl, .inl ⟨SqL.of (hs _ _ h3), fun l hl => k _ _ _ _ (.new hs tw hl) (.tup upd_same (h4.mono (same_upd (hs.free hl)))) q⟩⟩
      | tup h3 h4 => exact ⟨_, _, rfl, .inr ⟨SqT.of (hs _ _ h3), k _ _ _ _ (.refl hs tw) (.tup h3 h4) q⟩⟩
      | int i => exact q.elim
      | str z => exact q.elim
      | bl b => exact q.elim
      | non => exact q.elim
def toLstD : List PyData → (PyData → Prop) → Prop
  | [.list ds], Q => Q (.list ds)
  | [.tuple ds], Q => Q (.list ds)
  | _, _ => False
theorem lc_lst {K : PySem.W.Frag} : LC K (fun xs H Q => ∃ p ys, xs = [.ref p] ∧ (SqL K H p ys ∨ SqT K H p ys) ∧ ∀ l, H l = none → Q (.ref l) (upd H l (.lst ys))) toLstD := fun S B H xs ds Q R hs tw h q k => by
  cases h with
  | nil => exact q.elim
  | cons h1 h2 =>
    cases h2 with
    | cons _ _ => cases h1 <;> exact q.elim
    | nil =>
      cases h1 with
      | lst h3 h4 => exact ⟨_, _, rfl, .inl (SqL.of (hs _ _ h3)), fun l hl => k _ _ _ _ (.new hs tw hl) (.lst upd_same (h4.mono (same_upd (hs.free hl)))) q⟩
      | tup h3 h4 => exact ⟨_, _, rfl, .inr (SqT.of (hs _ _ h3)), fun l hl => k _ _ _ _ (.new hs tw hl) (.lst upd_same (h4.mono (same_upd (hs.free hl)))) q⟩
      | int i => exact q.elim
      | str z => exact q.elim
      | bl b => exact q.elim
      | non => exact q.elim
def minD : List PyData → (PyData → Prop) → Prop
  | [.int i, .int j], Q => Q (.int (if j < i then j else i))
  | _, _ => False
theorem lc_min {K : PySem.W.Frag} : LC K (fun xs H Q => ∃ i j, xs = [.int i, .int j] ∧ Q (.int (if j < i then j else i)) H) minD := fun S B H xs ds Q R hs tw h q k => by
  cases h with
  | nil => exact q.elim
  | cons h1 h2 =>
    cases h2 with
    | nil => cases h1 <;> exact q.elim
    | cons h2 h3 =>
      cases h3 with
      | cons _ _ => cases h1 <;> cases h2 <;> exact q.elim
      | nil =>
        cases h1 <;> first | exact q.elim | skip
        cases h2 <;> first | exact q.elim | skip
        exact ⟨_, _, rfl, k _ _ _ _ (.refl hs tw) (.int _) q⟩
/-- isinstance(x, T), T the name of a built-in type -/
def tyD (T : String) : PyData → Bool
  | .bool _ => T == "bool" || T == "int"
  | .int _ => T == "int"
  | .str _ => T == "str"
  | .list _ => T == "list"
  | .tuple _ => T == "tuple"
  | _ => false
theorem kit_tab : (∀ T ∈ ["bool", "int", "str", "list", "tuple"], kitB "NoneType" T = some false ∧ kitB "bool" T = some (T == "bool" || T == "int") ∧ kitB "int" T = some (T == "int") ∧ kitB "str" T = some (T == "str") ∧ kitB "list" T = some (T == "list") ∧ kitB "tuple" T = some (T == "tuple")) := by
  decide +kernel
def dIs (T : String) (da : DE) : DE := fun Δ Q => da Δ fun x => Q (.bool (tyD T x))
theorem xe_is {pt : Pos} {Ts : Str} (hT : T ∈ ["bool", "int", "str", "list", "tuple"]) (hg : Gl X "isinstance") (hm : X.mg "isinstance" = none) (gT : Gl X Ts) (mT : X.mg Ts = none) (bT : bootBuiltins Ts = some (.type T)) (ha : XE X a da)
    (nT : Ts ≠ "__name__" := by decide) (dT : (Ts == ("__debug__" : Str)) = false := by decide) (he : starEach (a :: [.Name Ts pt]) X.env = (false, eval a X.env) :: starEach [.Name Ts pt] X.env := by rfl) : XE X (.Call (.Name "isinstance" p) [a, .Name Ts pt] [] pos) (dIs T da) := by
  obtain ⟨t, q, l⟩ := ha
  have pn : PE X (.Name Ts pt) (tC (.ty T)) := pe_bltn gT mT bT rfl nT dT
  refine ⟨_, pe_callB (id := "isinstance") call_isi hg hm (by rfl) (pa_cons q (pa_cons pn pa_nil) he) (by decide) (by decide) he, fun C S B H σ Δ Q R en w k => l C S B H σ Δ _ _ en w fun v H1 B1 x s1 r1 q1 => ?_⟩
  obtain ⟨k0, k1, k2, k3, k4, k5⟩ := kit_tab T hT
  cases r1 with
  | non => exact ⟨_, _, _, _, _, rfl, .ty T, .base .non, kit_ty k0, k _ _ _ _ s1 (.bl _) q1⟩
  | bl b => exact ⟨_, _, _, _, _, rfl, .ty T, .base (.bl b), kit_ty k1, k _ _ _ _ s1 (.bl _) q1⟩
  | int i => exact ⟨_, _, _, _, _, rfl, .ty T, .base (.int i), kit_ty k2, k _ _ _ _ s1 (.bl _) q1⟩
  | str y => exact ⟨_, _, _, _, _, rfl, .ty T, .base (.str y), kit_ty k3, k _ _ _ _ s1 (.bl _) q1⟩
  | lst h1 h2 => exact ⟨_, _, _, _, _, rfl, .ty T, .base (.lst (s1.bh _ _ h1)), kit_ty k4, k _ _ _ _ s1 (.bl _) q1⟩
  | tup h1 h2 => exact ⟨_, _, _, _, _, rfl, .ty T, .base (.tup (s1.bh _ _ h1)), kit_ty k5, k _ _ _ _ s1 (.bl _) q1⟩

abbrev FD := List PyData → (PyData → Prop) → Prop
/-- a def's promise: m sources ahead, then frozen data, n in all -/
def spG (m n : Nat) (F : FD) : Sp := fun vs H Q _ => ∃ (ss : List Addr) (ws : List V) (B : Hp) (ds : List PyData) (P : PyData → Prop), vs = ss.map V.ref ++ ws ∧ ss.length = m ∧ vs.length = n ∧ Same B H ∧ (∀ a ∈ ss, Two H a ∧ B a = none) ∧ DvL B ws ds ∧ F ds P ∧
  ∀ v H' B' x, Step ss B H B' H' → Dv B' v x → P x → Q v H'
def dCall (n : Nat) (F : FD) (d : DA) : DE := fun Δ Q => d Δ fun xs => xs.length = n ∧ F xs Q
theorem le_call {K : PySem.W.Frag} {t : TA} {F : FD} {n : Nat} (h : LA K t d) : LE K (tCall (spG 0 n F) [] E0 t) (dCall n F d) := fun C S B H σ Δ Q R en q k =>
  h C S B H σ Δ _ _ en q fun vs H1 B1 xs s1 r1 q1 => by
    refine ⟨[], vs, B1, xs, Q, by rw [List.append_nil] <;> rfl, rfl, by rw [List.append_nil, r1.length]; exact q1.1, s1.bh, (fun _ z => nomatch z), r1, q1.2, fun v H2 B2 x s2 r2 q2 => ?_⟩
    exact k _ _ _ _ (s1.trans (s2.sub (fun _ z => nomatch z) s1.tw)) r2 q2
theorem xe_call {F : FD} {n k j : Nat} (c : C8.Cal X.prog X.w X.K X.mg X.base k x (spG 0 n F) []) (hr : Room j X.A) (hk : k ≤ j) (hg : Gl X x) (ha : XA X (e :: es) d)
    (hdb : (x == ("__debug__" : Str)) = false := by decide) (he : starEach (e :: es) X.env = (false, eval e X.env) :: starEach es X.env := by rfl) (hpl : (backTo pos (starEach es X.env)).any (·.1) = false := by rfl) : XE X (.Call (.Name x p) (e :: es) [] pos) (dCall n F d) := by
  obtain ⟨t, q, l⟩ := ha
  exact ⟨_, C8.pe_c c hr hk hg q hdb he hpl, le_call l⟩
/-- .. with a source ahead, in slot i -/
def dCallS (i n : Nat) (F : FD) (d : DA) : DE := fun Δ Q => Δ[i]? = some (some .src) ∧ d Δ fun xs => xs.length + 1 = n ∧ F xs Q
theorem xe_callS (i : Nat) {F : FD} {n k j : Nat} {y : Str} {py : Pos} (c : C8.Cal X.prog X.w X.K X.mg X.base k x (spG 1 n F) []) (hr : Room j X.A) (hk : k ≤ j) (hg : Gl X x) (ha : XA X es d) (hN : X.N[i]? = some y := by rfl)
    (hv : Vis X.env.scope y := by first | exact Or.inl rfl | exact Or.inr (Or.inl rfl) | exact Or.inr (Or.inr rfl)) (hd : (y == ("__debug__" : Str)) = false := by decide) (hcd : (y == ("__classdict__" : Str)) = false := by decide)
    (hdb : (x == ("__debug__" : Str)) = false := by decide) (he : starEach (.Name y py :: es) X.env = (false, eval (.Name y py) X.env) :: starEach es X.env := by rfl) (hpl : (backTo pos (starEach es X.env)).any (·.1) = false := by rfl) : XE X (.Call (.Name x p) (.Name y py :: es) [] pos) (dCallS i n F d) := by
  obtain ⟨t, q, l⟩ := ha
  refine ⟨_, C8.pe_c c hr hk hg (pa_cons (pe_var hN hv hd hcd) q he) hdb he hpl, fun C S B H σ Δ Q R en w k => ?_⟩
  obtain ⟨v, h1, a, ha, rfl⟩ := en.vr i _ w.1
  refine ⟨_, h1, l C S B H σ Δ _ _ en w.2 fun vs H1 B1 xs s1 r1 q1 => ?_⟩
  refine ⟨[a], vs, B1, xs, Q, by rw [List.append_nil] <;> rfl, rfl, ?_, s1.bh, fun b hb => ?_, r1, q1.2, fun v H2 B2 x s2 r2 q2 => ?_⟩
  · rw [List.append_nil, List.length_cons, r1.length]; exact q1.1
  · have e : b = a := by simpa using hb
    rw [e]; exact s1.tw a ha
  · exact k _ _ _ _ (s1.trans (s2.sub (fun b hb => by have e : b = a := by simpa using hb
                                                      rw [e]; exact ha) s1.tw)) r2 q2
end
end Ly
set_option Elab.async false
set_option linter.all false
set_option maxRecDepth 100000
namespace Ly
open PySem PySem.Spec PyProof.Rows L2

section
variable {X : Cx} {a b c e : Expr} {da db dc : DE} {pos : Pos}
theorem le_chain {K : PySem.W.Frag} {ta tb tc : TE} {rr rr' : R2} {r r' : PyData → PyData → (PyData → Prop) → Prop} (ha : LE K ta da) (hb : LE K tb db) (hc : LE K tc dc) (hr : LR2 K rr r) (hr' : LR2 K rr' r') :
    LE K (tChain rr rr' ta tb tc) (dChain r r' da db dc) := fun C S B H σ Δ Q R en q k =>
  ha C S B H σ Δ _ _ en q fun v H1 B1 x s1 r1 q1 => hb C S B1 H1 σ Δ _ _ (en.step s1) q1 fun u H2 B2 y s2 r2 q2 =>
    hr S B2 H2 v u x y _ _ s2.bh s2.tw (r1.mono s2.bb) r2 q2 fun w H3 B3 z s3 r3 q3 => by
      obtain ⟨b, rfl, q3⟩ := q3
      cases r3
      have s := (s1.trans s2).trans s3
      cases b with
      | true => exact ⟨true, rfl, hc C S B3 H3 σ Δ _ _ (en.step s) q3 fun w H4 B4 z s4 r4 q4 => hr' S B4 H4 u w y z Q R s4.bh s4.tw ((r2.mono s3.bb).mono s4.bb) r4 q4 fun w H5 B5 z s5 r5 q5 => k _ _ _ _ ((s.trans s4).trans s5) r5 q5⟩
      | false => exact ⟨false, rfl, k _ _ _ _ s (.bl _) q3⟩
theorem xt_chain {op op' : CmpOp} {rr rr' : R2} {r r' : PyData → PyData → (PyData → Prop) → Prop} (ho : OpR X (compareOp op) rr) (ho' : OpR X (compareOp op') rr') (hr : LR2 X.K rr r) (hr' : LR2 X.K rr' r') (ha : XE X a da) (hb : XE X b db) (hc : XE X c dc)
    (hm : lastMarks [op, op'] [b, c] = false := by with_unfolding_all rfl) : XT X (.Compare a [op, op'] [b, c] pos) (dTst (dChain r r' da db dc)) := by
  obtain ⟨t1, p1, l1⟩ := ha
  obtain ⟨t2, p2, l2⟩ := hb
  obtain ⟨t3, p3, l3⟩ := hc
  exact ⟨_, pt_chain ho ho' p1 p2 p3 hm, lt_tst (le_chain l1 l2 l3 hr hr')⟩
/-- a or b, a a text -/
def dOrT (da db : DE) : DE := fun Δ Q => da Δ fun x => ∃ z, x = .str z ∧ z.length ≤ sizeLine ∧ if (z.length == 0) = true then db Δ Q else Q (.str z)
variable {rest : List Expr}
theorem xe_orT (ha : XE X a da) (hb : XE X (.BoolOp .Or (b :: rest) pos) db) : XE X (.BoolOp .Or (a :: b :: rest) pos) (dOrT da db) := by
  obtain ⟨t, p, l⟩ := ha
  obtain ⟨u, p1, l1⟩ := hb
  refine ⟨_, pe_orT p p1, fun C S B H σ Δ Q R en q k => l C S B H σ Δ _ _ en q fun v H1 B1 x s1 r1 q1 => ?_⟩
  obtain ⟨z, rfl, hz, q1⟩ := q1
  cases r1
  refine ⟨_, ⟨hz, rfl⟩, ?_⟩
  by_cases h0 : z.length = 0
  · rw [if_pos (by simp [h0])] at q1
    rw [if_neg (by simp [h0])]
    exact l1 C S B1 H1 σ Δ _ _ (en.step s1) q1 fun v H2 B2 x s2 r2 q2 => k _ _ _ _ (s1.trans s2) r2 q2
  · rw [if_neg (by simpa using h0)] at q1
    rw [if_pos (by simpa using h0)]
    exact k _ _ _ _ s1 (.str _) q1
def dNeg (da : DE) : DE := fun Δ Q => da Δ fun x => ∃ i, x = .int i ∧ Q (.int (-i))
theorem xe_neg (ha : XE X a da) : XE X (.UnaryOp .USub a pos) (dNeg da) := by
  obtain ⟨t, p, l⟩ := ha
  refine ⟨_, pe_un un_neg p, fun C S B H σ Δ Q R en q k => l C S B H σ Δ _ _ en q fun v H1 B1 x s1 r1 q1 => ?_⟩
  obtain ⟨i, rfl, q1⟩ := q1
  cases r1
  exact ⟨_, rfl, k _ _ _ _ s1 (.int _) q1⟩
def dFmt (da : DE) : DE := fun Δ Q => da Δ fun x => (∃ y, x = .str y ∧ y.length ≤ sizeLine ∧ Q (.str y)) ∨ ∃ i : Int, x = .int i ∧ i.natAbs.log2 < 1920 ∧ Q (.str (toString i))
theorem xe_fmt (ha : XE X a da) : XE X (.FormattedValue a (-1) none pos) (dFmt da) := by
  obtain ⟨t, p, l⟩ := ha
  refine ⟨_, pe_fmt p, fun C S B H σ Δ Q R en q k => l C S B H σ Δ _ _ en q fun v H1 B1 x s1 r1 q1 => ?_⟩
  rcases q1 with ⟨y, rfl, hz, q1⟩ | ⟨i, rfl, hz, q1⟩
  · cases r1
    exact .inl ⟨_, rfl, hz, k _ _ _ _ s1 (.str _) q1⟩
  · cases r1
    exact .inr ⟨_, rfl, hz, k _ _ _ _ s1 (.str _) q1⟩
structure XJ (X : Cx) (es : List Expr) (ds : List DE) : Prop where
  ex : ∃ ts, PJ X es ts ∧ Paired (LE X.K) ts ds
theorem xj_nil : XJ X [] [] := ⟨_, .nil, .nil⟩
theorem xj_cons {es : List Expr} {ds : List DE} (h : XE X e da) (r : XJ X es ds) : XJ X (e :: es) (da :: ds) := by
  obtain ⟨t, p, l⟩ := h
  obtain ⟨ts, ps, ls⟩ := r
  exact ⟨_, .cons p ps, .cons l ls⟩
def dJs : List DE → Str → DSt → (Str → Prop) → Prop
  | [], acc, _, Q => Q acc
  | d :: ds, acc, Δ, Q => d Δ fun x => ∃ y, x = .str y ∧ (acc ++ y).length ≤ sizeLine ∧ dJs ds (acc ++ y) Δ Q
theorem js_ok {K : PySem.W.Frag} : ∀ {ts : List TE} {ds : List DE}, Paired (LE K) ts ds → ∀ (acc : Str) (C : Cz) (S : List Addr) (B H : Hp) (σ : L2.St) (Δ : DSt) (Q : Str → Prop) (R : Str → Hp → Prop), En K C S B H σ Δ → dJs ds acc Δ Q →
    (∀ y H' B', Step S B H B' H' → Q y → R y H') → tJs ts acc σ H R
  | _, _, .nil, acc, C, S, B, H, σ, Δ, Q, R, en, q, k => k _ _ _ en.st0 q
  | _, _, .cons h t, acc, C, S, B, H, σ, Δ, Q, R, en, q, k => h C S B H σ Δ _ _ en q fun v H1 B1 x s1 r1 q1 => by
    obtain ⟨y, rfl, hz, q1⟩ := q1
    cases r1
    exact ⟨y, rfl, hz, js_ok t _ C S B1 H1 σ Δ Q R (en.step s1) q1 fun y H2 B2 s2 q2 => k _ _ _ (s1.trans s2) q2⟩
def dJd (ds : List DE) : DE := fun Δ Q => dJs ds Str.empty Δ fun y => Q (.str y)
theorem xe_joined {v1 v2 : Expr} {ds : List DE} (h : XJ X (v1 :: v2 :: rest) ds) : XE X (.JoinedStr (v1 :: v2 :: rest) pos) (dJd ds) := by
  obtain ⟨ts, p, l⟩ := h
  exact ⟨_, pe_joined p, fun C S B H σ Δ Q R en q k => js_ok l _ C S B H σ Δ _ _ en q fun y H1 B1 s1 q1 => k _ _ _ _ s1 (.str _) q1⟩

variable {tg : Expr}
theorem it_list {K : PySem.W.Frag} {B : Hp} {p : Addr} {xs : List V} {ds : List PyData} (h : B p = some (.lst xs)) (h2 : DvL B xs ds) : ItOk (Itl K p) B ds := by
  refine ⟨_, _, h2.length ▸ walk_list, fun H s => SqL.of (s _ _ h), fun S' i B1 H x H' s1 s2 tw hi y => ?_⟩
  obtain ⟨rfl, y⟩ := y
  obtain ⟨d, e1, e2⟩ := h2.get y
  exact ⟨B1, d, .refl s2 tw, e1, e2.mono s1⟩
theorem it_tup {K : PySem.W.Frag} {B : Hp} {p : Addr} {xs : List V} {ds : List PyData} (h : B p = some (.tup xs)) (h2 : DvL B xs ds) : ItOk (Itt K p) B ds := by
  refine ⟨_, _, h2.length ▸ walk_tup, fun H s => SqT.of (s _ _ h), fun S' i B1 H x H' s1 s2 tw hi y => ?_⟩
  obtain ⟨rfl, y⟩ := y
  obtain ⟨d, e1, e2⟩ := h2.get y
  exact ⟨B1, d, .refl s2 tw, e1, e2.mono s1⟩
def diL (da : DE) : DA := fun Δ Q => da Δ fun x => ∃ ds, x = .list ds ∧ Q ds
def diT (da : DE) : DA := fun Δ Q => da Δ fun x => ∃ ds, x = .tuple ds ∧ Q ds
theorem xi_list (ha : XE X a da) : XI X tg a (diL da) := by
  obtain ⟨t, p, l⟩ := ha
  refine ⟨_, pi_list p, fun C S B H σ Δ Q R en q k => l C S B H σ Δ _ _ en q fun v H1 B1 x s1 r1 q1 => ?_⟩
  obtain ⟨ds, rfl, q1⟩ := q1
  cases r1 with
  | lst h1 h2 => exact ⟨_, rfl, ⟨_, SqL.of (s1.bh _ _ h1)⟩, k _ _ _ _ s1 (it_list h1 h2) q1⟩
theorem xi_tup (ha : XE X a da) : XI X tg a (diT da) := by
  obtain ⟨t, p, l⟩ := ha
  refine ⟨_, pi_tup p, fun C S B H σ Δ Q R en q k => l C S B H σ Δ _ _ en q fun v H1 B1 x s1 r1 q1 => ?_⟩
  obtain ⟨ds, rfl, q1⟩ := q1
  cases r1 with
  | tup h1 h2 => exact ⟨_, rfl, ⟨_, SqT.of (s1.bh _ _ h1)⟩, k _ _ _ _ s1 (it_tup h1 h2) q1⟩
def charsD (z : Str) : List PyData := z.cps.toList.map fun c => .str ⟨#[c]⟩
def diS (da : DE) : DA := fun Δ Q => da Δ fun x => ∃ z, x = .str z ∧ Q (charsD z)
theorem xi_str (ha : XE X a da) : XI X tg a (diS da) := by
  obtain ⟨t, p, l⟩ := ha
  refine ⟨_, pi_str p, fun C S B H σ Δ Q R en q k => l C S B H σ Δ _ _ en q fun v H1 B1 x s1 r1 q1 => ?_⟩
  obtain ⟨z, rfl, q1⟩ := q1
  cases r1
  have hl : (charsD z).length = z.cps.size := by simp [charsD]
  refine ⟨_, rfl, k _ _ _ _ s1 ⟨_, _, by rw [hl]; exact walk_str, fun _ _ => trivial, fun S' i B1 H x H' s1 s2 tw hi y => ?_⟩ q1⟩
  obtain ⟨rfl, c, e, rfl⟩ := y
  exact ⟨B1, .str ⟨#[c]⟩, .refl s2 tw, by simp [charsD, e], .str _⟩
def rngD (lo : Int) (n : Nat) : List PyData := (List.range n).map fun i => .int (lo + (i : Nat))
theorem it_rng {B : Hp} {lo : Int} {n : Nat} : ItOk (Itr lo n) B (rngD lo n) := by
  have hl : (rngD lo n).length = n := by simp [rngD]
  refine ⟨_, _, by rw [hl]; exact walk_range, fun _ _ => trivial, fun S' i B1 H x H' s1 s2 tw hi y => ?_⟩
  obtain ⟨rfl, rfl⟩ := y
  rw [hl] at hi
  exact ⟨B1, _, .refl s2 tw, by simp [rngD, hi] <;> rfl, .int _⟩
def diR1 (d : DA) : DA := fun Δ Q => d Δ fun xs => ∃ j : Int, xs = [.int j] ∧ -(2 ^ 62) ≤ j ∧ j < 2 ^ 62 ∧ Q (rngD 0 j.toNat)
def diR2 (d : DA) : DA := fun Δ Q => d Δ fun xs => ∃ i j : Int, xs = [.int i, .int j] ∧ (-(2 ^ 62) ≤ i ∧ i < 2 ^ 62 ∧ -(2 ^ 62) ≤ j ∧ j < 2 ^ 62) ∧ Q (rngD i (j - i).toNat)
variable {d : DA} {p : Pos}
theorem xi_rng1 (hg : Gl X "range") (hm : X.mg "range" = none) (ha : XA X [a] d) (hs : starEach [a] X.env = [(false, eval a X.env)] := by rfl) : XI X tg (.Call (.Name "range" p) [a] [] pos) (diR1 d) := by
  obtain ⟨t, p, l⟩ := ha
  refine ⟨_, pi_range1 hg hm p hs, fun C S B H σ Δ Q R en q k => l C S B H σ Δ _ _ en q fun v H1 B1 x s1 r1 q1 => ?_⟩
  obtain ⟨j, rfl, h1, h2, q1⟩ := q1
  cases r1 with
  | cons h t => cases h; cases t; exact ⟨_, rfl, h1, h2, k _ _ _ _ s1 it_rng q1⟩
theorem xi_rng2 (hg : Gl X "range") (hm : X.mg "range" = none) (ha : XA X [a, b] d) (hs : starEach [a, b] X.env = [(false, eval a X.env), (false, eval b X.env)] := by rfl) (hs2 : starEach [b] X.env = [(false, eval b X.env)] := by rfl) : XI X tg (.Call (.Name "range" p) [a, b] [] pos) (diR2 d) := by
  obtain ⟨t, p, l⟩ := ha
  refine ⟨_, pi_range2 hg hm p hs hs2, fun C S B H σ Δ Q R en q k => l C S B H σ Δ _ _ en q fun v H1 B1 x s1 r1 q1 => ?_⟩
  obtain ⟨i, j, rfl, h1, q1⟩ := q1
  cases r1 with
  | cons h t => cases h; cases t with
    | cons h t => cases h; cases t; exact ⟨_, _, rfl, h1, k _ _ _ _ s1 it_rng q1⟩
def enumD (ds : List PyData) : List PyData := ds.mapIdx fun i d => .tuple [.int (i : Nat), d]
def diE (d : DA) : DA := fun Δ Q => d Δ fun xs => ∃ ds, xs = [.list ds] ∧ Q (enumD ds)
theorem xi_enum {elts : List Expr} {kk : Nat} {tpos : Pos} (hg : Gl X "enumerate") (hm : X.mg "enumerate" = none) (ha : XA X [a] d) (hs : starEach [a] X.env = [(false, eval a X.env)] := by rfl) : XI X (.Tuple elts kk tpos) (.Call (.Name "enumerate" p) [a] [] pos) (diE d) := by
  obtain ⟨t, p, l⟩ := ha
  refine ⟨_, pi_enum hg hm p hs, fun C S B H σ Δ Q R en q k => l C S B H σ Δ _ _ en q fun v H1 B1 x s1 r1 q1 => ?_⟩
  obtain ⟨ds, rfl, q1⟩ := q1
  cases r1 with
  | cons h t =>
    cases t
    cases h with
    | lst h1 h2 =>
      rename_i a xs
      refine ⟨_, _, rfl, SqL.of (s1.bh _ _ h1), k _ _ _ _ s1 ⟨fun H => SqL X.K H a xs, YPair (fun i => some (.int (i : Nat))) (fun i => xs[i]?), ?_, fun H s => SqL.of (s _ _ h1), fun S' i B1 H x H' s1 s2 tw hi y => ?_⟩ q1⟩
      · have hl : (enumD ds).length = xs.length := by simp [enumD, h2.length]
        rw [hl]; exact walk_enum
      · obtain ⟨T, u, v, rfl, hT, rfl, e1, e2⟩ := y
        cases e1
        obtain ⟨d, e3, e4⟩ := h2.get e2
        refine ⟨_, _, .new s2 tw hT, by simp [enumD, e3] <;> rfl, .tup upd_same (.cons (.int _) (.one ((e4.mono s1).mono (same_upd (s2.free hT)))))⟩

def dgN (i : Nat) : DG := fun x Δ Q => Q (Δ.set i (some (.d x)))
theorem xg_name (i : Nat) {x : Str} (hN : X.N.Nodup) (hx : Loc X.env.scope x) (hi : X.N[i]? = some x := by rfl) (hf : X.fn x = true ∨ X.env.scope.names.lookup x = some .local := by first | exact .inl rfl | exact .inr rfl | assumption) : XG X (.Name x pos) (dgN i) :=
  ⟨_, pg_name hN hi hx hf, fun C S B H σ Δ v x Q R en r q k => k _ _ (en.putD r) q⟩
def dgT2 (i j : Nat) : DG := fun x Δ Q => ∃ u v, x = .tuple [u, v] ∧ Q ((Δ.set i (some (.d u))).set j (some (.d v)))
theorem xg_two (i j : Nat) {x y : Str} {k : Nat} {p1 p2 : Pos} (hc : X.calm = true) (hN : X.N.Nodup) (hx : Loc X.env.scope x) (hy : Loc X.env.scope y) (hi : X.N[i]? = some x := by rfl) (hj : X.N[j]? = some y := by rfl) (hf : X.fn x = true ∨ X.env.scope.names.lookup x = some .local := by first | exact .inl rfl | exact .inr rfl | assumption)
    (hf' : X.fn y = true ∨ X.env.scope.names.lookup y = some .local := by first | exact .inl rfl | exact .inr rfl | assumption) : XG X (.Tuple [.Name x p1, .Name y p2] k pos) (dgT2 i j) := by
  refine ⟨_, pg_tup hc (pgs_cons (pg_name hN hi hx hf) (pgs_cons (pg_name hN hj hy hf') pgs_nil)), fun C S B H σ Δ v x Q R en r q k => ?_⟩
  obtain ⟨u, w, rfl, q⟩ := q
  cases r with
  | tup h1 h2 =>
    cases h2 with
    | cons r1 h2 => cases h2 with
      | cons r2 h2 =>
        cases h2
        exact ⟨_, _, rfl, SqT.of (en.same _ _ h1), rfl, _, _, rfl, _, _, rfl, rfl, k _ _ ((en.putD r1).putD r2) q⟩
end

section
variable {X : Cx}
structure XTs (X : Cx) (e : List Expr) (d : DT) : Prop where
  ex : ∃ t, PTs X e t ∧ LT X.K t d
def dYes : DT := fun _ Q => Q true
theorem xts_nil : XTs X [] dYes := ⟨_, pts_nil, fun C S B H σ Δ Q R en q k => k _ _ _ en.st0 q⟩
theorem xts_one {c : Expr} {t : DT} (h : XT X c t) : XTs X [c] t := by
  obtain ⟨t, p, l⟩ := h
  exact ⟨_, pts_one p, l⟩
def dLcGo (i : Nat) (tt : DT) (te : DE) (Δ : DSt) (Q : List PyData → Prop) : List PyData → List PyData → Prop
  | [], acc => Q acc
  | x :: r, acc => tt (Δ.set i (some (.d x))) fun b => if b = true then te (Δ.set i (some (.d x))) fun y => acc.length < sizeLine ∧ dLcGo i tt te Δ Q r (acc ++ [y]) else dLcGo i tt te Δ Q r acc
def dLc (i : Nat) (di : DA) (tt : DT) (te : DE) : DA := fun Δ Q => di Δ fun ds => dLcGo i tt te Δ Q ds []
theorem wipe1 (σ : L2.St) (i : Nat) : wipe σ [i] = σ.set i none := rfl
theorem ll_lc {K : PySem.W.Frag} {wi : TI} {tt : TT} {te : TE} {i : Nat} {di : DA} {dt : DT} {de : DE} (hi : LI K wi di) (ht : LT K tt dt) (he : LE K te de) : LL K (tLc wi (gName i) tt te [i]) (dLc i di dt de) := fun C S B H σ Δ Q R en q k =>
  hi C S B H σ Δ _ _ en q fun J H1 B1 ds s1 ok q1 D hD => by
    obtain ⟨G, Y, W, hG, hY⟩ := ok
    have sN : Step S B1 H1 B1 (upd H1 D (.lst [])) := .newU s1.bh s1.tw hD
    refine lc_it W (fun n H => ∃ Bn xs acc, H D = some (.lst xs) ∧ DvL Bn xs acc ∧ Bn D = none ∧ Step S B1 H1 Bn H ∧ dLcGo i dt de Δ Q (ds.drop n) acc) ⟨B1, [], [], upd_same, .nil, s1.bh.free hD, sN, q1⟩ (fun n H hn h => ?_) (fun n x H H' hn h y => ?_) (fun H h => ?_)
    · obtain ⟨Bn, xs, acc, h1, h2, h3, h4, h5⟩ := h
      exact hG _ (h4.bb.trans h4.bh)
    · obtain ⟨Bn, xs, acc, h1, h2, h3, h4, h5⟩ := h
      obtain ⟨B2, z, s2, e1, r1⟩ := hY S n Bn H x H' h4.bb h4.bh h4.tw hn y
      have hd : ds.drop n = z :: ds.drop (n + 1) := by
        rw [List.drop_eq_getElem_cons hn]
        rw [List.getElem?_eq_getElem hn] at e1
        rw [Option.some.inj e1]
      rw [hd] at h5
      have en2 : En K C S B2 H' (σ.set i (some x)) (Δ.set i (some (.d z))) := ((en.step s1).step (h4.trans s2)).putD r1
      have ns : D ∉ S := fun z => (s1.tw D z).1.some hD
      show wipe (((wipe σ [i]).set i (some x))) [i] = wipe σ [i] ∧ tt ((wipe σ [i]).set i (some x)) H' _
      simp only [wipe1, List.set_set]
      refine ⟨trivial, ht C S B2 H' _ _ _ _ en2 h5 fun b H3 B3 s3 q3 => ?_⟩
      have hDn : ∀ {B' H'' : Hp}, Step S Bn H B' H'' → B' D = none := fun {B' H''} s => by
        cases q : B' D with
        | none => rfl
        | some o => have := s.fr D h3 (by rw [q]; intro z; cases z)
                    rw [h1] at this; cases this
      cases b with
      | true =>
        rw [if_pos rfl] at q3 ⊢
        refine he C S B3 H3 _ _ _ _ (en2.step s3) q3 fun y H4 B4 w s4 r4 q4 => ?_
        have s5 := (s2.trans s3).trans s4
        refine ⟨xs, s5.kp _ _ ns h1, by rw [h2.length]; exact q4.1, B4, _, _, upd_same, (h2.mono s5.bb).append (.one r4), hDn s5, (h4.trans s5).wr hD (hDn s5) ns, q4.2⟩
      | false =>
        rw [if_neg Bool.false_ne_true] at q3 ⊢
        have s5 := s2.trans s3
        exact ⟨B3, xs, acc, s5.kp _ _ ns h1, h2.mono s5.bb, hDn s5, h4.trans s5, q3⟩
    · obtain ⟨Bn, xs, acc, h1, h2, h3, h4, h5⟩ := h
      rw [List.drop_length] at h5
      exact k _ _ _ _ _ (s1.trans h4) (s1.fresh hD) h3 h1 h2 h5
/-- the weakest reading behind a reading of data -/
def tOf (K : PySem.W.Frag) (d : DE) : TE := fun σ H R => ∃ C S B Δ Q, En K C S B H σ Δ ∧ d Δ Q ∧ ∀ v H' B' x, Step S B H B' H' → Dv B' v x → Q x → R v H'
def tOfT (K : PySem.W.Frag) (d : DT) : TT := fun σ H R => ∃ C S B Δ Q, En K C S B H σ Δ ∧ d Δ Q ∧ ∀ b H' B', Step S B H B' H' → Q b → R b H'
theorem XE.pe {e : Expr} {d : DE} (h : XE X e d) : PE X e (tOf X.K d) := by
  obtain ⟨t, p, l⟩ := h
  refine ⟨fun pins s σ H R I w => ?_⟩
  obtain ⟨C, S, B, Δ, Q, en, q, k⟩ := w
  exact p.run pins s σ H R I (l C S B H σ Δ Q R en q k)
theorem XTs.pe {e : List Expr} {d : DT} (h : XTs X e d) : PTs X e (tOfT X.K d) := by
  obtain ⟨t, p, l⟩ := h
  refine ⟨fun pins s σ H R I w => ?_⟩
  obtain ⟨C, S, B, Δ, Q, en, q, k⟩ := w
  exact p.run pins s σ H R I (l C S B H σ Δ Q R en q k)
theorem le_tOf {K : PySem.W.Frag} (d : DE) : LE K (tOf K d) d := fun C S B H σ Δ Q R en q k => ⟨C, S, B, Δ, Q, en, q, k⟩
theorem lt_tOf {K : PySem.W.Frag} (d : DT) : LT K (tOfT K d) d := fun C S B H σ Δ Q R en q k => ⟨C, S, B, Δ, Q, en, q, k⟩
theorem xl_lc (i : Nat) {x : Str} {px pos : Pos} {elt iter : Expr} {ifs : List Expr} {scope : Scope} {di : DA} {dt : DT} {de : DE} (hc : X.calm = true) (hN : X.N.Nodup) (hi : XI X (.Name x px) iter di) (ok : BlkOk X.N X.env.scope scope [(x, i)])
    (hx : ∀ (C : Addr) (cl : List (Str × Addr)), Loc (compEnvC scope cl C X.env).scope x) (ht : ∀ (s : Shared) (H : Hp) (C : Addr) (cl : List (Str × Addr)) (fp : List Addr), XTs (X.blk s H scope (compEnvC scope cl C X.env) fp) ifs dt)
    (he : ∀ (s : Shared) (H : Hp) (C : Addr) (cl : List (Str × Addr)) (fp : List Addr), XE (X.blk s H scope (compEnvC scope cl C X.env) fp) elt de)
    (hf : ∀ (C : Addr) (cl : List (Str × Addr)), (scope.names.lookup x == some .cell) = true ∨ (compEnvC scope cl C X.env).scope.names.lookup x = some .local) (hs : ∀ x, foldedSetIterable iter X.env x = pure x := by intro _; rfl) :
    XL X (.ListComp elt [⟨.Name x px, iter, ifs, 0⟩] scope pos) (dLc i di dt de) := by
  obtain ⟨ti, pi, li⟩ := hi
  exact ⟨_, pe_lc hc hN pi ok (fun s H C cl fp => pg_name hN (ok.ix (x, i) (by simp)) (hx C cl) (hf C cl)) (fun s H C cl fp => (ht s H C cl fp).pe) (fun s H C cl fp => (he s H C cl fp).pe) hs, ll_lc li (lt_tOf dt) (le_tOf de)⟩
end
end Ly
set_option Elab.async false
set_option linter.all false
set_option maxRecDepth 100000
namespace Ly
open PySem PySem.Spec PyProof.Rows L2

section
variable {X : Cx} {Er : ErT} {st : Stmt} {rest : List Stmt} {d d' : DS} {e : Expr} {de : DE} {pos : Pos}
def dNext : DS := fun DD Δ => DD.nx Δ
def dSeq (d d' : DS) : DS := fun DD Δ => d { DD with nx := d' DD } Δ
theorem xb_nil : XB X Er [] dNext := ⟨_, pss_nil, fun C S B H σ Δ D DD en q k => k.nx _ _ _ _ _ (Same.refl _) en q⟩
theorem xb_one (h : XS X Er st d) : XB X Er [st] d := by
  obtain ⟨t, p, l⟩ := h
  exact ⟨t, pss_one p, l⟩
theorem xb_cons (h : XS X Er st d) (h' : XB X Er rest d') : XB X Er (st :: rest) (dSeq d d') := by
  obtain ⟨t, p, l⟩ := h
  obtain ⟨u, p', l'⟩ := h'
  refine ⟨_, pss_cons p p', fun C S B H σ Δ D DD en q k => l C S B H σ Δ { D with nx := u D } { DD with nx := d' DD } en q ⟨fun S' B' H' σ' Δ' s en' q' => ?_, k.rt, k.bk, k.ct, k.ex⟩⟩
  exact l' C S' B' H' σ' Δ' D DD en' q' (k.mono s)
def dRet (de : DE) : DS := fun DD Δ => de (frz Δ) fun x => DD.rt (.d x)
theorem xs_ret (he : XE X e de) : XS X Er (.Return (some e) pos) (dRet de) := by
  obtain ⟨t, p, l⟩ := he
  refine ⟨_, ps_ret p, fun C S B H σ Δ D DD en q k => l C S _ H σ _ _ _ en.frz q fun v H' B' x s r q' => ?_⟩
  exact k.rt S _ _ _ (.d x) (en.frz.step s).st r q'
/-- a list of one's own is given back -/
def dRetO (i : Nat) : DS := fun DD Δ => ∃ ds, Δ[i]? = some (some (.own ds)) ∧ DD.rt (.own ds)
theorem xs_retO (i : Nat) {x : Str} {px : Pos} (hN : X.N[i]? = some x := by rfl) (hv : Vis X.env.scope x := by first | exact Or.inl rfl | exact Or.inr (Or.inl rfl) | exact Or.inr (Or.inr rfl)) (hd : (x == ("__debug__" : Str)) = false := by decide)
    (hcd : (x == ("__classdict__" : Str)) = false := by decide) : XS X Er (.Return (some (.Name x px)) pos) (dRetO i) := by
  refine ⟨_, ps_ret (pe_var hN hv hd hcd), fun C S B H σ Δ D DD en q k => ?_⟩
  obtain ⟨ds, h1, h2⟩ := q
  obtain ⟨v, h3, h4⟩ := en.vr i _ h1
  exact ⟨v, h3, k.rt _ _ _ _ _ en.st h4 h2⟩
def dRetL (d : DA) : DS := fun DD Δ => d (hide Δ) fun ds => DD.rt (.own ds)
theorem xs_retL {d : DA} (he : XL X e d) : XS X Er (.Return (some e) pos) (dRetL d) := by
  obtain ⟨t, p, l⟩ := he
  refine ⟨_, ps_ret p, fun C S B H σ Δ D DD en q k => l C S _ H σ _ _ _ en.hide q fun a xs H' B' ds s n nb e1 r q' => ?_⟩
  have en' := en.step s
  exact k.rt S _ _ _ (.own ds) en'.st ⟨a, xs, rfl, e1, r, nb, fun z => (en.tw a z).1.some n, en.st.fresh n⟩ q'
def dIfS (t : DT) (d d' : DS) : DS := fun DD Δ => t (frz Δ) fun b => if b = true then d DD Δ else d' DD Δ
theorem xs_if {c : Expr} {a b : List Stmt} {t : DT} (hc : XT X c t) (ha : XB X Er a d) (hb : XB X Er b d') : XS X Er (.If c a b pos) (dIfS t d d') := by
  obtain ⟨t, p, l⟩ := hc
  obtain ⟨u, p1, l1⟩ := ha
  obtain ⟨u', p2, l2⟩ := hb
  refine ⟨_, ps_if p p1 p2, fun C S B H σ Δ D DD en q k => l C S _ H σ _ _ _ en.frz q fun b H' B' s q' => ?_⟩
  have en' := en.step (en.thaw (addB_same en.same).1 s)
  cases b with
  | true => exact l1 C S B H' σ Δ D DD en' q' k
  | false => exact l2 C S B H' σ Δ D DD en' q' k
/-- name = e, frozen data; the own lists are not looked at -/
def dSet (i : Nat) (de : DE) : DS := fun DD Δ => de (hide Δ) fun x => DD.nx (Δ.set i (some (.d x)))
/-- .. flat data; the own lists may be looked at -/
def dSetF (i : Nat) (de : DE) : DS := fun DD Δ => de (frz Δ) fun x => flat x = true ∧ DD.nx (Δ.set i (some (.d x)))
/-- .. the own lists are frozen from here on -/
def dSetZ (i : Nat) (de : DE) : DS := fun DD Δ => de (frz Δ) fun x => DD.nx ((frz Δ).set i (some (.d x)))
def dNew (i : Nat) (d : DA) : DS := fun DD Δ => d (hide Δ) fun ds => DD.nx (Δ.set i (some (.own ds)))
variable {i : Nat} {x : Str} {px : Pos}
theorem xs_set (i : Nat) {x : Str} {px : Pos} (hN : X.N.Nodup) (hx : Loc X.env.scope x) (he : XE X e de) (hi : X.N[i]? = some x := by rfl) (hs : swapsWith e (some (.Name x px)) pos.line X.env = pure false := by rfl) (hf : X.fn x = true ∨ X.env.scope.names.lookup x = some .local := by first | exact .inl rfl | exact .inr rfl | assumption) : XS X Er (.Assign [.Name x px] e pos) (dSet i de) := by
  obtain ⟨t, p, l⟩ := he
  refine ⟨_, ps_set hN hi hx p hs hf, fun C S B H σ Δ D DD en q k => l C S _ H σ _ _ _ en.hide q fun v H' B' x s r q' => ?_⟩
  exact k.nx _ _ _ _ _ s.bb ((en.step s).putD r) q'
theorem xs_setF (i : Nat) {x : Str} {px : Pos} (hN : X.N.Nodup) (hx : Loc X.env.scope x) (he : XE X e de) (hi : X.N[i]? = some x := by rfl) (hs : swapsWith e (some (.Name x px)) pos.line X.env = pure false := by rfl) (hf : X.fn x = true ∨ X.env.scope.names.lookup x = some .local := by first | exact .inl rfl | exact .inr rfl | assumption) : XS X Er (.Assign [.Name x px] e pos) (dSetF i de) := by
  obtain ⟨t, p, l⟩ := he
  refine ⟨_, ps_set hN hi hx p hs hf, fun C S B H σ Δ D DD en q k => l C S _ H σ _ _ _ en.frz q fun v H' B' x s r q' => ?_⟩
  exact k.nx _ _ _ _ _ (Same.refl _) ((en.step (en.thaw (addB_same en.same).1 s)).putD (r.flat q'.1)) q'.2
theorem xs_setZ (i : Nat) {x : Str} {px : Pos} (hN : X.N.Nodup) (hx : Loc X.env.scope x) (he : XE X e de) (hi : X.N[i]? = some x := by rfl) (hs : swapsWith e (some (.Name x px)) pos.line X.env = pure false := by rfl) (hf : X.fn x = true ∨ X.env.scope.names.lookup x = some .local := by first | exact .inl rfl | exact .inr rfl | assumption) : XS X Er (.Assign [.Name x px] e pos) (dSetZ i de) := by
  obtain ⟨t, p, l⟩ := he
  refine ⟨_, ps_set hN hi hx p hs hf, fun C S B H σ Δ D DD en q k => l C S _ H σ _ _ _ en.frz q fun v H' B' x s r q' => ?_⟩
  exact k.nx _ _ _ _ _ ((addB_same en.same).1.trans s.bb) ((en.frz.step s).putD r) q'
theorem En.putO {K : PySem.W.Frag} {C : Cz} {S : List Addr} {B H B' H' : Hp} {σ : L2.St} {Δ : DSt} {i : Nat} {a : Addr} {xs : List V} {ds : List PyData} (en : En K C S B H σ Δ) (s : Step S B H B' H') (n : H a = none) (nb : B' a = none) (e1 : H' a = some (.lst xs)) (r : DvL B' xs ds) :
    En K C S B' H' (σ.set i (some (.ref a))) (Δ.set i (some (.own ds))) := by
  refine (en.step s).put (en := .own ds) ⟨a, xs, rfl, e1, r, nb, fun z => (en.tw a z).1.some n, en.st.fresh n⟩ fun ds' _ j es hj h1 h2 => ?_
  obtain ⟨v, h3, b, ys, rfl, h4, _⟩ := en.vr j _ h1
  rw [h2] at h3
  cases h3
  rw [n] at h4; cases h4
theorem xs_new (i : Nat) {x : Str} {px : Pos} {d : DA} (hN : X.N.Nodup) (hx : Loc X.env.scope x) (he : XL X e d) (hi : X.N[i]? = some x := by rfl) (hs : swapsWith e (some (.Name x px)) pos.line X.env = pure false := by rfl) (hf : X.fn x = true ∨ X.env.scope.names.lookup x = some .local := by first | exact .inl rfl | exact .inr rfl | assumption) : XS X Er (.Assign [.Name x px] e pos) (dNew i d) := by
  obtain ⟨t, p, l⟩ := he
  refine ⟨_, ps_set hN hi hx p hs hf, fun C S B H σ Δ D DD en q k => l C S _ H σ _ _ _ en.hide q fun a xs H' B' ds s n nb e1 r q' => ?_⟩
  exact k.nx _ _ _ _ _ s.bb (en.putO s n nb e1 r) q'
/-- an own list is written -/
theorem En.wrO {K : PySem.W.Frag} {C : Cz} {S : List Addr} {B H : Hp} {σ : L2.St} {Δ : DSt} {i : Nat} {a : Addr} {ds es : List PyData} {ys : List V} (en : En K C S B H σ Δ) (h : Δ[i]? = some (some (.own ds))) (h2 : σ[i]? = some (some (.ref a))) (r : DvL B ys es) :
    En K C S B (upd H a (.lst ys)) σ (Δ.set i (some (.own es))) := by
  obtain ⟨v, h3, b, xs, rfl, h4, h5, h6, h7, h8⟩ := en.vr i _ h
  rw [h2] at h3
  cases h3
  have hi : i < Δ.length := (List.getElem?_eq_some_iff.mp h).1
  refine ⟨en.st.wr h8 h6 (fun z => h7 (en.sub a z)), en.sub, fun b hb => ?_, en.nw, by rw [List.length_set]; exact en.len, fun j u q => ?_, fun j l ds' es' v hjl q1 q2 => ?_⟩
  · have q : b ≠ a := fun z => h7 (by rw [← z]; exact hb)
    obtain ⟨⟨x, y, e1⟩, e2⟩ := en.tw b hb
    exact ⟨⟨x, y, by rw [upd_ne q]; exact e1⟩, e2⟩
  · rcases set_at q with ⟨z, q'⟩ | ⟨hj, q⟩
    · cases q'
      exact ⟨_, by rw [z]; exact h2, a, ys, rfl, upd_same, r, h6, h7, h8⟩
    · obtain ⟨w, e1, e2⟩ := en.vr j u q
      refine ⟨w, e1, ?_⟩
      cases u with
      | d x => exact e2
      | src => exact e2
      | scr ns => exact e2
      | any => exact e2
      | obj Cc dx fs =>
        obtain ⟨b, zs, rfl, f1, f2, f3, f4, f5⟩ := e2
        have nb : b ≠ a := fun z => by
          subst z
          rw [h4] at f1; cases f1
        exact ⟨b, zs, rfl, by rw [upd_ne nb]; exact f1, f2, f3, f4, f5⟩
      | own fs =>
        obtain ⟨b, zs, rfl, f1, f2, f3, f4, f5⟩ := e2
        have nb : b ≠ a := fun z => by
          subst z
          exact en.ne i j ds fs _ (Ne.symm hj) h q h2 e1
        exact ⟨b, zs, rfl, by rw [upd_ne nb]; exact f1, f2, f3, f4, f5⟩
  · have ow : ∀ {j : Nat} {fs : List PyData}, (Δ.set i (some (.own es)))[j]? = some (some (.own fs)) → ∃ gs, Δ[j]? = some (some (.own gs)) := fun {j fs} q => by
      rcases set_at q with ⟨rfl, _⟩ | ⟨_, q⟩
      · exact ⟨_, h⟩
      · exact ⟨_, q⟩
    obtain ⟨g1, k1⟩ := ow q1
    obtain ⟨g2, k2⟩ := ow q2
    exact en.ne j l g1 g2 v hjl k1 k2
/-- xs.append(e) -/
def dApp (i : Nat) (de : DE) : DS := fun DD Δ => ∃ ds, Δ[i]? = some (some (.own ds)) ∧ de (hide Δ) fun x => ds.length < sizeLine ∧ DD.nx (Δ.set i (some (.own (ds ++ [x]))))
def dAppF (i : Nat) (de : DE) : DS := fun DD Δ => ∃ ds, Δ[i]? = some (some (.own ds)) ∧ de (frz Δ) fun x => flat x = true ∧ ds.length < sizeLine ∧ DD.nx (Δ.set i (some (.own (ds ++ [x]))))
theorem own_at {K : PySem.W.Frag} {C : Cz} {S : List Addr} {B H : Hp} {σ : L2.St} {Δ : DSt} {i : Nat} {ds : List PyData} (en : En K C S B H σ Δ) (h : Δ[i]? = some (some (.own ds))) : ∃ a xs, σ[i]? = some (some (.ref a)) ∧ H a = some (.lst xs) ∧ DvL B xs ds ∧ B a = none ∧ a ∉ S := by
  obtain ⟨v, h3, a, xs, rfl, h4, h5, h6, h7, h8⟩ := en.vr i _ h
  exact ⟨a, xs, h3, h4, h5, h6, h7⟩
theorem xs_app (i : Nat) {x : Str} {px apos cpos : Pos} (he : XE X e de) (hN : X.N[i]? = some x := by rfl) (hv : Vis X.env.scope x := by first | exact Or.inl rfl | exact Or.inr (Or.inl rfl) | exact Or.inr (Or.inr rfl)) (hd : (x == ("__debug__" : Str)) = false := by decide)
    (hcd : (x == ("__classdict__" : Str)) = false := by decide) (h1 : starEach [e] X.env = (false, eval e X.env) :: starEach [] X.env := by rfl) (h2 : attributeBase (.Name x px) "append" X.env (eval (.Name x px) X.env) = eval (.Name x px) X.env := by rfl)
    (h3 : ((backTo cpos (starEach (e :: []) X.env)).all (fun x => !x.1) && (backToKw cpos (keywordEach [] X.env)).all (fun x => x.1.isSome)
      && decide ((e :: ([] : List Expr)).length + ([] : List Keyword).length + (if ([] : List Keyword).isEmpty then 0 else 1) < 30)) = true := by rfl)
    (h4 : (apos.endLine == cpos.line) = true := by rfl) (h5 : swapsWith (.Call (.Attribute (.Name x px) "append" apos) [e] [] cpos) none pos.line X.env = pure false := by rfl) : XS X Er (.Expr (.Call (.Attribute (.Name x px) "append" apos) [e] [] cpos) pos) (dApp i de) := by
  obtain ⟨t, p, l⟩ := he
  refine ⟨_, ps_expr (pe_bm PySem.F.plainAttrs_list PySem.F.slot_list_append PySem.F.type_list_append mt_append (pe_var hN hv hd hcd) (pa_cons p pa_nil h1) h2 h3 h4 h1) h5, fun C S B H σ Δ D DD en q k => ?_⟩
  obtain ⟨ds, q1, q2⟩ := q
  obtain ⟨a, xs, f1, f2, f3, f4, f5⟩ := own_at en q1
  refine ⟨_, f1, .inl ⟨rfl, xs, SqL.of f2⟩, l C S _ H σ _ _ _ en.hide q2 fun v H' B' x s r q' => ?_⟩
  refine ⟨a, xs, v, rfl, rfl, s.kp _ _ f5 f2, by rw [f3.length]; exact q'.1, ?_⟩
  exact k.nx _ _ _ _ _ s.bb ((en.step s).wrO q1 f1 ((f3.mono s.bb).append (.one r))) q'.2
theorem xs_appF (i : Nat) {x : Str} {px apos cpos : Pos} (he : XE X e de) (hN : X.N[i]? = some x := by rfl) (hv : Vis X.env.scope x := by first | exact Or.inl rfl | exact Or.inr (Or.inl rfl) | exact Or.inr (Or.inr rfl)) (hd : (x == ("__debug__" : Str)) = false := by decide)
    (hcd : (x == ("__classdict__" : Str)) = false := by decide) (h1 : starEach [e] X.env = (false, eval e X.env) :: starEach [] X.env := by rfl) (h2 : attributeBase (.Name x px) "append" X.env (eval (.Name x px) X.env) = eval (.Name x px) X.env := by rfl)
    (h3 : ((backTo cpos (starEach (e :: []) X.env)).all (fun x => !x.1) && (backToKw cpos (keywordEach [] X.env)).all (fun x => x.1.isSome)
      && decide ((e :: ([] : List Expr)).length + ([] : List Keyword).length + (if ([] : List Keyword).isEmpty then 0 else 1) < 30)) = true := by rfl)
    (h4 : (apos.endLine == cpos.line) = true := by rfl) (h5 : swapsWith (.Call (.Attribute (.Name x px) "append" apos) [e] [] cpos) none pos.line X.env = pure false := by rfl) : XS X Er (.Expr (.Call (.Attribute (.Name x px) "append" apos) [e] [] cpos) pos) (dAppF i de) := by
  obtain ⟨t, p, l⟩ := he
  refine ⟨_, ps_expr (pe_bm PySem.F.plainAttrs_list PySem.F.slot_list_append PySem.F.type_list_append mt_append (pe_var hN hv hd hcd) (pa_cons p pa_nil h1) h2 h3 h4 h1) h5, fun C S B H σ Δ D DD en q k => ?_⟩
  obtain ⟨ds, q1, q2⟩ := q
  obtain ⟨a, xs, f1, f2, f3, f4, f5⟩ := own_at en q1
  refine ⟨_, f1, .inl ⟨rfl, xs, SqL.of f2⟩, l C S _ H σ _ _ _ en.frz q2 fun v H' B' x s r q' => ?_⟩
  refine ⟨a, xs, v, rfl, rfl, s.kp _ _ f5 f2, by rw [f3.length]; exact q'.2.1, ?_⟩
  have s' := en.thaw (addB_same en.same).1 s
  exact k.nx _ _ _ _ _ (Same.refl _) ((en.step s').wrO q1 f1 (f3.append (.one (r.flat q'.1)))) q'.2.2
/-- xs[j] = e, e flat -/
def dPut (i : Nat) (dj de : DE) : DS := fun DD Δ => ∃ ds, Δ[i]? = some (some (.own ds)) ∧ de (frz Δ) fun x => flat x = true ∧ dj (frz Δ) fun y => ∃ k j, y = .int k ∧ ixN ds.length k = some j ∧ DD.nx (Δ.set i (some (.own (ds.set j x))))
theorem xs_put (i : Nat) {x : Str} {j : Expr} {dj : DE} {px spos : Pos} (he : XE X e de) (hj : XE X j dj) (hN : X.N[i]? = some x := by rfl) (hv : Vis X.env.scope x := by first | exact Or.inl rfl | exact Or.inr (Or.inl rfl) | exact Or.inr (Or.inr rfl)) (hd : (x == ("__debug__" : Str)) = false := by decide)
    (hcd : (x == ("__classdict__" : Str)) = false := by decide) (ha : ∀ v, assign (.Subscript (.Name x px) j spos) X.env v = (do
      let ov ← holding [v] (eval (.Name x px) X.env)
      let iv ← holding [v, ov] (eval j X.env)
      standAt spos
      holding [v, ov, iv] (setItem ov iv v)
      release [v, ov, iv] []) := by intro _; rfl) (hs : swapsWithSole [.Subscript (.Name x px) j spos] e pos.line X.env = pure false := by rfl) (hw : swappedStores [.Subscript (.Name x px) j spos] e X.env = pure none := by rfl)
    (h1 : (assignEach [.Subscript (.Name x px) j spos] X.env).map (·.2) = [assign (.Subscript (.Name x px) j spos) X.env] := by rfl) : XS X Er (.Assign [.Subscript (.Name x px) j spos] e pos) (dPut i dj de) := by
  obtain ⟨t, p, l⟩ := he
  obtain ⟨t2, p2, l2⟩ := hj
  refine ⟨_, ps_asg p (pg_sub (pe_var hN hv hd hcd) p2 set_list ha) hs hw h1, fun C S B H σ Δ D DD en q k => ?_⟩
  obtain ⟨ds, q1, q2⟩ := q
  refine l C S _ H σ _ _ _ en.frz q2 fun v H' B' x s r q' => ?_
  have en1 := en.step (en.thaw (addB_same en.same).1 s)
  obtain ⟨a, xs, f1, f2, f3, f4, f5⟩ := own_at en1 q1
  refine ⟨_, f1, l2 C S _ H' σ _ _ _ en1.frz q'.2 fun u H2 B2 y s2 r2 q2 => ?_⟩
  have s3 := en1.thaw (addB_same en1.same).1 s2
  have en2 := en1.step s3
  obtain ⟨m, j, rfl, hj, q3⟩ := q2
  cases r2
  refine ⟨a, xs, m, j, rfl, rfl, s3.kp _ _ f5 f2, by rw [f3.length]; exact hj, ?_⟩
  exact k.nx _ _ _ _ _ (Same.refl _) (en2.wrO q1 f1 (f3.set (r.flat q'.1) j)) q3
/-- a, b = e, f; a, b, c = e, f, g -/
def dPar (i j : Nat) (d : DA) : DS := fun DD Δ => d (hide Δ) fun xs => ∃ u v, xs = [u, v] ∧ DD.nx ((Δ.set i (some (.d u))).set j (some (.d v)))
def dPar3 (i j l : Nat) (d : DA) : DS := fun DD Δ => d (hide Δ) fun xs => ∃ u v w, xs = [u, v, w] ∧ DD.nx (((Δ.set i (some (.d u))).set j (some (.d v))).set l (some (.d w)))
theorem xs_par {i j : Nat} {x y : Str} {a b : Expr} {d : DA} {px py pt : Pos} {kt k2 pt2} (hc : X.calm = true) (hN : X.N.Nodup) (ha : XA X [a, b] d) (hi : X.N[i]? = some x := by rfl) (hj : X.N[j]? = some y := by rfl) (hij : i ≠ j := by decide)
    (hx : X.env.scope.names.lookup x = some .local := by rfl) (hy : X.env.scope.names.lookup y = some .local := by rfl)
    (hw : swappedStores [.Tuple [.Name x px, .Name y py] kt pt] (.Tuple [a, b] k2 pt2) X.env = pure (some [x, y]) := by rfl)
    (hs : swapsWithSole [.Tuple [.Name x px, .Name y py] kt pt] (.Tuple [a, b] k2 pt2) pos.line X.env = pure false := by rfl) :
    XS X Er (.Assign [.Tuple [.Name x px, .Name y py] kt pt] (.Tuple [a, b] k2 pt2) pos) (dPar i j d) := by
  obtain ⟨t, p, l⟩ := ha
  refine ⟨_, ps_par hc hN hi hj hij hx hy p hw hs, fun C S B H σ Δ D DD en q k => l C S _ H σ _ _ _ en.hide q fun vs H' B' xs s r q' => ?_⟩
  obtain ⟨u, v, rfl, q'⟩ := q'
  cases r with
  | cons r1 r => cases r with
    | cons r2 r =>
      cases r
      exact ⟨_, _, rfl, k.nx _ _ _ _ _ s.bb (((en.step s).putD r1).putD r2) q'⟩
theorem xs_par3 {i j m : Nat} {x y z : Str} {a b c : Expr} {d : DA} {px py pz pt : Pos} {kt k2 pt2} (hc : X.calm = true) (hN : X.N.Nodup) (ha : XA X [a, b, c] d) (hi : X.N[i]? = some x := by rfl) (hj : X.N[j]? = some y := by rfl) (hl : X.N[m]? = some z := by rfl) (hij : i ≠ j := by decide) (hil : i ≠ m := by decide) (hjl : j ≠ m := by decide)
    (hx : X.env.scope.names.lookup x = some .local := by rfl) (hy : X.env.scope.names.lookup y = some .local := by rfl) (hz : X.env.scope.names.lookup z = some .local := by rfl)
    (hw : swappedStores [.Tuple [.Name x px, .Name y py, .Name z pz] kt pt] (.Tuple [a, b, c] k2 pt2) X.env = pure (some [x, y, z]) := by rfl)
    (hs : swapsWithSole [.Tuple [.Name x px, .Name y py, .Name z pz] kt pt] (.Tuple [a, b, c] k2 pt2) pos.line X.env = pure false := by rfl) :
    XS X Er (.Assign [.Tuple [.Name x px, .Name y py, .Name z pz] kt pt] (.Tuple [a, b, c] k2 pt2) pos) (dPar3 i j m d) := by
  obtain ⟨t, p, l⟩ := ha
  refine ⟨_, ps_par3 hc hN hi hj hl hij hil hjl hx hy hz p hw hs, fun C S B H σ Δ D DD en q k => l C S _ H σ _ _ _ en.hide q fun vs H' B' xs s r q' => ?_⟩
  obtain ⟨u, v, w, rfl, q'⟩ := q'
  cases r with
  | cons r1 r => cases r with
    | cons r2 r => cases r with
      | cons r3 r =>
        cases r
        exact ⟨_, _, _, rfl, k.nx _ _ _ _ _ s.bb ((((en.step s).putD r1).putD r2).putD r3) q'⟩
/-- name op= e, ints -/
def dAug (i : Nat) (g : Int → Int → Int) (de : DE) : DS := fun DD Δ => ∃ n, Δ[i]? = some (some (.d (.int n))) ∧ de (hide Δ) fun x => ∃ m, x = .int m ∧ DD.nx (Δ.set i (some (.d (.int (g n m)))))
theorem xs_aug (i : Nat) {x : Str} {px : Pos} {op : Operator} {g : Int → Int → Int} (ho : OpR X (inplaceOp op) (rI0 fun i j => .int (g i j))) (hN : X.N.Nodup) (hx : Loc X.env.scope x) (he : XE X e de) (hi : X.N[i]? = some x := by rfl) (hf : X.fn x = true ∨ X.env.scope.names.lookup x = some .local := by first | exact .inl rfl | exact .inr rfl | assumption) :
    XS X Er (.AugAssign (.Name x px) op e pos) (dAug i g de) := by
  obtain ⟨t, p, l⟩ := he
  refine ⟨_, ps_aug hN hi hx p ho hf, fun C S B H σ Δ D DD en q k => ?_⟩
  obtain ⟨n, q1, q2⟩ := q
  obtain ⟨v, h3, h4⟩ := en.vr i _ q1
  cases h4
  refine ⟨_, h3, l C S _ H σ _ _ _ en.hide q2 fun v H' B' x s r q' => ?_⟩
  obtain ⟨m, rfl, q'⟩ := q'
  cases r
  exact ⟨_, _, rfl, rfl, k.nx _ _ _ _ _ s.bb ((en.step s).putD (.int _)) q'⟩
/-- for -/
def dLoop (g : DG) (tb : DS) (DD : DEnds) : List PyData → DSt → Prop
  | [], Δ => DD.nx Δ
  | x :: r, Δ => g x Δ fun Δ' => tb { nx := dLoop g tb DD r, rt := DD.rt, ct := dLoop g tb DD r, bk := DD.nx, ex := DD.ex } Δ'
def dFor (di : DA) (g : DG) (tb : DS) : DS := fun DD Δ => di (hide Δ) fun ds => dLoop g tb DD ds Δ
theorem xs_for {tg iter : Expr} {body : List Stmt} {di : DA} {g : DG} {tb : DS} (hp : PassesOwn (model X.prog X.w) X.A X.env X.xe) (hc : X.calm = true) (hi : XI X tg iter di) (hg : XG X tg g) (hb : XB X Er body tb)
    (hs : ∀ x, foldedSetIterable iter X.env x = pure x := by intro _; rfl) : XS X Er (.For tg iter body [] pos) (dFor di g tb) := by
  obtain ⟨ti, pi, li⟩ := hi
  obtain ⟨tg', pg, lg⟩ := hg
  obtain ⟨tb', pb, lb⟩ := hb
  refine ⟨_, ps_for hp hc pi pg pb hs, fun C S B H σ Δ D DD en q k => li C S _ H σ _ _ _ en.hide q fun J H1 B1 ds s1 ok q1 => ?_⟩
  obtain ⟨G, Y, W, hG, hY⟩ := ok
  refine for_it W (fun n σ' H' => ∃ S' B' Δ', Same B1 B' ∧ En X.K C S' B' H' σ' Δ' ∧ dLoop g tb DD (ds.drop n) Δ') ⟨S, B1, Δ, Same.refl _, en.step s1, q1⟩ (fun n σ' H' hn h => ?_) (fun n x σ' H2 H3 hn h y => ?_) (fun σ' H' h => ?_)
  · obtain ⟨S', B', Δ', h1, h2, h3⟩ := h
    exact hG _ (h1.trans h2.same)
  · obtain ⟨S', B', Δ', h1, h2, h3⟩ := h
    obtain ⟨B2, z, s2, e1, r1⟩ := hY S' n B' H2 x H3 h1 h2.same h2.tw hn y
    have hd : ds.drop n = z :: ds.drop (n + 1) := by
      rw [List.drop_eq_getElem_cons hn]
      rw [List.getElem?_eq_getElem hn] at e1
      rw [Option.some.inj e1]
    rw [hd] at h3
    refine lg C S' B2 H3 σ' Δ' x z _ _ (h2.step s2) r1 h3 fun σ4 Δ4 en4 q4 => ?_
    have b12 : Same B1 B2 := h1.trans s2.bb
    refine lb C S' B2 H3 σ4 Δ4 _ _ en4 q4 ⟨fun S' B' H' σ' Δ' s en' q' => ⟨S', B', Δ', b12.trans s, en', q'⟩, k.rt, fun S' B' H' σ' Δ' s en' q' => k.nx S' B' H' σ' Δ' (s1.bb.trans (b12.trans s)) en' q', fun S' B' H' σ' Δ' s en' q' => ⟨S', B', Δ', b12.trans s, en', q'⟩, fun S' B' H' σ' Δ' x cls d s en' => k.ex S' B' H' σ' Δ' x cls d (s1.bb.trans (b12.trans s)) en'⟩
  · obtain ⟨S', B', Δ', h1, h2, h3⟩ := h
    rw [List.drop_length] at h3
    exact k.nx S' B' H' σ' Δ' (s1.bb.trans h1) h2 h3
theorem xs_pass : XS X Er (.Pass pos) dNext := ⟨_, ps_pass, fun C S B H σ Δ D DD en q k => k.nx _ _ _ _ _ (Same.refl _) en q⟩
end

section
variable {X : Cx} {Er : ErT} {pos spos : Pos}
def dSetL (i : Nat) (d : DA) : DS := fun DD Δ => d (hide Δ) fun ds => DD.nx (Δ.set i (some (.d (.list ds))))
def dSetLZ (i : Nat) (d : DA) : DS := fun DD Δ => d (frz Δ) fun ds => DD.nx ((frz Δ).set i (some (.d (.list ds))))
theorem xs_setL (j i : Nat) {y x : Str} {py px pos spos : Pos} {elt iter : Expr} {ifs : List Expr} {scope : Scope} {di : DA} {dt : DT} {de : DE} (hc : X.calm = true) (hN : X.N.Nodup) (hi : XI X (.Name x px) iter di) (ok : BlkOk X.N X.env.scope scope [(x, i)])
    (hx : ∀ (C : Addr) (cl : List (Str × Addr)), Loc (compEnvC scope cl C X.env).scope x) (ht : ∀ (s : Shared) (H : Hp) (C : Addr) (cl : List (Str × Addr)) (fp : List Addr), XTs (X.blk s H scope (compEnvC scope cl C X.env) fp) ifs dt)
    (he : ∀ (s : Shared) (H : Hp) (C : Addr) (cl : List (Str × Addr)) (fp : List Addr), XE (X.blk s H scope (compEnvC scope cl C X.env) fp) elt de)
    (hf : ∀ (C : Addr) (cl : List (Str × Addr)), (scope.names.lookup x == some .cell) = true ∨ (compEnvC scope cl C X.env).scope.names.lookup x = some .local) (hy : X.N[j]? = some y := by rfl) (hyl : X.env.scope.names.lookup y = some .local := by rfl)
    (hsw : swapsWith (.ListComp elt [⟨.Name x px, iter, ifs, 0⟩] scope pos) (some (.Name y py)) spos.line X.env = pure true := by rfl) (hs : ∀ x, foldedSetIterable iter X.env x = pure x := by intro _; rfl) :
    XS X Er (.Assign [.Name y py] (.ListComp elt [⟨.Name x px, iter, ifs, 0⟩] scope pos) spos) (dSetL j (dLc i di dt de)) := by
  obtain ⟨ti, pi, li⟩ := hi
  refine ⟨_, ps_setLc (te := tOf X.K de) (tt := tOfT X.K dt) hc hN hy hyl hsw pi ok (fun s H C cl fp => pg_name hN (ok.ix (x, i) (by simp)) (hx C cl) (hf C cl)) (fun s H C cl fp => (ht s H C cl fp).pe) (fun s H C cl fp => (he s H C cl fp).pe) hs, fun C S B H σ Δ D DD en q k => ?_⟩
  refine ll_lc li (lt_tOf dt) (le_tOf de) C S _ H σ _ _ _ en.hide q fun a xs H' B' ds s n nb e1 r q' => ?_
  have ns : a ∉ S := fun z => (en.tw a z).1.some n
  have s' := s.fz n nb e1 ns
  exact k.nx _ _ _ _ _ s'.bb ((en.step s').putD (.lst upd_same (r.mono (same_upd nb)))) q'
theorem xs_setLZ (j i : Nat) {y x : Str} {py px pos spos : Pos} {elt iter : Expr} {ifs : List Expr} {scope : Scope} {di : DA} {dt : DT} {de : DE} (hc : X.calm = true) (hN : X.N.Nodup) (hi : XI X (.Name x px) iter di) (ok : BlkOk X.N X.env.scope scope [(x, i)])
    (hx : ∀ (C : Addr) (cl : List (Str × Addr)), Loc (compEnvC scope cl C X.env).scope x) (ht : ∀ (s : Shared) (H : Hp) (C : Addr) (cl : List (Str × Addr)) (fp : List Addr), XTs (X.blk s H scope (compEnvC scope cl C X.env) fp) ifs dt)
    (he : ∀ (s : Shared) (H : Hp) (C : Addr) (cl : List (Str × Addr)) (fp : List Addr), XE (X.blk s H scope (compEnvC scope cl C X.env) fp) elt de)
    (hf : ∀ (C : Addr) (cl : List (Str × Addr)), (scope.names.lookup x == some .cell) = true ∨ (compEnvC scope cl C X.env).scope.names.lookup x = some .local) (hy : X.N[j]? = some y := by rfl) (hyl : X.env.scope.names.lookup y = some .local := by rfl)
    (hsw : swapsWith (.ListComp elt [⟨.Name x px, iter, ifs, 0⟩] scope pos) (some (.Name y py)) spos.line X.env = pure true := by rfl) (hs : ∀ x, foldedSetIterable iter X.env x = pure x := by intro _; rfl) :
    XS X Er (.Assign [.Name y py] (.ListComp elt [⟨.Name x px, iter, ifs, 0⟩] scope pos) spos) (dSetLZ j (dLc i di dt de)) := by
  obtain ⟨ti, pi, li⟩ := hi
  refine ⟨_, ps_setLc (te := tOf X.K de) (tt := tOfT X.K dt) hc hN hy hyl hsw pi ok (fun s H C cl fp => pg_name hN (ok.ix (x, i) (by simp)) (hx C cl) (hf C cl)) (fun s H C cl fp => (ht s H C cl fp).pe) (fun s H C cl fp => (he s H C cl fp).pe) hs, fun C S B H σ Δ D DD en q k => ?_⟩
  refine ll_lc li (lt_tOf dt) (le_tOf de) C S _ H σ _ _ _ en.frz q fun a xs H' B' ds s n nb e1 r q' => ?_
  have ns : a ∉ S := fun z => (en.tw a z).1.some n
  have s' := s.fz n nb e1 ns
  exact k.nx _ _ _ _ _ ((addB_same en.same).1.trans s'.bb) ((en.frz.step s').putD (.lst upd_same (r.mono (same_upd nb)))) q'
end

def retP (P : PyData → Prop) : Ent → Prop
  | .d x => P x
  | .own ds => P (.list ds)
  | _ => False
def D0 (m : Nat) (N : List Str) (ds : List PyData) : DSt := List.replicate m (some .src) ++ ds.map (fun x => some (.d x)) ++ List.replicate (N.length - (m + ds.length)) none
def endsP (P : PyData → Prop) : DEnds := { nx := fun _ => P .none, rt := retP P }
theorem en_start {K : PySem.W.Frag} {ss : List Addr} {ws : List V} {B H : Hp} {ds : List PyData} {N : List Str} (hs : Same B H) (tw : ∀ a ∈ ss, Two H a ∧ B a = none) (r : DvL B ws ds) (hl : ss.length + ws.length ≤ N.length) :
    En K ⟨ss, B, H⟩ ss B H (L2.start N (ss.map V.ref ++ ws)) (D0 ss.length N ds) := by
  have hl2 := r.length
  refine ⟨.refl hs tw, fun _ h => h, tw, fun _ h => .inl h, by simp [D0, L2.start]; omega, fun i en h => ?_, fun i j ds' es v hij h1 => ?_⟩
  · unfold D0 at h
    unfold L2.start
    rw [List.map_append]
    by_cases h1 : i < ss.length
    · rw [List.append_assoc, List.getElem?_append_left (by simpa using h1), List.getElem?_replicate, if_pos h1] at h
      cases h
      refine ⟨.ref ss[i], ?_, ss[i], List.getElem_mem h1, rfl⟩
      rw [List.append_assoc, List.getElem?_append_left (by simpa using h1)]
      simp [h1]
    · by_cases h2 : i < ss.length + ds.length
      · rw [List.append_assoc, List.getElem?_append_right (by simpa using h1), List.length_replicate, List.getElem?_append_left (by simp; omega), List.getElem?_map] at h
        cases q : ds[i - ss.length]? with
        | none => rw [q] at h; cases h
        | some x =>
          rw [q] at h
          cases h
          obtain ⟨v, e1, e2⟩ := r.get' q
          refine ⟨v, ?_, e2⟩
          rw [List.append_assoc, List.getElem?_append_right (by simpa using h1), List.length_map, List.length_map, List.getElem?_append_left (by simp; omega), List.getElem?_map, e1]
          rfl
      · rw [List.getElem?_append_right (by simp; omega), List.getElem?_replicate] at h
        split at h <;> cases h
  · exfalso
    unfold D0 at h1
    have := List.mem_of_getElem? h1
    simp only [List.mem_append, List.mem_replicate, List.mem_map] at this
    rcases this with (⟨_, z⟩ | ⟨x, _, z⟩) | ⟨_, z⟩ <;> cases z
/-- nothing leaves -/
def Er0 : ErT := ⟨fun _ _ _ _ => False, fun _ _ _ _ => False⟩
/-- THE RULE: a def by its body -/
theorem fn_ly {P : Program} {w : World} {K : PySem.W.Frag} {mg : Str → Option Value} {base : Heap} {x qual : Str} {st : Stmt} {f : Addr} {fd : FuncData} {N ps : List Str} {m n k : Nat} {F : FD} (Fn : Fun K x qual st f fd) (S : FnScope N ps (defScope st)) (hn : ps.length = n)
    (hbody : ∀ (X : Cx) (cdv : Value) (A : Around) (outer : List Env) (s : Shared) (H : Hp) (E : XK), X = (cxOf CX0 P w K mg base N qual (defScope st) f cdv A outer s H E).nox → Room k X.A →
      ∃ d U, XB X ⟨fun _ _ _ _ => False, U⟩ (defBody st) d ∧ ∀ ds P, ds.length + m = n → F ds P → d (endsP P) (D0 m N ds)) : FnOk P w K mg base CX0 (k + 1) f fd ps (spG m n F) := by
  refine Fn.ok S (fun vs H Q E h => ?_) (fun cdv A outer s H vs Q E hr h => ?_)
  · obtain ⟨ss, ws, B, ds, P, _, _, e, _⟩ := h
    rw [e, hn]
  · obtain ⟨ss, ws, B, ds, P, rfl, rfl, e, hs, tw, r, hF, q⟩ := h
    obtain ⟨d, U, ⟨t, p, l⟩, hd⟩ := hbody _ cdv A outer s H E rfl hr
    refine ⟨t, p, ?_⟩
    have hl := r.length
    have hN : ps.length ≤ N.length := by rw [← S.pre]; exact List.length_take_le' _ _
    rw [List.length_append, List.length_map] at e
    refine l ⟨ss, B, H⟩ ss B H _ _ _ (endsP P) (en_start hs tw r (by omega)) (hd ds P (by omega) hF) ⟨fun S' B' H' σ' Δ' _ en q' => q _ _ _ _ en.st .non q', fun S' B' H' v u st vr q' => ?_, fun _ _ _ _ _ _ _ z => z.elim, fun _ _ _ _ _ _ _ z => z.elim, fun _ _ _ _ _ _ _ _ _ _ _ z => z.elim⟩
    cases u with
    | d x => exact q _ _ _ _ st vr q'
    | own ds' =>
      obtain ⟨a, xs, rfl, e1, r1, nb, _, n⟩ := vr
      exact q _ _ _ _ (st.fz n nb e1 (fun z => (tw a z).1.some n)) (.lst upd_same (r1.mono (same_upd nb))) q'
    | src => exact q'.elim
    | scr ns => exact q'.elim
    | any => exact q'.elim
    | obj _ _ _ => exact q'.elim
end Ly
set_option Elab.async false
set_option linter.all false
set_option maxRecDepth 100000
set_option maxHeartbeats 4000000
namespace SupX
open PySem PySem.Spec PyProof.Rows L2
theorem fly_more {base h h' : Heap} {l : List Env} {e : Addr} {Z : Obj → Prop} (f : HandSPX.FlyingZ base l e Z h) (k : ∀ b o, h.get? b = some o → h'.get? b = some o) : HandSPX.FlyingZ base l e Z h' := by
  obtain ⟨f1, f2, f3, oe, vs, T, oT, ts, he, hz, hd, h1, hn, hne, hT, hdT, h3⟩ := f
  exact ⟨fun b o z => k b o (f1 b o z), f2, f3.of_keeps fun b o z _ => ⟨o, k b o z, rfl⟩, oe, vs, T, oT, ts, k _ _ he, hz, hd, h1, hn, hne, k _ _ hT, hdT, h3⟩
def wTwo (K : PySem.W.Frag) (c1 c2 : Value) (ts : Addr → Value → Option Addr → TS) (D : Ends) : WX := fun cls d σ H =>
  PySem.W.exmAny K cls [c1, c2] = some true ∧ ∀ a, H a = none → ts a cls d D σ H
section
variable {X : Cx} {x1 x2 : Str} {c1 c2 : Value} {body suite : List Stmt} {b0 : Stmt} {q1 q2 q3 pos pos' : Pos} {kk : Nat} {tb : WX → TS} {ts : Addr → Value → Option Addr → TS}
theorem ps_try_two (hs : X.stack = X.env :: X.outer) (hf : X.env.frame = some X.env.locals) (g1 : Gl X x1) (d1 : (x1 == ("__debug__" : Str)) = false) (m1 : X.mg x1 = some c1) (g2 : Gl X x2) (d2 : (x2 == ("__debug__" : Str)) = false) (m2 : X.mg x2 = some c2)
    (hb : ∀ (W : WX) (pn : List (Addr × Obj)) (xe : Value → Shared → Prop), Takes (X.tr pn xe) W → PassesOwn (model X.prog X.w) X.A X.env xe → PSs (X.tr pn xe) body (tb W))
    (hsu : ∀ (a : Addr) (oe : Obj) (cls : Value) (d : Option Addr) (pn : List (Addr × Obj)), Zc cls d oe → (∃ vs, oe.data = .fields vs) → PSs (X.suite a ((a, oe) :: pn)) (b0 :: suite) (ts a cls d)) :
    PS X (.Try body [.ExceptHandler (some (.Tuple [.Name x1 q1, .Name x2 q2] kk q3)) none (b0 :: suite) pos'] [] [] pos) (fun D σ H => tb (wTwo X.K c1 c2 ts D) D σ H) := by
  refine ⟨fun pins s σ H D I h => ?_⟩
  have hfr : X.A.frames = some (X.env :: X.outer) := I.ok.frames.trans (congrArg some hs)
  refine wpAny_Try_except (wpAny_mono ((hb (wTwo X.K c1 c2 ts D) (X.pn ++ pins) _ ?tk PassesOwn.looking).run [] s σ H D (I.toTry _) h) (fun f s1 hsp => ?_) (fun e s1 he => he))
  case tk =>
    rintro u s1 ⟨a, B, sI, pins', σ', H', cls, d, rfl, J', nb, up, sky, na, os, ag, hm, w⟩
    have J : Inv X pins σ' H' sI := J'.ofTry I.ok
    have sky' : Sky B (X.env :: X.outer) a (Zc cls d) X.env.locals s1.heap := hs ▸ sky
    refine Sky.land Zc.steady hfr hf sky' fun h3 f3 up3 => ?_
    have J3 : Inv X pins σ' H' { s1 with heap := h3 } := J.landed nb f3.1 (up.trans up3) os ag
    obtain ⟨oe3, vs3, he3, hz3, hd3⟩ := f3.there
    have nfr : a ∉ frs (X.env :: X.outer) := fun hm2 => by
      obtain ⟨_, o', e', hnf⟩ := f3.2.2.1.mem hm2
      rw [he3] at e'
      cases e'
      exact hnf _ hd3
    have nL : a ≠ X.env.locals := fun z => nfr (List.mem_filterMap.mpr ⟨X.env, List.mem_cons_self, hf.trans (congrArg some z.symm)⟩)
    have nF : a ∉ X.fs := fun hm2 => by
      obtain ⟨e, he, q⟩ := List.mem_filterMap.mp hm2
      exact nfr (List.mem_filterMap.mpr ⟨e, List.mem_cons_of_mem _ he, q⟩)
    have S3 := J3.suite he3 hd3 na nL nF
    refine wpAny_handleBy_cons (codeAny_handlers_test (wpAny_Tuple (wpAny_items_cons (ld_glob (X := X.suite a ((a, oe3) :: (X.pn ++ pins))) S3 g1 m1 (wpAny_items_cons (ld_glob (X := X.suite a ((a, oe3) :: (X.pn ++ pins))) S3 g2 m2 (wpAny_items_nil ⟨by size_fits, ?_⟩) d2)) d1)))) (by intro q; cases q)
    have kp : ∀ b o, h3.get? b = some o → (h3.push { cls := .type "tuple", data := .seq [c1, c2].toArray }).get? b = some o := fun _ _ z => Heap.get?_push_of_some _ z
    have LT : PySem.W.Looks (model X.prog X.w) h3 (typeOf (.ref a)) cls := fun A Q E s k q => wpAny_typeOf_ref (k _ _ he3) (by rw [hz3.1]; exact q)
    refine (PySem.W.exm_tup2 (J3.kIn.keeps kp) (LT.keeps kp) (Heap.get?_push_size h3 rfl) hm).here ?_
    refine codeAny_handlers_suite (HandSPX.lands_againZ (fly_more f3 kp) fun h4 f4 up4 => ?_)
    have upp : h3.UpToSlots (h3.push { cls := .type "tuple", data := .seq [c1, c2].toArray }) := fun b o z _ => ⟨o.slots, kp b o z⟩
    have J4 : Inv X pins σ' H' { s1 with heap := h4 } := J.landed nb f4.1 (((up.trans up3).trans upp).trans up4) os ag
    obtain ⟨oe4, vs4, he4, hz4, hd4⟩ := f4.there
    refine wpAny_mono ((hsu a oe4 cls d (X.pn ++ pins) hz4 ⟨_, hd4⟩).run [] _ _ H' _ (J4.suite he4 hd4 na nL nF) (w a na)) (fun f s6 hsp => ?_) (fun _ _ z => z.elim)
    cases f with
    | ret u =>
      obtain ⟨v6, σ6, H6, S6, r6, q6⟩ := hsp
      exact ⟨_, _, _, S6.unsuite I.ok, r6, q6⟩
    | _ =>
      obtain ⟨σ6, H6, S6, q6⟩ := hsp
      exact ⟨_, _, S6.unsuite I.ok, q6⟩
  cases f with
  | next =>
    obtain ⟨σ', H', J', q⟩ := hsp
    exact wpAny_execs_nil ⟨σ', H', J'.ofTry I.ok, q⟩
  | ret u =>
    obtain ⟨v, σ', H', J', r, q⟩ := hsp
    exact ⟨v, σ', H', J'.ofTry I.ok, r, q⟩
  | brk =>
    obtain ⟨σ', H', J', q⟩ := hsp
    exact ⟨σ', H', J'.ofTry I.ok, q⟩
  | cont =>
    obtain ⟨σ', H', J', q⟩ := hsp
    exact ⟨σ', H', J'.ofTry I.ok, q⟩
end
end SupX
set_option Elab.async false
set_option linter.all false
set_option maxRecDepth 100000
namespace Ly
open PySem PySem.Spec PyProof.Rows L2

abbrev FX := List PyData → (Ent → Prop) → (PyData → Prop) → Prop
def RVx (H B' H' : Hp) (v : V) : Ent → Prop
  | .d x => Dv B' v x
  | .own ds => ∃ a xs, v = .ref a ∧ H a = none ∧ B' a = none ∧ H' a = some (.lst xs) ∧ DvL B' xs ds
  | .any => True
  | _ => False
def spX (n : Nat) (U : PyData → Value → Option Addr → Hp → Prop) (F : FX) : Sp := fun vs H Q E => ∃ (B : Hp) (ds : List PyData) (P : Ent → Prop) (Px : PyData → Prop), vs.length = n ∧ Same B H ∧ DvL B vs ds ∧ F ds P Px ∧
  (∀ v H' B' en, Step [] B H B' H' → RVx H B' H' v en → P en → Q v H') ∧ (∀ cls d H' B' x, Step [] B H B' H' → U x cls d H' → Px x → E cls d H')
/-- a def that may raise, under its name -/
structure CalX (P : Program) (w : World) (K : PySem.W.Frag) (mg : Str → Option Value) (base : Heap) (k : Nat) (x : Str) (sp : Sp) : Prop where
  ex : ∃ (f : Addr) (fd : FuncData) (ps : List Str), FnOk P w K mg base (L2.CX P w) k f fd ps sp ∧ mg x = some (.ref f) ∧ PySem.W.keepIn K (.ref f) = true ∧ Binds K fd ps []
section
variable {X : Cx} {Er : ErT} {e : Expr} {es : List Expr} {pos : Pos} {d : DA} {F : FX} {n k j : Nat} {x : Str} {p : Pos}
theorem step0 {S : List Addr} {B H B' H' : Hp} (s : Step [] B H B' H') (tw : ∀ a ∈ S, Two H a ∧ B a = none) : Step S B H B' H' := s.sub (fun _ z => nomatch z) tw
/-- such a call: what comes of it, by value -/
def LX (K : PySem.W.Frag) (Er : ErT) (te : TE) (d : DSt → (Ent → Prop) → (PyData → Prop) → Prop) : Prop := ∀ (C : Cz) (S : List Addr) (B H : Hp) (σ : L2.St) (Δ : DSt) (P : Ent → Prop) (Px : PyData → Prop) (R : VK), En K C S B H σ Δ → d Δ P Px →
  (∀ v H' B' en, Step S B H B' H' → RVx H B' H' v en → P en → R v H') → (∀ cls dd H' B' x, Step S B H B' H' → Er.V x cls dd H' → Px x → Er.W cls dd σ H') → te σ H R
def dCX (n : Nat) (F : FX) (d : DA) : DSt → (Ent → Prop) → (PyData → Prop) → Prop := fun Δ P Px => d Δ fun xs => xs.length = n ∧ F xs P Px
structure XX (X : Cx) (Er : ErT) (e : Expr) (d : DSt → (Ent → Prop) → (PyData → Prop) → Prop) : Prop where
  ex : ∃ t, PE X e t ∧ LX X.K Er t d
theorem xx_call (tk : Takes X Er.W) (c : CalX X.prog X.w X.K X.mg X.base k x (spX n Er.V F)) (hr : Room j X.A) (hk : k ≤ j) (hg : Gl X x) (ha : XA X (e :: es) d)
    (hdb : (x == ("__debug__" : Str)) = false := by decide) (he : starEach (e :: es) X.env = (false, eval e X.env) :: starEach es X.env := by rfl) (hpl : (backTo pos (starEach es X.env)).any (·.1) = false := by rfl) : XX X Er (.Call (.Name x p) (e :: es) [] pos) (dCX n F d) := by
  obtain ⟨t, q, l⟩ := ha
  obtain ⟨f, fd, ps, FF, hm, kp, b⟩ := c
  refine ⟨_, pe_callS FF (hr.mono hk) hg hm kp b (fun σ => passAt tk σ) q hdb he hpl, fun C S B H σ Δ P Px R en w k1 k2 => l C S B H σ Δ _ _ en w fun vs H1 B1 xs s1 r1 q1 => ?_⟩
  refine ⟨B1, xs, P, Px, by rw [r1.length]; exact q1.1, s1.bh, r1, q1.2, fun v H2 B2 en2 s2 r2 q2 => k1 _ _ _ _ (s1.trans (step0 s2 s1.tw)) ?_ q2, fun cls dd H2 B2 y s2 r2 q2 => k2 _ _ _ _ _ (s1.trans (step0 s2 s1.tw)) r2 q2⟩
  cases en2 with
  | own ds =>
    obtain ⟨a, xs, e1, e2, r⟩ := r2
    exact ⟨a, xs, e1, s1.fresh e2, r⟩
  | d x => exact r2
  | any => exact r2
  | src => exact r2
  | scr ns => exact r2
  | obj _ _ _ => exact r2
theorem En.rvx {K : PySem.W.Frag} {C : Cz} {S : List Addr} {B H B' H' : Hp} {σ : L2.St} {Δ : DSt} {v : V} {u : Ent} (en : En K C S B H σ Δ) (s : Step S B H B' H') (r : RVx H B' H' v u) : VR K C S B' H' v u := by
  cases u with
  | d x => exact r
  | own ds =>
    obtain ⟨a, xs, e1, n, nb, e2, r⟩ := r
    exact ⟨a, xs, e1, e2, r, nb, fun z => (en.tw a z).1.some n, en.st.fresh n⟩
  | any => trivial
  | src => exact r.elim
  | scr ns => exact r.elim
  | obj _ _ _ => exact r.elim
theorem En.putX {K : PySem.W.Frag} {C : Cz} {S : List Addr} {B H B' H' : Hp} {σ : L2.St} {Δ : DSt} {i : Nat} {v : V} {u : Ent} (en : En K C S B H σ Δ) (s : Step S B H B' H') (r : RVx H B' H' v u) : En K C S B' H' (σ.set i (some v)) (Δ.set i (some u)) := by
  refine (en.step s).put (en.rvx s r) fun ds e j es hj h1 h2 => ?_
  subst e
  obtain ⟨a, xs, rfl, n, nb, e2, r⟩ := r
  obtain ⟨v, h3, b, ys, rfl, h4, _⟩ := en.vr j _ h1
  rw [h2] at h3
  cases h3
  rw [n] at h4; cases h4
/-- name = f(..), f may raise -/
def dSetX (i : Nat) (d : DSt → (Ent → Prop) → (PyData → Prop) → Prop) : DS := fun DD Δ => d (hide Δ) (fun en => DD.nx (Δ.set i (some en))) (fun x => DD.ex x Δ)
variable {dx : DSt → (Ent → Prop) → (PyData → Prop) → Prop}
theorem xs_setX (i : Nat) {y : Str} {px : Pos} (hN : X.N.Nodup) (hx : Loc X.env.scope y) (he : XX X Er e dx) (hi : X.N[i]? = some y := by rfl) (hs : swapsWith e (some (.Name y px)) pos.line X.env = pure false := by rfl) (hf : X.fn y = true ∨ X.env.scope.names.lookup y = some .local := by first | exact .inl rfl | exact .inr rfl | assumption) : XS X Er (.Assign [.Name y px] e pos) (dSetX i dx) := by
  obtain ⟨t, p, l⟩ := he
  refine ⟨_, ps_set hN hi hx p hs hf, fun C S B H σ Δ D DD en q k => l C S _ H σ _ _ _ _ en.hide q (fun v H' B' u s r q' => ?_) fun cls dd H' B' x s r q' => ?_⟩
  · exact k.nx _ _ _ _ _ s.bb (en.putX s r) q'
  · exact k.ex _ _ _ _ _ _ _ _ s.bb (en.step s) r q'
def dRetX (d : DSt → (Ent → Prop) → (PyData → Prop) → Prop) : DS := fun DD Δ => d (hide Δ) DD.rt (fun x => DD.ex x Δ)
theorem xs_retX (he : XX X Er e dx) : XS X Er (.Return (some e) pos) (dRetX dx) := by
  obtain ⟨t, p, l⟩ := he
  refine ⟨_, ps_ret p, fun C S B H σ Δ D DD en q k => l C S _ H σ _ _ _ _ en.hide q (fun v H' B' u s r q' => ?_) fun cls dd H' B' x s r q' => ?_⟩
  · exact k.rt S _ _ _ _ (en.step s).st (en.rvx s r) q'
  · exact k.ex _ _ _ _ _ _ _ _ s.bb (en.step s) r q'
def dDropX (d : DSt → (Ent → Prop) → (PyData → Prop) → Prop) : DS := fun DD Δ => d (hide Δ) (fun _ => DD.nx Δ) (fun x => DD.ex x Δ)
theorem xs_dropX (he : XX X Er e dx) (hs : swapsWith e none pos.line X.env = pure false := by rfl) : XS X Er (.Expr e pos) (dDropX dx) := by
  obtain ⟨t, p, l⟩ := he
  refine ⟨_, ps_expr p hs, fun C S B H σ Δ D DD en q k => l C S _ H σ _ _ _ _ en.hide q (fun v H' B' u s r q' => ?_) fun cls dd H' B' x s r q' => ?_⟩
  · exact k.nx _ _ _ _ _ s.bb (en.step s) q'
  · exact k.ex _ _ _ _ _ _ _ _ s.bb (en.step s) r q'
end

def spMk (C : Addr) (fld : Str) (Ok : V → Prop) : Sp := fun vs H Q _ => ∃ (a : Addr) (x : V), vs = [.ref a, x] ∧ Ok x ∧ H a = some (exo a C none) ∧ ∀ dx, H dx = none → dx ≠ a → Q .non (upd (upd H dx (exd dx [(fld, x)])) a (exo a C (some dx)))
/-- a class of one's own errors that may be raised -/
structure Mkr (P : Program) (w : World) (K : PySem.W.Frag) (mg : Str → Option Value) (base : Heap) (k : Nat) (nm fld : Str) (C : Addr) (Ok : V → Prop) : Prop where
  ex : ∃ (fI : Addr) (fd : FuncData) (ps : List Str), OexC K C ∧ PySem.W.findIn K (.ref C) "__init__" = some (some (.ref fI)) ∧ PySem.W.typeIn K (.ref fI) = some (.type "function") ∧ FnOk P w K mg base CX0 k fI fd ps (spMk C fld Ok) ∧ Binds K fd ps [] ∧ mg nm = some (.ref C)
section
variable {X : Cx} {Er : ErT} {e : Expr} {pos pos' : Pos} {de : DE} {k j : Nat} {x : Str} {p : Pos}
theorem step_raise {S : List Addr} {B H : Hp} {a d : Addr} {fs : List (Str × V)} {H2 : Hp} (h : Same B H) (t : ∀ b ∈ S, Two H b ∧ B b = none) (na : H a = none) (nd : H d = none) (hne : d ≠ a) (e2 : ∀ b, b ≠ a → b ≠ d → H2 b = H b) : Step S B H B (upd (del H2 a) d (.xd fs)) := by
  have look : ∀ b o, H b = some o → upd (del H2 a) d (.xd fs) b = some o := fun b o e => by
    have h1 : b ≠ a := ne_of_none e na
    have h2 : b ≠ d := ne_of_none e nd
    rw [upd_ne h2, del_ne h1, e2 b h1 h2]; exact e
  refine ⟨Same.refl _, fun b o e => look _ _ (h _ _ e), fun b h1 h2 => absurd h1 h2, fun b o _ e => look _ _ e, fun b hb => ?_⟩
  obtain ⟨⟨i, j, e⟩, e2⟩ := t b hb
  exact ⟨⟨i, j, look _ _ e⟩, e2⟩
def dRaise (nm : Str) (Okd : PyData → Prop) (de : DE) : DS := fun DD Δ => de (frz Δ) fun x => flat x = true ∧ Okd x ∧ DD.ex (.tuple [.str nm, x]) Δ
theorem xs_raise {C : Addr} {fld : Str} {Ok : V → Prop} {Okd : PyData → Prop} (hc : X.calm = true) (tk : Takes X Er.W) (M : Mkr X.prog X.w X.K X.mg X.base k x fld C Ok) (hr : Room j X.A) (hk : k + 1 ≤ j) (hg : Gl X x) (hO : ∀ B v y, Dv B v y → Okd y → Ok v)
    (hV : ∀ H' dx v y, H' dx = some (.xd [(fld, v)]) → Dv (fun _ => none) v y → Er.V (.tuple [.str x, y]) (.ref C) (some dx) H') (he : XE X e de)
    (hdb : (x == ("__debug__" : Str)) = false := by decide) (hs : starEach [e] X.env = (false, eval e X.env) :: starEach [] X.env := by rfl) : XS X Er (.Raise (some (.Call (.Name x p) [e] [] pos)) none pos') (dRaise x Okd de) := by
  obtain ⟨t, q, l⟩ := he
  obtain ⟨fI, fd, ps, O, iC, tI, F1, b, hm⟩ := M
  refine ⟨_, L2.ps_raise hc tk (pmk_oex O iC tI F1 (hr.mono hk) b .nil pass0 hg hm (pa_cons q pa_nil hs) hdb hs rfl), fun C S B H σ Δ D DD en w k => l C S _ H σ _ _ _ en.frz w fun v H1 B1 y s1 r1 q1 => ⟨by simp, fun a na => ?_⟩⟩
  obtain ⟨fl, ok, q1⟩ := q1
  have s2 := en.thaw (addB_same en.same).1 s1
  have en1 := en.step s2
  refine ⟨a, v, rfl, hO _ _ _ r1 ok, upd_same, fun d nd hne => ⟨rfl, d, [(fld, v)], upd_same, ?_, ?_, ?_⟩⟩
  · rw [upd_ne hne, upd_same]
  · rw [upd_ne hne] at nd; exact nd
  · rw [upd_ne hne] at nd
    refine k.ex _ _ _ _ _ _ _ _ (Same.refl _) (en1.step (step_raise en1.same en1.tw na nd hne fun b h1 h2 => ?_)) (hV _ _ v y (by rw [upd_same]) (r1.flat fl)) q1
    rw [upd_ne h1, upd_ne h2, upd_ne h1]
end

def okE : Ent → Prop
  | .src => False
  | .scr _ => False
  | .obj _ _ _ => False
  | _ => True
def endsX (P : Ent → Prop) (Px : PyData → Prop) : DEnds := { nx := fun _ => P (.d .none), rt := fun en => okE en ∧ P en, ex := fun x _ => Px x }
def ErF (E : XK) (U : PyData → Value → Option Addr → Hp → Prop) : ErT := ⟨fun cls d _ H => E cls d H, U⟩
theorem fn_lyX {P : Program} {w : World} {K : PySem.W.Frag} {mg : Str → Option Value} {base : Heap} {x qual : Str} {st : Stmt} {f : Addr} {fd : FuncData} {N ps : List Str} {n k : Nat} {U : PyData → Value → Option Addr → Hp → Prop} {F : FX} (Fn : Fun K x qual st f fd) (S : FnScope N ps (defScope st)) (hn : ps.length = n)
    (hbody : ∀ (X : Cx) (cdv : Value) (A : Around) (outer : List Env) (s : Shared) (H : Hp) (E : XK), X = cxOf (L2.CX P w) P w K mg base N qual (defScope st) f cdv A outer s H E → Takes X (ErF E U).W → PassesOwn (model X.prog X.w) X.A X.env X.xe → Room k X.A →
      ∃ d, XB X (ErF E U) (defBody st) d ∧ ∀ ds P Px, ds.length = n → F ds P Px → d (endsX P Px) (D0 0 N ds)) : FnOk P w K mg base (L2.CX P w) (k + 1) f fd ps (spX n U F) := by
  refine Fn.okX S (fun vs H Q E h => ?_) (fun cdv A outer s H vs Q E hr h => ?_)
  · obtain ⟨B, ds, P, Px, e, _⟩ := h
    rw [e, hn]
  · obtain ⟨B, ds, P, Px, e, hs, r, hF, q, qx⟩ := h
    obtain ⟨d, ⟨t, p, l⟩, hd⟩ := hbody _ cdv A outer s H E rfl (takes_of rfl rfl rfl rfl) (passes_of rfl) hr
    refine ⟨t, p, ?_⟩
    have hl := r.length
    have hN : ps.length ≤ N.length := by rw [← S.pre]; exact List.length_take_le' _ _
    have en0 := en_start (K := K) (ss := []) (ws := vs) (N := N) hs (fun _ z => nomatch z) r (by simp; omega)
    refine l ⟨[], B, H⟩ [] B H _ _ _ (endsX P Px) en0 (hd ds P Px (by omega) hF) ⟨fun S' B' H' σ' Δ' _ en q' => q _ _ _ (.d .none) en.st .non q', fun S' B' H' v u st vr q' => ?_, fun _ _ _ _ _ _ _ z => z.elim, fun _ _ _ _ _ _ _ z => z.elim, fun S' B' H' σ' Δ' x cls d _ en v q' => qx _ _ _ _ _ en.st v q'⟩
    cases u with
    | d x => exact q _ _ _ (.d x) st vr q'.2
    | own ds' =>
      obtain ⟨a, xs, rfl, e1, r1, nb, _, n⟩ := vr
      exact q _ _ _ (.own ds') st ⟨a, xs, rfl, n, nb, e1, r1⟩ q'.2
    | any => exact q _ _ _ .any st trivial q'.2
    | src => exact q'.1.elim
    | scr ns => exact q'.1.elim
    | obj _ _ _ => exact q'.1.elim

section
variable {X : Cx} {Er : ErT} {pos : Pos}
def tOfS (K : PySem.W.Frag) (Er : ErT) (d : DS) : TS := fun D σ H => ∃ C S B Δ DD, En K C S B H σ Δ ∧ d DD Δ ∧ EndsOk K Er C B D DD
theorem XB.ps {e : List Stmt} {d : DS} (h : XB X Er e d) : PSs X e (tOfS X.K Er d) := by
  obtain ⟨t, p, l⟩ := h
  refine ⟨fun pins s σ H D I w => ?_⟩
  obtain ⟨C, S, B, Δ, DD, en, q, k⟩ := w
  exact p.run pins s σ H D I (l C S B H σ Δ D DD en q k)
/-- what a suite does, where an error of the class lies as V says -/
def LH (K : PySem.W.Frag) (Er : ErT) (ts : Addr → Value → Option Addr → TS) (h : PyData → DS) : Prop := ∀ (C : Cz) (S : List Addr) (B H : Hp) (σ : L2.St) (Δ : DSt) (D : Ends) (DD : DEnds) (x : PyData) (cls : Value) (d : Option Addr) (a : Addr), En K C S B H σ Δ → Er.V x cls d H → H a = none → h x DD Δ → EndsOk K Er C B D DD → ts a cls d D σ H
def dTry (d : DS) (h : PyData → DS) : DS := fun DD Δ => d { DD with ex := fun x Δ' => h x DD Δ' } Δ
theorem xs_try2 {x1 x2 : Str} {c1 c2 : Value} {body suite : List Stmt} {b0 : Stmt} {q1 q2 q3 pos' : Pos} {kk : Nat} {ts : Addr → Value → Option Addr → TS} {d : DS} {h : PyData → DS} (hs : X.stack = X.env :: X.outer) (hf : X.env.frame = some X.env.locals) (g1 : Gl X x1) (d1 : (x1 == ("__debug__" : Str)) = false) (m1 : X.mg x1 = some c1) (g2 : Gl X x2) (d2 : (x2 == ("__debug__" : Str)) = false) (m2 : X.mg x2 = some c2)
    (hcl : ∀ x cls dd H, Er.V x cls dd H → PySem.W.exmAny X.K cls [c1, c2] = some true)
    (hb : ∀ (W : Value → Option Addr → L2.St → Hp → Prop) (pn : List (Addr × Obj)) (xe : Value → Shared → Prop), Takes (X.tr pn xe) W → XB (X.tr pn xe) ⟨W, Er.V⟩ body d)
    (hsu : ∀ (a : Addr) (oe : Obj) (cls : Value) (dd : Option Addr) (pn : List (Addr × Obj)), Zc cls dd oe → (∃ vs, oe.data = .fields vs) → PSs (X.suite a ((a, oe) :: pn)) (b0 :: suite) (ts a cls dd)) (lh : LH X.K Er ts h) :
    XS X Er (.Try body [.ExceptHandler (some (.Tuple [.Name x1 q1, .Name x2 q2] kk q3)) none (b0 :: suite) pos'] [] [] pos) (dTry d h) := by
  refine ⟨_, SupX.ps_try_two hs hf g1 d1 m1 g2 d2 m2 (tb := fun W => tOfS X.K ⟨W, Er.V⟩ d) (fun W pn xe tk _ => (hb W pn xe tk).ps) hsu, fun C S B H σ Δ D DD en q k => ?_⟩
  refine ⟨C, S, B, Δ, { DD with ex := fun x Δ' => h x DD Δ' }, en, q, ⟨k.nx, k.rt, k.bk, k.ct, fun S' B' H' σ' Δ' x cls dd s en' v q' => ⟨hcl _ _ _ _ v, fun a na => ?_⟩⟩⟩
  exact lh C S' B' H' σ' Δ' D DD x cls dd a en' v na q' (k.mono s)
/-- except x as n: what the suite does with n in slot i -/
theorem xs_tryAs {x n : Str} {c : Value} {i : Nat} {body suite : List Stmt} {b0 : Stmt} {np pos' : Pos} {ts : Addr → Value → Option Addr → TS} {d : DS} {h : PyData → DS} (hs : X.stack = X.env :: X.outer) (hf : X.env.frame = some X.env.locals) (hN : X.N.Nodup) (hi : X.N[i]? = some n) (hln : X.env.kindOf n = some .local) (hc : Names X x c) (tk : Takes X Er.W)
    (hcl : ∀ x cls dd H, Er.V x cls dd H → PySem.W.exmOne X.K cls c = some true)
    (hb : ∀ (W : Value → Option Addr → L2.St → Hp → Prop) (pn : List (Addr × Obj)) (xe : Value → Shared → Prop), Takes (X.tr pn xe) W → XB (X.tr pn xe) ⟨W, Er.V⟩ body d)
    (hsu : ∀ (a : Addr) (oe : Obj) (cls : Value) (dd : Option Addr) (pn : List (Addr × Obj)), Zc cls dd oe → (∃ vs, oe.data = .fields vs) → PSs (X.suite a ((a, oe) :: pn)) (b0 :: suite) (ts a cls dd))
    (lh : ∀ (C : Cz) (S : List Addr) (B H : Hp) (σ : L2.St) (Δ : DSt) (D : Ends) (DD : DEnds) (x : PyData) (cls : Value) (dd : Option Addr) (a : Addr), En X.K C S B H σ Δ → Er.V x cls dd H → H a = none → h x DD Δ → EndsOk X.K Er C B D DD →
      ts a cls dd { nx := fun σ' H' => D.nx (σ'.set i none) H', rt := D.rt, bk := fun σ' H' => D.bk (σ'.set i none) H', ct := fun σ' H' => D.ct (σ'.set i none) H' } (σ.set i (some (.ref a))) H) :
    XS X Er (.Try body [.ExceptHandler (some (.Name x np)) (some n) (b0 :: suite) pos'] [] [] pos) (dTry d h) := by
  refine ⟨_, ps_try_as hs hf hN hi hln hc tk (tb := fun W => tOfS X.K ⟨W, Er.V⟩ d) (fun W pn xe tk _ => (hb W pn xe tk).ps) hsu, fun C S B H σ Δ D DD en q k => ?_⟩
  refine ⟨C, S, B, Δ, { DD with ex := fun x Δ' => h x DD Δ' }, en, q, ⟨k.nx, k.rt, k.bk, k.ct, fun S' B' H' σ' Δ' x cls dd s en' v q' => ⟨true, hcl _ _ _ _ v, fun _ a na => ?_, fun z => nomatch z⟩⟩⟩
  exact lh C S' B' H' σ' Δ' D DD x cls dd a en' v na q' (k.mono s)
end
end Ly
set_option Elab.async false
set_option linter.all false
set_option maxRecDepth 100000
namespace Ly
open PySem PySem.Spec PyProof.Rows L2 PySem.W
section
variable {prog : Program} {w : World} {A : Around} {E : Value → Shared → Prop} {s : Shared}
theorem call_tuple_lt {Q : Value → Shared → Prop} {l b : Addr} {items items2 : Array Value} {e r : Nat → Bool} (hl : s.heap.IsTuple l items) (hb : s.heap.IsTuple b items2)
    (he : ∀ j (h1 : j < items.size) (h2 : j < items2.size), SeqAt.EqAt A.in1 s items[j] items2[j] (e j)) (hr : ∀ j (h1 : j < items.size) (h2 : j < items2.size), e j = false → SeqAt.RcLt A.in1 s items[j] items2[j] (r j))
    (h : Q (.bool (SeqAt.firstLt e r (decide (items.size < items2.size)) (List.range (min items.size items2.size)))) s) : wpAny (model prog w) A (call (.builtin "tuple.__lt__") [.ref l, .ref b]) Q E s := by
  obtain ⟨⟨c1, d1, t1, l1⟩, ho, hc, n, hd⟩ := id hl
  obtain ⟨⟨c2, d2, t2, l2⟩, ho2, hc2, n2, hd2⟩ := id hb
  simp only at hc hd hc2 hd2
  subst hc hd hc2 hd2
  exact call_meets PySem.F.slot_tuple_lt ⟨_, ho, rfl⟩ PySem.F.entry_tuple_lt (PySem.F.args_tuple_lt_2 _ _) (SeqAt.tuple_ltAt l b items items2 n n2 d1 d2 l1 l2 e r) ⟨ho, ho2, he, hr, h⟩
theorem oneLt_tup {xs ys : List PyData} {a b : Value} {as bs : List Addr} {Q : Bool → Shared → Prop} (ra : Reads s.heap a (.tuple xs) as) (rb : Reads s.heap b (.tuple ys) bs) (h : alike (.tuple xs) (.tuple ys) = true)
    (hu : A.units + min (PyData.tuple xs).depth (PyData.tuple ys).depth < cLine) (hq : Q (dataLt (.tuple xs) (.tuple ys)) s) : wpAny (model prog w) A (oneLt' true a b) Q E s := by
  have hal : alikeAll xs ys = true := by simpa [alike] using h
  cases ra with
  | @tuple l o vs n _ as₁ h1 h2 h3 h4 =>
    cases rb with
    | @tuple l' o' vs' n' _ bs₁ k1 k2 k3 k4 =>
      have n1 : vs.size = xs.length := by simpa using SeqAt.ReadsAll.length _ _ _ h4
      have n2 : vs'.size = ys.length := by simpa using SeqAt.ReadsAll.length _ _ _ k4
      rw [dataLt_tuple, ← firstLt_toks xs ys hal, ← n1, ← n2] at hq
      rw [oneLt'_eq]
      simp only [if_true]
      refine wpAny_bind (wpAny_cRoomFor (SeqAt.room_here hu) ?_)
      refine wpAny_bind (wpAny_callSpecialIfBound?_slot (T := "tuple") ⟨_, h1, h2⟩ PySem.F.slot_tuple_lt (call_tuple_lt (e := SeqAt.pairEq xs ys) (r := fun j => dataLt (xs.getD j .none) (ys.getD j .none)) ⟨_, h1, h2, _, h3⟩ ⟨_, k1, k2, _, k3⟩ (fun j j1 j2 => ?_) (fun j j1 j2 hj => ?_) ?_))
      · have := eqAt_alikeAll xs ys A.in1 s vs.toList vs'.toList _ _ h4 k4 hal (SeqAt.room_in hu) j (by simpa using j1) (by simpa using j2)
        simpa using this
      · have := rcLt_alikeAll xs ys A.in1 s vs.toList vs'.toList _ _ h4 k4 hal (SeqAt.room_in hu) j (by simpa using j1) (by simpa using j2) hj
        simpa using this
      · exact wpAny_truthy_bool hq
/-- the first item of each, where there is one -/
theorem firsts_run {M : Model} : ∀ (vs : List Value) {ds : List PyData} {Q : List (Option Value) → Shared → Prop}, EachIs (fun v d => ∃ as, Reads s.heap v d as) vs ds → (∀ d ∈ ds, ∃ xs, d = .tuple xs) →
    (∀ rs : List (Option Value), rs.length = vs.length → (∀ r, ds = .tuple [] :: r → rs.head? = some none) → Q rs s) → wpAny M A (vs.mapM firstOfTuple') Q E s
  | [], _, Q, e, _, h => by
    cases e
    rw [List.mapM_nil]
    exact wpAny_pure (h [] rfl fun _ z => nomatch z)
  | v :: vs, _, Q, .cons (b := d) ⟨as, r⟩ t, ht, h => by
    obtain ⟨xs, rfl⟩ := ht _ (List.mem_cons_self ..)
    rw [List.mapM_cons, kas_first_eq]
    cases r with
    | @tuple a o its n _ _ ho hc hd hr =>
      refine wpAny_bind (wpAny_bind (wpAny_typeOf (T := "tuple") ⟨o, ho, hc⟩ ?_))
      rw [if_neg (by decide)]
      refine wpAny_bind (listItems_at ho hd (wpAny_pure ?_))
      refine wpAny_bind (firsts_run vs t (fun d hd => ht d (List.mem_cons_of_mem _ hd)) fun rs hl _ => wpAny_pure (h _ (by simp [hl]) fun r e => ?_))
      have e1 := (List.cons.inj e).1
      cases e1
      cases q : its.toList with
      | nil =>
        have z : its[0]? = none := by rw [← Array.getElem?_toList, q]; rfl
        simp [z]
      | cons f fr => rw [q] at hr; cases hr
def FirstEmpty (ds : List PyData) : Prop := (∃ r, ds = .tuple [] :: r) ∧ ∀ d ∈ ds, ∃ xs, d = .tuple xs
theorem sorts_empty {vs : List Value} {ds : List PyData} (e : EachIs (fun v d => ∃ as, Reads s.heap v d as) vs ds) (hal : AllAlike ds) (hk : FirstEmpty ds) (hu : ∀ d, d ∈ ds → A.units + d.depth < cLine) : SortsAt prog w A s (dataKind s.heap ds) vs := by
  obtain ⟨⟨r, e0⟩, ht⟩ := hk
  have tyT : ∀ v ∈ vs, Looks (model prog w) s.heap (typeOf v) (.type "tuple") := fun v hv => by
    obtain ⟨d, hd, as, r⟩ := e.left v hv
    obtain ⟨xs, rfl⟩ := ht d hd
    exact looks_reads r
  refine ⟨fun v hv => ?_, oneType', ?_, fun h2 E Q hq => ?_⟩
  · obtain ⟨d, hd, as, r⟩ := e.left v hv
    exact ⟨_, dataKind_some hal hd r⟩
  · intro E x y a b Q ha hb hq
    obtain ⟨d, as, hd, ra, rfl⟩ := dataKind_inv ha
    obtain ⟨d', as', hd', rb, rfl⟩ := dataKind_inv hb
    obtain ⟨xs, rfl⟩ := ht d hd
    obtain ⟨ys, rfl⟩ := ht d' hd'
    rw [keyLt'_oneType]
    exact oneLt_tup ra rb (hal _ hd _ hd') (Nat.lt_of_le_of_lt (Nat.add_le_add_left (Nat.min_le_left _ _) _) (hu _ hd)) hq
  · obtain ⟨v₁, v₂, rest, rfl⟩ : ∃ v₁ v₂ rest, vs = v₁ :: v₂ :: rest := by
      match vs, h2 with
      | [], h2 => simp at h2
      | [_], h2 => simp at h2
      | v₁ :: v₂ :: rest, _ => exact ⟨v₁, v₂, rest, rfl⟩
    rw [keyKind'_eq, List.mapM_toArray, map_eq_pure_bind]
    refine wpAny_bind (wpAny_bind (firsts_run _ e ht fun rs hl h0 => wpAny_pure ?_))
    have h00 := h0 r e0
    cases rs with
    | nil => cases h00
    | cons r0 rs =>
      cases h00
      rw [if_neg (by simp), if_neg (by simp)]
      rw [oneTypeOnly'_eq, List.mapM_toArray, map_eq_pure_bind]
      refine wpAny_bind (wpAny_bind (wpAny_bind (kas_mapM (r := Value.type "tuple") _ (fun v hv Q' hq => (tyT v hv).here hq) (wpAny_pure ?_))))
      have hall : ((List.map (fun _ => Value.type "tuple") (v₁ :: v₂ :: rest)).toArray.all fun x => x == Value.type "tuple") = true := by
        simp only [List.all_toArray, List.all_map, List.all_eq_true]
        intro _ _
        rfl
      have hz : ((List.map (fun _ => Value.type "tuple") (v₁ :: v₂ :: rest)).toArray)[0]? = some (Value.type "tuple") := by simp
      rw [hz]
      simp only [hall, if_true]
      exact wpAny_pure (wpAny_pure hq)
def SortOk (ds : List PyData) : Prop := Sortable ds ∨ FirstEmpty ds
theorem sorts_ok {vs : List Value} {ds : List PyData} (e : EachIs (fun v d => ∃ as, Reads s.heap v d as) vs ds) (hal : AllAlike ds) (hk : SortOk ds) (hu : ∀ d, d ∈ ds → A.units + d.depth < cLine) : SortsAt prog w A s (dataKind s.heap ds) vs := by
  rcases hk with hk | hk
  · exact SortsAt.data e hal hk hu
  · exact sorts_empty e hal hk hu
/-- a tuple's items, taken for sorted -/
theorem collect_tuple {l : Addr} {vs : List Value} {Q : List Value → Shared → Prop} (hl : s.heap.IsTuple l vs.toArray)
    (h : Q vs { s with heap := (s.heap.push (seqObj "list" #[] 0)).update s.heap.objs.size (Obj.mapSeq (· ++ vs.toArray)) }) (hsz : vs.length ≤ sizeLine) : wpAny (model prog w) A (collect (.ref l)) Q E s := by
  obtain ⟨o, ho, hc, n, hd⟩ := id hl
  unfold collect
  refine wpAny_bind (wpAny_runValue (codeAny_builtin entry_proto_collect' ?_))
  show wpAny _ _ (do again (.builtin "list.__iadd__" ⟨[← newList [], .ref l], []⟩)) _ _ s
  refine wpAny_bind (wpAny_newList (wpAny_pure ⟨Code.quiet_builtin _ (by decide +kernel), codeAny_builtin entry_list_iadd' ?_⟩))
  show wpAny _ _ (Builtin.List.listExtendWith (.ref s.heap.objs.size) (.ref l) (.ref s.heap.objs.size)) _ _ { s with heap := s.heap.push (seqObj "list" #[] 0) }
  unfold Builtin.List.listExtendWith
  have ho' : (s.heap.push (seqObj "list" #[] 0)).get? l = some o := Heap.get?_push_of_some _ ho
  refine wpAny_bind (wpAny_typeOf (T := "tuple") ⟨o, ho', hc⟩ ?_)
  have ht : (Value.type "tuple" == Value.type "tuple") = true := by rfl
  rw [if_pos (by rw [ht]; simp)]
  refine wpAny_bind (listItems_at ho' hd ?_)
  refine wpAny_bind (listItems_at (xs := #[]) (n := 0) (Heap.get?_push_size _ rfl) rfl ?_)
  rw [if_neg (by simp)]
  refine wpAny_bind (listUpdate_at (xs := #[]) (n := 0) (Heap.get?_push_size _ rfl) rfl ?_ (Nat.zero_le _) (by show (#[] ++ vs.toArray).size ≤ sizeLine + 1; simp only [Array.size_append, List.size_toArray, List.length_nil]; omega))
  refine wpAny_pure ?_
  show wpAny (model prog w) A (do
      let o ← load s.heap.objs.size
      match o.data with
      | .seq xs _ => pure xs.toList
      | _ => unsupported "internal:collect") Q E { s with heap := (s.heap.push (seqObj "list" #[] 0)).update s.heap.objs.size (Obj.mapSeq (· ++ vs.toArray)) }
  refine wpAny_bind (wpAny_load (get?_update_seq (Heap.get?_push_size _ rfl) _) ?_)
  show wpAny _ _ (pure ((#[] : Array Value) ++ vs.toArray).toList) Q E _
  rw [show ((#[] : Array Value) ++ vs.toArray).toList = vs by simp]
  exact wpAny_pure h
theorem sorted_tuple {κ : PyProof.Rows.KeyKind} {l : Addr} {vs : List Value} {Q : Value → Shared → Prop} (hl : s.heap.IsTuple l vs.toArray) (S : SortsAt prog w A.in1.in1 { s with heap := sortingHeap (copyHeap s.heap vs) (s.heap.objs.size + 1) vs } κ vs) (hL : vs.length ≤ sizeLine)
    (h : Q (.ref (s.heap.objs.size + 1)) { s with heap := sortedAll s.heap vs (sortVals κ false vs vs).toArray }) : wpAny (model prog w) A (call (.builtin "sorted") [.ref l]) Q E s := by
  refine call_function_entry_kw kind_sorted plain_sorted entry_sorted (args_sorted1 _) ?_
  unfold Builtin.«sorted»
  refine wpAny_bind (m := checkCount "sorted" 1 1 _) (wpAny_pure ?_)
  refine wpAny_bind (collect_tuple hl ?_ hL)
  refine wpAny_bind (wpAny_newList ?_ hL)
  have hsz : ((s.heap.push (seqObj "list" #[] 0)).update s.heap.objs.size (Obj.mapSeq (· ++ vs.toArray))).objs.size = s.heap.objs.size + 1 := by
    rw [Heap.size_update, size_push']
  show wpAny _ _ _ _ _ { s with heap := copyHeap s.heap vs }
  rw [hsz]
  refine wpAny_bind (wpAny_holding (wpAny_call_entry_kw slot_list_sort ⟨_, copyHeap_at s.heap vs, rfl⟩ entry_list_sort ?body (args_list_sort _)))
  case body =>
    show wpAny (model prog w) A.in1.in1 (Builtin.«list.sort» ⟨[.ref (s.heap.objs.size + 1)], []⟩) _ _ _
    exact list_sort_vals (s := { s with heap := copyHeap s.heap vs }) (copyHeap_at s.heap vs) S hL ⟨_, rfl, wpAny_pure ⟨_, rfl, h⟩⟩
end

section
variable {X : Cx} {k : Nat}
def rSrt (K : PySem.W.Frag) : List V → Hp → VK → Prop := fun vs H Q => ∃ (a : Addr) (xs : List V) (B : Hp) (ds : List PyData), vs = [.ref a] ∧ (SqL K H a xs ∨ SqT K H a xs) ∧ Same B H ∧ DvL B xs ds ∧ AllAlike ds ∧ SortOk ds ∧ (∀ d ∈ ds, d.depth ≤ 60) ∧
  ∀ p ys, H p = none → DvL B ys (ds.mergeSort (dataLe false fun d => d)) → Q (.ref p) (upd H p (.lst ys))
theorem each_of {B : Hp} : ∀ {xs : List V} {ds : List PyData} {us : List Value}, DvL B xs ds → Vals xs us → EachIs (fun u d => ∃ x, RelV x u ∧ Dv B x d) us ds
  | _, _, _, .nil, .nil => .nil
  | _, _, _, .cons h t, .cons r rr => .cons ⟨_, r, h⟩ (each_of t rr)
theorem of_each {B : Hp} : ∀ {ds : List PyData} {us : List Value}, EachIs (fun u d => ∃ x, RelV x u ∧ Dv B x d) us ds → ∃ ys, Vals ys us ∧ DvL B ys ds
  | _, _, .nil => ⟨[], .nil, .nil⟩
  | _, _, .cons ⟨x, r, h⟩ t => by
    obtain ⟨ys, h1, h2⟩ := of_each t
    exact ⟨x :: ys, .cons r h1, .cons h h2⟩
theorem cr_srt (hr : Room k X.A) : CallR X (.builtin "sorted") (rSrt X.K) := by
  intro pins s σ H vs us Q I r h
  obtain ⟨a, xs, B, ds, rfl, hx, hs, hd, hal, hk, hdp, q⟩ := h
  rw [Vals.ref1 r]
  have hdp' : DpAll X.K H xs ds := (hd.mono hs).dp
  have go : ∀ (its : List Value), Vals xs its → xs.length ≤ sizeLine → ((s.heap.IsList a its.toArray) ∨ (s.heap.IsTuple a its.toArray)) → wpAny (model X.prog X.w) X.A (call (.builtin "sorted") [.ref a]) (EP X pins σ Q) X.xe s := fun its rv hz hit => by
    have e := each_of hd rv
    obtain ⟨as, ra⟩ := Dp.readsAll I ds xs its hdp' rv
    have ra' : ReadsAll s.heap its (ds.map fun d => d) as := by rw [List.map_id']; exact ra
    have er := readsAll_each (fun d => d) ra'
    have er' : EachIs (fun v b => ∃ as, Reads (sortingHeap (copyHeap s.heap its) (s.heap.objs.size + 1) its) v b as) its ds := er.mono fun _ _ ⟨as, r⟩ => ⟨as, PyProof.Rows.Reads.keeps (fun _ _ => sorting_copy_old) r⟩
    have hu : ∀ d, d ∈ ds → X.A.in1.in1.units + d.depth < cLine := fun d hd => by
      have h1 := hr.un
      have h2 := hdp d hd
      show X.A.units + 1 + 1 + d.depth < cLine
      omega
    have hS := sorts_ok (prog := X.prog) (w := X.w) (A := X.A.in1.in1) (s := { s with heap := sortingHeap (copyHeap s.heap its) (s.heap.objs.size + 1) its }) er' hal hk hu
    have hL : its.length ≤ sizeLine := by rw [← rv.length]; exact hz
    have hm : AllAlike (ds.map fun d => d) := by rw [List.map_id']; exact hal
    have sv := sortVals_data (h' := sortingHeap (copyHeap s.heap its) (s.heap.objs.size + 1) its) (enc := fun d => d) false e er' hm
    rw [List.map_id'] at sv
    obtain ⟨ys, v1, v2⟩ := of_each sv
    have fin : EP X pins σ Q (.ref (s.heap.objs.size + 1)) { s with heap := sortedAll s.heap its (sortVals (dataKind (sortingHeap (copyHeap s.heap its) (s.heap.objs.size + 1) its) ds) false its its).toArray } := by
      obtain ⟨c, hc⟩ := sortedAll_at s.heap its (sortVals (dataKind (sortingHeap (copyHeap s.heap its) (s.heap.objs.size + 1) its) ds) false its its).toArray
      have hn : H (s.heap.objs.size + 1) = none := I.hok.fresh (Nat.le_succ _)
      have ln : ys.length ≤ sizeLine := by
        have := v1.length
        rw [sortVals_length false rfl] at this
        omega
      exact ⟨.ref (s.heap.objs.size + 1), _, I.laid (t' := s.toks) (o := .lst ys) (fun b o e => sortedAll_old e) (Nat.le_succ _) ⟨ln, _, c, v1, hc⟩, rfl, q _ ys hn v2⟩
    rcases hit with hit | hit
    · exact sorted_vals hit hS hL fin
    · exact sorted_tuple hit hS hL fin
  rcases hx with hx | hx
  · obtain ⟨its, rv, pl, hz⟩ := I.list hx
    exact go its rv hz (.inl pl.isList)
  · obtain ⟨its, rv, pl, hz⟩ := I.tuple hx
    exact go its rv hz (.inr pl)
def sortD : List PyData → (PyData → Prop) → Prop
  | [.list ds], Q => AllAlike ds ∧ SortOk ds ∧ (∀ d ∈ ds, d.depth ≤ 60) ∧ Q (.list (ds.mergeSort (dataLe false fun d => d)))
  | [.tuple ds], Q => AllAlike ds ∧ SortOk ds ∧ (∀ d ∈ ds, d.depth ≤ 60) ∧ Q (.list (ds.mergeSort (dataLe false fun d => d)))
  | _, _ => False
theorem lc_srt {K : PySem.W.Frag} : LC K (rSrt K) sortD := fun S B H xs ds Q R hs tw h q k => by
  cases h with
  | nil => exact q.elim
  | cons h1 h2 =>
    cases h2 with
    | cons _ _ => cases h1 <;> exact q.elim
    | nil =>
      cases h1 with
      | lst h3 h4 =>
        obtain ⟨q1, q2, q3, q4⟩ := q
        exact ⟨_, _, B, _, rfl, .inl (SqL.of (hs _ _ h3)), hs, h4, q1, q2, q3, fun p ys hp hy => k _ _ _ _ (.new hs tw hp) (.lst upd_same (hy.mono (same_upd (hs.free hp)))) q4⟩
      | tup h3 h4 =>
        obtain ⟨q1, q2, q3, q4⟩ := q
        exact ⟨_, _, B, _, rfl, .inr (SqT.of (hs _ _ h3)), hs, h4, q1, q2, q3, fun p ys hp hy => k _ _ _ _ (.new hs tw hp) (.lst upd_same (hy.mono (same_upd (hs.free hp)))) q4⟩
      | int i => exact q.elim
      | str z => exact q.elim
      | bl b => exact q.elim
      | non => exact q.elim
/-- a >= b of data that are alike -/
def rGeA (K : PySem.W.Frag) : R2 := fun x y H Q => ∃ d e, Dp K H x d ∧ Dp K H y e ∧ alike d e = true ∧ d ≠ .none ∧ d.depth ≤ 60 ∧ Q (.bl (!dataLt d e)) H
theorem op_geA (hr : Room k X.A) : OpR X (compareOp .GtE) (rGeA X.K) := by
  intro pins s σ H x y v u Q I rx ry h
  obtain ⟨d, e, hd, he, al, nn, dp, q⟩ := h
  obtain ⟨as, r1⟩ := Dp.reads I d x v hd rx
  obtain ⟨bs, r2⟩ := Dp.reads I e y u he ry
  refine ge_data r1 r2 al nn ?_ ⟨.bl _, H, I, rfl, q⟩
  have h1 := hr.un
  have h2 : min d.depth e.depth ≤ d.depth := Nat.min_le_left _ _
  omega
def geTD (x y : PyData) (Q : PyData → Prop) : Prop := alike x y = true ∧ x ≠ .none ∧ x.depth ≤ 60 ∧ Q (.bool (!dataLt x y))
theorem lr_geT {K : PySem.W.Frag} : LR2 K (rGeA K) geTD := fun S B H x y d e Q R hs tw hx hy q k =>
  ⟨d, e, (hx.mono hs).dp, (hy.mono hs).dp, q.1, q.2.1, q.2.2.1, k _ _ _ _ (.refl hs tw) (.bl _) q.2.2.2⟩
end
end Ly
set_option Elab.async false
set_option linter.all false
set_option maxRecDepth 100000
namespace K82
open PySem PySem.Spec PyProof.Rows L2 Ly
def top (i : Nat) : Stmt := PySem.Challenge.pw_counthall_k82_deeds_text_reads_back.main.body.getD i (.Pass ⟨0, 0, 0, 0⟩)
abbrev s_InvalidDoubt_init : Stmt := inClass (top 2) 0
abbrev s_BadText_init : Stmt := inClass (top 3) 0
abbrev s_mask_of : Stmt := top 7
abbrev s_split_words : Stmt := top 8
abbrev s_written : Stmt := top 9
abbrev s_read_count : Stmt := top 10
abbrev s_read_number : Stmt := top 11
abbrev s_read_bound : Stmt := top 12
abbrev s_Doubt_and : Stmt := inClass (top 18) 0
abbrev s_Doubt_or : Stmt := inClass (top 18) 1
abbrev s_AtMost_init : Stmt := inClass (top 19) 0
abbrev s_AtMost_allows : Stmt := inClass (top 19) 1
abbrev s_Within_init : Stmt := inClass (top 20) 0
abbrev s_Within_allows : Stmt := inClass (top 20) 1
abbrev s_known_lot : Stmt := top 21
abbrev s_Lots_init : Stmt := inClass (top 22) 0
abbrev s_Lots_allows : Stmt := inClass (top 22) 1
abbrev s_Both_init : Stmt := inClass (top 23) 0
abbrev s_Both_allows : Stmt := inClass (top 23) 1
abbrev s_Either_init : Stmt := inClass (top 24) 0
abbrev s_Either_allows : Stmt := inClass (top 24) 1
abbrev s_read_lot : Stmt := top 27
abbrev s_read_lots : Stmt := top 28
abbrev s_read_part : Stmt := top 29
abbrev s_read_doubt : Stmt := top 30
abbrev s_build_doubt : Stmt := top 31
abbrev s_parse_doubt : Stmt := top 32
abbrev s_format_deed : Stmt := top 34
abbrev s_format_deeds : Stmt := top 35
abbrev s_read_tell : Stmt := top 36
abbrev s_read_recount : Stmt := top 37
abbrev s_read_correct : Stmt := top 38
abbrev s_read_withdraw : Stmt := top 39
abbrev s_read_doubt_deed : Stmt := top 40
abbrev s_read_deed : Stmt := top 41
abbrev s_parse_deeds : Stmt := top 42
abbrev s_law_source : Stmt := top 44
abbrev s_law_draw : Stmt := top 45
abbrev s_law_group : Stmt := top 46
abbrev s_law_plan : Stmt := top 47
abbrev s_law_whole : Stmt := top 48
abbrev s_law_lots_once : Stmt := top 49
abbrev s_law_doubt_text : Stmt := top 50
abbrev s_law_chain : Stmt := top 51
abbrev s_law_line : Stmt := top 52
abbrev s_law_row : Stmt := top 53
abbrev s_law_number : Stmt := top 54
abbrev s_law_signed : Stmt := top 55
abbrev s_law_bound : Stmt := top 56
abbrev s_law_drawn_doubt : Stmt := top 57
abbrev s_law_deed : Stmt := top 58
abbrev s_law_wrong_sign : Stmt := top 59
abbrev s_law_bad_line : Stmt := top 60
abbrev s_law_strange_line : Stmt := top 61
abbrev s_law_wrong_line : Stmt := top 62
abbrev s_law_spoilt : Stmt := top 63
abbrev s_law_text : Stmt := top 64
abbrev s_law_first_bad : Stmt := top 65
abbrev s_law_rows : Stmt := top 66
abbrev s_law_asked : Stmt := top 67
abbrev s_law : Stmt := top 68
/-- what the module's names hold -/
structure Bl (mg : Str → Option Value) : Prop where
  m_len : mg "len" = none
  m_int : mg "int" = none
  m_str : mg "str" = none
  m_tuple : mg "tuple" = none
  m_list : mg "list" = none
  m_bool : mg "bool" = none
  m_min : mg "min" = none
  m_isinstance : mg "isinstance" = none
  m_range : mg "range" = none
  m_enumerate : mg "enumerate" = none
  m_sorted : mg "sorted" = none
  m_abs : mg "abs" = none
  m_super : mg "super" = none
  m_ValueError : mg "ValueError" = none
  c_DIGITS : ∃ t, mg "DIGITS" = some (Value.str "0123456789" t)
  c_MOST_FIGURES : ∃ t, mg "MOST_FIGURES" = some (Value.int 12 t)
  c_MOST_COUNT : ∃ t, mg "MOST_COUNT" = some (Value.int 99 t)
  c_MOST_LIMIT : ∃ t, mg "MOST_LIMIT" = some (Value.int 1000000 t)
  c_MOST_LOTS : ∃ t, mg "MOST_LOTS" = some (Value.int 24 t)
  c_MOST_NUMBER : ∃ t, mg "MOST_NUMBER" = some (Value.int 39 t)
  c_MOST_DEEP : ∃ t, mg "MOST_DEEP" = some (Value.int 3 t)
theorem units65 {k : Nat} {A : Around} (h : Room k A) : A.units + 65 < cLine := by
  have := h.un
  omega
end K82
set_option Elab.async false
set_option linter.all false
set_option maxRecDepth 100000
namespace Ly
open PySem PySem.Spec PyProof.Rows L2

def putD (f : Str) (x : PyData) : List (Str × PyData) → List (Str × PyData)
  | [] => [(f, x)]
  | (g, y) :: r => if g = f then (g, x) :: r else (g, y) :: putD f x r
theorem FsR.put {B : Hp} {f : Str} {v : V} {x : PyData} (h : Dv B v x) : ∀ {fv : List (Str × V)} {fs : List (Str × PyData)}, FsR B fv fs → FsR B (putF f v fv) (putD f x fs)
  | _, _, .nil => .cons ⟨rfl, h⟩ .nil
  | (g, u) :: r, (g', y) :: r', .cons a t => by
    obtain ⟨e, d⟩ := a
    cases e
    unfold putF putD
    by_cases q : g = f
    · first
        | (rw [if_pos q, if_pos q]; exact .cons ⟨rfl, h⟩ t)
        | (subst q; simp; exact .cons ⟨rfl, h⟩ t)
    · rw [if_neg q, if_neg q]
      exact .cons ⟨rfl, d⟩ (FsR.put h t)
theorem FsR.get {B : Hp} {f : Str} {x : PyData} : ∀ {fv : List (Str × V)} {fs : List (Str × PyData)}, FsR B fv fs → fs.lookup f = some x → ∃ v, fv.lookup f = some v ∧ Dv B v x
  | _, _, .nil, e => by cases e
  | (g, u) :: r, (g', y) :: r', .cons a t, e => by
    obtain ⟨e1, d⟩ := a
    cases e1
    rw [List.lookup_cons] at e ⊢
    cases q : f == g with
    | true => rw [q] at e; cases e; exact ⟨u, rfl, d⟩
    | false => rw [q] at e; exact FsR.get t e
theorem FsR.length {B : Hp} {fv : List (Str × V)} {fs : List (Str × PyData)} (h : FsR B fv fs) : fv.length = fs.length := Paired.length h
theorem FsR.keys {B : Hp} : ∀ {fv : List (Str × V)} {fs : List (Str × PyData)}, FsR B fv fs → fv.map (·.1) = fs.map (·.1)
  | _, _, .nil => rfl
  | _, _, .cons a t => by rw [List.map_cons, List.map_cons, a.1, FsR.keys t]
section
variable {X : Cx} {Er : ErT} {e : Expr} {de : DE} {pos : Pos} {Cc : Addr} {f : Str}
def isObjE : Option Ent → Bool
  | some (.obj _ _ _) => true
  | _ => false
theorem En.wrI {K : PySem.W.Frag} {C : Cz} {S : List Addr} {B H : Hp} {σ : L2.St} {Δ : DSt} {i : Nat} {a dx : Addr} {fs gs : List (Str × PyData)} {gv : List (Str × V)} (en : En K C S B H σ Δ) (h : Δ[i]? = some (some (.obj Cc dx fs))) (h2 : σ[i]? = some (some (.ref a))) (r : FsR B gv gs)
    (one : ∀ j o, j ≠ i → Δ[j]? = some o → isObjE o = false) : En K C S B (upd H a (.ins Cc dx gv)) σ (Δ.set i (some (.obj Cc dx gs))) := by
  obtain ⟨v, h3, b, xs, rfl, h4, h5, h6, h7, h8⟩ := en.vr i _ h
  rw [h2] at h3
  cases h3
  refine ⟨en.st.wr h8 h6 (fun z => h7 (en.sub a z)), en.sub, fun b hb => ?_, en.nw, by rw [List.length_set]; exact en.len, fun j u q => ?_, fun j l ds' es' v hjl q1 q2 => ?_⟩
  · have q : b ≠ a := fun z => h7 (by rw [← z]; exact hb)
    obtain ⟨⟨x, y, e1⟩, e2⟩ := en.tw b hb
    exact ⟨⟨x, y, by rw [upd_ne q]; exact e1⟩, e2⟩
  · rcases set_at q with ⟨z, q'⟩ | ⟨hj, q⟩
    · cases q'
      exact ⟨_, by rw [z]; exact h2, a, gv, rfl, upd_same, r, h6, h7, h8⟩
    · obtain ⟨w, e1, e2⟩ := en.vr j u q
      refine ⟨w, e1, ?_⟩
      cases u with
      | d x => exact e2
      | src => exact e2
      | scr ns => exact e2
      | any => exact e2
      | own fs =>
        obtain ⟨b, zs, rfl, f1, f2, f3, f4, f5⟩ := e2
        have nb : b ≠ a := fun z => by
          subst z
          rw [h4] at f1; cases f1
        exact ⟨b, zs, rfl, by rw [upd_ne nb]; exact f1, f2, f3, f4, f5⟩
      | obj _ _ _ => exact absurd (one j _ hj q) (by simp [isObjE])
  · have ow : ∀ {j : Nat} {fs : List PyData}, (Δ.set i (some (.obj Cc dx gs)))[j]? = some (some (.own fs)) → Δ[j]? = some (some (.own fs)) := fun {j fs} q => by
      rcases set_at q with ⟨_, q⟩ | ⟨_, q⟩
      · cases q
      · exact q
    exact en.ne j l _ _ v hjl (ow q1) (ow q2)
/-- self.f = e -/
def dPutF (i : Nat) (Cc : Addr) (f : Str) (de : DE) : DS := fun DD Δ => ∃ dx fs, Δ[i]? = some (some (.obj Cc dx fs)) ∧ fs.length < 1000 ∧ (∀ j o, j ≠ i → Δ[j]? = some o → isObjE o = false) ∧ de (frz Δ) fun x => DD.nx ((frz Δ).set i (some (.obj Cc dx (putD f x fs))))
theorem frz_at {Δ : DSt} {j : Nat} {o : Option Ent} (h : (frz Δ)[j]? = some o) : ∃ u, Δ[j]? = some u ∧ fz1 u = o := by
  unfold frz at h
  rw [List.getElem?_map] at h
  cases q : Δ[j]? with
  | none => rw [q] at h; cases h
  | some u => rw [q] at h; exact ⟨u, rfl, Option.some.inj h⟩
theorem xs_fld (i : Nat) {x : Str} {px pos' : Pos} (c : Cls X.K Cc) (n : NoAttr X.K Cc f) (he : XE X e de) (hN : X.N[i]? = some x := by rfl) (hv : Vis X.env.scope x := by first | exact Or.inl rfl | exact Or.inr (Or.inl rfl) | exact Or.inr (Or.inr rfl)) (hd : (x == ("__debug__" : Str)) = false := by decide)
    (hcd : (x == ("__classdict__" : Str)) = false := by decide) (hs : swapsWith e (some (.Attribute (.Name x px) f pos')) pos.line X.env = pure false := by rfl) : XS X Er (.Assign [.Attribute (.Name x px) f pos'] e pos) (dPutF i Cc f de) := by
  obtain ⟨t, p, l⟩ := he
  refine ⟨_, ps_fld (pe_var hN hv hd hcd) p hs, fun C S B H σ Δ D DD en q k => ?_⟩
  obtain ⟨dx, fs, h1, hl, one, q⟩ := q
  refine l C S _ H σ _ _ _ en.frz q fun v H' B' y s r q' => ?_
  have en' := en.frz.step s
  have h1' : (frz Δ)[i]? = some (some (.obj Cc dx fs)) := by
    unfold frz
    rw [List.getElem?_map, h1]
    rfl
  have one' : ∀ j o, j ≠ i → (frz Δ)[j]? = some o → isObjE o = false := fun j o hj h => by
    obtain ⟨u, e1, e2⟩ := frz_at h
    have := one j u hj e1
    subst e2
    cases u with
    | none => rfl
    | some u => cases u <;> first | rfl | exact this
  obtain ⟨w, h3, a, fv, rfl, h4, h5, h6, h7, h8⟩ := en'.vr i _ h1'
  refine ⟨_, h3, a, Cc, dx, fv, rfl, h4, c, n, by rw [h5.length]; exact hl, ?_⟩
  exact k.nx _ _ _ _ _ ((addB_same en.same).1.trans s.bb) (en'.wrI h1' h3 (h5.put r) one') q'
/-- self.f -/
def dGetF (i : Nat) (Cc : Addr) (f : Str) : DE := fun Δ Q => ∃ dx fs x, Δ[i]? = some (some (.obj Cc dx fs)) ∧ fs.lookup f = some x ∧ Q x
theorem xe_fld (i : Nat) {x : Str} {px : Pos} (c : Cls X.K Cc) (n : NoAttr X.K Cc f) (hN : X.N[i]? = some x := by rfl) (hv : Vis X.env.scope x := by first | exact Or.inl rfl | exact Or.inr (Or.inl rfl) | exact Or.inr (Or.inr rfl)) (hd : (x == ("__debug__" : Str)) = false := by decide)
    (hcd : (x == ("__classdict__" : Str)) = false := by decide) (hb : attributeBase (.Name x px) f X.env (eval (.Name x px) X.env) = eval (.Name x px) X.env := by rfl) : XE X (.Attribute (.Name x px) f pos) (dGetF i Cc f) := by
  refine ⟨_, pe_fld (pe_var hN hv hd hcd) hb, fun C S B H σ Δ Q R en q k => ?_⟩
  obtain ⟨dx, fs, y, h1, h2, q⟩ := q
  obtain ⟨w, h3, a, fv, rfl, h4, h5, h6, h7, h8⟩ := en.vr i _ h1
  obtain ⟨u, h9, h10⟩ := h5.get h2
  exact ⟨_, h3, a, Cc, dx, fv, u, rfl, h4, c, n, h9, k _ _ _ _ en.st0 h10 q⟩
end

abbrev FI := List PyData → Prop → (PyData → Prop) → Prop
def spI (n : Nat) (Cc : Addr) (U : PyData → Value → Option Addr → Hp → Prop) (F : FI) : Sp := fun vs H Q E => ∃ (x dx : Addr) (ws : List V) (B H0 : Hp) (ds : List PyData) (P : Prop) (Px : PyData → Prop), vs = .ref x :: ws ∧ vs.length = n ∧ H x = some (.ins Cc dx []) ∧ (∀ b, b ≠ x → H0 b = H b) ∧ H0 x = none ∧ Same B H0 ∧ DvL B ws ds ∧ F ds P Px ∧
  (∀ H' B', Step [] B H0 B' H' → P → Q .non H') ∧ (∀ cls d H' B' y, Step [] B H0 B' H' → U y cls d H' → Px y → E cls d H')
def D0I (N : List Str) (Cc dx : Addr) (ds : List PyData) : DSt := some (.obj Cc dx []) :: (ds.map (fun x => some (.d x)) ++ List.replicate (N.length - (1 + ds.length)) none)
def endsI (P : Prop) (Px : PyData → Prop) : DEnds := { nx := fun _ => P, rt := fun en => en = .d .none ∧ P, ex := fun x _ => Px x }
theorem fn_lyI {P : Program} {w : World} {K : PySem.W.Frag} {mg : Str → Option Value} {base : Heap} {x qual : Str} {st : Stmt} {f : Addr} {fd : FuncData} {N ps : List Str} {n k : Nat} {Cc : Addr} {U : PyData → Value → Option Addr → Hp → Prop} {F : FI} (Fn : Fun K x qual st f fd) (S : FnScope N ps (defScope st)) (hn : ps.length = n)
    (hbody : ∀ (X : Cx) (cdv : Value) (A : Around) (outer : List Env) (s : Shared) (H : Hp) (E : XK), X = cxOf (L2.CX P w) P w K mg base N qual (defScope st) f cdv A outer s H E → Takes X (ErF E U).W → PassesOwn (model X.prog X.w) X.A X.env X.xe → Room k X.A →
      ∃ d, XB X (ErF E U) (defBody st) d ∧ ∀ dx ds P Px, ds.length + 1 = n → F ds P Px → d (endsI P Px) (D0I N Cc dx ds)) : FnOk P w K mg base (L2.CX P w) (k + 1) f fd ps (spI n Cc U F) := by
  refine Fn.okX S (fun vs H Q E h => ?_) (fun cdv A outer s H vs Q E hr h => ?_)
  · obtain ⟨x, dx, ws, B, H0, ds, P, Px, _, e, _⟩ := h
    rw [e, hn]
  · obtain ⟨x, dx, ws, B, H0, ds, P, Px, rfl, e, hx, h0, n0, hs, r, hF, q, qx⟩ := h
    obtain ⟨d, ⟨t, p, l⟩, hd⟩ := hbody _ cdv A outer s H E rfl (takes_of rfl rfl rfl rfl) (passes_of rfl) hr
    refine ⟨t, p, ?_⟩
    have hl := r.length
    have hN : ps.length ≤ N.length := by rw [← S.pre]; exact List.length_take_le' _ _
    have e' : ws.length + 1 = n := e
    have sBH : Same B H := fun b o z => by
      have nb : b ≠ x := fun y => by subst y; have := hs _ _ z; rw [n0] at this; cases this
      rw [← h0 b nb]; exact hs _ _ z
    have nBx : B x = none := hs.free n0
    have en0 : En K ⟨[], B, H0⟩ [] B H (L2.start N (.ref x :: ws)) (D0I N Cc dx ds) := by
      refine ⟨⟨Same.refl _, sBH, fun b h1 h2 => absurd h1 h2, fun b o _ z => ?_, (fun _ z => nomatch z)⟩, fun _ z => z, (fun _ z => nomatch z), (fun _ z => nomatch z), ?_, fun i u z => ?_, fun i j ds' es v hij z1 z2 => ?_⟩
      · have nb : b ≠ x := fun y => by subst y; have z' : H0 b = some o := z; rw [n0] at z'; cases z'
        rw [← h0 b nb]; exact z
      · simp [D0I, L2.start]; omega
      · cases i with
        | zero =>
          have z' : some (some (Ent.obj Cc dx [])) = some (some u) := z
          cases z'
          exact ⟨.ref x, rfl, x, [], rfl, hx, .nil, nBx, (fun z => nomatch z), n0⟩
        | succ i =>
          have z' : (ds.map (fun x => some (Ent.d x)) ++ List.replicate (N.length - (1 + ds.length)) none)[i]? = some (some u) := z
          by_cases h1 : i < ds.length
          · rw [List.getElem?_append_left (by simpa using h1), List.getElem?_map] at z'
            cases q : ds[i]? with
            | none => rw [q] at z'; cases z'
            | some y =>
              rw [q] at z'
              cases z'
              obtain ⟨v, e1, e2⟩ := r.get' q
              refine ⟨v, ?_, e2⟩
              show ((ws.map some) ++ _)[i]? = _
              rw [List.getElem?_append_left (by simp; omega), List.getElem?_map, e1]
              rfl
          · rw [List.getElem?_append_right (by simpa using h1), List.getElem?_replicate] at z'
            split at z' <;> cases z'
      · exfalso
        have := List.mem_of_getElem? z1
        simp only [D0I, List.mem_cons, List.mem_append, List.mem_replicate, List.mem_map] at this
        rcases this with z | ⟨y, _, z⟩ | ⟨_, z⟩ <;> cases z
    refine l ⟨[], B, H0⟩ [] B H _ _ _ (endsI P Px) en0 (hd dx ds P Px (by omega) hF) ⟨fun S' B' H' σ' Δ' _ en q' => q _ _ en.st q', fun S' B' H' v u st vr q' => ?_, fun _ _ _ _ _ _ _ z => z.elim, fun _ _ _ _ _ _ _ z => z.elim, fun S' B' H' σ' Δ' x cls d _ en v q' => qx _ _ _ _ _ en.st v q'⟩
    obtain ⟨rfl, q'⟩ := q'
    cases (show Dv B' v .none from vr)
    exact q _ _ st q'
structure MakX (P : Program) (w : World) (K : PySem.W.Frag) (mg : Str → Option Value) (base : Heap) (k : Nat) (x : Str) (C : Addr) (sp : Sp) : Prop where
  ex : ∃ (f : Addr) (fd : FuncData) (ps : List Str), Mk K C f ∧ FnOk P w K mg base (L2.CX P w) k f fd ps sp ∧ mg x = some (.ref C) ∧ Binds K fd ps []
section
variable {X : Cx} {E : XK} {U : PyData → Value → Option Addr → Hp → Prop} {e : Expr} {es : List Expr} {pos p : Pos} {d : DA} {F : FI} {n k j : Nat} {x : Str} {C : Addr}
def dMk (n : Nat) (F : FI) (d : DA) : DSt → (Ent → Prop) → (PyData → Prop) → Prop := fun Δ P Px => d Δ fun xs => xs.length + 1 = n ∧ F xs (P .any) Px
theorem xx_make (tk : Takes X (ErF E U).W) (c : MakX X.prog X.w X.K X.mg X.base k x C (spI n C U F)) (hr : Room j X.A) (hk : k + 1 ≤ j) (hg : Gl X x) (ha : XA X (e :: es) d)
    (hdb : (x == ("__debug__" : Str)) = false := by decide) (he : starEach (e :: es) X.env = (false, eval e X.env) :: starEach es X.env := by rfl) (hpl : (backTo pos (starEach es X.env)).any (·.1) = false := by rfl) : XX X (ErF E U) (.Call (.Name x p) (e :: es) [] pos) (dMk n F d) := by
  obtain ⟨t, q, l⟩ := ha
  obtain ⟨f, fd, ps, M, FF, hm, b⟩ := c
  refine ⟨_, pe_make M FF (hr.mono hk) hg hm b .nil (passes_call (E := E) tk fun _ _ _ _ h => h) q hdb he hpl, fun C' S B H σ Δ P Px R en w k1 k2 => l C' S B H σ Δ _ _ en w fun vs H1 B1 xs s1 r1 q1 => fun a dx na nd hne => ?_⟩
  have n1 : ∀ {b : Addr} {o : HO}, B1 b = some o → b ≠ a ∧ b ≠ dx := fun {b o} z => ⟨ne_of_none (s1.bh _ _ z) na, ne_of_none (s1.bh _ _ z) nd⟩
  have sN : Step S B1 H1 B1 (upd H1 dx (.own a)) := .newU s1.bh s1.tw nd
  refine ⟨a, dx, vs, B1, upd H1 dx (.own a), xs, P .any, Px, by rw [List.append_nil] <;> rfl, by rw [List.append_nil, List.length_cons, r1.length]; exact q1.1, upd_same, fun b hb => by rw [upd_ne hb], by rw [upd_ne (Ne.symm hne)]; exact na, sN.bh, r1, q1.2, fun H' B' s2 q2 => ⟨rfl, ?_⟩, fun cls dd H' B' y s2 r2 q2 => ?_⟩
  · exact k1 _ _ _ .any ((s1.trans sN).trans (step0 s2 sN.tw)) trivial q2
  · exact k2 _ _ _ _ _ ((s1.trans sN).trans (step0 s2 sN.tw)) r2 q2
/-- C(x, y), x and y names of any values, __init__ raising nothing and changing nothing else -/
def spP (C : Addr) : Sp := fun vs H Q _ => ∃ (x dx : Addr) (u v : V), vs = [.ref x, u, v] ∧ H x = some (.ins C dx []) ∧ ∀ fs, Q .non (upd H x (.ins C dx fs))
def dMk2 (i j : Nat) : DSt → (Ent → Prop) → (PyData → Prop) → Prop := fun Δ P _ => Δ[i]? = some (some .any) ∧ Δ[j]? = some (some .any) ∧ P .any
theorem xx_make2 {Er : ErT} {l m : Nat} {y z : Str} {py pz : Pos} (c : C8.Mak X.prog X.w X.K X.mg X.base k x C (spP C) []) (hr : Room j X.A) (hk : k + 1 ≤ j) (hg : Gl X x) (hN : X.N[l]? = some y := by rfl) (hv : Vis X.env.scope y := by exact Or.inl rfl) (hN' : X.N[m]? = some z := by rfl) (hv' : Vis X.env.scope z := by exact Or.inl rfl)
    (hdy : (y == ("__debug__" : Str)) = false := by decide) (hcy : (y == ("__classdict__" : Str)) = false := by decide) (hdz : (z == ("__debug__" : Str)) = false := by decide) (hcz : (z == ("__classdict__" : Str)) = false := by decide) (hdb : (x == ("__debug__" : Str)) = false := by decide)
    (he : starEach (.Name y py :: [.Name z pz]) X.env = (false, eval (.Name y py) X.env) :: starEach [.Name z pz] X.env := by rfl) (he' : starEach [.Name z pz] X.env = (false, eval (.Name z pz) X.env) :: starEach [] X.env := by rfl) (hpl : (backTo pos (starEach [.Name z pz] X.env)).any (·.1) = false := by rfl) :
    XX X Er (.Call (.Name x p) [.Name y py, .Name z pz] [] pos) (dMk2 l m) := by
  refine ⟨_, C8.pe_mk c hr hk hg (pa_cons (pe_var hN hv hdy hcy) (pa_cons (pe_var hN' hv' hdz hcz) pa_nil he') he) hdb he hpl, fun C' S B H σ Δ P Px R en w k1 k2 => ?_⟩
  obtain ⟨h1, h2, q⟩ := w
  obtain ⟨u, e1, _⟩ := en.vr _ _ h1
  obtain ⟨v, e2, _⟩ := en.vr _ _ h2
  refine ⟨u, e1, v, e2, fun a dx na nd hne => ⟨a, dx, u, v, rfl, upd_same, fun fs => ⟨rfl, ?_⟩⟩⟩
  have sN : Step S B H B (upd H dx (.own a)) := .newU en.same en.tw nd
  have na' : (upd H dx (.own a)) a = none := by rw [upd_ne (Ne.symm hne)]; exact na
  have s2 : Step S B H B (upd (upd H dx (.own a)) a (.ins C dx fs)) := sN.trans (.newU sN.bh sN.tw na')
  rw [upd_upd]
  exact k1 _ _ _ .any s2 trivial q
end
end Ly
set_option Elab.async false
set_option linter.all false
set_option maxRecDepth 100000
namespace Ly
open PySem PySem.Spec PyProof.Rows L2
section
variable {X : Cx} {Er : ErT} {e : Expr} {es : List Expr} {pos p : Pos} {d : DA} {F : FX} {n k j : Nat} {x : Str} {U : PyData → Value → Option Addr → Hp → Prop}
def frzQ (Q : PyData → Prop) : Ent → Prop
  | .d x => Q x
  | .own ds => Q (.list ds)
  | _ => False
/-- a call that might raise and does not -/
def dCallX (n : Nat) (F : FX) (d : DA) : DE := fun Δ Q => d Δ fun xs => xs.length = n ∧ F xs (frzQ Q) fun _ => False
theorem xe_callX (c : CalX X.prog X.w X.K X.mg X.base k x (spX n U F)) (hr : Room j X.A) (hk : k ≤ j) (hg : Gl X x) (ha : XA X (e :: es) d)
    (hdb : (x == ("__debug__" : Str)) = false := by decide) (he : starEach (e :: es) X.env = (false, eval e X.env) :: starEach es X.env := by rfl) (hpl : (backTo pos (starEach es X.env)).any (·.1) = false := by rfl) : XE X (.Call (.Name x p) (e :: es) [] pos) (dCallX n F d) := by
  obtain ⟨t, q, l⟩ := ha
  obtain ⟨f, fd, ps, FF, hm, kp, b⟩ := c
  refine ⟨_, pe_call FF (hr.mono hk) hg hm kp b .nil passL q hdb he hpl, fun C S B H σ Δ Q R en w k1 => l C S B H σ Δ _ _ en w fun vs H1 B1 xs s1 r1 q1 => ?_⟩
  refine ⟨B1, xs, frzQ Q, fun _ => False, by rw [List.append_nil, r1.length]; exact q1.1, s1.bh, by rw [List.append_nil]; exact r1, q1.2, fun v H2 B2 en2 s2 r2 q2 => ?_, fun cls dd H2 B2 y s2 r2 q2 => q2.elim⟩
  have s := s1.trans (step0 s2 s1.tw)
  cases en2 with
  | d y => exact k1 _ _ _ _ s r2 q2
  | own ds =>
    obtain ⟨a, xs, rfl, n, nb, e2, r⟩ := r2
    have n0 := s1.fresh n
    exact k1 _ _ _ _ (s.fz n0 nb e2 (fun z => (en.tw a z).1.some n0)) (.lst upd_same (r.mono (same_upd nb))) q2
  | any => exact q2.elim
  | src => exact q2.elim
  | scr ns => exact q2.elim
  | obj _ _ _ => exact q2.elim
/-- name = another name of a source -/
def dAlias (i j : Nat) : DS := fun DD Δ => Δ[j]? = some (some .src) ∧ DD.nx (Δ.set i (some .src))
theorem xs_alias (i j : Nat) {y z : Str} {py pz : Pos} (hN : X.N.Nodup) (hx : Loc X.env.scope y) (hi : X.N[i]? = some y := by rfl) (hj : X.N[j]? = some z := by rfl) (hv : Vis X.env.scope z := by first | exact Or.inl rfl | exact Or.inr (Or.inl rfl) | exact Or.inr (Or.inr rfl)) (hd : (z == ("__debug__" : Str)) = false := by decide)
    (hcd : (z == ("__classdict__" : Str)) = false := by decide) (hs : swapsWith (.Name z pz) (some (.Name y py)) pos.line X.env = pure false := by rfl) (hf : X.fn y = true ∨ X.env.scope.names.lookup y = some .local := by first | exact .inl rfl | exact .inr rfl | assumption) : XS X Er (.Assign [.Name y py] (.Name z pz) pos) (dAlias i j) := by
  refine ⟨_, ps_set hN hi hx (pe_var hj hv hd hcd) hs hf, fun C S B H σ Δ D DD en q k => ?_⟩
  obtain ⟨h1, q⟩ := q
  obtain ⟨v, h3, h4⟩ := en.vr j _ h1
  exact ⟨v, h3, k.nx _ _ _ _ _ (Same.refl _) (en.put (en := .src) h4 fun _ z => nomatch z) q⟩
/-- name = a call that lays a new source; the script in slot j -/
def spSrc (K : PySem.W.Frag) : Sp := fun vs H Q _ => ∃ (a : Addr) (ns : List Int) (i : Int), vs = [.ref a, .int i] ∧ SqL K H a (ns.map V.int) ∧ 0 ≤ i ∧ i < 1000 ∧ ns.length ≤ 63 ∧ ∀ l u v, H l = none → Q (.ref l) (upd H l (.lst [.int u, .int v]))
def dNewS (i j : Nat) (de : DE) : DS := fun DD Δ => ∃ ns, Δ[j]? = some (some (.scr ns)) ∧ ns.length ≤ 63 ∧ de (hide Δ) fun x => ∃ m, x = .int m ∧ 0 ≤ m ∧ m < 1000 ∧ DD.nx (Δ.set i (some .src))
theorem En.addS {K : PySem.W.Frag} {C : Cz} {S : List Addr} {B H : Hp} {σ : L2.St} {Δ : DSt} {i : Nat} {l : Addr} {u v : Int} (en : En K C S B H σ Δ) (n : H l = none) :
    En K C (l :: S) B (upd H l (.lst [.int u, .int v])) (σ.set i (some (.ref l))) (Δ.set i (some .src)) := by
  have nl : l ∉ S := fun z => (en.tw l z).1.some n
  have nC : C.H l = none := en.st.fresh n
  have sN : Step S B H B (upd H l (.lst [.int u, .int v])) := .newU en.same en.tw n
  have e1 := en.step sN
  have e2 : En K C (l :: S) B (upd H l (.lst [.int u, .int v])) σ Δ := by
    refine ⟨e1.st, fun a ha => List.mem_cons_of_mem _ (e1.sub a ha), fun a ha => ?_, fun a ha => ?_, e1.len, fun i w h => ?_, e1.ne⟩
    · rcases List.mem_cons.mp ha with rfl | ha
      · exact ⟨⟨u, v, upd_same⟩, en.same.free n⟩
      · exact e1.tw a ha
    · rcases List.mem_cons.mp ha with rfl | ha
      · exact .inr nC
      · exact e1.nw a ha
    · obtain ⟨x, h1, h2⟩ := en.vr i w h
      refine ⟨x, h1, ?_⟩
      have h3 := h2.step sN
      cases w with
      | d y => exact h3
      | src => obtain ⟨a, h4, h5⟩ := h3; exact ⟨a, List.mem_cons_of_mem _ h4, h5⟩
      | any => exact h3
      | scr ns =>
        obtain ⟨a, h4, ⟨h5, h6, h7⟩ | h5⟩ := h3
        · refine ⟨a, h4, .inl ⟨h5, h6, fun z => ?_⟩⟩
          rcases List.mem_cons.mp z with rfl | z
          · rcases h5 with h5 | ⟨o, h5⟩
            · have h5' : C.H a = some _ := h5
              rw [nC] at h5'; cases h5'
            · have h5' : C.H a = some _ := h5
              rw [nC] at h5'; cases h5'
          · exact h7 z
        · exact ⟨a, h4, .inr h5⟩
      | own ds =>
        obtain ⟨a, xs, h4, h5, h6, h7, h8, h9⟩ := h2
        have na : a ≠ l := ne_of_none h5 n
        exact ⟨a, xs, h4, by rw [upd_ne na]; exact h5, h6, h7, fun z => (List.mem_cons.mp z).elim na h8, h9⟩
      | obj c dx fs =>
        obtain ⟨a, xs, h4, h5, h6, h7, h8, h9⟩ := h2
        have na : a ≠ l := ne_of_none h5 n
        exact ⟨a, xs, h4, by rw [upd_ne na]; exact h5, h6, h7, fun z => (List.mem_cons.mp z).elim na h8, h9⟩
  exact e2.put (en := .src) ⟨l, List.mem_cons_self, rfl⟩ fun _ z => nomatch z
theorem En.scr {K : PySem.W.Frag} {C : Cz} {S : List Addr} {B H : Hp} {σ : L2.St} {Δ : DSt} {j : Nat} {ns : List Int} (en : En K C S B H σ Δ) (h : Δ[j]? = some (some (.scr ns))) : ∃ a, σ[j]? = some (some (.ref a)) ∧ ∀ B' H', Step S B H B' H' → SqL K H' a (ns.map V.int) := by
  obtain ⟨v, h1, a, rfl, h2⟩ := en.vr j _ h
  refine ⟨a, h1, fun B' H' s => ?_⟩
  have en' := en.step s
  rcases h2 with ⟨h2, h3, h4⟩ | h2
  · rcases h2 with h2 | ⟨o, h2⟩
    · exact .inl (.inl (en'.st.kp _ _ h3 h2))
    · exact .inl (.inr ⟨o, en'.st.kp _ _ h3 h2⟩)
  · exact h2 H'
theorem xs_newS (i j : Nat) {y z x : Str} {py pz px pos p : Pos} {e : Expr} {de : DE} {k m : Nat} (c : C8.Cal X.prog X.w X.K X.mg X.base k x (spSrc X.K) []) (hr : Room m X.A) (hk : k ≤ m) (hg : Gl X x) (he : XE X e de) (hN : X.N.Nodup) (hx : Loc X.env.scope y) (hi : X.N[i]? = some y := by rfl) (hj : X.N[j]? = some z := by rfl)
    (hv : Vis X.env.scope z := by first | exact Or.inl rfl | exact Or.inr (Or.inl rfl) | exact Or.inr (Or.inr rfl)) (hd : (z == ("__debug__" : Str)) = false := by decide) (hcd : (z == ("__classdict__" : Str)) = false := by decide) (hdb : (x == ("__debug__" : Str)) = false := by decide)
    (h1 : starEach (.Name z pz :: [e]) X.env = (false, eval (.Name z pz) X.env) :: starEach [e] X.env := by rfl) (h2 : starEach [e] X.env = (false, eval e X.env) :: starEach [] X.env := by rfl) (hpl : (backTo p (starEach [e] X.env)).any (·.1) = false := by rfl)
    (hs : swapsWith (.Call (.Name x px) [.Name z pz, e] [] p) (some (.Name y py)) pos.line X.env = pure false := by rfl) (hf : X.fn y = true ∨ X.env.scope.names.lookup y = some .local := by first | exact .inl rfl | exact .inr rfl | assumption) :
    XS X Er (.Assign [.Name y py] (.Call (.Name x px) [.Name z pz, e] [] p) pos) (dNewS i j de) := by
  obtain ⟨t, q, l⟩ := he
  refine ⟨_, ps_set hN hi hx (C8.pe_c c hr hk hg (pa_cons (pe_var hj hv hd hcd) (pa_cons q pa_nil h2) h1) hdb h1 hpl) hs hf, fun C S B H σ Δ D DD en w kk => ?_⟩
  obtain ⟨ns, e1, hl, w⟩ := w
  obtain ⟨a, e2, e3⟩ := en.scr e1
  refine ⟨_, e2, l C S _ H σ _ _ _ en.hide w fun v H1 B1 y s1 r1 q1 => ?_⟩
  obtain ⟨m, rfl, h0, h3, q1⟩ := q1
  cases r1
  refine ⟨a, ns, m, rfl, e3 _ _ s1, h0, h3, hl, fun b u v hb => ?_⟩
  exact kk.nx _ _ _ _ _ s1.bb ((en.step s1).addS hb) q1
end
end Ly
set_option Elab.async false
set_option linter.all false
set_option maxRecDepth 100000
namespace Ly
open PySem PySem.Spec PyProof.Rows L2
section
variable {X : Cx} {tg a : Expr} {da : DE}
/-- over a list or a tuple -/
def diLT (da : DE) : DA := fun Δ Q => diL da Δ Q ∨ diT da Δ Q
theorem xi_seq (ha : XE X a da) : XI X tg a (diLT da) := by
  obtain ⟨t1, p1, l1⟩ := xi_list (tg := tg) ha
  obtain ⟨t2, p2, l2⟩ := xi_tup (tg := tg) ha
  refine ⟨fun σ H R => t1 σ H R ∨ t2 σ H R, ⟨fun pins s σ H R I h => ?_⟩, fun C S B H σ Δ Q R en q k => ?_⟩
  · rcases h with h | h
    · exact p1.run pins s σ H R I h
    · exact p2.run pins s σ H R I h
  · rcases q with q | q
    · exact .inl (l1 C S B H σ Δ Q R en q k)
    · exact .inr (l2 C S B H σ Δ Q R en q k)
end
end Ly
set_option Elab.async false
set_option linter.all false
set_option maxRecDepth 100000
set_option maxHeartbeats 4000000
namespace K82
open PySem PySem.Spec PyProof.Rows L2 Ly
theorem sc_mask_of : FnScope ["indexes", "mask", "index"] ["indexes"] (defScope s_mask_of) := ⟨rfl, rfl, rfl, by decide +kernel, rfl, by decide +kernel, by decide +kernel⟩
def rd_mask_of : DS :=
  (dSeq (dSet 1 (dC (.int 0)))
  (dSeq (dFor (diT (dVar 0)) (dgN 2)
    (dAug 1 Builtin.bitOr (dOp shlD (dC (.int 1)) (dVar 2))))
  (dRet (dVar 1))))

theorem sc_split_words : FnScope ["line"] ["line"] (defScope s_split_words) := ⟨rfl, rfl, rfl, by decide +kernel, rfl, by decide +kernel, by decide +kernel⟩
def rd_split_words : DS :=
  (dRet (dFzL (dSplit (dVar 0) (dC (.str " ")))))

theorem sc_written : FnScope ["bound"] ["bound"] (defScope s_written) := ⟨rfl, rfl, rfl, by decide +kernel, rfl, by decide +kernel, by decide +kernel⟩
def rd_written : DS :=
  (dSeq (dIfS (dTst (dOp isND (dVar 0) (dC .none)))
    (dRet (dC (.str "any")))
    dNext)
  (dRet (dCB toStrD (dCons (dVar 0) dNil))))

theorem sc_read_count : FnScope ["word", "sign"] ["word"] (defScope s_read_count) := ⟨rfl, rfl, rfl, by decide +kernel, rfl, by decide +kernel, by decide +kernel⟩
def rd_read_count : DS :=
  (dSeq (dIfS (dOr (dTst (dOp eqD (dVar 0) (dC (.str "")))) (dTst (dOp gtD (dCB lenD (dCons (dVar 0) dNil)) (dC (.int 12)))))
    (dRet (dC .none))
    dNext)
  (dSeq (dFor (diS (dVar 0)) (dgN 1)
    (dIfS (dTst (dOp ninD (dVar 1) (dC (.str "0123456789"))))
    (dRet (dC .none))
    dNext))
  (dSeq (dIfS (dAnd (dTst (dOp gtD (dCB lenD (dCons (dVar 0) dNil)) (dC (.int 1)))) (dTst (dOp eqD (dOp ixD (dVar 0) (dC (.int 0))) (dC (.str "0")))))
    (dRet (dC .none))
    dNext)
  (dRet (dCB toIntD (dCons (dVar 0) dNil))))))

theorem sc_read_number : FnScope ["word", "count"] ["word"] (defScope s_read_number) := ⟨rfl, rfl, rfl, by decide +kernel, rfl, by decide +kernel, by decide +kernel⟩
def rd_read_number (F_read_count : FD) : DS :=
  (dSeq (dIfS (dTst (dOp neD (dSl (dVar 0) dNoPart (dPart (dC (.int 1)))) (dC (.str "-"))))
    (dRet (dCall 1 F_read_count (dCons (dVar 0) dNil)))
    dNext)
  (dSeq (dSet 1 (dCall 1 F_read_count (dCons (dSl (dVar 0) (dPart (dC (.int 1))) dNoPart) dNil)))
  (dSeq (dIfS (dOr (dTst (dOp isND (dVar 1) (dC .none))) (dTst (dOp eqD (dVar 1) (dC (.int 0)))))
    (dRet (dC .none))
    dNext)
  (dRet (dNeg (dVar 1))))))

theorem sc_read_bound : FnScope ["word", "number"] ["word"] (defScope s_read_bound) := ⟨rfl, rfl, rfl, by decide +kernel, rfl, by decide +kernel, by decide +kernel⟩
def rd_read_bound (F_read_number : FD) : DS :=
  (dSeq (dIfS (dTst (dOp eqD (dVar 0) (dC (.str "any"))))
    (dRet (dTup (dCons (dC .none) dNil)))
    dNext)
  (dSeq (dSet 1 (dCall 1 F_read_number (dCons (dVar 0) dNil)))
  (dSeq (dIfS (dTst (dOp isND (dVar 1) (dC .none)))
    (dRet (dTup dNil))
    dNext)
  (dRet (dTup (dCons (dVar 1) dNil))))))

theorem sc_read_lot : FnScope ["word", "numbers", "figures", "number"] ["word"] (defScope s_read_lot) := ⟨rfl, rfl, rfl, by decide +kernel, rfl, by decide +kernel, by decide +kernel⟩
def rd_read_lot (F_read_count : FD) : DS :=
  (dSeq (dIfS (dTst (dOp eqD (dVar 0) (dC (.str "-"))))
    (dRet (dTup dNil))
    dNext)
  (dSeq (dNew 1 (dLst dNil))
  (dSeq (dFor (diL (dFzL (dSplit (dVar 0) (dC (.str ","))))) (dgN 2)
    (dSeq (dSet 3 (dCall 1 F_read_count (dCons (dVar 2) dNil)))
  (dSeq (dIfS (dOr (dTst (dOp isND (dVar 3) (dC .none))) (dAnd (dTst (dOp gtD (dCB lenD (dCons (dVar 1) dNil)) (dC (.int 0)))) (dTst (dOp geD (dOp ixD (dVar 1) (dNeg (dC (.int 1)))) (dVar 3)))))
    (dRet (dC .none))
    dNext)
  (dApp 1 (dVar 3)))))
  (dRet (dCB toTupD (dCons (dVar 1) dNil))))))

theorem sc_read_lots : FnScope ["word", "lots", "part", "lot"] ["word"] (defScope s_read_lots) := ⟨rfl, rfl, rfl, by decide +kernel, rfl, by decide +kernel, by decide +kernel⟩
def rd_read_lots (F_read_lot : FD) : DS :=
  (dSeq (dIfS (dTst (dOp eqD (dVar 0) (dC (.str "none"))))
    (dRet (dTup dNil))
    dNext)
  (dSeq (dNew 1 (dLst dNil))
  (dSeq (dFor (diL (dFzL (dSplit (dVar 0) (dC (.str "/"))))) (dgN 2)
    (dSeq (dSet 3 (dCall 1 F_read_lot (dCons (dVar 2) dNil)))
  (dSeq (dIfS (dOr (dTst (dOp isND (dVar 3) (dC .none))) (dAnd (dTst (dOp gtD (dCB lenD (dCons (dVar 1) dNil)) (dC (.int 0)))) (dTst (dOp geTD (dOp ixD (dVar 1) (dNeg (dC (.int 1)))) (dVar 3)))))
    (dRet (dC .none))
    dNext)
  (dApp 1 (dVar 3)))))
  (dRet (dCB toTupD (dCons (dVar 1) dNil))))))

theorem sc_read_part : FnScope ["words", "start", "deep", "word", "number", "lots", "first", "second"] ["words", "start", "deep"] (defScope s_read_part) := ⟨rfl, rfl, rfl, by decide +kernel, rfl, by decide +kernel, by decide +kernel⟩
def rd_read_part (F_read_count : FD) (F_read_lots : FD) (F_read_part : FD) : DS :=
  (dSeq (dIfS (dTst (dOp geD (dOp addD (dVar 1) (dC (.int 1))) (dCB lenD (dCons (dVar 0) dNil))))
    (dRet (dC .none))
    dNext)
  (dSeq (dSet 3 (dOp ixD (dVar 0) (dVar 1)))
  (dSeq (dIfS (dTst (dOp inD (dVar 3) (dTup (dCons (dC (.str "most")) (dCons (dC (.str "within")) dNil)))))
    (dSeq (dSet 4 (dCall 1 F_read_count (dCons (dOp ixD (dVar 0) (dOp addD (dVar 1) (dC (.int 1)))) dNil)))
  (dRet (dIfE (dTst (dOp isND (dVar 4) (dC .none))) (dC .none) (dTup (dCons (dTup (dCons (dVar 3) (dCons (dVar 4) dNil))) (dCons (dOp addD (dVar 1) (dC (.int 2))) dNil))))))
    dNext)
  (dSeq (dIfS (dTst (dOp eqD (dVar 3) (dC (.str "lots"))))
    (dSeq (dSet 5 (dCall 1 F_read_lots (dCons (dOp ixD (dVar 0) (dOp addD (dVar 1) (dC (.int 1)))) dNil)))
  (dRet (dIfE (dTst (dOp isND (dVar 5) (dC .none))) (dC .none) (dTup (dCons (dTup (dCons (dVar 3) (dCons (dVar 5) dNil))) (dCons (dOp addD (dVar 1) (dC (.int 2))) dNil))))))
    dNext)
  (dSeq (dIfS (dOr (dTst (dOp ninD (dVar 3) (dTup (dCons (dC (.str "both")) (dCons (dC (.str "either")) dNil))))) (dTst (dOp eqD (dVar 2) (dC (.int 0)))))
    (dRet (dC .none))
    dNext)
  (dSeq (dSet 6 (dCall 3 F_read_part (dCons (dVar 0) (dCons (dOp addD (dVar 1) (dC (.int 1))) (dCons (dOp subD (dVar 2) (dC (.int 1))) dNil)))))
  (dSeq (dIfS (dTst (dOp isND (dVar 6) (dC .none)))
    (dRet (dC .none))
    dNext)
  (dSeq (dSet 7 (dCall 3 F_read_part (dCons (dVar 0) (dCons (dOp ixD (dVar 6) (dC (.int 1))) (dCons (dOp subD (dVar 2) (dC (.int 1))) dNil)))))
  (dSeq (dIfS (dTst (dOp isND (dVar 7) (dC .none)))
    (dRet (dC .none))
    dNext)
  (dRet (dTup (dCons (dTup (dCons (dVar 3) (dCons (dOp ixD (dVar 6) (dC (.int 0))) (dCons (dOp ixD (dVar 7) (dC (.int 0))) dNil)))) (dCons (dOp ixD (dVar 7) (dC (.int 1))) dNil)))))))))))))

theorem sc_read_doubt : FnScope ["words", "found"] ["words"] (defScope s_read_doubt) := ⟨rfl, rfl, rfl, by decide +kernel, rfl, by decide +kernel, by decide +kernel⟩
def rd_read_doubt (F_read_part : FD) : DS :=
  (dSeq (dSet 1 (dCall 3 F_read_part (dCons (dVar 0) (dCons (dC (.int 0)) (dCons (dC (.int 3)) dNil)))))
  (dSeq (dIfS (dOr (dTst (dOp isND (dVar 1) (dC .none))) (dTst (dOp neD (dOp ixD (dVar 1) (dC (.int 1))) (dCB lenD (dCons (dVar 0) dNil)))))
    (dRet (dC .none))
    dNext)
  (dRet (dOp ixD (dVar 1) (dC (.int 0))))))

theorem sc_format_deed : FnScope ["deed"] ["deed"] (defScope s_format_deed) := ⟨rfl, rfl, rfl, by decide +kernel, rfl, by decide +kernel, by decide +kernel⟩
def rd_format_deed (F_written : FD) : DS :=
  (dSeq (dIfS (dTst (dOp eqD (dOp ixD (dVar 0) (dC (.int 0))) (dC (.str "tell"))))
    (dRet (dJd [(dC (.str "tell ")), (dFmt (dOp ixD (dVar 0) (dC (.int 1)))), (dC (.str " ")), (dFmt (dOp ixD (dVar 0) (dC (.int 2)))), (dC (.str " ")), (dFmt (dCall 1 F_written (dCons (dOp ixD (dVar 0) (dC (.int 3))) dNil))), (dC (.str " ")), (dFmt (dCall 1 F_written (dCons (dOp ixD (dVar 0) (dC (.int 4))) dNil))), (dC (.str " weight ")), (dFmt (dOp ixD (dVar 0) (dC (.int 5))))]))
    dNext)
  (dSeq (dIfS (dTst (dOp eqD (dOp ixD (dVar 0) (dC (.int 0))) (dC (.str "recount"))))
    (dRet (dJd [(dC (.str "recount ")), (dFmt (dOp ixD (dVar 0) (dC (.int 1)))), (dC (.str " ")), (dFmt (dOp ixD (dVar 0) (dC (.int 2)))), (dC (.str " ")), (dFmt (dOp ixD (dVar 0) (dC (.int 3))))]))
    dNext)
  (dSeq (dIfS (dTst (dOp eqD (dOp ixD (dVar 0) (dC (.int 0))) (dC (.str "correct"))))
    (dRet (dJd [(dC (.str "correct ")), (dFmt (dOp ixD (dVar 0) (dC (.int 1)))), (dC (.str " ")), (dFmt (dCall 1 F_written (dCons (dOp ixD (dVar 0) (dC (.int 2))) dNil))), (dC (.str " ")), (dFmt (dCall 1 F_written (dCons (dOp ixD (dVar 0) (dC (.int 3))) dNil)))]))
    dNext)
  (dRet (dJd [(dFmt (dOp ixD (dVar 0) (dC (.int 0)))), (dC (.str " ")), (dFmt (dOp ixD (dVar 0) (dC (.int 1))))])))))

theorem sc_format_deeds : FnScope ["deeds", "deed"] ["deeds"] (defScope s_format_deeds) := ⟨rfl, rfl, rfl, by decide +kernel, rfl, by decide +kernel, by decide +kernel⟩
def rd_format_deeds (F_format_deed : FD) : DS :=
  (dRet (dJoin (dC (.str "\n")) (dFzL (dLc 1 (diLT (dVar 0)) dYes (dCall 1 F_format_deed (dCons (dVar 1) dNil))))))

theorem sc_read_tell : FnScope ["words", "first", "second", "mass", "low", "high"] ["words"] (defScope s_read_tell) := ⟨rfl, rfl, rfl, by decide +kernel, rfl, by decide +kernel, by decide +kernel⟩
def rd_read_tell (F_read_count : FD) (F_read_bound : FD) : DS :=
  (dSeq (dIfS (dOr (dTst (dOp neD (dCB lenD (dCons (dVar 0) dNil)) (dC (.int 7)))) (dTst (dOp neD (dOp ixD (dVar 0) (dC (.int 5))) (dC (.str "weight")))))
    (dRet (dC .none))
    dNext)
  (dSeq (dPar3 1 2 3 (dCons (dCall 1 F_read_count (dCons (dOp ixD (dVar 0) (dC (.int 1))) dNil)) (dCons (dCall 1 F_read_count (dCons (dOp ixD (dVar 0) (dC (.int 2))) dNil)) (dCons (dCall 1 F_read_count (dCons (dOp ixD (dVar 0) (dC (.int 6))) dNil)) dNil))))
  (dSeq (dPar 4 5 (dCons (dCall 1 F_read_bound (dCons (dOp ixD (dVar 0) (dC (.int 3))) dNil)) (dCons (dCall 1 F_read_bound (dCons (dOp ixD (dVar 0) (dC (.int 4))) dNil)) dNil)))
  (dSeq (dIfS (dOr (dTst (dOp isND (dVar 1) (dC .none))) (dOr (dTst (dOp isND (dVar 2) (dC .none))) (dOr (dTst (dOp isND (dVar 3) (dC .none))) (dOr (dTst (dOp eqD (dVar 4) (dTup dNil))) (dTst (dOp eqD (dVar 5) (dTup dNil)))))))
    (dRet (dC .none))
    dNext)
  (dRet (dTup (dCons (dC (.str "tell")) (dCons (dVar 1) (dCons (dVar 2) (dCons (dOp ixD (dVar 4) (dC (.int 0))) (dCons (dOp ixD (dVar 5) (dC (.int 0))) (dCons (dVar 3) dNil))))))))))))

theorem sc_read_recount : FnScope ["words", "first", "second", "value"] ["words"] (defScope s_read_recount) := ⟨rfl, rfl, rfl, by decide +kernel, rfl, by decide +kernel, by decide +kernel⟩
def rd_read_recount (F_read_number : FD) (F_read_count : FD) : DS :=
  (dSeq (dIfS (dTst (dOp neD (dCB lenD (dCons (dVar 0) dNil)) (dC (.int 4))))
    (dRet (dC .none))
    dNext)
  (dSeq (dPar3 1 2 3 (dCons (dCall 1 F_read_count (dCons (dOp ixD (dVar 0) (dC (.int 1))) dNil)) (dCons (dCall 1 F_read_count (dCons (dOp ixD (dVar 0) (dC (.int 2))) dNil)) (dCons (dCall 1 F_read_number (dCons (dOp ixD (dVar 0) (dC (.int 3))) dNil)) dNil))))
  (dSeq (dIfS (dOr (dTst (dOp isND (dVar 1) (dC .none))) (dOr (dTst (dOp isND (dVar 2) (dC .none))) (dTst (dOp isND (dVar 3) (dC .none)))))
    (dRet (dC .none))
    dNext)
  (dRet (dTup (dCons (dC (.str "recount")) (dCons (dVar 1) (dCons (dVar 2) (dCons (dVar 3) dNil)))))))))

theorem sc_read_correct : FnScope ["words", "number", "low", "high"] ["words"] (defScope s_read_correct) := ⟨rfl, rfl, rfl, by decide +kernel, rfl, by decide +kernel, by decide +kernel⟩
def rd_read_correct (F_read_bound : FD) (F_read_count : FD) : DS :=
  (dSeq (dIfS (dTst (dOp neD (dCB lenD (dCons (dVar 0) dNil)) (dC (.int 4))))
    (dRet (dC .none))
    dNext)
  (dSeq (dPar3 1 2 3 (dCons (dCall 1 F_read_count (dCons (dOp ixD (dVar 0) (dC (.int 1))) dNil)) (dCons (dCall 1 F_read_bound (dCons (dOp ixD (dVar 0) (dC (.int 2))) dNil)) (dCons (dCall 1 F_read_bound (dCons (dOp ixD (dVar 0) (dC (.int 3))) dNil)) dNil))))
  (dSeq (dIfS (dOr (dTst (dOp isND (dVar 1) (dC .none))) (dOr (dTst (dOp eqD (dVar 2) (dTup dNil))) (dTst (dOp eqD (dVar 3) (dTup dNil)))))
    (dRet (dC .none))
    dNext)
  (dRet (dTup (dCons (dC (.str "correct")) (dCons (dVar 1) (dCons (dOp ixD (dVar 2) (dC (.int 0))) (dCons (dOp ixD (dVar 3) (dC (.int 0))) dNil)))))))))

theorem sc_read_withdraw : FnScope ["words", "number"] ["words"] (defScope s_read_withdraw) := ⟨rfl, rfl, rfl, by decide +kernel, rfl, by decide +kernel, by decide +kernel⟩
def rd_read_withdraw (F_read_count : FD) : DS :=
  (dSeq (dIfS (dTst (dOp neD (dCB lenD (dCons (dVar 0) dNil)) (dC (.int 2))))
    (dRet (dC .none))
    dNext)
  (dSeq (dSet 1 (dCall 1 F_read_count (dCons (dOp ixD (dVar 0) (dC (.int 1))) dNil)))
  (dSeq (dIfS (dTst (dOp isND (dVar 1) (dC .none)))
    (dRet (dC .none))
    dNext)
  (dRet (dTup (dCons (dC (.str "withdraw")) (dCons (dVar 1) dNil)))))))

theorem sc_read_deed : FnScope ["line", "words"] ["line"] (defScope s_read_deed) := ⟨rfl, rfl, rfl, by decide +kernel, rfl, by decide +kernel, by decide +kernel⟩
def rd_read_deed (F_split_words : FD) (F_read_tell : FD) (F_read_recount : FD) (F_read_correct : FD) (F_read_withdraw : FD) (F_read_doubt_deed : FD) : DS :=
  (dSeq (dSet 1 (dCall 1 F_split_words (dCons (dVar 0) dNil)))
  (dSeq (dIfS (dTst (dOp eqD (dOp ixD (dVar 1) (dC (.int 0))) (dC (.str "tell"))))
    (dRet (dCall 1 F_read_tell (dCons (dVar 1) dNil)))
    dNext)
  (dSeq (dIfS (dTst (dOp eqD (dOp ixD (dVar 1) (dC (.int 0))) (dC (.str "recount"))))
    (dRet (dCall 1 F_read_recount (dCons (dVar 1) dNil)))
    dNext)
  (dSeq (dIfS (dTst (dOp eqD (dOp ixD (dVar 1) (dC (.int 0))) (dC (.str "correct"))))
    (dRet (dCall 1 F_read_correct (dCons (dVar 1) dNil)))
    dNext)
  (dSeq (dIfS (dTst (dOp eqD (dOp ixD (dVar 1) (dC (.int 0))) (dC (.str "withdraw"))))
    (dRet (dCall 1 F_read_withdraw (dCons (dVar 1) dNil)))
    dNext)
  (dSeq (dIfS (dTst (dOp eqD (dOp ixD (dVar 1) (dC (.int 0))) (dC (.str "doubt"))))
    (dRet (dCall 1 F_read_doubt_deed (dCons (dSl (dVar 0) (dPart (dC (.int 6))) dNoPart) dNil)))
    dNext)
  (dRet (dC .none))))))))

theorem sc_law_group : FnScope ["_law_source_here", "_law_count", "_law_group_here", "_law_index"] ["_law_source_here", "_law_count"] (defScope s_law_group) := ⟨rfl, rfl, rfl, by decide +kernel, rfl, by decide +kernel, by decide +kernel⟩
def rd_law_group (F_law_draw : FD) : DS :=
  (dSeq (dNew 2 (dLst dNil))
  (dSeq (dFor (diR1 (dCons (dVar 1) dNil)) (dgN 3)
    (dIfS (dTst (dOp eqD (dCallS 0 2 F_law_draw (dCons (dC (.int 2)) dNil)) (dC (.int 1))))
    (dApp 2 (dVar 3))
    dNext))
  (dRet (dVar 2))))

theorem sc_law_plan : FnScope ["_law_source_here", "_law_count", "_law_deep", "_law_kind", "_law_first", "_law_second", "_law_index"] ["_law_source_here", "_law_count", "_law_deep"] (defScope s_law_plan) := ⟨rfl, rfl, rfl, by decide +kernel, rfl, by decide +kernel, by decide +kernel⟩
def rd_law_plan (F_law_draw : FD) (F_law_group : FD) (F_law_plan : FD) : DS :=
  (dSeq (dSet 3 (dCallS 0 2 F_law_draw (dCons (dOp addD (dC (.int 3)) (dOp mulD (dC (.int 2)) (dCB minD (dCons (dVar 2) (dCons (dC (.int 1)) dNil))))) dNil)))
  (dSeq (dIfS (dTst (dOp eqD (dVar 3) (dC (.int 0))))
    (dRet (dTup (dCons (dC (.str "most")) (dCons (dCallS 0 2 F_law_draw (dCons (dOp addD (dVar 1) (dC (.int 2))) dNil)) dNil))))
    dNext)
  (dSeq (dIfS (dTst (dOp eqD (dVar 3) (dC (.int 1))))
    (dRet (dTup (dCons (dC (.str "within")) (dCons (dCallS 0 2 F_law_draw (dCons (dOp addD (dOp mulD (dC (.int 2)) (dVar 1)) (dC (.int 2))) dNil)) dNil))))
    dNext)
  (dSeq (dIfS (dTst (dOp eqD (dVar 3) (dC (.int 2))))
    (dRet (dTup (dCons (dC (.str "lots")) (dCons (dFzL (dLc 6 (diR1 (dCons (dCallS 0 2 F_law_draw (dCons (dC (.int 4)) dNil)) dNil)) dYes (dCallS 0 2 F_law_group (dCons (dVar 1) dNil)))) dNil))))
    dNext)
  (dSeq (dSet 4 (dCallS 0 3 F_law_plan (dCons (dVar 1) (dCons (dOp subD (dVar 2) (dC (.int 1))) dNil))))
  (dSeq (dSet 5 (dCallS 0 3 F_law_plan (dCons (dVar 1) (dCons (dOp subD (dVar 2) (dC (.int 1))) dNil))))
  (dSeq (dIfS (dTst (dOp eqD (dVar 3) (dC (.int 3))))
    (dRet (dTup (dCons (dC (.str "both")) (dCons (dVar 4) (dCons (dVar 5) dNil)))))
    dNext)
  (dRet (dTup (dCons (dC (.str "either")) (dCons (dVar 4) (dCons (dVar 5) dNil))))))))))))

theorem sc_law_whole : FnScope ["_law_actual"] ["_law_actual"] (defScope s_law_whole) := ⟨rfl, rfl, rfl, by decide +kernel, rfl, by decide +kernel, by decide +kernel⟩
def rd_law_whole : DS :=
  (dRet (dAndV (dIs "int" (dVar 0)) (dNotV (dIs "bool" (dVar 0)))))

theorem sc_law_lots_once : FnScope ["_law_lots", "_law_kept", "_law_lot"] ["_law_lots"] (defScope s_law_lots_once) := ⟨rfl, rfl, rfl, by decide +kernel, rfl, by decide +kernel, by decide +kernel⟩
def rd_law_lots_once : DS :=
  (dSeq (dNew 1 (dLst dNil))
  (dSeq (dFor (diL (dCB sortD (dCons (dVar 0) dNil))) (dgN 2)
    (dIfS (dTst (dOp ninD (dVar 2) (dVar 1)))
    (dApp 1 (dVar 2))
    dNext))
  (dRet (dVar 1))))

theorem sc_law_doubt_text : FnScope ["_law_plan_here", "_law_lots", "_law_lot", "_law_number_here"] ["_law_plan_here"] (defScope s_law_doubt_text) := ⟨rfl, rfl, rfl, by decide +kernel, rfl, by decide +kernel, by decide +kernel⟩
def rd_law_doubt_text (F_law_lots_once : FD) (F_law_doubt_text : FD) : DS :=
  (dSeq (dIfS (dOr (dTst (dOp eqD (dOp ixD (dVar 0) (dC (.int 0))) (dC (.str "most")))) (dTst (dOp eqD (dOp ixD (dVar 0) (dC (.int 0))) (dC (.str "within")))))
    (dRet (dOp addD (dOp addD (dOp ixD (dVar 0) (dC (.int 0))) (dC (.str " "))) (dCB toStrD (dCons (dOp ixD (dVar 0) (dC (.int 1))) dNil))))
    dNext)
  (dSeq (dIfS (dAnd (dTst (dOp eqD (dOp ixD (dVar 0) (dC (.int 0))) (dC (.str "lots")))) (dTst (dOp eqD (dCB lenD (dCons (dOp ixD (dVar 0) (dC (.int 1))) dNil)) (dC (.int 0)))))
    (dRet (dC (.str "lots none")))
    dNext)
  (dSeq (dIfS (dTst (dOp eqD (dOp ixD (dVar 0) (dC (.int 0))) (dC (.str "lots"))))
    (dSeq (dSetL 1 (dLc 2 (diL (dCall 1 F_law_lots_once (dCons (dOp ixD (dVar 0) (dC (.int 1))) dNil))) dYes (dOrT (dJoin (dC (.str ",")) (dFzL (dLc 3 (diL (dVar 2)) dYes (dCB toStrD (dCons (dVar 3) dNil))))) (dC (.str "-")))))
  (dRet (dOp addD (dC (.str "lots ")) (dJoin (dC (.str "/")) (dVar 1)))))
    dNext)
  (dRet (dOp addD (dOp addD (dOp addD (dOp addD (dOp ixD (dVar 0) (dC (.int 0))) (dC (.str " "))) (dCall 1 F_law_doubt_text (dCons (dOp ixD (dVar 0) (dC (.int 1))) dNil))) (dC (.str " "))) (dCall 1 F_law_doubt_text (dCons (dOp ixD (dVar 0) (dC (.int 2))) dNil)))))))

theorem sc_law_chain : FnScope ["_law_source_here", "_law_deep", "_law_plan_here", "_law_turn", "_law_word", "_law_side"] ["_law_source_here", "_law_deep"] (defScope s_law_chain) := ⟨rfl, rfl, rfl, by decide +kernel, rfl, by decide +kernel, by decide +kernel⟩
def rd_law_chain (F_law_draw : FD) : DS :=
  (dSeq (dSet 2 (dTup (dCons (dC (.str "most")) (dCons (dCallS 0 2 F_law_draw (dCons (dC (.int 4)) dNil)) dNil))))
  (dSeq (dFor (diR1 (dCons (dVar 1) dNil)) (dgN 3)
    (dSeq (dSet 4 (dOp ixD (dFzL (dLst (dCons (dC (.str "both")) (dCons (dC (.str "either")) dNil)))) (dCallS 0 2 F_law_draw (dCons (dC (.int 2)) dNil))))
  (dSeq (dSet 5 (dTup (dCons (dC (.str "within")) (dCons (dCallS 0 2 F_law_draw (dCons (dC (.int 9)) dNil)) dNil))))
  (dSet 2 (dOp ixD (dFzL (dLst (dCons (dTup (dCons (dVar 4) (dCons (dVar 2) (dCons (dVar 5) dNil)))) (dCons (dTup (dCons (dVar 4) (dCons (dVar 5) (dCons (dVar 2) dNil)))) dNil)))) (dCallS 0 2 F_law_draw (dCons (dC (.int 2)) dNil)))))))
  (dRet (dVar 2))))

theorem sc_law_line : FnScope ["_law_deed_here", "_law_words", "_law_part"] ["_law_deed_here"] (defScope s_law_line) := ⟨rfl, rfl, rfl, by decide +kernel, rfl, by decide +kernel, by decide +kernel⟩
def rd_law_line : DS :=
  (dSeq (dNew 1 (dLst dNil))
  (dSeq (dFor (diT (dVar 0)) (dgN 2)
    (dIfS (dTst (dOp isND (dVar 2) (dC .none)))
    (dApp 1 (dC (.str "any")))
    (dApp 1 (dCB toStrD (dCons (dVar 2) dNil)))))
  (dSeq (dIfS (dTst (dOp eqD (dOp ixD (dVar 0) (dC (.int 0))) (dC (.str "tell"))))
    (dSetZ 1 (dOp addD (dOp addD (dSl (dVar 1) dNoPart (dPart (dC (.int 5)))) (dFzL (dLst (dCons (dC (.str "weight")) dNil)))) (dSl (dVar 1) (dPart (dC (.int 5))) dNoPart)))
    dNext)
  (dRet (dJoin (dC (.str " ")) (dVar 1))))))

theorem sc_law_row : FnScope ["_law_told", "_law_due", "_law_place"] ["_law_told", "_law_due"] (defScope s_law_row) := ⟨rfl, rfl, rfl, by decide +kernel, rfl, by decide +kernel, by decide +kernel⟩
def rd_law_row (F_law_whole : FD) : DS :=
  (dSeq (dIfS (dOr (dNot (dTst (dIs "tuple" (dVar 0)))) (dTst (dOp neD (dCB lenD (dCons (dVar 0) dNil)) (dCB lenD (dCons (dVar 1) dNil)))))
    (dRet (dC (.bool false)))
    dNext)
  (dSeq (dFor (diR1 (dCons (dCB lenD (dCons (dVar 1) dNil)) dNil)) (dgN 2)
    (dIfS (dTst (dOp isND (dOp ixD (dVar 1) (dVar 2)) (dC .none)))
    (dIfS (dTst (dOp ntND (dOp ixD (dVar 0) (dVar 2)) (dC .none)))
    (dRet (dC (.bool false)))
    dNext)
    (dIfS (dTst (dIs "str" (dOp ixD (dVar 1) (dVar 2))))
    (dIfS (dOr (dNot (dTst (dIs "str" (dOp ixD (dVar 0) (dVar 2))))) (dTst (dOp neD (dOp ixD (dVar 0) (dVar 2)) (dOp ixD (dVar 1) (dVar 2)))))
    (dRet (dC (.bool false)))
    dNext)
    (dIfS (dOr (dNot (dTst (dCall 1 F_law_whole (dCons (dOp ixD (dVar 0) (dVar 2)) dNil)))) (dTst (dOp neD (dOp ixD (dVar 0) (dVar 2)) (dOp ixD (dVar 1) (dVar 2)))))
    (dRet (dC (.bool false)))
    dNext))))
  (dRet (dC (.bool true)))))

theorem sc_law_number : FnScope ["_law_source_here", "_law_kind"] ["_law_source_here"] (defScope s_law_number) := ⟨rfl, rfl, rfl, by decide +kernel, rfl, by decide +kernel, by decide +kernel⟩
def rd_law_number (F_law_draw : FD) : DS :=
  (dSeq (dSet 1 (dCallS 0 2 F_law_draw (dCons (dC (.int 4)) dNil)))
  (dSeq (dIfS (dTst (dOp eqD (dVar 1) (dC (.int 0))))
    (dRet (dOp addD (dOp mulD (dCallS 0 2 F_law_draw (dCons (dOp powD (dC (.int 10)) (dC (.int 6))) dNil)) (dOp powD (dC (.int 10)) (dC (.int 6)))) (dCallS 0 2 F_law_draw (dCons (dOp powD (dC (.int 10)) (dC (.int 6))) dNil))))
    dNext)
  (dSeq (dIfS (dTst (dOp eqD (dVar 1) (dC (.int 1))))
    (dRet (dOp ixD (dFzL (dLst (dCons (dC (.int 0)) (dCons (dC (.int 9)) (dCons (dC (.int 10)) (dCons (dC (.int 16)) (dCons (dC (.int 39)) (dCons (dC (.int 40)) (dCons (dC (.int 99)) (dCons (dC (.int 100)) (dCons (dOp powD (dC (.int 10)) (dC (.int 9))) (dCons (dOp subD (dOp powD (dC (.int 10)) (dC (.int 12))) (dC (.int 1))) dNil)))))))))))) (dCallS 0 2 F_law_draw (dCons (dC (.int 10)) dNil))))
    dNext)
  (dRet (dCallS 0 2 F_law_draw (dCons (dC (.int 16)) dNil))))))

theorem sc_law_signed : FnScope ["_law_source_here", "_law_number_here"] ["_law_source_here"] (defScope s_law_signed) := ⟨rfl, rfl, rfl, by decide +kernel, rfl, by decide +kernel, by decide +kernel⟩
def rd_law_signed (F_law_number : FD) (F_law_draw : FD) : DS :=
  (dSeq (dSet 1 (dCallS 0 1 F_law_number dNil))
  (dRet (dOp ixD (dFzL (dLst (dCons (dVar 1) (dCons (dOp subD (dC (.int 0)) (dVar 1)) dNil)))) (dCallS 0 2 F_law_draw (dCons (dC (.int 2)) dNil)))))

theorem sc_law_bound : FnScope ["_law_source_here", "_law_number_here"] ["_law_source_here"] (defScope s_law_bound) := ⟨rfl, rfl, rfl, by decide +kernel, rfl, by decide +kernel, by decide +kernel⟩
def rd_law_bound (F_law_signed : FD) (F_law_draw : FD) : DS :=
  (dSeq (dSet 1 (dCallS 0 1 F_law_signed dNil))
  (dRet (dOp ixD (dFzL (dLst (dCons (dVar 1) (dCons (dVar 1) (dCons (dVar 1) (dCons (dC .none) dNil)))))) (dCallS 0 2 F_law_draw (dCons (dC (.int 4)) dNil)))))

theorem sc_law_drawn_doubt : FnScope ["_law_source_here", "_law_kind", "_law_index"] ["_law_source_here"] (defScope s_law_drawn_doubt) := ⟨rfl, rfl, rfl, by decide +kernel, rfl, by decide +kernel, by decide +kernel⟩
def rd_law_drawn_doubt (F_law_draw : FD) (F_law_chain : FD) (F_law_group : FD) (F_law_plan : FD) : DS :=
  (dSeq (dSet 1 (dCallS 0 2 F_law_draw (dCons (dC (.int 8)) dNil)))
  (dSeq (dIfS (dTst (dOp eqD (dVar 1) (dC (.int 0))))
    (dRet (dOp ixD (dFzL (dLst (dCons (dTup (dCons (dC (.str "most")) (dCons (dC (.int 99)) dNil))) (dCons (dTup (dCons (dC (.str "within")) (dCons (dOp powD (dC (.int 10)) (dC (.int 6))) dNil))) (dCons (dTup (dCons (dC (.str "lots")) (dCons (dFzL (dLc 2 (diR1 (dCons (dC (.int 24)) dNil)) dYes (dFzL (dLst (dCons (dVar 2) dNil))))) dNil))) dNil))))) (dCallS 0 2 F_law_draw (dCons (dC (.int 3)) dNil))))
    dNext)
  (dSeq (dIfS (dTst (dOp eqD (dVar 1) (dC (.int 1))))
    (dRet (dCallS 0 2 F_law_chain (dCons (dC (.int 3)) dNil)))
    dNext)
  (dSeq (dIfS (dTst (dOp eqD (dVar 1) (dC (.int 2))))
    (dRet (dTup (dCons (dC (.str "lots")) (dCons (dFzL (dLst (dCons (dCallS 0 2 F_law_group (dCons (dC (.int 40)) dNil)) dNil))) dNil))))
    dNext)
  (dRet (dCallS 0 3 F_law_plan (dCons (dOp ixD (dFzL (dLst (dCons (dC (.int 0)) (dCons (dC (.int 3)) (dCons (dC (.int 6)) (dCons (dC (.int 12)) dNil)))))) (dCallS 0 2 F_law_draw (dCons (dC (.int 4)) dNil))) (dCons (dOp ixD (dFzL (dLst (dCons (dC (.int 0)) (dCons (dC (.int 1)) (dCons (dC (.int 1)) (dCons (dC (.int 2)) dNil)))))) (dCallS 0 2 F_law_draw (dCons (dC (.int 4)) dNil))) dNil))))))))

theorem sc_law_deed : FnScope ["_law_source_here", "_law_plain", "_law_kind", "_law_number_here", "_law_second", "_law_low"] ["_law_source_here", "_law_plain"] (defScope s_law_deed) := ⟨rfl, rfl, rfl, by decide +kernel, rfl, by decide +kernel, by decide +kernel⟩
def rd_law_deed (F_law_draw : FD) (F_law_number : FD) (F_law_bound : FD) (F_law_signed : FD) (F_law_doubt_text : FD) (F_law_chain : FD) (F_law_drawn_doubt : FD) : DS :=
  (dSeq (dSet 2 (dCallS 0 2 F_law_draw (dCons (dC (.int 5)) dNil)))
  (dSeq (dSet 3 (dCallS 0 1 F_law_number dNil))
  (dSeq (dIfS (dTst (dOp eqD (dVar 2) (dC (.int 0))))
    (dSeq (dSet 4 (dCallS 0 1 F_law_number dNil))
  (dSeq (dSet 5 (dCallS 0 1 F_law_bound dNil))
  (dRet (dTup (dCons (dC (.str "tell")) (dCons (dVar 3) (dCons (dVar 4) (dCons (dVar 5) (dCons (dCallS 0 1 F_law_bound dNil) (dCons (dCallS 0 1 F_law_number dNil) dNil))))))))))
    dNext)
  (dSeq (dIfS (dTst (dOp eqD (dVar 2) (dC (.int 1))))
    (dRet (dTup (dCons (dC (.str "recount")) (dCons (dVar 3) (dCons (dCallS 0 1 F_law_number dNil) (dCons (dCallS 0 1 F_law_signed dNil) dNil))))))
    dNext)
  (dSeq (dIfS (dTst (dOp eqD (dVar 2) (dC (.int 2))))
    (dSeq (dSet 5 (dCallS 0 1 F_law_bound dNil))
  (dRet (dTup (dCons (dC (.str "correct")) (dCons (dVar 3) (dCons (dVar 5) (dCons (dCallS 0 1 F_law_bound dNil) dNil)))))))
    dNext)
  (dSeq (dIfS (dTst (dOp eqD (dVar 2) (dC (.int 3))))
    (dRet (dTup (dCons (dC (.str "withdraw")) (dCons (dVar 3) dNil))))
    dNext)
  (dSeq (dIfS (dTst (dVar 1))
    (dRet (dTup (dCons (dC (.str "doubt")) (dCons (dCall 1 F_law_doubt_text (dCons (dCallS 0 2 F_law_chain (dCons (dCallS 0 2 F_law_draw (dCons (dC (.int 2)) dNil)) dNil)) dNil)) dNil))))
    dNext)
  (dRet (dTup (dCons (dC (.str "doubt")) (dCons (dCall 1 F_law_doubt_text (dCons (dCallS 0 1 F_law_drawn_doubt dNil) dNil)) dNil)))))))))))

theorem sc_law_wrong_sign : FnScope ["_law_source_here", "_law_words", "_law_spots", "_law_sign", "_law_spot"] ["_law_source_here", "_law_words"] (defScope s_law_wrong_sign) := ⟨rfl, rfl, rfl, by decide +kernel, rfl, by decide +kernel, by decide +kernel⟩
def rd_law_wrong_sign (F_law_draw : FD) : DS :=
  (dSeq (dSet 2 (dFzL (dLst (dCons (dC (.int 1)) dNil))))
  (dSeq (dSet 3 (dOp ixD (dFzL (dLst (dCons (dC (.str "-1")) (dCons (dC (.str "any")) dNil)))) (dCallS 0 2 F_law_draw (dCons (dC (.int 2)) dNil))))
  (dSeq (dIfS (dTst (dOp eqD (dOp ixD (dVar 1) (dC (.int 0))) (dC (.str "tell"))))
    (dSet 2 (dFzL (dLst (dCons (dC (.int 1)) (dCons (dC (.int 2)) (dCons (dC (.int 6)) dNil))))))
    dNext)
  (dSeq (dIfS (dTst (dOp eqD (dOp ixD (dVar 1) (dC (.int 0))) (dC (.str "recount"))))
    (dSet 2 (dOp ixD (dFzL (dLst (dCons (dFzL (dLst (dCons (dC (.int 1)) (dCons (dC (.int 2)) dNil)))) (dCons (dFzL (dLst (dCons (dC (.int 1)) (dCons (dC (.int 2)) (dCons (dC (.int 3)) dNil))))) dNil)))) (dCB toIntD (dCons (dOp eqD (dVar 3) (dC (.str "any"))) dNil))))
    dNext)
  (dSeq (dIfS (dTst (dOp eqD (dOp ixD (dVar 1) (dC (.int 0))) (dC (.str "doubt"))))
    (dSetL 2 (dLc 4 (diR2 (dCons (dC (.int 2)) (dCons (dCB lenD (dCons (dVar 1) dNil)) dNil))) (dTst (dOp inD (dOp ixD (dVar 1) (dOp subD (dVar 4) (dC (.int 1)))) (dTup (dCons (dC (.str "most")) (dCons (dC (.str "within")) (dCons (dC (.str "lots")) dNil)))))) (dVar 4)))
    dNext)
  (dSeq (dSet 4 (dOp ixD (dVar 2) (dCallS 0 2 F_law_draw (dCons (dCB lenD (dCons (dVar 2) dNil)) dNil))))
  (dRet (dOp addD (dOp addD (dSl (dVar 1) dNoPart (dPart (dVar 4))) (dFzL (dLst (dCons (dVar 3) dNil)))) (dSl (dVar 1) (dPart (dOp addD (dVar 4) (dC (.int 1)))) dNoPart)))))))))

theorem sc_law_bad_line : FnScope ["_law_source_here", "_law_line_here", "_law_words", "_law_place", "_law_word", "_law_bad", "_law_kind"] ["_law_source_here", "_law_line_here"] (defScope s_law_bad_line) := ⟨rfl, rfl, rfl, by decide +kernel, rfl, by decide +kernel, by decide +kernel⟩
def rd_law_bad_line (F_law_draw : FD) (F_law_wrong_sign : FD) : DS :=
  (dSeq (dNew 2 (dSplit (dVar 1) (dC (.str " "))))
  (dSeq (dSetF 3 (dCallS 0 2 F_law_draw (dCons (dCB lenD (dCons (dVar 2) dNil)) dNil)))
  (dSeq (dSetF 4 (dOp ixD (dVar 2) (dVar 3)))
  (dSeq (dSet 5 (dFzL (dLst (dCons (dC (.str "-0")) (dCons (dC (.str "-05")) (dCons (dC (.str "01")) (dCons (dC (.str "1000000000000")) (dCons (dC (.str "-1000000000000")) (dCons (dC (.str "1_0")) (dCons (dC (.str "1.0")) (dCons (dC (.str "1e3")) (dCons (dC (.str "0x1")) (dCons (dC (.str "+5")) (dCons (dC (.str "")) (dCons (dC (.str "--")) (dCons (dC (.str "1,0")) dNil))))))))))))))))
  (dSeq (dSet 5 (dOp addD (dVar 5) (dFzL (dLst (dCons (dOp addD (dC (.str "0")) (dVar 4)) (dCons (dOp addD (dVar 4) (dC (.str "x"))) (dCons (dOp addD (dC (.str "+")) (dVar 4)) (dCons (dOp addD (dVar 4) (dC (.str ","))) (dCons (dOp addD (dOp addD (dC (.str "1")) (dVar 4)) (dC (.str "-"))) dNil)))))))))
  (dSeq (dSet 6 (dCallS 0 2 F_law_draw (dCons (dC (.int 8)) dNil)))
  (dSeq (dIfS (dTst (dOp eqD (dVar 6) (dC (.int 0))))
    (dApp 2 (dOp ixD (dFzL (dLst (dCons (dC (.str "1")) (dCons (dC (.str "")) (dCons (dC (.str "any")) (dCons (dC (.str "most")) dNil)))))) (dCallS 0 2 F_law_draw (dCons (dC (.int 4)) dNil))))
    dNext)
  (dSeq (dIfS (dTst (dOp eqD (dVar 6) (dC (.int 1))))
    (dSetZ 2 (dSl (dVar 2) dNoPart (dPart (dNeg (dC (.int 1))))))
    dNext)
  (dSeq (dIfS (dTst (dOp eqD (dVar 6) (dC (.int 2))))
    (dSetZ 2 (dOp addD (dOp addD (dSl (dVar 2) dNoPart (dPart (dVar 3))) (dFzL (dLst (dCons (dC (.str "")) dNil)))) (dSl (dVar 2) (dPart (dVar 3)) dNoPart)))
    dNext)
  (dSeq (dIfS (dTst (dOp eqD (dVar 6) (dC (.int 3))))
    (dPut 2 (dC (.int 0)) (dOp addD (dUpper (dSl (dOp ixD (dVar 2) (dC (.int 0))) dNoPart (dPart (dC (.int 1))))) (dSl (dOp ixD (dVar 2) (dC (.int 0))) (dPart (dC (.int 1))) dNoPart)))
    dNext)
  (dSeq (dIfS (dTst (dOp eqD (dVar 6) (dC (.int 4))))
    (dSetZ 2 (dCallS 0 2 F_law_wrong_sign (dCons (dVar 2) dNil)))
    dNext)
  (dSeq (dIfS (dTst (dOp eqD (dVar 6) (dC (.int 5))))
    (dPut 2 (dC (.int 0)) (dOp ixD (dFzL (dLst (dCons (dC (.str "undo")) (dCons (dC (.str "claim")) (dCons (dC (.str "rule")) (dCons (dC (.str "nodes")) (dCons (dC (.str "recounts")) (dCons (dC (.str "doubts")) (dCons (dC (.str "tel")) (dCons (dC (.str "set_doubt")) dNil)))))))))) (dCallS 0 2 F_law_draw (dCons (dC (.int 8)) dNil))))
    dNext)
  (dSeq (dIfS (dTst (dOp gtD (dVar 6) (dC (.int 5))))
    (dPut 2 (dVar 3) (dOp ixD (dVar 5) (dCallS 0 2 F_law_draw (dCons (dCB lenD (dCons (dVar 5) dNil)) dNil))))
    dNext)
  (dRet (dJoin (dC (.str " ")) (dVar 2))))))))))))))))

theorem sc_law_strange_line : FnScope ["_law_source_here", "_law_lots", "_law_lines", "_law_index"] ["_law_source_here"] (defScope s_law_strange_line) := ⟨rfl, rfl, rfl, by decide +kernel, rfl, by decide +kernel, by decide +kernel⟩
def rd_law_strange_line (F_law_draw : FD) : DS :=
  (dSeq (dSet 1 (dJoin (dC (.str "/")) (dFzL (dLc 3 (diR2 (dCons (dC (.int 10)) (dCons (dC (.int 35)) dNil))) dYes (dCB toStrD (dCons (dVar 3) dNil))))))
  (dSeq (dSet 2 (dFzL (dLst (dCons (dC (.str "doubt")) (dCons (dC (.str "doubt ")) (dCons (dC (.str "doubt most")) (dCons (dC (.str "doubt lots")) (dCons (dC (.str "doubt most 100")) (dCons (dC (.str "doubt within 1000001")) dNil)))))))))
  (dSeq (dSet 2 (dOp addD (dVar 2) (dFzL (dLst (dCons (dC (.str "doubt lots 40")) (dCons (dOp addD (dC (.str "doubt lots ")) (dVar 1)) (dCons (dC (.str "doubt both most 1 most 100")) (dCons (dC (.str "doubt lots 0,0")) dNil))))))))
  (dSeq (dSet 2 (dOp addD (dVar 2) (dFzL (dLst (dCons (dC (.str "doubt either lots 40 most 1")) (dCons (dC (.str "doubt lots 1/0")) (dCons (dC (.str "doubt lots 0/0")) (dCons (dC (.str "doubt lots -/-")) dNil))))))))
  (dSeq (dSet 2 (dOp addD (dVar 2) (dFzL (dLst (dCons (dC (.str "doubt lots 0/none")) (dCons (dC (.str "doubt most 1 most 1")) (dCons (dC (.str "doubt both most 1")) (dCons (dC (.str "undo")) (dCons (dC (.str "redo")) (dCons (dC (.str "tell")) dNil))))))))))
  (dSeq (dSet 2 (dOp addD (dVar 2) (dFzL (dLst (dCons (dC (.str "withdraw")) (dCons (dC (.str "tell 0 1 0 5 1")) (dCons (dC (.str "tell 0 1 0 5 weight")) (dCons (dC (.str "tell 0 1 0 5 Weight 1")) (dCons (dC (.str "correct 0 5")) dNil)))))))))
  (dSeq (dSet 2 (dOp addD (dVar 2) (dFzL (dLst (dCons (dC (.str "tell 0 1 weight 1")) (dCons (dC (.str "recount 0 1")) (dCons (dC (.str "recount 0 1 2 3")) (dCons (dC (.str "withdraw 0 1")) (dCons (dC (.str "correct 0 1 2 weight 3")) dNil)))))))))
  (dSeq (dSet 2 (dOp addD (dVar 2) (dFzL (dLst (dCons (dC (.str " ")) (dCons (dC (.str "  ")) (dCons (dC (.str "any")) (dCons (dC (.str "-")) (dCons (dC (.str "0")) (dCons (dC (.str "withdraw any")) (dCons (dC (.str "lots none")) (dCons (dC (.str "tell 0 1 0 5 weight any")) (dCons (dC (.str "most 1")) dNil)))))))))))))
  (dSeq (dSet 2 (dOp addD (dVar 2) (dFzL (dLst (dCons (dC (.str "correct any 0 1")) (dCons (dC (.str "recount any 1 0")) (dCons (dC (.str "recount 0 1 any")) dNil)))))))
  (dRet (dOp ixD (dVar 2) (dCallS 0 2 F_law_draw (dCons (dCB lenD (dCons (dVar 2) dNil)) dNil)))))))))))))

theorem sc_law_wrong_line : FnScope ["_law_source_here", "_law_record", "_law_kind"] ["_law_source_here", "_law_record"] (defScope s_law_wrong_line) := ⟨rfl, rfl, rfl, by decide +kernel, rfl, by decide +kernel, by decide +kernel⟩
def rd_law_wrong_line (F_law_draw : FD) (F_law_strange_line : FD) (F_law_doubt_text : FD) (F_law_chain : FD) (F_law_bad_line : FD) : DS :=
  (dSeq (dSet 2 (dCallS 0 2 F_law_draw (dCons (dC (.int 6)) dNil)))
  (dSeq (dIfS (dTst (dOp eqD (dVar 2) (dC (.int 0))))
    (dRet (dCallS 0 1 F_law_strange_line dNil))
    dNext)
  (dSeq (dIfS (dTst (dOp eqD (dVar 2) (dC (.int 1))))
    (dRet (dOp addD (dC (.str "doubt ")) (dCall 1 F_law_doubt_text (dCons (dCallS 0 2 F_law_chain (dCons (dOp addD (dC (.int 4)) (dCallS 0 2 F_law_draw (dCons (dC (.int 2)) dNil))) dNil)) dNil))))
    dNext)
  (dSeq (dIfS (dOr (dTst (dOp eqD (dVar 2) (dC (.int 2)))) (dTst (dOp isND (dOp ixD (dVar 1) (dC (.int 1))) (dC .none))))
    (dRet (dC (.str "")))
    dNext)
  (dRet (dCallS 0 2 F_law_bad_line (dCons (dOp ixD (dVar 1) (dC (.int 0))) dNil)))))))

theorem sc_law_spoilt : FnScope ["_law_source_here", "_law_records", "_law_kind", "_law_place", "_law_near", "_law_wrong"] ["_law_source_here", "_law_records"] (defScope s_law_spoilt) := ⟨rfl, rfl, rfl, by decide +kernel, rfl, by decide +kernel, by decide +kernel⟩
def rd_law_spoilt (F_law_draw : FD) (F_law_wrong_line : FD) : DS :=
  (dSeq (dSet 2 (dCallS 0 2 F_law_draw (dCons (dC (.int 8)) dNil)))
  (dSeq (dSet 3 (dCallS 0 2 F_law_draw (dCons (dOp addD (dCB lenD (dCons (dVar 1) dNil)) (dC (.int 1))) dNil)))
  (dSeq (dSet 4 (dFzL (dLst (dCons (dC (.str "withdraw 0")) (dCons (dTup (dCons (dC (.str "withdraw")) (dCons (dC (.int 0)) dNil))) dNil)))))
  (dSeq (dIfS (dTst (dOp ltD (dVar 3) (dCB lenD (dCons (dVar 1) dNil))))
    (dSet 4 (dOp ixD (dVar 1) (dVar 3)))
    dNext)
  (dSeq (dIfS (dTst (dOp eqD (dVar 2) (dC (.int 0))))
    (dRet (dOp addD (dVar 1) (dFzL (dLst (dCons (dFzL (dLst (dCons (dC (.str "")) (dCons (dC .none) dNil)))) dNil)))))
    dNext)
  (dSeq (dSet 5 (dFzL (dLst (dCons (dCallS 0 2 F_law_wrong_line (dCons (dVar 4) dNil)) (dCons (dC .none) dNil)))))
  (dSeq (dIfS (dTst (dOp ltD (dVar 2) (dC (.int 4))))
    (dRet (dOp addD (dOp addD (dSl (dVar 1) dNoPart (dPart (dVar 3))) (dFzL (dLst (dCons (dVar 5) dNil)))) (dSl (dVar 1) (dPart (dVar 3)) dNoPart)))
    dNext)
  (dRet (dOp addD (dOp addD (dSl (dVar 1) dNoPart (dPart (dVar 3))) (dFzL (dLst (dCons (dVar 5) dNil)))) (dSl (dVar 1) (dPart (dOp addD (dVar 3) (dC (.int 1)))) dNoPart))))))))))

theorem sc_law_text : FnScope ["_law_records", "_law_record"] ["_law_records"] (defScope s_law_text) := ⟨rfl, rfl, rfl, by decide +kernel, rfl, by decide +kernel, by decide +kernel⟩
def rd_law_text : DS :=
  (dRet (dJoin (dC (.str "\n")) (dFzL (dLc 1 (diL (dVar 0)) dYes (dOp ixD (dVar 1) (dC (.int 0)))))))

theorem sc_law_first_bad : FnScope ["_law_records", "_law_index"] ["_law_records"] (defScope s_law_first_bad) := ⟨rfl, rfl, rfl, by decide +kernel, rfl, by decide +kernel, by decide +kernel⟩
def rd_law_first_bad (F_law_text : FD) : DS :=
  (dSeq (dIfS (dTst (dOp eqD (dCall 1 F_law_text (dCons (dVar 0) dNil)) (dC (.str ""))))
    (dRet (dC (.int 0)))
    dNext)
  (dSeq (dFor (diR1 (dCons (dCB lenD (dCons (dVar 0) dNil)) dNil)) (dgN 1)
    (dIfS (dTst (dOp isND (dOp ixD (dOp ixD (dVar 0) (dVar 1)) (dC (.int 1))) (dC .none)))
    (dRet (dOp addD (dVar 1) (dC (.int 1))))
    dNext))
  (dRet (dC (.int 0)))))

theorem sc_law_rows : FnScope ["_law_told", "_law_due", "_law_place"] ["_law_told", "_law_due"] (defScope s_law_rows) := ⟨rfl, rfl, rfl, by decide +kernel, rfl, by decide +kernel, by decide +kernel⟩
def rd_law_rows (F_law_row : FD) : DS :=
  (dSeq (dIfS (dOr (dNot (dTst (dIs "list" (dVar 0)))) (dTst (dOp neD (dCB lenD (dCons (dVar 0) dNil)) (dCB lenD (dCons (dVar 1) dNil)))))
    (dRet (dC (.bool false)))
    dNext)
  (dSeq (dFor (diR1 (dCons (dCB lenD (dCons (dVar 1) dNil)) dNil)) (dgN 2)
    (dIfS (dNot (dTst (dCall 2 F_law_row (dCons (dOp ixD (dVar 0) (dVar 2)) (dCons (dOp ixD (dVar 1) (dVar 2)) dNil)))))
    (dRet (dC (.bool false)))
    dNext))
  (dRet (dC (.bool true)))))

section
variable {P : Program} {w : World} {K : PySem.W.Frag} {mg : Str → Option Value} {base : Heap} {f : Addr} {k : Nat}
variable (hB : Bl mg)
include hB

theorem bd_mask_of {X : Cx} {cdv : Value} {A : Around} {outer : List Env} {s : Shared} {H : Hp} {E : XK} (hX : X = (cxOf CX0 P w K mg base ["indexes", "mask", "index"] "mask_of" (defScope s_mask_of) f cdv A outer s H E).nox) (hr : Room k X.A) : XB X Er0 (defBody s_mask_of) (rd_mask_of) := by
  subst hX
  have hS := sc_mask_of
  have hu := hr.units
  have hu0 := hr.units0
  have hu5 := units65 hr
  exact (xb_cons (xs_set 1 hS.nd (.inl rfl) xe_int)
  (xb_cons (xs_for PassesOwn.never rfl (xi_tup (xe_var 0)) (xg_name 2 hS.nd (.inl rfl))
    (xb_one (xs_aug 1 iop_or hS.nd (.inl rfl) (xe_op op_shl lr_int xe_int (xe_var 2)))))
  (xb_one (xs_ret (xe_var 1)))))

theorem bd_split_words {X : Cx} {cdv : Value} {A : Around} {outer : List Env} {s : Shared} {H : Hp} {E : XK} (hX : X = (cxOf CX0 P w K mg base ["line"] "split_words" (defScope s_split_words) f cdv A outer s H E).nox) (hr : Room k X.A) : XB X Er0 (defBody s_split_words) (rd_split_words) := by
  subst hX
  have hS := sc_split_words
  have hu := hr.units
  have hu0 := hr.units0
  have hu5 := units65 hr
  exact (xb_one (xs_ret (XL.fz (xl_split (xe_var 0) xe_str))))

theorem bd_written {X : Cx} {cdv : Value} {A : Around} {outer : List Env} {s : Shared} {H : Hp} {E : XK} (hX : X = (cxOf CX0 P w K mg base ["bound"] "written" (defScope s_written) f cdv A outer s H E).nox) (hr : Room k X.A) : XB X Er0 (defBody s_written) (rd_written) := by
  subst hX
  have hS := sc_written
  have hu := hr.units
  have hu0 := hr.units0
  have hu5 := units65 hr
  exact (xb_cons (xs_if (xt_cmp op_isN lr_isN (xe_var 0) xe_non (by rfl))
    (xb_one (xs_ret xe_str))
    xb_nil)
  (xb_one (xs_ret (xe_ct call_strA lc_str (by rfl) hB.m_str (by rfl) (xa_cons (xe_var 0) xa_nil)))))

theorem bd_read_count {X : Cx} {cdv : Value} {A : Around} {outer : List Env} {s : Shared} {H : Hp} {E : XK} (hX : X = (cxOf CX0 P w K mg base ["word", "sign"] "read_count" (defScope s_read_count) f cdv A outer s H E).nox) (hr : Room k X.A) : XB X Er0 (defBody s_read_count) (rd_read_count) := by
  subst hX
  have hS := sc_read_count
  have hu := hr.units
  have hu0 := hr.units0
  have hu5 := units65 hr
  exact (xb_cons (xs_if (XW.pt (xw_or (xt_cmp (op_eqA hu) lr_eq (xe_var 0) xe_str (by rfl)) (xw_or1 (xt_cmp op_gt lr_bool0 (xe_cb call_len lc_len (by rfl) hB.m_len (by rfl) (xa_cons (xe_var 0) xa_nil)) (xe_gint (by rfl) hB.c_MOST_FIGURES) (by rfl)))))
    (xb_one (xs_ret xe_non))
    xb_nil)
  (xb_cons (xs_for PassesOwn.never rfl (xi_str (xe_var 0)) (xg_name 1 hS.nd (.inl rfl))
    (xb_one (xs_if (xt_cmp (op_ninA hu5) lr_nin (xe_var 1) (xe_gstr (by rfl) hB.c_DIGITS) (by rfl))
    (xb_one (xs_ret xe_non))
    xb_nil)))
  (xb_cons (xs_if (XW.pt (xw_and (xt_cmp op_gt lr_bool0 (xe_cb call_len lc_len (by rfl) hB.m_len (by rfl) (xa_cons (xe_var 0) xa_nil)) xe_int (by rfl)) (xw_and1 (xt_cmp (op_eqA hu) lr_eq (xe_ix (xe_var 0) xe_int) xe_str (by rfl)))))
    (xb_one (xs_ret xe_non))
    xb_nil)
  (xb_one (xs_ret (xe_ct call_intA lc_int (by rfl) hB.m_int (by rfl) (xa_cons (xe_var 0) xa_nil)))))))

theorem bd_read_number {F_read_count : FD} {X : Cx} {cdv : Value} {A : Around} {outer : List Env} {s : Shared} {H : Hp} {E : XK} (hX : X = (cxOf CX0 P w K mg base ["word", "count"] "read_number" (defScope s_read_number) f cdv A outer s H E).nox) (hr : Room k X.A) (c_read_count : C8.Cal P w K mg base k "read_count" (spG 0 1 F_read_count) []) : XB X Er0 (defBody s_read_number) (rd_read_number F_read_count) := by
  subst hX
  have hS := sc_read_number
  have hu := hr.units
  have hu0 := hr.units0
  have hu5 := units65 hr
  exact (xb_cons (xs_if (xt_cmp (op_neA hu) lr_ne (xe_sl (xe_var 0) xo_none (xo_some xe_int)) xe_str (by rfl))
    (xb_one (xs_ret (xe_call c_read_count hr (Nat.le_refl _) (by rfl) (xa_cons (xe_var 0) xa_nil))))
    xb_nil)
  (xb_cons (xs_set 1 hS.nd (.inl rfl) (xe_call c_read_count hr (Nat.le_refl _) (by rfl) (xa_cons (xe_sl (xe_var 0) (xo_some xe_int) xo_none) xa_nil)))
  (xb_cons (xs_if (XW.pt (xw_or (xt_cmp op_isN lr_isN (xe_var 1) xe_non (by rfl)) (xw_or1 (xt_cmp (op_eqA hu) lr_eq (xe_var 1) xe_int (by rfl)))))
    (xb_one (xs_ret xe_non))
    xb_nil)
  (xb_one (xs_ret (xe_neg (xe_var 1)))))))

theorem bd_read_bound {F_read_number : FD} {X : Cx} {cdv : Value} {A : Around} {outer : List Env} {s : Shared} {H : Hp} {E : XK} (hX : X = (cxOf CX0 P w K mg base ["word", "number"] "read_bound" (defScope s_read_bound) f cdv A outer s H E).nox) (hr : Room k X.A) (c_read_number : C8.Cal P w K mg base k "read_number" (spG 0 1 F_read_number) []) : XB X Er0 (defBody s_read_bound) (rd_read_bound F_read_number) := by
  subst hX
  have hS := sc_read_bound
  have hu := hr.units
  have hu0 := hr.units0
  have hu5 := units65 hr
  exact (xb_cons (xs_if (xt_cmp (op_eqA hu) lr_eq (xe_var 0) xe_str (by rfl))
    (xb_one (xs_ret (xe_tup (xa_cons xe_non xa_nil))))
    xb_nil)
  (xb_cons (xs_set 1 hS.nd (.inl rfl) (xe_call c_read_number hr (Nat.le_refl _) (by rfl) (xa_cons (xe_var 0) xa_nil)))
  (xb_cons (xs_if (xt_cmp op_isN lr_isN (xe_var 1) xe_non (by rfl))
    (xb_one (xs_ret (xe_tup xa_nil)))
    xb_nil)
  (xb_one (xs_ret (xe_tup (xa_cons (xe_var 1) xa_nil)))))))

theorem bd_read_lot {F_read_count : FD} {X : Cx} {cdv : Value} {A : Around} {outer : List Env} {s : Shared} {H : Hp} {E : XK} (hX : X = (cxOf CX0 P w K mg base ["word", "numbers", "figures", "number"] "read_lot" (defScope s_read_lot) f cdv A outer s H E).nox) (hr : Room k X.A) (c_read_count : C8.Cal P w K mg base k "read_count" (spG 0 1 F_read_count) []) : XB X Er0 (defBody s_read_lot) (rd_read_lot F_read_count) := by
  subst hX
  have hS := sc_read_lot
  have hu := hr.units
  have hu0 := hr.units0
  have hu5 := units65 hr
  exact (xb_cons (xs_if (xt_cmp (op_eqA hu) lr_eq (xe_var 0) xe_str (by rfl))
    (xb_one (xs_ret (xe_tup xa_nil)))
    xb_nil)
  (xb_cons (xs_new 1 hS.nd (.inl rfl) (xl_lst xa_nil))
  (xb_cons (xs_for PassesOwn.never rfl (xi_list (XL.fz (xl_split (xe_var 0) xe_str))) (xg_name 2 hS.nd (.inl rfl))
    (xb_cons (xs_set 3 hS.nd (.inl rfl) (xe_call c_read_count hr (Nat.le_refl _) (by rfl) (xa_cons (xe_var 2) xa_nil)))
  (xb_cons (xs_if (XW.pt (xw_or (xt_cmp op_isN lr_isN (xe_var 3) xe_non (by rfl)) (xw_or1 (XW.pt (xw_and (xt_cmp op_gt lr_bool0 (xe_cb call_len lc_len (by rfl) hB.m_len (by rfl) (xa_cons (xe_var 1) xa_nil)) xe_int (by rfl)) (xw_and1 (xt_cmp op_ge lr_bool0 (xe_ix (xe_var 1) (xe_neg xe_int)) (xe_var 3) (by rfl))))))))
    (xb_one (xs_ret xe_non))
    xb_nil)
  (xb_one (xs_app 1 (xe_var 3))))))
  (xb_one (xs_ret (xe_ct call_tuple_of lc_tup (by rfl) hB.m_tuple (by rfl) (xa_cons (xe_var 1) xa_nil)))))))

theorem bd_read_lots {F_read_lot : FD} {X : Cx} {cdv : Value} {A : Around} {outer : List Env} {s : Shared} {H : Hp} {E : XK} (hX : X = (cxOf CX0 P w K mg base ["word", "lots", "part", "lot"] "read_lots" (defScope s_read_lots) f cdv A outer s H E).nox) (hr : Room k X.A) (c_read_lot : C8.Cal P w K mg base k "read_lot" (spG 0 1 F_read_lot) []) : XB X Er0 (defBody s_read_lots) (rd_read_lots F_read_lot) := by
  subst hX
  have hS := sc_read_lots
  have hu := hr.units
  have hu0 := hr.units0
  have hu5 := units65 hr
  exact (xb_cons (xs_if (xt_cmp (op_eqA hu) lr_eq (xe_var 0) xe_str (by rfl))
    (xb_one (xs_ret (xe_tup xa_nil)))
    xb_nil)
  (xb_cons (xs_new 1 hS.nd (.inl rfl) (xl_lst xa_nil))
  (xb_cons (xs_for PassesOwn.never rfl (xi_list (XL.fz (xl_split (xe_var 0) xe_str))) (xg_name 2 hS.nd (.inl rfl))
    (xb_cons (xs_set 3 hS.nd (.inl rfl) (xe_call c_read_lot hr (Nat.le_refl _) (by rfl) (xa_cons (xe_var 2) xa_nil)))
  (xb_cons (xs_if (XW.pt (xw_or (xt_cmp op_isN lr_isN (xe_var 3) xe_non (by rfl)) (xw_or1 (XW.pt (xw_and (xt_cmp op_gt lr_bool0 (xe_cb call_len lc_len (by rfl) hB.m_len (by rfl) (xa_cons (xe_var 1) xa_nil)) xe_int (by rfl)) (xw_and1 (xt_cmp (op_geA hr) lr_geT (xe_ix (xe_var 1) (xe_neg xe_int)) (xe_var 3) (by rfl))))))))
    (xb_one (xs_ret xe_non))
    xb_nil)
  (xb_one (xs_app 1 (xe_var 3))))))
  (xb_one (xs_ret (xe_ct call_tuple_of lc_tup (by rfl) hB.m_tuple (by rfl) (xa_cons (xe_var 1) xa_nil)))))))

theorem bd_read_part {F_read_count : FD} {F_read_lots : FD} {F_read_part : FD} {X : Cx} {cdv : Value} {A : Around} {outer : List Env} {s : Shared} {H : Hp} {E : XK} (hX : X = (cxOf CX0 P w K mg base ["words", "start", "deep", "word", "number", "lots", "first", "second"] "read_part" (defScope s_read_part) f cdv A outer s H E).nox) (hr : Room k X.A) (c_read_count : C8.Cal P w K mg base k "read_count" (spG 0 1 F_read_count) []) (c_read_lots : C8.Cal P w K mg base k "read_lots" (spG 0 1 F_read_lots) []) (c_read_part : C8.Cal P w K mg base k "read_part" (spG 0 3 F_read_part) []) : XB X Er0 (defBody s_read_part) (rd_read_part F_read_count F_read_lots F_read_part) := by
  subst hX
  have hS := sc_read_part
  have hu := hr.units
  have hu0 := hr.units0
  have hu5 := units65 hr
  exact (xb_cons (xs_if (xt_cmp op_ge lr_bool0 (xe_op op_addA lr_add (xe_var 1) xe_int) (xe_cb call_len lc_len (by rfl) hB.m_len (by rfl) (xa_cons (xe_var 0) xa_nil)) (by rfl))
    (xb_one (xs_ret xe_non))
    xb_nil)
  (xb_cons (xs_set 3 hS.nd (.inl rfl) (xe_ix (xe_var 0) (xe_var 1)))
  (xb_cons (xs_if (xt_cmp (op_inA hu5) lr_in (xe_var 3) (xe_tup (xa_cons xe_str (xa_cons xe_str xa_nil))) (by rfl))
    (xb_cons (xs_set 4 hS.nd (.inl rfl) (xe_call c_read_count hr (Nat.le_refl _) (by rfl) (xa_cons (xe_ix (xe_var 0) (xe_op op_addA lr_add (xe_var 1) xe_int)) xa_nil)))
  (xb_one (xs_ret (xe_ifExp (xt_cmp op_isN lr_isN (xe_var 4) xe_non (by rfl)) xe_non (xe_tup (xa_cons (xe_tup (xa_cons (xe_var 3) (xa_cons (xe_var 4) xa_nil))) (xa_cons (xe_op op_addA lr_add (xe_var 1) xe_int) xa_nil)))))))
    xb_nil)
  (xb_cons (xs_if (xt_cmp (op_eqA hu) lr_eq (xe_var 3) xe_str (by rfl))
    (xb_cons (xs_set 5 hS.nd (.inl rfl) (xe_call c_read_lots hr (Nat.le_refl _) (by rfl) (xa_cons (xe_ix (xe_var 0) (xe_op op_addA lr_add (xe_var 1) xe_int)) xa_nil)))
  (xb_one (xs_ret (xe_ifExp (xt_cmp op_isN lr_isN (xe_var 5) xe_non (by rfl)) xe_non (xe_tup (xa_cons (xe_tup (xa_cons (xe_var 3) (xa_cons (xe_var 5) xa_nil))) (xa_cons (xe_op op_addA lr_add (xe_var 1) xe_int) xa_nil)))))))
    xb_nil)
  (xb_cons (xs_if (XW.pt (xw_or (xt_cmp (op_ninA hu5) lr_nin (xe_var 3) (xe_tup (xa_cons xe_str (xa_cons xe_str xa_nil))) (by rfl)) (xw_or1 (xt_cmp (op_eqA hu) lr_eq (xe_var 2) xe_int (by rfl)))))
    (xb_one (xs_ret xe_non))
    xb_nil)
  (xb_cons (xs_set 6 hS.nd (.inl rfl) (xe_call c_read_part hr (Nat.le_refl _) (by rfl) (xa_cons (xe_var 0) (xa_cons (xe_op op_addA lr_add (xe_var 1) xe_int) (xa_cons (xe_op op_sub lr_int0 (xe_var 2) xe_int) xa_nil)))))
  (xb_cons (xs_if (xt_cmp op_isN lr_isN (xe_var 6) xe_non (by rfl))
    (xb_one (xs_ret xe_non))
    xb_nil)
  (xb_cons (xs_set 7 hS.nd (.inl rfl) (xe_call c_read_part hr (Nat.le_refl _) (by rfl) (xa_cons (xe_var 0) (xa_cons (xe_ix (xe_var 6) xe_int) (xa_cons (xe_op op_sub lr_int0 (xe_var 2) xe_int) xa_nil)))))
  (xb_cons (xs_if (xt_cmp op_isN lr_isN (xe_var 7) xe_non (by rfl))
    (xb_one (xs_ret xe_non))
    xb_nil)
  (xb_one (xs_ret (xe_tup (xa_cons (xe_tup (xa_cons (xe_var 3) (xa_cons (xe_ix (xe_var 6) xe_int) (xa_cons (xe_ix (xe_var 7) xe_int) xa_nil)))) (xa_cons (xe_ix (xe_var 7) xe_int) xa_nil))))))))))))))

theorem bd_read_doubt {F_read_part : FD} {X : Cx} {cdv : Value} {A : Around} {outer : List Env} {s : Shared} {H : Hp} {E : XK} (hX : X = (cxOf CX0 P w K mg base ["words", "found"] "read_doubt" (defScope s_read_doubt) f cdv A outer s H E).nox) (hr : Room k X.A) (c_read_part : C8.Cal P w K mg base k "read_part" (spG 0 3 F_read_part) []) : XB X Er0 (defBody s_read_doubt) (rd_read_doubt F_read_part) := by
  subst hX
  have hS := sc_read_doubt
  have hu := hr.units
  have hu0 := hr.units0
  have hu5 := units65 hr
  exact (xb_cons (xs_set 1 hS.nd (.inl rfl) (xe_call c_read_part hr (Nat.le_refl _) (by rfl) (xa_cons (xe_var 0) (xa_cons xe_int (xa_cons (xe_gint (by rfl) hB.c_MOST_DEEP) xa_nil)))))
  (xb_cons (xs_if (XW.pt (xw_or (xt_cmp op_isN lr_isN (xe_var 1) xe_non (by rfl)) (xw_or1 (xt_cmp (op_neA hu) lr_ne (xe_ix (xe_var 1) xe_int) (xe_cb call_len lc_len (by rfl) hB.m_len (by rfl) (xa_cons (xe_var 0) xa_nil)) (by rfl)))))
    (xb_one (xs_ret xe_non))
    xb_nil)
  (xb_one (xs_ret (xe_ix (xe_var 1) xe_int)))))

theorem bd_format_deed {F_written : FD} {X : Cx} {cdv : Value} {A : Around} {outer : List Env} {s : Shared} {H : Hp} {E : XK} (hX : X = (cxOf CX0 P w K mg base ["deed"] "format_deed" (defScope s_format_deed) f cdv A outer s H E).nox) (hr : Room k X.A) (c_written : C8.Cal P w K mg base k "written" (spG 0 1 F_written) []) : XB X Er0 (defBody s_format_deed) (rd_format_deed F_written) := by
  subst hX
  have hS := sc_format_deed
  have hu := hr.units
  have hu0 := hr.units0
  have hu5 := units65 hr
  exact (xb_cons (xs_if (xt_cmp (op_eqA hu) lr_eq (xe_ix (xe_var 0) xe_int) xe_str (by rfl))
    (xb_one (xs_ret (xe_joined (xj_cons xe_str (xj_cons (xe_fmt (xe_ix (xe_var 0) xe_int)) (xj_cons xe_str (xj_cons (xe_fmt (xe_ix (xe_var 0) xe_int)) (xj_cons xe_str (xj_cons (xe_fmt (xe_call c_written hr (Nat.le_refl _) (by rfl) (xa_cons (xe_ix (xe_var 0) xe_int) xa_nil))) (xj_cons xe_str (xj_cons (xe_fmt (xe_call c_written hr (Nat.le_refl _) (by rfl) (xa_cons (xe_ix (xe_var 0) xe_int) xa_nil))) (xj_cons xe_str (xj_cons (xe_fmt (xe_ix (xe_var 0) xe_int)) xj_nil)))))))))))))
    xb_nil)
  (xb_cons (xs_if (xt_cmp (op_eqA hu) lr_eq (xe_ix (xe_var 0) xe_int) xe_str (by rfl))
    (xb_one (xs_ret (xe_joined (xj_cons xe_str (xj_cons (xe_fmt (xe_ix (xe_var 0) xe_int)) (xj_cons xe_str (xj_cons (xe_fmt (xe_ix (xe_var 0) xe_int)) (xj_cons xe_str (xj_cons (xe_fmt (xe_ix (xe_var 0) xe_int)) xj_nil)))))))))
    xb_nil)
  (xb_cons (xs_if (xt_cmp (op_eqA hu) lr_eq (xe_ix (xe_var 0) xe_int) xe_str (by rfl))
    (xb_one (xs_ret (xe_joined (xj_cons xe_str (xj_cons (xe_fmt (xe_ix (xe_var 0) xe_int)) (xj_cons xe_str (xj_cons (xe_fmt (xe_call c_written hr (Nat.le_refl _) (by rfl) (xa_cons (xe_ix (xe_var 0) xe_int) xa_nil))) (xj_cons xe_str (xj_cons (xe_fmt (xe_call c_written hr (Nat.le_refl _) (by rfl) (xa_cons (xe_ix (xe_var 0) xe_int) xa_nil))) xj_nil)))))))))
    xb_nil)
  (xb_one (xs_ret (xe_joined (xj_cons (xe_fmt (xe_ix (xe_var 0) xe_int)) (xj_cons xe_str (xj_cons (xe_fmt (xe_ix (xe_var 0) xe_int)) xj_nil)))))))))

theorem bd_format_deeds {F_format_deed : FD} {X : Cx} {cdv : Value} {A : Around} {outer : List Env} {s : Shared} {H : Hp} {E : XK} (hX : X = (cxOf CX0 P w K mg base ["deeds", "deed"] "format_deeds" (defScope s_format_deeds) f cdv A outer s H E).nox) (hr : Room k X.A) (c_format_deed : C8.Cal P w K mg base k "format_deed" (spG 0 1 F_format_deed) []) : XB X Er0 (defBody s_format_deeds) (rd_format_deeds F_format_deed) := by
  subst hX
  have hS := sc_format_deeds
  have hu := hr.units
  have hu0 := hr.units0
  have hu5 := units65 hr
  exact (xb_one (xs_ret (xe_join xe_str (XL.fz (xl_lc 1 rfl hS.nd (xi_seq (xe_var 0)) (blkOk_by (by rfl)) (fun _ _ => .inl rfl) (fun _ _ _ _ _ => xts_nil) (fun _ _ _ _ _ => (xe_call c_format_deed hr (Nat.le_refl _) (by rfl) (xa_cons (xe_var 1) xa_nil))) (fun _ _ => .inr rfl))))))

theorem bd_read_tell {F_read_count : FD} {F_read_bound : FD} {X : Cx} {cdv : Value} {A : Around} {outer : List Env} {s : Shared} {H : Hp} {E : XK} (hX : X = (cxOf CX0 P w K mg base ["words", "first", "second", "mass", "low", "high"] "read_tell" (defScope s_read_tell) f cdv A outer s H E).nox) (hr : Room k X.A) (c_read_count : C8.Cal P w K mg base k "read_count" (spG 0 1 F_read_count) []) (c_read_bound : C8.Cal P w K mg base k "read_bound" (spG 0 1 F_read_bound) []) : XB X Er0 (defBody s_read_tell) (rd_read_tell F_read_count F_read_bound) := by
  subst hX
  have hS := sc_read_tell
  have hu := hr.units
  have hu0 := hr.units0
  have hu5 := units65 hr
  exact (xb_cons (xs_if (XW.pt (xw_or (xt_cmp (op_neA hu) lr_ne (xe_cb call_len lc_len (by rfl) hB.m_len (by rfl) (xa_cons (xe_var 0) xa_nil)) xe_int (by rfl)) (xw_or1 (xt_cmp (op_neA hu) lr_ne (xe_ix (xe_var 0) xe_int) xe_str (by rfl)))))
    (xb_one (xs_ret xe_non))
    xb_nil)
  (xb_cons (xs_par3 (i := 1) (j := 2) (m := 3) rfl hS.nd (xa_cons (xe_call c_read_count hr (Nat.le_refl _) (by rfl) (xa_cons (xe_ix (xe_var 0) xe_int) xa_nil)) (xa_cons (xe_call c_read_count hr (Nat.le_refl _) (by rfl) (xa_cons (xe_ix (xe_var 0) xe_int) xa_nil)) (xa_cons (xe_call c_read_count hr (Nat.le_refl _) (by rfl) (xa_cons (xe_ix (xe_var 0) xe_int) xa_nil)) xa_nil))))
  (xb_cons (xs_par (i := 4) (j := 5) rfl hS.nd (xa_cons (xe_call c_read_bound hr (Nat.le_refl _) (by rfl) (xa_cons (xe_ix (xe_var 0) xe_int) xa_nil)) (xa_cons (xe_call c_read_bound hr (Nat.le_refl _) (by rfl) (xa_cons (xe_ix (xe_var 0) xe_int) xa_nil)) xa_nil)))
  (xb_cons (xs_if (XW.pt (xw_or (xt_cmp op_isN lr_isN (xe_var 1) xe_non (by rfl)) (xw_or (xt_cmp op_isN lr_isN (xe_var 2) xe_non (by rfl)) (xw_or (xt_cmp op_isN lr_isN (xe_var 3) xe_non (by rfl)) (xw_or (xt_cmp (op_eqA hu) lr_eq (xe_var 4) (xe_tup xa_nil) (by rfl)) (xw_or1 (xt_cmp (op_eqA hu) lr_eq (xe_var 5) (xe_tup xa_nil) (by rfl))))))))
    (xb_one (xs_ret xe_non))
    xb_nil)
  (xb_one (xs_ret (xe_tup (xa_cons xe_str (xa_cons (xe_var 1) (xa_cons (xe_var 2) (xa_cons (xe_ix (xe_var 4) xe_int) (xa_cons (xe_ix (xe_var 5) xe_int) (xa_cons (xe_var 3) xa_nil)))))))))))))

theorem bd_read_recount {F_read_number : FD} {F_read_count : FD} {X : Cx} {cdv : Value} {A : Around} {outer : List Env} {s : Shared} {H : Hp} {E : XK} (hX : X = (cxOf CX0 P w K mg base ["words", "first", "second", "value"] "read_recount" (defScope s_read_recount) f cdv A outer s H E).nox) (hr : Room k X.A) (c_read_number : C8.Cal P w K mg base k "read_number" (spG 0 1 F_read_number) []) (c_read_count : C8.Cal P w K mg base k "read_count" (spG 0 1 F_read_count) []) : XB X Er0 (defBody s_read_recount) (rd_read_recount F_read_number F_read_count) := by
  subst hX
  have hS := sc_read_recount
  have hu := hr.units
  have hu0 := hr.units0
  have hu5 := units65 hr
  exact (xb_cons (xs_if (xt_cmp (op_neA hu) lr_ne (xe_cb call_len lc_len (by rfl) hB.m_len (by rfl) (xa_cons (xe_var 0) xa_nil)) xe_int (by rfl))
    (xb_one (xs_ret xe_non))
    xb_nil)
  (xb_cons (xs_par3 (i := 1) (j := 2) (m := 3) rfl hS.nd (xa_cons (xe_call c_read_count hr (Nat.le_refl _) (by rfl) (xa_cons (xe_ix (xe_var 0) xe_int) xa_nil)) (xa_cons (xe_call c_read_count hr (Nat.le_refl _) (by rfl) (xa_cons (xe_ix (xe_var 0) xe_int) xa_nil)) (xa_cons (xe_call c_read_number hr (Nat.le_refl _) (by rfl) (xa_cons (xe_ix (xe_var 0) xe_int) xa_nil)) xa_nil))))
  (xb_cons (xs_if (XW.pt (xw_or (xt_cmp op_isN lr_isN (xe_var 1) xe_non (by rfl)) (xw_or (xt_cmp op_isN lr_isN (xe_var 2) xe_non (by rfl)) (xw_or1 (xt_cmp op_isN lr_isN (xe_var 3) xe_non (by rfl))))))
    (xb_one (xs_ret xe_non))
    xb_nil)
  (xb_one (xs_ret (xe_tup (xa_cons xe_str (xa_cons (xe_var 1) (xa_cons (xe_var 2) (xa_cons (xe_var 3) xa_nil))))))))))

theorem bd_read_correct {F_read_bound : FD} {F_read_count : FD} {X : Cx} {cdv : Value} {A : Around} {outer : List Env} {s : Shared} {H : Hp} {E : XK} (hX : X = (cxOf CX0 P w K mg base ["words", "number", "low", "high"] "read_correct" (defScope s_read_correct) f cdv A outer s H E).nox) (hr : Room k X.A) (c_read_bound : C8.Cal P w K mg base k "read_bound" (spG 0 1 F_read_bound) []) (c_read_count : C8.Cal P w K mg base k "read_count" (spG 0 1 F_read_count) []) : XB X Er0 (defBody s_read_correct) (rd_read_correct F_read_bound F_read_count) := by
  subst hX
  have hS := sc_read_correct
  have hu := hr.units
  have hu0 := hr.units0
  have hu5 := units65 hr
  exact (xb_cons (xs_if (xt_cmp (op_neA hu) lr_ne (xe_cb call_len lc_len (by rfl) hB.m_len (by rfl) (xa_cons (xe_var 0) xa_nil)) xe_int (by rfl))
    (xb_one (xs_ret xe_non))
    xb_nil)
  (xb_cons (xs_par3 (i := 1) (j := 2) (m := 3) rfl hS.nd (xa_cons (xe_call c_read_count hr (Nat.le_refl _) (by rfl) (xa_cons (xe_ix (xe_var 0) xe_int) xa_nil)) (xa_cons (xe_call c_read_bound hr (Nat.le_refl _) (by rfl) (xa_cons (xe_ix (xe_var 0) xe_int) xa_nil)) (xa_cons (xe_call c_read_bound hr (Nat.le_refl _) (by rfl) (xa_cons (xe_ix (xe_var 0) xe_int) xa_nil)) xa_nil))))
  (xb_cons (xs_if (XW.pt (xw_or (xt_cmp op_isN lr_isN (xe_var 1) xe_non (by rfl)) (xw_or (xt_cmp (op_eqA hu) lr_eq (xe_var 2) (xe_tup xa_nil) (by rfl)) (xw_or1 (xt_cmp (op_eqA hu) lr_eq (xe_var 3) (xe_tup xa_nil) (by rfl))))))
    (xb_one (xs_ret xe_non))
    xb_nil)
  (xb_one (xs_ret (xe_tup (xa_cons xe_str (xa_cons (xe_var 1) (xa_cons (xe_ix (xe_var 2) xe_int) (xa_cons (xe_ix (xe_var 3) xe_int) xa_nil))))))))))

theorem bd_read_withdraw {F_read_count : FD} {X : Cx} {cdv : Value} {A : Around} {outer : List Env} {s : Shared} {H : Hp} {E : XK} (hX : X = (cxOf CX0 P w K mg base ["words", "number"] "read_withdraw" (defScope s_read_withdraw) f cdv A outer s H E).nox) (hr : Room k X.A) (c_read_count : C8.Cal P w K mg base k "read_count" (spG 0 1 F_read_count) []) : XB X Er0 (defBody s_read_withdraw) (rd_read_withdraw F_read_count) := by
  subst hX
  have hS := sc_read_withdraw
  have hu := hr.units
  have hu0 := hr.units0
  have hu5 := units65 hr
  exact (xb_cons (xs_if (xt_cmp (op_neA hu) lr_ne (xe_cb call_len lc_len (by rfl) hB.m_len (by rfl) (xa_cons (xe_var 0) xa_nil)) xe_int (by rfl))
    (xb_one (xs_ret xe_non))
    xb_nil)
  (xb_cons (xs_set 1 hS.nd (.inl rfl) (xe_call c_read_count hr (Nat.le_refl _) (by rfl) (xa_cons (xe_ix (xe_var 0) xe_int) xa_nil)))
  (xb_cons (xs_if (xt_cmp op_isN lr_isN (xe_var 1) xe_non (by rfl))
    (xb_one (xs_ret xe_non))
    xb_nil)
  (xb_one (xs_ret (xe_tup (xa_cons xe_str (xa_cons (xe_var 1) xa_nil))))))))

theorem bd_read_deed {F_split_words : FD} {F_read_tell : FD} {F_read_recount : FD} {F_read_correct : FD} {F_read_withdraw : FD} {F_read_doubt_deed : FD} {X : Cx} {cdv : Value} {A : Around} {outer : List Env} {s : Shared} {H : Hp} {E : XK} (hX : X = (cxOf CX0 P w K mg base ["line", "words"] "read_deed" (defScope s_read_deed) f cdv A outer s H E).nox) (hr : Room k X.A) (c_split_words : C8.Cal P w K mg base k "split_words" (spG 0 1 F_split_words) []) (c_read_tell : C8.Cal P w K mg base k "read_tell" (spG 0 1 F_read_tell) []) (c_read_recount : C8.Cal P w K mg base k "read_recount" (spG 0 1 F_read_recount) []) (c_read_correct : C8.Cal P w K mg base k "read_correct" (spG 0 1 F_read_correct) []) (c_read_withdraw : C8.Cal P w K mg base k "read_withdraw" (spG 0 1 F_read_withdraw) []) (c_read_doubt_deed : C8.Cal P w K mg base k "read_doubt_deed" (spG 0 1 F_read_doubt_deed) []) : XB X Er0 (defBody s_read_deed) (rd_read_deed F_split_words F_read_tell F_read_recount F_read_correct F_read_withdraw F_read_doubt_deed) := by
  subst hX
  have hS := sc_read_deed
  have hu := hr.units
  have hu0 := hr.units0
  have hu5 := units65 hr
  exact (xb_cons (xs_set 1 hS.nd (.inl rfl) (xe_call c_split_words hr (Nat.le_refl _) (by rfl) (xa_cons (xe_var 0) xa_nil)))
  (xb_cons (xs_if (xt_cmp (op_eqA hu) lr_eq (xe_ix (xe_var 1) xe_int) xe_str (by rfl))
    (xb_one (xs_ret (xe_call c_read_tell hr (Nat.le_refl _) (by rfl) (xa_cons (xe_var 1) xa_nil))))
    xb_nil)
  (xb_cons (xs_if (xt_cmp (op_eqA hu) lr_eq (xe_ix (xe_var 1) xe_int) xe_str (by rfl))
    (xb_one (xs_ret (xe_call c_read_recount hr (Nat.le_refl _) (by rfl) (xa_cons (xe_var 1) xa_nil))))
    xb_nil)
  (xb_cons (xs_if (xt_cmp (op_eqA hu) lr_eq (xe_ix (xe_var 1) xe_int) xe_str (by rfl))
    (xb_one (xs_ret (xe_call c_read_correct hr (Nat.le_refl _) (by rfl) (xa_cons (xe_var 1) xa_nil))))
    xb_nil)
  (xb_cons (xs_if (xt_cmp (op_eqA hu) lr_eq (xe_ix (xe_var 1) xe_int) xe_str (by rfl))
    (xb_one (xs_ret (xe_call c_read_withdraw hr (Nat.le_refl _) (by rfl) (xa_cons (xe_var 1) xa_nil))))
    xb_nil)
  (xb_cons (xs_if (xt_cmp (op_eqA hu) lr_eq (xe_ix (xe_var 1) xe_int) xe_str (by rfl))
    (xb_one (xs_ret (xe_call c_read_doubt_deed hr (Nat.le_refl _) (by rfl) (xa_cons (xe_sl (xe_var 0) (xo_some xe_int) xo_none) xa_nil))))
    xb_nil)
  (xb_one (xs_ret xe_non))))))))

theorem bd_law_group {F_law_draw : FD} {X : Cx} {cdv : Value} {A : Around} {outer : List Env} {s : Shared} {H : Hp} {E : XK} (hX : X = (cxOf CX0 P w K mg base ["_law_source_here", "_law_count", "_law_group_here", "_law_index"] "_law_group" (defScope s_law_group) f cdv A outer s H E).nox) (hr : Room k X.A) (c_law_draw : C8.Cal P w K mg base k "_law_draw" (spG 1 2 F_law_draw) []) : XB X Er0 (defBody s_law_group) (rd_law_group F_law_draw) := by
  subst hX
  have hS := sc_law_group
  have hu := hr.units
  have hu0 := hr.units0
  have hu5 := units65 hr
  exact (xb_cons (xs_new 2 hS.nd (.inl rfl) (xl_lst xa_nil))
  (xb_cons (xs_for PassesOwn.never rfl (xi_rng1 (by rfl) hB.m_range (xa_cons (xe_var 1) xa_nil)) (xg_name 3 hS.nd (.inl rfl))
    (xb_one (xs_if (xt_cmp (op_eqA hu) lr_eq (xe_callS 0 c_law_draw hr (Nat.le_refl _) (by rfl) (xa_cons xe_int xa_nil)) xe_int (by rfl))
    (xb_one (xs_app 2 (xe_var 3)))
    xb_nil)))
  (xb_one (xs_ret (xe_var 2)))))

theorem bd_law_plan {F_law_draw : FD} {F_law_group : FD} {F_law_plan : FD} {X : Cx} {cdv : Value} {A : Around} {outer : List Env} {s : Shared} {H : Hp} {E : XK} (hX : X = (cxOf CX0 P w K mg base ["_law_source_here", "_law_count", "_law_deep", "_law_kind", "_law_first", "_law_second", "_law_index"] "_law_plan" (defScope s_law_plan) f cdv A outer s H E).nox) (hr : Room k X.A) (c_law_draw : C8.Cal P w K mg base k "_law_draw" (spG 1 2 F_law_draw) []) (c_law_group : C8.Cal P w K mg base k "_law_group" (spG 1 2 F_law_group) []) (c_law_plan : C8.Cal P w K mg base k "_law_plan" (spG 1 3 F_law_plan) []) : XB X Er0 (defBody s_law_plan) (rd_law_plan F_law_draw F_law_group F_law_plan) := by
  subst hX
  have hS := sc_law_plan
  have hu := hr.units
  have hu0 := hr.units0
  have hu5 := units65 hr
  exact (xb_cons (xs_set 3 hS.nd (.inl rfl) (xe_callS 0 c_law_draw hr (Nat.le_refl _) (by rfl) (xa_cons (xe_op op_addA lr_add xe_int (xe_op op_mul lr_int xe_int (xe_cb (call_min2 rfl) lc_min (by rfl) hB.m_min (by rfl) (xa_cons (xe_var 2) (xa_cons xe_int xa_nil))))) xa_nil)))
  (xb_cons (xs_if (xt_cmp (op_eqA hu) lr_eq (xe_var 3) xe_int (by rfl))
    (xb_one (xs_ret (xe_tup (xa_cons xe_str (xa_cons (xe_callS 0 c_law_draw hr (Nat.le_refl _) (by rfl) (xa_cons (xe_op op_addA lr_add (xe_var 1) xe_int) xa_nil)) xa_nil)))))
    xb_nil)
  (xb_cons (xs_if (xt_cmp (op_eqA hu) lr_eq (xe_var 3) xe_int (by rfl))
    (xb_one (xs_ret (xe_tup (xa_cons xe_str (xa_cons (xe_callS 0 c_law_draw hr (Nat.le_refl _) (by rfl) (xa_cons (xe_op op_addA lr_add (xe_op op_mul lr_int xe_int (xe_var 1)) xe_int) xa_nil)) xa_nil)))))
    xb_nil)
  (xb_cons (xs_if (xt_cmp (op_eqA hu) lr_eq (xe_var 3) xe_int (by rfl))
    (xb_one (xs_ret (xe_tup (xa_cons xe_str (xa_cons (XL.fz (xl_lc 6 rfl hS.nd (xi_rng1 (by rfl) hB.m_range (xa_cons (xe_callS 0 c_law_draw hr (Nat.le_refl _) (by rfl) (xa_cons xe_int xa_nil)) xa_nil)) (blkOk_by (by rfl)) (fun _ _ => .inl rfl) (fun _ _ _ _ _ => xts_nil) (fun _ _ _ _ _ => (xe_callS 0 c_law_group hr (Nat.le_refl _) (by rfl) (xa_cons (xe_var 1) xa_nil))) (fun _ _ => .inr rfl))) xa_nil)))))
    xb_nil)
  (xb_cons (xs_set 4 hS.nd (.inl rfl) (xe_callS 0 c_law_plan hr (Nat.le_refl _) (by rfl) (xa_cons (xe_var 1) (xa_cons (xe_op op_sub lr_int0 (xe_var 2) xe_int) xa_nil))))
  (xb_cons (xs_set 5 hS.nd (.inl rfl) (xe_callS 0 c_law_plan hr (Nat.le_refl _) (by rfl) (xa_cons (xe_var 1) (xa_cons (xe_op op_sub lr_int0 (xe_var 2) xe_int) xa_nil))))
  (xb_cons (xs_if (xt_cmp (op_eqA hu) lr_eq (xe_var 3) xe_int (by rfl))
    (xb_one (xs_ret (xe_tup (xa_cons xe_str (xa_cons (xe_var 4) (xa_cons (xe_var 5) xa_nil))))))
    xb_nil)
  (xb_one (xs_ret (xe_tup (xa_cons xe_str (xa_cons (xe_var 4) (xa_cons (xe_var 5) xa_nil)))))))))))))

theorem bd_law_whole {X : Cx} {cdv : Value} {A : Around} {outer : List Env} {s : Shared} {H : Hp} {E : XK} (hX : X = (cxOf CX0 P w K mg base ["_law_actual"] "_law_whole" (defScope s_law_whole) f cdv A outer s H E).nox) (hr : Room k X.A) : XB X Er0 (defBody s_law_whole) (rd_law_whole) := by
  subst hX
  have hS := sc_law_whole
  have hu := hr.units
  have hu0 := hr.units0
  have hu5 := units65 hr
  exact (xb_one (xs_ret (xe_and (xe_is (T := "int") (by decide) (by rfl) hB.m_isinstance (by rfl) hB.m_int (by rfl) (xe_var 0)) (xe_one (xe_not (xe_is (T := "bool") (by decide) (by rfl) hB.m_isinstance (by rfl) hB.m_bool (by rfl) (xe_var 0)))))))

theorem bd_law_lots_once {X : Cx} {cdv : Value} {A : Around} {outer : List Env} {s : Shared} {H : Hp} {E : XK} (hX : X = (cxOf CX0 P w K mg base ["_law_lots", "_law_kept", "_law_lot"] "_law_lots_once" (defScope s_law_lots_once) f cdv A outer s H E).nox) (hr : Room k X.A) : XB X Er0 (defBody s_law_lots_once) (rd_law_lots_once) := by
  subst hX
  have hS := sc_law_lots_once
  have hu := hr.units
  have hu0 := hr.units0
  have hu5 := units65 hr
  exact (xb_cons (xs_new 1 hS.nd (.inl rfl) (xl_lst xa_nil))
  (xb_cons (xs_for PassesOwn.never rfl (xi_list (xe_cb (cr_srt hr) lc_srt (by rfl) hB.m_sorted (by rfl) (xa_cons (xe_var 0) xa_nil))) (xg_name 2 hS.nd (.inl rfl))
    (xb_one (xs_if (xt_cmp (op_ninA hu5) lr_nin (xe_var 2) (xe_var 1) (by rfl))
    (xb_one (xs_app 1 (xe_var 2)))
    xb_nil)))
  (xb_one (xs_ret (xe_var 1)))))

theorem bd_law_doubt_text {F_law_lots_once : FD} {F_law_doubt_text : FD} {X : Cx} {cdv : Value} {A : Around} {outer : List Env} {s : Shared} {H : Hp} {E : XK} (hX : X = (cxOf CX0 P w K mg base ["_law_plan_here", "_law_lots", "_law_lot", "_law_number_here"] "_law_doubt_text" (defScope s_law_doubt_text) f cdv A outer s H E).nox) (hr : Room k X.A) (c_law_lots_once : C8.Cal P w K mg base k "_law_lots_once" (spG 0 1 F_law_lots_once) []) (c_law_doubt_text : C8.Cal P w K mg base k "_law_doubt_text" (spG 0 1 F_law_doubt_text) []) : XB X Er0 (defBody s_law_doubt_text) (rd_law_doubt_text F_law_lots_once F_law_doubt_text) := by
  subst hX
  have hS := sc_law_doubt_text
  have hu := hr.units
  have hu0 := hr.units0
  have hu5 := units65 hr
  exact (xb_cons (xs_if (XW.pt (xw_or (xt_cmp (op_eqA hu) lr_eq (xe_ix (xe_var 0) xe_int) xe_str (by rfl)) (xw_or1 (xt_cmp (op_eqA hu) lr_eq (xe_ix (xe_var 0) xe_int) xe_str (by rfl)))))
    (xb_one (xs_ret (xe_op op_addA lr_add (xe_op op_addA lr_add (xe_ix (xe_var 0) xe_int) xe_str) (xe_ct call_strA lc_str (by rfl) hB.m_str (by rfl) (xa_cons (xe_ix (xe_var 0) xe_int) xa_nil)))))
    xb_nil)
  (xb_cons (xs_if (XW.pt (xw_and (xt_cmp (op_eqA hu) lr_eq (xe_ix (xe_var 0) xe_int) xe_str (by rfl)) (xw_and1 (xt_cmp (op_eqA hu) lr_eq (xe_cb call_len lc_len (by rfl) hB.m_len (by rfl) (xa_cons (xe_ix (xe_var 0) xe_int) xa_nil)) xe_int (by rfl)))))
    (xb_one (xs_ret xe_str))
    xb_nil)
  (xb_cons (xs_if (xt_cmp (op_eqA hu) lr_eq (xe_ix (xe_var 0) xe_int) xe_str (by rfl))
    (xb_cons (xs_setL 1 2 rfl hS.nd (xi_list (xe_call c_law_lots_once hr (Nat.le_refl _) (by rfl) (xa_cons (xe_ix (xe_var 0) xe_int) xa_nil))) (blkOk_by (by rfl)) (fun _ _ => .inl rfl) (fun _ _ _ _ _ => xts_nil) (fun _ _ _ _ _ => (xe_orT (xe_join xe_str (XL.fz (xl_lc 3 rfl hS.nd (xi_list (xe_var 2)) (blkOk_by (by rfl)) (fun _ _ => .inl rfl) (fun _ _ _ _ _ => xts_nil) (fun _ _ _ _ _ => (xe_ct call_strA lc_str (by rfl) hB.m_str (by rfl) (xa_cons (xe_var 3) xa_nil))) (fun _ _ => .inr rfl)))) (xe_one xe_str))) (fun _ _ => .inr rfl))
  (xb_one (xs_ret (xe_op op_addA lr_add xe_str (xe_join xe_str (xe_var 1))))))
    xb_nil)
  (xb_one (xs_ret (xe_op op_addA lr_add (xe_op op_addA lr_add (xe_op op_addA lr_add (xe_op op_addA lr_add (xe_ix (xe_var 0) xe_int) xe_str) (xe_call c_law_doubt_text hr (Nat.le_refl _) (by rfl) (xa_cons (xe_ix (xe_var 0) xe_int) xa_nil))) xe_str) (xe_call c_law_doubt_text hr (Nat.le_refl _) (by rfl) (xa_cons (xe_ix (xe_var 0) xe_int) xa_nil))))))))

theorem bd_law_chain {F_law_draw : FD} {X : Cx} {cdv : Value} {A : Around} {outer : List Env} {s : Shared} {H : Hp} {E : XK} (hX : X = (cxOf CX0 P w K mg base ["_law_source_here", "_law_deep", "_law_plan_here", "_law_turn", "_law_word", "_law_side"] "_law_chain" (defScope s_law_chain) f cdv A outer s H E).nox) (hr : Room k X.A) (c_law_draw : C8.Cal P w K mg base k "_law_draw" (spG 1 2 F_law_draw) []) : XB X Er0 (defBody s_law_chain) (rd_law_chain F_law_draw) := by
  subst hX
  have hS := sc_law_chain
  have hu := hr.units
  have hu0 := hr.units0
  have hu5 := units65 hr
  exact (xb_cons (xs_set 2 hS.nd (.inl rfl) (xe_tup (xa_cons xe_str (xa_cons (xe_callS 0 c_law_draw hr (Nat.le_refl _) (by rfl) (xa_cons xe_int xa_nil)) xa_nil))))
  (xb_cons (xs_for PassesOwn.never rfl (xi_rng1 (by rfl) hB.m_range (xa_cons (xe_var 1) xa_nil)) (xg_name 3 hS.nd (.inl rfl))
    (xb_cons (xs_set 4 hS.nd (.inl rfl) (xe_ix (XL.fz (xl_lst (xa_cons xe_str (xa_cons xe_str xa_nil)))) (xe_callS 0 c_law_draw hr (Nat.le_refl _) (by rfl) (xa_cons xe_int xa_nil))))
  (xb_cons (xs_set 5 hS.nd (.inl rfl) (xe_tup (xa_cons xe_str (xa_cons (xe_callS 0 c_law_draw hr (Nat.le_refl _) (by rfl) (xa_cons xe_int xa_nil)) xa_nil))))
  (xb_one (xs_set 2 hS.nd (.inl rfl) (xe_ix (XL.fz (xl_lst (xa_cons (xe_tup (xa_cons (xe_var 4) (xa_cons (xe_var 2) (xa_cons (xe_var 5) xa_nil)))) (xa_cons (xe_tup (xa_cons (xe_var 4) (xa_cons (xe_var 5) (xa_cons (xe_var 2) xa_nil)))) xa_nil)))) (xe_callS 0 c_law_draw hr (Nat.le_refl _) (by rfl) (xa_cons xe_int xa_nil))))))))
  (xb_one (xs_ret (xe_var 2)))))

theorem bd_law_line {X : Cx} {cdv : Value} {A : Around} {outer : List Env} {s : Shared} {H : Hp} {E : XK} (hX : X = (cxOf CX0 P w K mg base ["_law_deed_here", "_law_words", "_law_part"] "_law_line" (defScope s_law_line) f cdv A outer s H E).nox) (hr : Room k X.A) : XB X Er0 (defBody s_law_line) (rd_law_line) := by
  subst hX
  have hS := sc_law_line
  have hu := hr.units
  have hu0 := hr.units0
  have hu5 := units65 hr
  exact (xb_cons (xs_new 1 hS.nd (.inl rfl) (xl_lst xa_nil))
  (xb_cons (xs_for PassesOwn.never rfl (xi_tup (xe_var 0)) (xg_name 2 hS.nd (.inl rfl))
    (xb_one (xs_if (xt_cmp op_isN lr_isN (xe_var 2) xe_non (by rfl))
    (xb_one (xs_app 1 xe_str))
    (xb_one (xs_app 1 (xe_ct call_strA lc_str (by rfl) hB.m_str (by rfl) (xa_cons (xe_var 2) xa_nil)))))))
  (xb_cons (xs_if (xt_cmp (op_eqA hu) lr_eq (xe_ix (xe_var 0) xe_int) xe_str (by rfl))
    (xb_one (xs_setZ 1 hS.nd (.inl rfl) (xe_op op_addA lr_add (xe_op op_addA lr_add (xe_sl (xe_var 1) xo_none (xo_some xe_int)) (XL.fz (xl_lst (xa_cons xe_str xa_nil)))) (xe_sl (xe_var 1) (xo_some xe_int) xo_none))))
    xb_nil)
  (xb_one (xs_ret (xe_join xe_str (xe_var 1)))))))

theorem bd_law_row {F_law_whole : FD} {X : Cx} {cdv : Value} {A : Around} {outer : List Env} {s : Shared} {H : Hp} {E : XK} (hX : X = (cxOf CX0 P w K mg base ["_law_told", "_law_due", "_law_place"] "_law_row" (defScope s_law_row) f cdv A outer s H E).nox) (hr : Room k X.A) (c_law_whole : C8.Cal P w K mg base k "_law_whole" (spG 0 1 F_law_whole) []) : XB X Er0 (defBody s_law_row) (rd_law_row F_law_whole) := by
  subst hX
  have hS := sc_law_row
  have hu := hr.units
  have hu0 := hr.units0
  have hu5 := units65 hr
  exact (xb_cons (xs_if (XW.pt (xw_or (xt_not (xt_val (xe_is (T := "tuple") (by decide) (by rfl) hB.m_isinstance (by rfl) hB.m_tuple (by rfl) (xe_var 0)))) (xw_or1 (xt_cmp (op_neA hu) lr_ne (xe_cb call_len lc_len (by rfl) hB.m_len (by rfl) (xa_cons (xe_var 0) xa_nil)) (xe_cb call_len lc_len (by rfl) hB.m_len (by rfl) (xa_cons (xe_var 1) xa_nil)) (by rfl)))))
    (xb_one (xs_ret xe_bl))
    xb_nil)
  (xb_cons (xs_for PassesOwn.never rfl (xi_rng1 (by rfl) hB.m_range (xa_cons (xe_cb call_len lc_len (by rfl) hB.m_len (by rfl) (xa_cons (xe_var 1) xa_nil)) xa_nil)) (xg_name 2 hS.nd (.inl rfl))
    (xb_one (xs_if (xt_cmp op_isN lr_isN (xe_ix (xe_var 1) (xe_var 2)) xe_non (by rfl))
    (xb_one (xs_if (xt_cmp op_notN lr_ntN (xe_ix (xe_var 0) (xe_var 2)) xe_non (by rfl))
    (xb_one (xs_ret xe_bl))
    xb_nil))
    (xb_one (xs_if (xt_val (xe_is (T := "str") (by decide) (by rfl) hB.m_isinstance (by rfl) hB.m_str (by rfl) (xe_ix (xe_var 1) (xe_var 2))))
    (xb_one (xs_if (XW.pt (xw_or (xt_not (xt_val (xe_is (T := "str") (by decide) (by rfl) hB.m_isinstance (by rfl) hB.m_str (by rfl) (xe_ix (xe_var 0) (xe_var 2))))) (xw_or1 (xt_cmp (op_neA hu) lr_ne (xe_ix (xe_var 0) (xe_var 2)) (xe_ix (xe_var 1) (xe_var 2)) (by rfl)))))
    (xb_one (xs_ret xe_bl))
    xb_nil))
    (xb_one (xs_if (XW.pt (xw_or (xt_not (xt_val (xe_call c_law_whole hr (Nat.le_refl _) (by rfl) (xa_cons (xe_ix (xe_var 0) (xe_var 2)) xa_nil)))) (xw_or1 (xt_cmp (op_neA hu) lr_ne (xe_ix (xe_var 0) (xe_var 2)) (xe_ix (xe_var 1) (xe_var 2)) (by rfl)))))
    (xb_one (xs_ret xe_bl))
    xb_nil)))))))
  (xb_one (xs_ret xe_bl))))

theorem bd_law_number {F_law_draw : FD} {X : Cx} {cdv : Value} {A : Around} {outer : List Env} {s : Shared} {H : Hp} {E : XK} (hX : X = (cxOf CX0 P w K mg base ["_law_source_here", "_law_kind"] "_law_number" (defScope s_law_number) f cdv A outer s H E).nox) (hr : Room k X.A) (c_law_draw : C8.Cal P w K mg base k "_law_draw" (spG 1 2 F_law_draw) []) : XB X Er0 (defBody s_law_number) (rd_law_number F_law_draw) := by
  subst hX
  have hS := sc_law_number
  have hu := hr.units
  have hu0 := hr.units0
  have hu5 := units65 hr
  exact (xb_cons (xs_set 1 hS.nd (.inl rfl) (xe_callS 0 c_law_draw hr (Nat.le_refl _) (by rfl) (xa_cons xe_int xa_nil)))
  (xb_cons (xs_if (xt_cmp (op_eqA hu) lr_eq (xe_var 1) xe_int (by rfl))
    (xb_one (xs_ret (xe_op op_addA lr_add (xe_op op_mul lr_int (xe_callS 0 c_law_draw hr (Nat.le_refl _) (by rfl) (xa_cons (xe_op op_pow lr_int xe_int xe_int) xa_nil)) (xe_op op_pow lr_int xe_int xe_int)) (xe_callS 0 c_law_draw hr (Nat.le_refl _) (by rfl) (xa_cons (xe_op op_pow lr_int xe_int xe_int) xa_nil)))))
    xb_nil)
  (xb_cons (xs_if (xt_cmp (op_eqA hu) lr_eq (xe_var 1) xe_int (by rfl))
    (xb_one (xs_ret (xe_ix (XL.fz (xl_lst (xa_cons xe_int (xa_cons xe_int (xa_cons xe_int (xa_cons xe_int (xa_cons xe_int (xa_cons xe_int (xa_cons xe_int (xa_cons xe_int (xa_cons (xe_op op_pow lr_int xe_int xe_int) (xa_cons (xe_op op_sub lr_int0 (xe_op op_pow lr_int xe_int xe_int) xe_int) xa_nil)))))))))))) (xe_callS 0 c_law_draw hr (Nat.le_refl _) (by rfl) (xa_cons xe_int xa_nil)))))
    xb_nil)
  (xb_one (xs_ret (xe_callS 0 c_law_draw hr (Nat.le_refl _) (by rfl) (xa_cons xe_int xa_nil)))))))

theorem bd_law_signed {F_law_number : FD} {F_law_draw : FD} {X : Cx} {cdv : Value} {A : Around} {outer : List Env} {s : Shared} {H : Hp} {E : XK} (hX : X = (cxOf CX0 P w K mg base ["_law_source_here", "_law_number_here"] "_law_signed" (defScope s_law_signed) f cdv A outer s H E).nox) (hr : Room k X.A) (c_law_number : C8.Cal P w K mg base k "_law_number" (spG 1 1 F_law_number) []) (c_law_draw : C8.Cal P w K mg base k "_law_draw" (spG 1 2 F_law_draw) []) : XB X Er0 (defBody s_law_signed) (rd_law_signed F_law_number F_law_draw) := by
  subst hX
  have hS := sc_law_signed
  have hu := hr.units
  have hu0 := hr.units0
  have hu5 := units65 hr
  exact (xb_cons (xs_set 1 hS.nd (.inl rfl) (xe_callS 0 c_law_number hr (Nat.le_refl _) (by rfl) xa_nil))
  (xb_one (xs_ret (xe_ix (XL.fz (xl_lst (xa_cons (xe_var 1) (xa_cons (xe_op op_sub lr_int0 xe_int (xe_var 1)) xa_nil)))) (xe_callS 0 c_law_draw hr (Nat.le_refl _) (by rfl) (xa_cons xe_int xa_nil))))))

theorem bd_law_bound {F_law_signed : FD} {F_law_draw : FD} {X : Cx} {cdv : Value} {A : Around} {outer : List Env} {s : Shared} {H : Hp} {E : XK} (hX : X = (cxOf CX0 P w K mg base ["_law_source_here", "_law_number_here"] "_law_bound" (defScope s_law_bound) f cdv A outer s H E).nox) (hr : Room k X.A) (c_law_signed : C8.Cal P w K mg base k "_law_signed" (spG 1 1 F_law_signed) []) (c_law_draw : C8.Cal P w K mg base k "_law_draw" (spG 1 2 F_law_draw) []) : XB X Er0 (defBody s_law_bound) (rd_law_bound F_law_signed F_law_draw) := by
  subst hX
  have hS := sc_law_bound
  have hu := hr.units
  have hu0 := hr.units0
  have hu5 := units65 hr
  exact (xb_cons (xs_set 1 hS.nd (.inl rfl) (xe_callS 0 c_law_signed hr (Nat.le_refl _) (by rfl) xa_nil))
  (xb_one (xs_ret (xe_ix (XL.fz (xl_lst (xa_cons (xe_var 1) (xa_cons (xe_var 1) (xa_cons (xe_var 1) (xa_cons xe_non xa_nil)))))) (xe_callS 0 c_law_draw hr (Nat.le_refl _) (by rfl) (xa_cons xe_int xa_nil))))))

theorem bd_law_drawn_doubt {F_law_draw : FD} {F_law_chain : FD} {F_law_group : FD} {F_law_plan : FD} {X : Cx} {cdv : Value} {A : Around} {outer : List Env} {s : Shared} {H : Hp} {E : XK} (hX : X = (cxOf CX0 P w K mg base ["_law_source_here", "_law_kind", "_law_index"] "_law_drawn_doubt" (defScope s_law_drawn_doubt) f cdv A outer s H E).nox) (hr : Room k X.A) (c_law_draw : C8.Cal P w K mg base k "_law_draw" (spG 1 2 F_law_draw) []) (c_law_chain : C8.Cal P w K mg base k "_law_chain" (spG 1 2 F_law_chain) []) (c_law_group : C8.Cal P w K mg base k "_law_group" (spG 1 2 F_law_group) []) (c_law_plan : C8.Cal P w K mg base k "_law_plan" (spG 1 3 F_law_plan) []) : XB X Er0 (defBody s_law_drawn_doubt) (rd_law_drawn_doubt F_law_draw F_law_chain F_law_group F_law_plan) := by
  subst hX
  have hS := sc_law_drawn_doubt
  have hu := hr.units
  have hu0 := hr.units0
  have hu5 := units65 hr
  exact (xb_cons (xs_set 1 hS.nd (.inl rfl) (xe_callS 0 c_law_draw hr (Nat.le_refl _) (by rfl) (xa_cons xe_int xa_nil)))
  (xb_cons (xs_if (xt_cmp (op_eqA hu) lr_eq (xe_var 1) xe_int (by rfl))
    (xb_one (xs_ret (xe_ix (XL.fz (xl_lst (xa_cons (xe_tup (xa_cons xe_str (xa_cons xe_int xa_nil))) (xa_cons (xe_tup (xa_cons xe_str (xa_cons (xe_op op_pow lr_int xe_int xe_int) xa_nil))) (xa_cons (xe_tup (xa_cons xe_str (xa_cons (XL.fz (xl_lc 2 rfl hS.nd (xi_rng1 (by rfl) hB.m_range (xa_cons xe_int xa_nil)) (blkOk_by (by rfl)) (fun _ _ => .inl rfl) (fun _ _ _ _ _ => xts_nil) (fun _ _ _ _ _ => (XL.fz (xl_lst (xa_cons (xe_var 2) xa_nil)))) (fun _ _ => .inr rfl))) xa_nil))) xa_nil))))) (xe_callS 0 c_law_draw hr (Nat.le_refl _) (by rfl) (xa_cons xe_int xa_nil)))))
    xb_nil)
  (xb_cons (xs_if (xt_cmp (op_eqA hu) lr_eq (xe_var 1) xe_int (by rfl))
    (xb_one (xs_ret (xe_callS 0 c_law_chain hr (Nat.le_refl _) (by rfl) (xa_cons xe_int xa_nil))))
    xb_nil)
  (xb_cons (xs_if (xt_cmp (op_eqA hu) lr_eq (xe_var 1) xe_int (by rfl))
    (xb_one (xs_ret (xe_tup (xa_cons xe_str (xa_cons (XL.fz (xl_lst (xa_cons (xe_callS 0 c_law_group hr (Nat.le_refl _) (by rfl) (xa_cons xe_int xa_nil)) xa_nil))) xa_nil)))))
    xb_nil)
  (xb_one (xs_ret (xe_callS 0 c_law_plan hr (Nat.le_refl _) (by rfl) (xa_cons (xe_ix (XL.fz (xl_lst (xa_cons xe_int (xa_cons xe_int (xa_cons xe_int (xa_cons xe_int xa_nil)))))) (xe_callS 0 c_law_draw hr (Nat.le_refl _) (by rfl) (xa_cons xe_int xa_nil))) (xa_cons (xe_ix (XL.fz (xl_lst (xa_cons xe_int (xa_cons xe_int (xa_cons xe_int (xa_cons xe_int xa_nil)))))) (xe_callS 0 c_law_draw hr (Nat.le_refl _) (by rfl) (xa_cons xe_int xa_nil))) xa_nil)))))))))

theorem bd_law_deed {F_law_draw : FD} {F_law_number : FD} {F_law_bound : FD} {F_law_signed : FD} {F_law_doubt_text : FD} {F_law_chain : FD} {F_law_drawn_doubt : FD} {X : Cx} {cdv : Value} {A : Around} {outer : List Env} {s : Shared} {H : Hp} {E : XK} (hX : X = (cxOf CX0 P w K mg base ["_law_source_here", "_law_plain", "_law_kind", "_law_number_here", "_law_second", "_law_low"] "_law_deed" (defScope s_law_deed) f cdv A outer s H E).nox) (hr : Room k X.A) (c_law_draw : C8.Cal P w K mg base k "_law_draw" (spG 1 2 F_law_draw) []) (c_law_number : C8.Cal P w K mg base k "_law_number" (spG 1 1 F_law_number) []) (c_law_bound : C8.Cal P w K mg base k "_law_bound" (spG 1 1 F_law_bound) []) (c_law_signed : C8.Cal P w K mg base k "_law_signed" (spG 1 1 F_law_signed) []) (c_law_doubt_text : C8.Cal P w K mg base k "_law_doubt_text" (spG 0 1 F_law_doubt_text) []) (c_law_chain : C8.Cal P w K mg base k "_law_chain" (spG 1 2 F_law_chain) []) (c_law_drawn_doubt : C8.Cal P w K mg base k "_law_drawn_doubt" (spG 1 1 F_law_drawn_doubt) []) : XB X Er0 (defBody s_law_deed) (rd_law_deed F_law_draw F_law_number F_law_bound F_law_signed F_law_doubt_text F_law_chain F_law_drawn_doubt) := by
  subst hX
  have hS := sc_law_deed
  have hu := hr.units
  have hu0 := hr.units0
  have hu5 := units65 hr
  exact (xb_cons (xs_set 2 hS.nd (.inl rfl) (xe_callS 0 c_law_draw hr (Nat.le_refl _) (by rfl) (xa_cons xe_int xa_nil)))
  (xb_cons (xs_set 3 hS.nd (.inl rfl) (xe_callS 0 c_law_number hr (Nat.le_refl _) (by rfl) xa_nil))
  (xb_cons (xs_if (xt_cmp (op_eqA hu) lr_eq (xe_var 2) xe_int (by rfl))
    (xb_cons (xs_set 4 hS.nd (.inl rfl) (xe_callS 0 c_law_number hr (Nat.le_refl _) (by rfl) xa_nil))
  (xb_cons (xs_set 5 hS.nd (.inl rfl) (xe_callS 0 c_law_bound hr (Nat.le_refl _) (by rfl) xa_nil))
  (xb_one (xs_ret (xe_tup (xa_cons xe_str (xa_cons (xe_var 3) (xa_cons (xe_var 4) (xa_cons (xe_var 5) (xa_cons (xe_callS 0 c_law_bound hr (Nat.le_refl _) (by rfl) xa_nil) (xa_cons (xe_callS 0 c_law_number hr (Nat.le_refl _) (by rfl) xa_nil) xa_nil)))))))))))
    xb_nil)
  (xb_cons (xs_if (xt_cmp (op_eqA hu) lr_eq (xe_var 2) xe_int (by rfl))
    (xb_one (xs_ret (xe_tup (xa_cons xe_str (xa_cons (xe_var 3) (xa_cons (xe_callS 0 c_law_number hr (Nat.le_refl _) (by rfl) xa_nil) (xa_cons (xe_callS 0 c_law_signed hr (Nat.le_refl _) (by rfl) xa_nil) xa_nil)))))))
    xb_nil)
  (xb_cons (xs_if (xt_cmp (op_eqA hu) lr_eq (xe_var 2) xe_int (by rfl))
    (xb_cons (xs_set 5 hS.nd (.inl rfl) (xe_callS 0 c_law_bound hr (Nat.le_refl _) (by rfl) xa_nil))
  (xb_one (xs_ret (xe_tup (xa_cons xe_str (xa_cons (xe_var 3) (xa_cons (xe_var 5) (xa_cons (xe_callS 0 c_law_bound hr (Nat.le_refl _) (by rfl) xa_nil) xa_nil))))))))
    xb_nil)
  (xb_cons (xs_if (xt_cmp (op_eqA hu) lr_eq (xe_var 2) xe_int (by rfl))
    (xb_one (xs_ret (xe_tup (xa_cons xe_str (xa_cons (xe_var 3) xa_nil)))))
    xb_nil)
  (xb_cons (xs_if (xt_val (xe_var 1))
    (xb_one (xs_ret (xe_tup (xa_cons xe_str (xa_cons (xe_call c_law_doubt_text hr (Nat.le_refl _) (by rfl) (xa_cons (xe_callS 0 c_law_chain hr (Nat.le_refl _) (by rfl) (xa_cons (xe_callS 0 c_law_draw hr (Nat.le_refl _) (by rfl) (xa_cons xe_int xa_nil)) xa_nil)) xa_nil)) xa_nil)))))
    xb_nil)
  (xb_one (xs_ret (xe_tup (xa_cons xe_str (xa_cons (xe_call c_law_doubt_text hr (Nat.le_refl _) (by rfl) (xa_cons (xe_callS 0 c_law_drawn_doubt hr (Nat.le_refl _) (by rfl) xa_nil) xa_nil)) xa_nil))))))))))))

theorem bd_law_wrong_sign {F_law_draw : FD} {X : Cx} {cdv : Value} {A : Around} {outer : List Env} {s : Shared} {H : Hp} {E : XK} (hX : X = (cxOf CX0 P w K mg base ["_law_source_here", "_law_words", "_law_spots", "_law_sign", "_law_spot"] "_law_wrong_sign" (defScope s_law_wrong_sign) f cdv A outer s H E).nox) (hr : Room k X.A) (c_law_draw : C8.Cal P w K mg base k "_law_draw" (spG 1 2 F_law_draw) []) : XB X Er0 (defBody s_law_wrong_sign) (rd_law_wrong_sign F_law_draw) := by
  subst hX
  have hS := sc_law_wrong_sign
  have hu := hr.units
  have hu0 := hr.units0
  have hu5 := units65 hr
  exact (xb_cons (xs_set 2 hS.nd (.inl rfl) (XL.fz (xl_lst (xa_cons xe_int xa_nil))))
  (xb_cons (xs_set 3 hS.nd (.inl rfl) (xe_ix (XL.fz (xl_lst (xa_cons xe_str (xa_cons xe_str xa_nil)))) (xe_callS 0 c_law_draw hr (Nat.le_refl _) (by rfl) (xa_cons xe_int xa_nil))))
  (xb_cons (xs_if (xt_cmp (op_eqA hu) lr_eq (xe_ix (xe_var 1) xe_int) xe_str (by rfl))
    (xb_one (xs_set 2 hS.nd (.inl rfl) (XL.fz (xl_lst (xa_cons xe_int (xa_cons xe_int (xa_cons xe_int xa_nil)))))))
    xb_nil)
  (xb_cons (xs_if (xt_cmp (op_eqA hu) lr_eq (xe_ix (xe_var 1) xe_int) xe_str (by rfl))
    (xb_one (xs_set 2 hS.nd (.inl rfl) (xe_ix (XL.fz (xl_lst (xa_cons (XL.fz (xl_lst (xa_cons xe_int (xa_cons xe_int xa_nil)))) (xa_cons (XL.fz (xl_lst (xa_cons xe_int (xa_cons xe_int (xa_cons xe_int xa_nil))))) xa_nil)))) (xe_ct call_intA lc_int (by rfl) hB.m_int (by rfl) (xa_cons (xe_cmp (op_eqA hu) lr_eq (xe_var 3) xe_str (by rfl)) xa_nil)))))
    xb_nil)
  (xb_cons (xs_if (xt_cmp (op_eqA hu) lr_eq (xe_ix (xe_var 1) xe_int) xe_str (by rfl))
    (xb_one (xs_setL 2 4 rfl hS.nd (xi_rng2 (by rfl) hB.m_range (xa_cons xe_int (xa_cons (xe_cb call_len lc_len (by rfl) hB.m_len (by rfl) (xa_cons (xe_var 1) xa_nil)) xa_nil))) (blkOk_by (by rfl)) (fun _ _ => .inl rfl) (fun _ _ _ _ _ => (xts_one (xt_cmp (op_inA hu5) lr_in (xe_ix (xe_var 1) (xe_op op_sub lr_int0 (xe_var 4) xe_int)) (xe_tup (xa_cons xe_str (xa_cons xe_str (xa_cons xe_str xa_nil)))) (by rfl)))) (fun _ _ _ _ _ => (xe_var 4)) (fun _ _ => .inr rfl)))
    xb_nil)
  (xb_cons (xs_set 4 hS.nd (.inl rfl) (xe_ix (xe_var 2) (xe_callS 0 c_law_draw hr (Nat.le_refl _) (by rfl) (xa_cons (xe_cb call_len lc_len (by rfl) hB.m_len (by rfl) (xa_cons (xe_var 2) xa_nil)) xa_nil))))
  (xb_one (xs_ret (xe_op op_addA lr_add (xe_op op_addA lr_add (xe_sl (xe_var 1) xo_none (xo_some (xe_var 4))) (XL.fz (xl_lst (xa_cons (xe_var 3) xa_nil)))) (xe_sl (xe_var 1) (xo_some (xe_op op_addA lr_add (xe_var 4) xe_int)) xo_none))))))))))

theorem bd_law_bad_line {F_law_draw : FD} {F_law_wrong_sign : FD} {X : Cx} {cdv : Value} {A : Around} {outer : List Env} {s : Shared} {H : Hp} {E : XK} (hX : X = (cxOf CX0 P w K mg base ["_law_source_here", "_law_line_here", "_law_words", "_law_place", "_law_word", "_law_bad", "_law_kind"] "_law_bad_line" (defScope s_law_bad_line) f cdv A outer s H E).nox) (hr : Room k X.A) (c_law_draw : C8.Cal P w K mg base k "_law_draw" (spG 1 2 F_law_draw) []) (c_law_wrong_sign : C8.Cal P w K mg base k "_law_wrong_sign" (spG 1 2 F_law_wrong_sign) []) : XB X Er0 (defBody s_law_bad_line) (rd_law_bad_line F_law_draw F_law_wrong_sign) := by
  subst hX
  have hS := sc_law_bad_line
  have hu := hr.units
  have hu0 := hr.units0
  have hu5 := units65 hr
  exact (xb_cons (xs_new 2 hS.nd (.inl rfl) (xl_split (xe_var 1) xe_str))
  (xb_cons (xs_setF 3 hS.nd (.inl rfl) (xe_callS 0 c_law_draw hr (Nat.le_refl _) (by rfl) (xa_cons (xe_cb call_len lc_len (by rfl) hB.m_len (by rfl) (xa_cons (xe_var 2) xa_nil)) xa_nil)))
  (xb_cons (xs_setF 4 hS.nd (.inl rfl) (xe_ix (xe_var 2) (xe_var 3)))
  (xb_cons (xs_set 5 hS.nd (.inl rfl) (XL.fz (xl_lst (xa_cons xe_str (xa_cons xe_str (xa_cons xe_str (xa_cons xe_str (xa_cons xe_str (xa_cons xe_str (xa_cons xe_str (xa_cons xe_str (xa_cons xe_str (xa_cons xe_str (xa_cons xe_str (xa_cons xe_str (xa_cons xe_str xa_nil))))))))))))))))
  (xb_cons (xs_set 5 hS.nd (.inl rfl) (xe_op op_addA lr_add (xe_var 5) (XL.fz (xl_lst (xa_cons (xe_op op_addA lr_add xe_str (xe_var 4)) (xa_cons (xe_op op_addA lr_add (xe_var 4) xe_str) (xa_cons (xe_op op_addA lr_add xe_str (xe_var 4)) (xa_cons (xe_op op_addA lr_add (xe_var 4) xe_str) (xa_cons (xe_op op_addA lr_add (xe_op op_addA lr_add xe_str (xe_var 4)) xe_str) xa_nil)))))))))
  (xb_cons (xs_set 6 hS.nd (.inl rfl) (xe_callS 0 c_law_draw hr (Nat.le_refl _) (by rfl) (xa_cons xe_int xa_nil)))
  (xb_cons (xs_if (xt_cmp (op_eqA hu) lr_eq (xe_var 6) xe_int (by rfl))
    (xb_one (xs_app 2 (xe_ix (XL.fz (xl_lst (xa_cons xe_str (xa_cons xe_str (xa_cons xe_str (xa_cons xe_str xa_nil)))))) (xe_callS 0 c_law_draw hr (Nat.le_refl _) (by rfl) (xa_cons xe_int xa_nil)))))
    xb_nil)
  (xb_cons (xs_if (xt_cmp (op_eqA hu) lr_eq (xe_var 6) xe_int (by rfl))
    (xb_one (xs_setZ 2 hS.nd (.inl rfl) (xe_sl (xe_var 2) xo_none (xo_some (xe_neg xe_int)))))
    xb_nil)
  (xb_cons (xs_if (xt_cmp (op_eqA hu) lr_eq (xe_var 6) xe_int (by rfl))
    (xb_one (xs_setZ 2 hS.nd (.inl rfl) (xe_op op_addA lr_add (xe_op op_addA lr_add (xe_sl (xe_var 2) xo_none (xo_some (xe_var 3))) (XL.fz (xl_lst (xa_cons xe_str xa_nil)))) (xe_sl (xe_var 2) (xo_some (xe_var 3)) xo_none))))
    xb_nil)
  (xb_cons (xs_if (xt_cmp (op_eqA hu) lr_eq (xe_var 6) xe_int (by rfl))
    (xb_one (xs_put 2 (xe_op op_addA lr_add (xe_upper (xe_sl (xe_ix (xe_var 2) xe_int) xo_none (xo_some xe_int))) (xe_sl (xe_ix (xe_var 2) xe_int) (xo_some xe_int) xo_none)) xe_int))
    xb_nil)
  (xb_cons (xs_if (xt_cmp (op_eqA hu) lr_eq (xe_var 6) xe_int (by rfl))
    (xb_one (xs_setZ 2 hS.nd (.inl rfl) (xe_callS 0 c_law_wrong_sign hr (Nat.le_refl _) (by rfl) (xa_cons (xe_var 2) xa_nil))))
    xb_nil)
  (xb_cons (xs_if (xt_cmp (op_eqA hu) lr_eq (xe_var 6) xe_int (by rfl))
    (xb_one (xs_put 2 (xe_ix (XL.fz (xl_lst (xa_cons xe_str (xa_cons xe_str (xa_cons xe_str (xa_cons xe_str (xa_cons xe_str (xa_cons xe_str (xa_cons xe_str (xa_cons xe_str xa_nil)))))))))) (xe_callS 0 c_law_draw hr (Nat.le_refl _) (by rfl) (xa_cons xe_int xa_nil))) xe_int))
    xb_nil)
  (xb_cons (xs_if (xt_cmp op_gt lr_bool0 (xe_var 6) xe_int (by rfl))
    (xb_one (xs_put 2 (xe_ix (xe_var 5) (xe_callS 0 c_law_draw hr (Nat.le_refl _) (by rfl) (xa_cons (xe_cb call_len lc_len (by rfl) hB.m_len (by rfl) (xa_cons (xe_var 5) xa_nil)) xa_nil))) (xe_var 3)))
    xb_nil)
  (xb_one (xs_ret (xe_join xe_str (xe_var 2)))))))))))))))))

theorem bd_law_strange_line {F_law_draw : FD} {X : Cx} {cdv : Value} {A : Around} {outer : List Env} {s : Shared} {H : Hp} {E : XK} (hX : X = (cxOf CX0 P w K mg base ["_law_source_here", "_law_lots", "_law_lines", "_law_index"] "_law_strange_line" (defScope s_law_strange_line) f cdv A outer s H E).nox) (hr : Room k X.A) (c_law_draw : C8.Cal P w K mg base k "_law_draw" (spG 1 2 F_law_draw) []) : XB X Er0 (defBody s_law_strange_line) (rd_law_strange_line F_law_draw) := by
  subst hX
  have hS := sc_law_strange_line
  have hu := hr.units
  have hu0 := hr.units0
  have hu5 := units65 hr
  exact (xb_cons (xs_set 1 hS.nd (.inl rfl) (xe_join xe_str (XL.fz (xl_lc 3 rfl hS.nd (xi_rng2 (by rfl) hB.m_range (xa_cons xe_int (xa_cons xe_int xa_nil))) (blkOk_by (by rfl)) (fun _ _ => .inl rfl) (fun _ _ _ _ _ => xts_nil) (fun _ _ _ _ _ => (xe_ct call_strA lc_str (by rfl) hB.m_str (by rfl) (xa_cons (xe_var 3) xa_nil))) (fun _ _ => .inr rfl)))))
  (xb_cons (xs_set 2 hS.nd (.inl rfl) (XL.fz (xl_lst (xa_cons xe_str (xa_cons xe_str (xa_cons xe_str (xa_cons xe_str (xa_cons xe_str (xa_cons xe_str xa_nil)))))))))
  (xb_cons (xs_set 2 hS.nd (.inl rfl) (xe_op op_addA lr_add (xe_var 2) (XL.fz (xl_lst (xa_cons xe_str (xa_cons (xe_op op_addA lr_add xe_str (xe_var 1)) (xa_cons xe_str (xa_cons xe_str xa_nil))))))))
  (xb_cons (xs_set 2 hS.nd (.inl rfl) (xe_op op_addA lr_add (xe_var 2) (XL.fz (xl_lst (xa_cons xe_str (xa_cons xe_str (xa_cons xe_str (xa_cons xe_str xa_nil))))))))
  (xb_cons (xs_set 2 hS.nd (.inl rfl) (xe_op op_addA lr_add (xe_var 2) (XL.fz (xl_lst (xa_cons xe_str (xa_cons xe_str (xa_cons xe_str (xa_cons xe_str (xa_cons xe_str (xa_cons xe_str xa_nil))))))))))
  (xb_cons (xs_set 2 hS.nd (.inl rfl) (xe_op op_addA lr_add (xe_var 2) (XL.fz (xl_lst (xa_cons xe_str (xa_cons xe_str (xa_cons xe_str (xa_cons xe_str (xa_cons xe_str xa_nil)))))))))
  (xb_cons (xs_set 2 hS.nd (.inl rfl) (xe_op op_addA lr_add (xe_var 2) (XL.fz (xl_lst (xa_cons xe_str (xa_cons xe_str (xa_cons xe_str (xa_cons xe_str (xa_cons xe_str xa_nil)))))))))
  (xb_cons (xs_set 2 hS.nd (.inl rfl) (xe_op op_addA lr_add (xe_var 2) (XL.fz (xl_lst (xa_cons xe_str (xa_cons xe_str (xa_cons xe_str (xa_cons xe_str (xa_cons xe_str (xa_cons xe_str (xa_cons xe_str (xa_cons xe_str (xa_cons xe_str xa_nil)))))))))))))
  (xb_cons (xs_set 2 hS.nd (.inl rfl) (xe_op op_addA lr_add (xe_var 2) (XL.fz (xl_lst (xa_cons xe_str (xa_cons xe_str (xa_cons xe_str xa_nil)))))))
  (xb_one (xs_ret (xe_ix (xe_var 2) (xe_callS 0 c_law_draw hr (Nat.le_refl _) (by rfl) (xa_cons (xe_cb call_len lc_len (by rfl) hB.m_len (by rfl) (xa_cons (xe_var 2) xa_nil)) xa_nil))))))))))))))

theorem bd_law_wrong_line {F_law_draw : FD} {F_law_strange_line : FD} {F_law_doubt_text : FD} {F_law_chain : FD} {F_law_bad_line : FD} {X : Cx} {cdv : Value} {A : Around} {outer : List Env} {s : Shared} {H : Hp} {E : XK} (hX : X = (cxOf CX0 P w K mg base ["_law_source_here", "_law_record", "_law_kind"] "_law_wrong_line" (defScope s_law_wrong_line) f cdv A outer s H E).nox) (hr : Room k X.A) (c_law_draw : C8.Cal P w K mg base k "_law_draw" (spG 1 2 F_law_draw) []) (c_law_strange_line : C8.Cal P w K mg base k "_law_strange_line" (spG 1 1 F_law_strange_line) []) (c_law_doubt_text : C8.Cal P w K mg base k "_law_doubt_text" (spG 0 1 F_law_doubt_text) []) (c_law_chain : C8.Cal P w K mg base k "_law_chain" (spG 1 2 F_law_chain) []) (c_law_bad_line : C8.Cal P w K mg base k "_law_bad_line" (spG 1 2 F_law_bad_line) []) : XB X Er0 (defBody s_law_wrong_line) (rd_law_wrong_line F_law_draw F_law_strange_line F_law_doubt_text F_law_chain F_law_bad_line) := by
  subst hX
  have hS := sc_law_wrong_line
  have hu := hr.units
  have hu0 := hr.units0
  have hu5 := units65 hr
  exact (xb_cons (xs_set 2 hS.nd (.inl rfl) (xe_callS 0 c_law_draw hr (Nat.le_refl _) (by rfl) (xa_cons xe_int xa_nil)))
  (xb_cons (xs_if (xt_cmp (op_eqA hu) lr_eq (xe_var 2) xe_int (by rfl))
    (xb_one (xs_ret (xe_callS 0 c_law_strange_line hr (Nat.le_refl _) (by rfl) xa_nil)))
    xb_nil)
  (xb_cons (xs_if (xt_cmp (op_eqA hu) lr_eq (xe_var 2) xe_int (by rfl))
    (xb_one (xs_ret (xe_op op_addA lr_add xe_str (xe_call c_law_doubt_text hr (Nat.le_refl _) (by rfl) (xa_cons (xe_callS 0 c_law_chain hr (Nat.le_refl _) (by rfl) (xa_cons (xe_op op_addA lr_add xe_int (xe_callS 0 c_law_draw hr (Nat.le_refl _) (by rfl) (xa_cons xe_int xa_nil))) xa_nil)) xa_nil)))))
    xb_nil)
  (xb_cons (xs_if (XW.pt (xw_or (xt_cmp (op_eqA hu) lr_eq (xe_var 2) xe_int (by rfl)) (xw_or1 (xt_cmp op_isN lr_isN (xe_ix (xe_var 1) xe_int) xe_non (by rfl)))))
    (xb_one (xs_ret xe_str))
    xb_nil)
  (xb_one (xs_ret (xe_callS 0 c_law_bad_line hr (Nat.le_refl _) (by rfl) (xa_cons (xe_ix (xe_var 1) xe_int) xa_nil))))))))

theorem bd_law_spoilt {F_law_draw : FD} {F_law_wrong_line : FD} {X : Cx} {cdv : Value} {A : Around} {outer : List Env} {s : Shared} {H : Hp} {E : XK} (hX : X = (cxOf CX0 P w K mg base ["_law_source_here", "_law_records", "_law_kind", "_law_place", "_law_near", "_law_wrong"] "_law_spoilt" (defScope s_law_spoilt) f cdv A outer s H E).nox) (hr : Room k X.A) (c_law_draw : C8.Cal P w K mg base k "_law_draw" (spG 1 2 F_law_draw) []) (c_law_wrong_line : C8.Cal P w K mg base k "_law_wrong_line" (spG 1 2 F_law_wrong_line) []) : XB X Er0 (defBody s_law_spoilt) (rd_law_spoilt F_law_draw F_law_wrong_line) := by
  subst hX
  have hS := sc_law_spoilt
  have hu := hr.units
  have hu0 := hr.units0
  have hu5 := units65 hr
  exact (xb_cons (xs_set 2 hS.nd (.inl rfl) (xe_callS 0 c_law_draw hr (Nat.le_refl _) (by rfl) (xa_cons xe_int xa_nil)))
  (xb_cons (xs_set 3 hS.nd (.inl rfl) (xe_callS 0 c_law_draw hr (Nat.le_refl _) (by rfl) (xa_cons (xe_op op_addA lr_add (xe_cb call_len lc_len (by rfl) hB.m_len (by rfl) (xa_cons (xe_var 1) xa_nil)) xe_int) xa_nil)))
  (xb_cons (xs_set 4 hS.nd (.inl rfl) (XL.fz (xl_lst (xa_cons xe_str (xa_cons (xe_tup (xa_cons xe_str (xa_cons xe_int xa_nil))) xa_nil)))))
  (xb_cons (xs_if (xt_cmp op_lt lr_bool0 (xe_var 3) (xe_cb call_len lc_len (by rfl) hB.m_len (by rfl) (xa_cons (xe_var 1) xa_nil)) (by rfl))
    (xb_one (xs_set 4 hS.nd (.inl rfl) (xe_ix (xe_var 1) (xe_var 3))))
    xb_nil)
  (xb_cons (xs_if (xt_cmp (op_eqA hu) lr_eq (xe_var 2) xe_int (by rfl))
    (xb_one (xs_ret (xe_op op_addA lr_add (xe_var 1) (XL.fz (xl_lst (xa_cons (XL.fz (xl_lst (xa_cons xe_str (xa_cons xe_non xa_nil)))) xa_nil))))))
    xb_nil)
  (xb_cons (xs_set 5 hS.nd (.inl rfl) (XL.fz (xl_lst (xa_cons (xe_callS 0 c_law_wrong_line hr (Nat.le_refl _) (by rfl) (xa_cons (xe_var 4) xa_nil)) (xa_cons xe_non xa_nil)))))
  (xb_cons (xs_if (xt_cmp op_lt lr_bool0 (xe_var 2) xe_int (by rfl))
    (xb_one (xs_ret (xe_op op_addA lr_add (xe_op op_addA lr_add (xe_sl (xe_var 1) xo_none (xo_some (xe_var 3))) (XL.fz (xl_lst (xa_cons (xe_var 5) xa_nil)))) (xe_sl (xe_var 1) (xo_some (xe_var 3)) xo_none))))
    xb_nil)
  (xb_one (xs_ret (xe_op op_addA lr_add (xe_op op_addA lr_add (xe_sl (xe_var 1) xo_none (xo_some (xe_var 3))) (XL.fz (xl_lst (xa_cons (xe_var 5) xa_nil)))) (xe_sl (xe_var 1) (xo_some (xe_op op_addA lr_add (xe_var 3) xe_int)) xo_none)))))))))))

theorem bd_law_text {X : Cx} {cdv : Value} {A : Around} {outer : List Env} {s : Shared} {H : Hp} {E : XK} (hX : X = (cxOf CX0 P w K mg base ["_law_records", "_law_record"] "_law_text" (defScope s_law_text) f cdv A outer s H E).nox) (hr : Room k X.A) : XB X Er0 (defBody s_law_text) (rd_law_text) := by
  subst hX
  have hS := sc_law_text
  have hu := hr.units
  have hu0 := hr.units0
  have hu5 := units65 hr
  exact (xb_one (xs_ret (xe_join xe_str (XL.fz (xl_lc 1 rfl hS.nd (xi_list (xe_var 0)) (blkOk_by (by rfl)) (fun _ _ => .inl rfl) (fun _ _ _ _ _ => xts_nil) (fun _ _ _ _ _ => (xe_ix (xe_var 1) xe_int)) (fun _ _ => .inr rfl))))))

theorem bd_law_first_bad {F_law_text : FD} {X : Cx} {cdv : Value} {A : Around} {outer : List Env} {s : Shared} {H : Hp} {E : XK} (hX : X = (cxOf CX0 P w K mg base ["_law_records", "_law_index"] "_law_first_bad" (defScope s_law_first_bad) f cdv A outer s H E).nox) (hr : Room k X.A) (c_law_text : C8.Cal P w K mg base k "_law_text" (spG 0 1 F_law_text) []) : XB X Er0 (defBody s_law_first_bad) (rd_law_first_bad F_law_text) := by
  subst hX
  have hS := sc_law_first_bad
  have hu := hr.units
  have hu0 := hr.units0
  have hu5 := units65 hr
  exact (xb_cons (xs_if (xt_cmp (op_eqA hu) lr_eq (xe_call c_law_text hr (Nat.le_refl _) (by rfl) (xa_cons (xe_var 0) xa_nil)) xe_str (by rfl))
    (xb_one (xs_ret xe_int))
    xb_nil)
  (xb_cons (xs_for PassesOwn.never rfl (xi_rng1 (by rfl) hB.m_range (xa_cons (xe_cb call_len lc_len (by rfl) hB.m_len (by rfl) (xa_cons (xe_var 0) xa_nil)) xa_nil)) (xg_name 1 hS.nd (.inl rfl))
    (xb_one (xs_if (xt_cmp op_isN lr_isN (xe_ix (xe_ix (xe_var 0) (xe_var 1)) xe_int) xe_non (by rfl))
    (xb_one (xs_ret (xe_op op_addA lr_add (xe_var 1) xe_int)))
    xb_nil)))
  (xb_one (xs_ret xe_int))))

theorem bd_law_rows {F_law_row : FD} {X : Cx} {cdv : Value} {A : Around} {outer : List Env} {s : Shared} {H : Hp} {E : XK} (hX : X = (cxOf CX0 P w K mg base ["_law_told", "_law_due", "_law_place"] "_law_rows" (defScope s_law_rows) f cdv A outer s H E).nox) (hr : Room k X.A) (c_law_row : C8.Cal P w K mg base k "_law_row" (spG 0 2 F_law_row) []) : XB X Er0 (defBody s_law_rows) (rd_law_rows F_law_row) := by
  subst hX
  have hS := sc_law_rows
  have hu := hr.units
  have hu0 := hr.units0
  have hu5 := units65 hr
  exact (xb_cons (xs_if (XW.pt (xw_or (xt_not (xt_val (xe_is (T := "list") (by decide) (by rfl) hB.m_isinstance (by rfl) hB.m_list (by rfl) (xe_var 0)))) (xw_or1 (xt_cmp (op_neA hu) lr_ne (xe_cb call_len lc_len (by rfl) hB.m_len (by rfl) (xa_cons (xe_var 0) xa_nil)) (xe_cb call_len lc_len (by rfl) hB.m_len (by rfl) (xa_cons (xe_var 1) xa_nil)) (by rfl)))))
    (xb_one (xs_ret xe_bl))
    xb_nil)
  (xb_cons (xs_for PassesOwn.never rfl (xi_rng1 (by rfl) hB.m_range (xa_cons (xe_cb call_len lc_len (by rfl) hB.m_len (by rfl) (xa_cons (xe_var 1) xa_nil)) xa_nil)) (xg_name 2 hS.nd (.inl rfl))
    (xb_one (xs_if (xt_not (xt_val (xe_call c_law_row hr (Nat.le_refl _) (by rfl) (xa_cons (xe_ix (xe_var 0) (xe_var 2)) (xa_cons (xe_ix (xe_var 1) (xe_var 2)) xa_nil)))))
    (xb_one (xs_ret xe_bl))
    xb_nil)))
  (xb_one (xs_ret xe_bl))))

end
end K82
set_option Elab.async false
set_option linter.all false
set_option maxRecDepth 100000
namespace K82
open PySem PySem.Spec PyProof.Rows L2 Ly
def fldOf (nm : Str) : Str := if nm = "BadText" then "line" else "part"
/-- how an error of the program lies -/
def XV (mg : Str → Option Value) : PyData → Value → Option Addr → Hp → Prop := fun x cls d H => ∃ (nm : Str) (p : PyData) (C dx : Addr) (v : V), (nm = "BadText" ∨ nm = "InvalidDoubt") ∧ x = .tuple [.str nm, p] ∧ mg nm = some (.ref C) ∧ cls = .ref C ∧ d = some dx ∧ H dx = some (.xd [(fldOf nm, v)]) ∧ Dv (fun _ => none) v p
def OkS : V → Prop := fun v => ∃ s : Str, v = .str s ∧ s.length ≤ 100
def OkI : V → Prop := fun v => ∃ i : Int, v = .int i ∧ 0 ≤ i ∧ i < 1000000
def OkdS : PyData → Prop := fun v => ∃ s : Str, v = .str s ∧ s.length ≤ 100
def OkdI : PyData → Prop := fun v => ∃ i : Int, v = .int i ∧ 0 ≤ i ∧ i < 1000000
theorem okS_of : ∀ (B : Hp) (v : V) (y : PyData), Dv B v y → OkdS y → OkS v := fun B v y h ⟨s, e, hl⟩ => by
  subst e
  cases h
  exact ⟨s, rfl, hl⟩
theorem okI_of : ∀ (B : Hp) (v : V) (y : PyData), Dv B v y → OkdI y → OkI v := fun B v y h ⟨s, e, hl⟩ => by
  subst e
  cases h
  exact ⟨s, rfl, hl⟩
section
variable {mg : Str → Option Value} {C : Addr}
theorem xv_I (hm : mg "InvalidDoubt" = some (.ref C)) : ∀ (H' : Hp) (dx : Addr) (v : V) (y : PyData), H' dx = some (.xd [("part", v)]) → Dv (fun _ => none) v y → XV mg (.tuple [.str "InvalidDoubt", y]) (.ref C) (some dx) H' := fun H' dx v y h d =>
  ⟨"InvalidDoubt", y, C, dx, v, .inr rfl, rfl, hm, rfl, rfl, h, d⟩
theorem xv_B (hm : mg "BadText" = some (.ref C)) : ∀ (H' : Hp) (dx : Addr) (v : V) (y : PyData), H' dx = some (.xd [("line", v)]) → Dv (fun _ => none) v y → XV mg (.tuple [.str "BadText", y]) (.ref C) (some dx) H' := fun H' dx v y h d =>
  ⟨"BadText", y, C, dx, v, .inl rfl, rfl, hm, rfl, rfl, h, d⟩
end
end K82
set_option Elab.async false
set_option linter.all false
set_option maxRecDepth 100000
set_option maxHeartbeats 4000000
namespace K82
open PySem PySem.Spec PyProof.Rows L2 Ly
theorem sc_known_lot : FnScope ["lot", "numbers", "index", "number"] ["lot"] (defScope s_known_lot) := ⟨rfl, rfl, rfl, by decide +kernel, rfl, by decide +kernel, by decide +kernel⟩
def rd_known_lot : DS :=
  (dSeq (dSet 1 (dCB sortD (dCons (dVar 0) dNil)))
  (dSeq (dFor (diE (dCons (dVar 1) dNil)) (dgT2 2 3)
    (dSeq (dIfS (dNot (dTst (dChain leD leD (dC (.int 0)) (dVar 3) (dC (.int 39)))))
    (dRaise "InvalidDoubt" OkdS (dC (.str "lots")))
    dNext)
  (dIfS (dAnd (dTst (dOp gtD (dVar 2) (dC (.int 0)))) (dTst (dOp eqD (dOp ixD (dVar 1) (dOp subD (dVar 2) (dC (.int 1)))) (dVar 3))))
    (dRaise "InvalidDoubt" OkdS (dC (.str "lots")))
    dNext)))
  (dRet (dCB toTupD (dCons (dVar 1) dNil)))))

theorem sc_AtMost_init : FnScope ["self", "count"] ["self", "count"] (defScope s_AtMost_init) := ⟨rfl, rfl, rfl, by decide +kernel, rfl, by decide +kernel, by decide +kernel⟩
def rd_AtMost_init (Cc : Addr) : DS :=
  (dSeq (dIfS (dNot (dTst (dChain leD leD (dC (.int 0)) (dVar 1) (dC (.int 99)))))
    (dRaise "InvalidDoubt" OkdS (dC (.str "count")))
    dNext)
  (dPutF 0 Cc "count" (dVar 1)))

theorem sc_Within_init : FnScope ["self", "limit"] ["self", "limit"] (defScope s_Within_init) := ⟨rfl, rfl, rfl, by decide +kernel, rfl, by decide +kernel, by decide +kernel⟩
def rd_Within_init (Cc : Addr) : DS :=
  (dSeq (dIfS (dNot (dTst (dChain leD leD (dC (.int 0)) (dVar 1) (dC (.int 1000000)))))
    (dRaise "InvalidDoubt" OkdS (dC (.str "limit")))
    dNext)
  (dPutF 0 Cc "limit" (dVar 1)))

theorem sc_Lots_init : FnScope ["self", "lots", "known", "lot", "numbers"] ["self", "lots"] (defScope s_Lots_init) := ⟨rfl, rfl, rfl, by decide +kernel, rfl, by decide +kernel, by decide +kernel⟩
def rd_Lots_init (F_mask_of : FD) (F_known_lot : FX) (Cc : Addr) : DS :=
  (dSeq (dIfS (dTst (dOp gtD (dCB lenD (dCons (dVar 1) dNil)) (dC (.int 24))))
    (dRaise "InvalidDoubt" OkdS (dC (.str "lots")))
    dNext)
  (dSeq (dNew 2 (dLst dNil))
  (dSeq (dFor (diT (dVar 1)) (dgN 3)
    (dSeq (dSetX 4 (dCX 1 F_known_lot (dCons (dVar 3) dNil)))
  (dIfS (dTst (dOp ninD (dVar 4) (dVar 2)))
    (dApp 2 (dVar 4))
    dNext)))
  (dSeq (dPutF 0 Cc "lots" (dCB toTupD (dCons (dCB sortD (dCons (dVar 2) dNil)) dNil)))
  (dPutF 0 Cc "masks" (dCB toTupD (dCons (dFzL (dLc 4 (diT (dGetF 0 Cc "lots")) dYes (dCall 1 F_mask_of (dCons (dVar 4) dNil)))) dNil)))))))

theorem sc_build_doubt : FnScope ["plain", "first", "second"] ["plain"] (defScope s_build_doubt) := ⟨rfl, rfl, rfl, by decide +kernel, rfl, by decide +kernel, by decide +kernel⟩
def rd_build_doubt (F_build_doubt : FX) (F_AtMost : FI) (F_Within : FI) (F_Lots : FI) : DS :=
  (dSeq (dIfS (dTst (dOp eqD (dOp ixD (dVar 0) (dC (.int 0))) (dC (.str "most"))))
    (dRetX (dMk 2 F_AtMost (dCons (dOp ixD (dVar 0) (dC (.int 1))) dNil)))
    dNext)
  (dSeq (dIfS (dTst (dOp eqD (dOp ixD (dVar 0) (dC (.int 0))) (dC (.str "within"))))
    (dRetX (dMk 2 F_Within (dCons (dOp ixD (dVar 0) (dC (.int 1))) dNil)))
    dNext)
  (dSeq (dIfS (dTst (dOp eqD (dOp ixD (dVar 0) (dC (.int 0))) (dC (.str "lots"))))
    (dRetX (dMk 2 F_Lots (dCons (dOp ixD (dVar 0) (dC (.int 1))) dNil)))
    dNext)
  (dSeq (dSetX 1 (dCX 1 F_build_doubt (dCons (dOp ixD (dVar 0) (dC (.int 1))) dNil)))
  (dSeq (dSetX 2 (dCX 1 F_build_doubt (dCons (dOp ixD (dVar 0) (dC (.int 2))) dNil)))
  (dSeq (dIfS (dTst (dOp eqD (dOp ixD (dVar 0) (dC (.int 0))) (dC (.str "both"))))
    (dRetX (dMk2 1 2))
    dNext)
  (dRetX (dMk2 1 2))))))))

theorem sc_parse_doubt : FnScope ["text", "plain"] ["text"] (defScope s_parse_doubt) := ⟨rfl, rfl, rfl, by decide +kernel, rfl, by decide +kernel, by decide +kernel⟩
def rd_parse_doubt (F_read_doubt : FD) (F_split_words : FD) (F_build_doubt : FX) : DS :=
  (dSeq (dSet 1 (dCall 1 F_read_doubt (dCons (dCall 1 F_split_words (dCons (dVar 0) dNil)) dNil)))
  (dSeq (dIfS (dTst (dOp isND (dVar 1) (dC .none)))
    (dRaise "BadText" OkdI (dC (.int 1)))
    dNext)
  (dRetX (dCX 1 F_build_doubt (dCons (dVar 1) dNil)))))

theorem sc_parse_deeds : FnScope ["text", "found", "index", "line", "deed"] ["text"] (defScope s_parse_deeds) := ⟨rfl, rfl, rfl, by decide +kernel, rfl, by decide +kernel, by decide +kernel⟩
def rd_parse_deeds (F_read_deed : FD) : DS :=
  (dSeq (dIfS (dTst (dOp eqD (dVar 0) (dC (.str ""))))
    (dRetL (dLst dNil))
    dNext)
  (dSeq (dNew 1 (dLst dNil))
  (dSeq (dFor (diE (dCons (dFzL (dSplit (dVar 0) (dC (.str "\n")))) dNil)) (dgT2 2 3)
    (dSeq (dSet 4 (dCall 1 F_read_deed (dCons (dVar 3) dNil)))
  (dSeq (dIfS (dTst (dOp isND (dVar 4) (dC .none)))
    (dRaise "BadText" OkdI (dOp addD (dVar 2) (dC (.int 1))))
    dNext)
  (dApp 1 (dVar 4)))))
  (dRetO 1))))

section
variable {P : Program} {w : World} {K : PySem.W.Frag} {mg : Str → Option Value} {base : Heap} {f : Addr} {k : Nat}
variable (hB : Bl mg)
include hB

theorem bd_known_lot {CI : Addr} {X : Cx} {cdv : Value} {A : Around} {outer : List Env} {s : Shared} {H : Hp} {E : XK} (hX : X = cxOf (L2.CX P w) P w K mg base ["lot", "numbers", "index", "number"] "known_lot" (defScope s_known_lot) f cdv A outer s H E) (tk : Takes X (ErF E (XV mg)).W) (hp : PassesOwn (model X.prog X.w) X.A X.env X.xe) (hr : Room (k + 1) X.A) (mI : Mkr P w K mg base k "InvalidDoubt" "part" CI OkS) (gI : mg "InvalidDoubt" = some (.ref CI)) : XB X (ErF E (XV mg)) (defBody s_known_lot) (rd_known_lot) := by
  subst hX
  have hS := sc_known_lot
  have hu := hr.units
  have hu0 := hr.units0
  have hu5 := units65 hr
  exact (xb_cons (xs_set 1 hS.nd (.inl rfl) (xe_cb (cr_srt hr) lc_srt (by rfl) hB.m_sorted (by rfl) (xa_cons (xe_var 0) xa_nil)))
  (xb_cons (xs_for hp rfl (xi_enum (by rfl) hB.m_enumerate (xa_cons (xe_var 1) xa_nil)) (xg_two 2 3 rfl hS.nd (.inl rfl) (.inl rfl))
    (xb_cons (xs_if (xt_not (xt_chain op_le op_le lr_bool0 lr_bool0 xe_int (xe_var 3) (xe_gint (by rfl) hB.c_MOST_NUMBER)))
    (xb_one (xs_raise rfl tk mI hr (Nat.le_refl _) (by rfl) okS_of (xv_I gI) xe_str))
    xb_nil)
  (xb_one (xs_if (XW.pt (xw_and (xt_cmp op_gt lr_bool0 (xe_var 2) xe_int (by rfl)) (xw_and1 (xt_cmp (op_eqA hu) lr_eq (xe_ix (xe_var 1) (xe_op op_sub lr_int0 (xe_var 2) xe_int)) (xe_var 3) (by rfl)))))
    (xb_one (xs_raise rfl tk mI hr (Nat.le_refl _) (by rfl) okS_of (xv_I gI) xe_str))
    xb_nil))))
  (xb_one (xs_ret (xe_ct call_tuple_of lc_tup (by rfl) hB.m_tuple (by rfl) (xa_cons (xe_var 1) xa_nil))))))

theorem bd_AtMost_init {CI : Addr} {Cc : Addr} {X : Cx} {cdv : Value} {A : Around} {outer : List Env} {s : Shared} {H : Hp} {E : XK} (hX : X = cxOf (L2.CX P w) P w K mg base ["self", "count"] "AtMost.__init__" (defScope s_AtMost_init) f cdv A outer s H E) (tk : Takes X (ErF E (XV mg)).W) (hp : PassesOwn (model X.prog X.w) X.A X.env X.xe) (hr : Room (k + 1) X.A) (mI : Mkr P w K mg base k "InvalidDoubt" "part" CI OkS) (gI : mg "InvalidDoubt" = some (.ref CI)) (hC : Cls K Cc) (n_count : NoAttr K Cc "count") : XB X (ErF E (XV mg)) (defBody s_AtMost_init) (rd_AtMost_init Cc) := by
  subst hX
  have hS := sc_AtMost_init
  have hu := hr.units
  have hu0 := hr.units0
  have hu5 := units65 hr
  exact (xb_cons (xs_if (xt_not (xt_chain op_le op_le lr_bool0 lr_bool0 xe_int (xe_var 1) (xe_gint (by rfl) hB.c_MOST_COUNT)))
    (xb_one (xs_raise rfl tk mI hr (Nat.le_refl _) (by rfl) okS_of (xv_I gI) xe_str))
    xb_nil)
  (xb_one (xs_fld 0 hC n_count (xe_var 1))))

theorem bd_Within_init {CI : Addr} {Cc : Addr} {X : Cx} {cdv : Value} {A : Around} {outer : List Env} {s : Shared} {H : Hp} {E : XK} (hX : X = cxOf (L2.CX P w) P w K mg base ["self", "limit"] "Within.__init__" (defScope s_Within_init) f cdv A outer s H E) (tk : Takes X (ErF E (XV mg)).W) (hp : PassesOwn (model X.prog X.w) X.A X.env X.xe) (hr : Room (k + 1) X.A) (mI : Mkr P w K mg base k "InvalidDoubt" "part" CI OkS) (gI : mg "InvalidDoubt" = some (.ref CI)) (hC : Cls K Cc) (n_limit : NoAttr K Cc "limit") : XB X (ErF E (XV mg)) (defBody s_Within_init) (rd_Within_init Cc) := by
  subst hX
  have hS := sc_Within_init
  have hu := hr.units
  have hu0 := hr.units0
  have hu5 := units65 hr
  exact (xb_cons (xs_if (xt_not (xt_chain op_le op_le lr_bool0 lr_bool0 xe_int (xe_var 1) (xe_gint (by rfl) hB.c_MOST_LIMIT)))
    (xb_one (xs_raise rfl tk mI hr (Nat.le_refl _) (by rfl) okS_of (xv_I gI) xe_str))
    xb_nil)
  (xb_one (xs_fld 0 hC n_limit (xe_var 1))))

theorem bd_Lots_init {F_mask_of : FD} {F_known_lot : FX} {CI : Addr} {Cc : Addr} {X : Cx} {cdv : Value} {A : Around} {outer : List Env} {s : Shared} {H : Hp} {E : XK} (hX : X = cxOf (L2.CX P w) P w K mg base ["self", "lots", "known", "lot", "numbers"] "Lots.__init__" (defScope s_Lots_init) f cdv A outer s H E) (tk : Takes X (ErF E (XV mg)).W) (hp : PassesOwn (model X.prog X.w) X.A X.env X.xe) (hr : Room (k + 1) X.A) (c_mask_of : C8.Cal P w K mg base k "mask_of" (spG 0 1 F_mask_of) []) (c_known_lot : CalX P w K mg base k "known_lot" (spX 1 (XV mg) F_known_lot)) (mI : Mkr P w K mg base k "InvalidDoubt" "part" CI OkS) (gI : mg "InvalidDoubt" = some (.ref CI)) (hC : Cls K Cc) (n_lots : NoAttr K Cc "lots") (n_masks : NoAttr K Cc "masks") : XB X (ErF E (XV mg)) (defBody s_Lots_init) (rd_Lots_init F_mask_of F_known_lot Cc) := by
  subst hX
  have hS := sc_Lots_init
  have hu := hr.units
  have hu0 := hr.units0
  have hu5 := units65 hr
  exact (xb_cons (xs_if (xt_cmp op_gt lr_bool0 (xe_cb call_len lc_len (by rfl) hB.m_len (by rfl) (xa_cons (xe_var 1) xa_nil)) (xe_gint (by rfl) hB.c_MOST_LOTS) (by rfl))
    (xb_one (xs_raise rfl tk mI hr (Nat.le_refl _) (by rfl) okS_of (xv_I gI) xe_str))
    xb_nil)
  (xb_cons (xs_new 2 hS.nd (.inl rfl) (xl_lst xa_nil))
  (xb_cons (xs_for hp rfl (xi_tup (xe_var 1)) (xg_name 3 hS.nd (.inl rfl))
    (xb_cons (xs_setX 4 hS.nd (.inl rfl) (xx_call tk c_known_lot hr (Nat.le_succ _) (by rfl) (xa_cons (xe_var 3) xa_nil)))
  (xb_one (xs_if (xt_cmp (op_ninA hu5) lr_nin (xe_var 4) (xe_var 2) (by rfl))
    (xb_one (xs_app 2 (xe_var 4)))
    xb_nil))))
  (xb_cons (xs_fld 0 hC n_lots (xe_ct call_tuple_of lc_tup (by rfl) hB.m_tuple (by rfl) (xa_cons (xe_cb (cr_srt hr) lc_srt (by rfl) hB.m_sorted (by rfl) (xa_cons (xe_var 2) xa_nil)) xa_nil)))
  (xb_one (xs_fld 0 hC n_masks (xe_ct call_tuple_of lc_tup (by rfl) hB.m_tuple (by rfl) (xa_cons (XL.fz (xl_lc 4 rfl hS.nd (xi_tup (xe_fld 0 hC n_lots)) (blkOk_by (by rfl)) (fun _ _ => .inl rfl) (fun _ _ _ _ _ => xts_nil) (fun _ _ _ _ _ => (xe_call c_mask_of hr (Nat.le_succ _) (by rfl) (xa_cons (xe_var 4) xa_nil))) (fun _ _ => .inr rfl))) xa_nil))))))))

theorem bd_build_doubt {F_build_doubt : FX} {F_AtMost : FI} {F_Within : FI} {F_Lots : FI} {C_AtMost : Addr} {C_Within : Addr} {C_Lots : Addr} {C_Both : Addr} {C_Either : Addr} {X : Cx} {cdv : Value} {A : Around} {outer : List Env} {s : Shared} {H : Hp} {E : XK} (hX : X = cxOf (L2.CX P w) P w K mg base ["plain", "first", "second"] "build_doubt" (defScope s_build_doubt) f cdv A outer s H E) (tk : Takes X (ErF E (XV mg)).W) (hp : PassesOwn (model X.prog X.w) X.A X.env X.xe) (hr : Room (k + 1) X.A) (c_build_doubt : CalX P w K mg base k "build_doubt" (spX 1 (XV mg) F_build_doubt)) (k_AtMost : MakX P w K mg base k "AtMost" C_AtMost (spI 2 C_AtMost (XV mg) F_AtMost)) (k_Within : MakX P w K mg base k "Within" C_Within (spI 2 C_Within (XV mg) F_Within)) (k_Lots : MakX P w K mg base k "Lots" C_Lots (spI 2 C_Lots (XV mg) F_Lots)) (k_Both : C8.Mak P w K mg base k "Both" C_Both (spP C_Both) []) (k_Either : C8.Mak P w K mg base k "Either" C_Either (spP C_Either) []) : XB X (ErF E (XV mg)) (defBody s_build_doubt) (rd_build_doubt F_build_doubt F_AtMost F_Within F_Lots) := by
  subst hX
  have hS := sc_build_doubt
  have hu := hr.units
  have hu0 := hr.units0
  have hu5 := units65 hr
  exact (xb_cons (xs_if (xt_cmp (op_eqA hu) lr_eq (xe_ix (xe_var 0) xe_int) xe_str (by rfl))
    (xb_one (xs_retX (xx_make tk k_AtMost hr (Nat.le_refl _) (by rfl) (xa_cons (xe_ix (xe_var 0) xe_int) xa_nil))))
    xb_nil)
  (xb_cons (xs_if (xt_cmp (op_eqA hu) lr_eq (xe_ix (xe_var 0) xe_int) xe_str (by rfl))
    (xb_one (xs_retX (xx_make tk k_Within hr (Nat.le_refl _) (by rfl) (xa_cons (xe_ix (xe_var 0) xe_int) xa_nil))))
    xb_nil)
  (xb_cons (xs_if (xt_cmp (op_eqA hu) lr_eq (xe_ix (xe_var 0) xe_int) xe_str (by rfl))
    (xb_one (xs_retX (xx_make tk k_Lots hr (Nat.le_refl _) (by rfl) (xa_cons (xe_ix (xe_var 0) xe_int) xa_nil))))
    xb_nil)
  (xb_cons (xs_setX 1 hS.nd (.inl rfl) (xx_call tk c_build_doubt hr (Nat.le_succ _) (by rfl) (xa_cons (xe_ix (xe_var 0) xe_int) xa_nil)))
  (xb_cons (xs_setX 2 hS.nd (.inl rfl) (xx_call tk c_build_doubt hr (Nat.le_succ _) (by rfl) (xa_cons (xe_ix (xe_var 0) xe_int) xa_nil)))
  (xb_cons (xs_if (xt_cmp (op_eqA hu) lr_eq (xe_ix (xe_var 0) xe_int) xe_str (by rfl))
    (xb_one (xs_retX (xx_make2 (l := 1) (m := 2) k_Both hr (Nat.le_refl _) (by rfl))))
    xb_nil)
  (xb_one (xs_retX (xx_make2 (l := 1) (m := 2) k_Either hr (Nat.le_refl _) (by rfl))))))))))

theorem bd_parse_doubt {F_read_doubt : FD} {F_split_words : FD} {F_build_doubt : FX} {CB : Addr} {X : Cx} {cdv : Value} {A : Around} {outer : List Env} {s : Shared} {H : Hp} {E : XK} (hX : X = cxOf (L2.CX P w) P w K mg base ["text", "plain"] "parse_doubt" (defScope s_parse_doubt) f cdv A outer s H E) (tk : Takes X (ErF E (XV mg)).W) (hp : PassesOwn (model X.prog X.w) X.A X.env X.xe) (hr : Room (k + 1) X.A) (c_read_doubt : C8.Cal P w K mg base k "read_doubt" (spG 0 1 F_read_doubt) []) (c_split_words : C8.Cal P w K mg base k "split_words" (spG 0 1 F_split_words) []) (c_build_doubt : CalX P w K mg base k "build_doubt" (spX 1 (XV mg) F_build_doubt)) (mB : Mkr P w K mg base k "BadText" "line" CB OkI) (gB : mg "BadText" = some (.ref CB)) : XB X (ErF E (XV mg)) (defBody s_parse_doubt) (rd_parse_doubt F_read_doubt F_split_words F_build_doubt) := by
  subst hX
  have hS := sc_parse_doubt
  have hu := hr.units
  have hu0 := hr.units0
  have hu5 := units65 hr
  exact (xb_cons (xs_set 1 hS.nd (.inl rfl) (xe_call c_read_doubt hr (Nat.le_succ _) (by rfl) (xa_cons (xe_call c_split_words hr (Nat.le_succ _) (by rfl) (xa_cons (xe_var 0) xa_nil)) xa_nil)))
  (xb_cons (xs_if (xt_cmp op_isN lr_isN (xe_var 1) xe_non (by rfl))
    (xb_one (xs_raise rfl tk mB hr (Nat.le_refl _) (by rfl) okI_of (xv_B gB) xe_int))
    xb_nil)
  (xb_one (xs_retX (xx_call tk c_build_doubt hr (Nat.le_succ _) (by rfl) (xa_cons (xe_var 1) xa_nil))))))

theorem bd_parse_deeds {F_read_deed : FD} {CB : Addr} {X : Cx} {cdv : Value} {A : Around} {outer : List Env} {s : Shared} {H : Hp} {E : XK} (hX : X = cxOf (L2.CX P w) P w K mg base ["text", "found", "index", "line", "deed"] "parse_deeds" (defScope s_parse_deeds) f cdv A outer s H E) (tk : Takes X (ErF E (XV mg)).W) (hp : PassesOwn (model X.prog X.w) X.A X.env X.xe) (hr : Room (k + 1) X.A) (c_read_deed : C8.Cal P w K mg base k "read_deed" (spG 0 1 F_read_deed) []) (mB : Mkr P w K mg base k "BadText" "line" CB OkI) (gB : mg "BadText" = some (.ref CB)) : XB X (ErF E (XV mg)) (defBody s_parse_deeds) (rd_parse_deeds F_read_deed) := by
  subst hX
  have hS := sc_parse_deeds
  have hu := hr.units
  have hu0 := hr.units0
  have hu5 := units65 hr
  exact (xb_cons (xs_if (xt_cmp (op_eqA hu) lr_eq (xe_var 0) xe_str (by rfl))
    (xb_one (xs_retL (xl_lst xa_nil)))
    xb_nil)
  (xb_cons (xs_new 1 hS.nd (.inl rfl) (xl_lst xa_nil))
  (xb_cons (xs_for hp rfl (xi_enum (by rfl) hB.m_enumerate (xa_cons (XL.fz (xl_split (xe_var 0) xe_str)) xa_nil)) (xg_two 2 3 rfl hS.nd (.inl rfl) (.inl rfl))
    (xb_cons (xs_set 4 hS.nd (.inl rfl) (xe_call c_read_deed hr (Nat.le_succ _) (by rfl) (xa_cons (xe_var 3) xa_nil)))
  (xb_cons (xs_if (xt_cmp op_isN lr_isN (xe_var 4) xe_non (by rfl))
    (xb_one (xs_raise rfl tk mB hr (Nat.le_refl _) (by rfl) okI_of (xv_B gB) (xe_op op_addA lr_add (xe_var 2) xe_int)))
    xb_nil)
  (xb_one (xs_app 1 (xe_var 4))))))
  (xb_one (xs_retO 1)))))

end
end K82
set_option Elab.async false
set_option linter.all false
set_option maxRecDepth 100000
set_option maxHeartbeats 4000000
namespace SupX
open PySem PySem.Spec PyProof.Rows L2
/-- what an error's class must say for isinstance -/
structure IsC (K : PySem.W.Frag) (D : Addr) : Prop where
  cl : (PySem.W.clsIn K D).isSome = true
  ga : PySem.W.findIn K (.ref D) "__getattribute__" = some (some (.builtin "BaseException.__getattribute__"))
  gt : PySem.W.findIn K (.ref D) "__getattr__" = some none
  sb : PySem.W.subIn K (.ref D) (.type "BaseException") = some true
  ca : PySem.W.findIn K (.ref D) "__class__" = some (some (.builtin "object.__class__"))
  cn : PySem.W.specialIn K (.builtin "object.__class__") "__get__" = some (some (.builtin "getset_descriptor.__get__"))
  ct : PySem.W.takesIn K (.builtin "object.__class__") = some true
  cm : PySem.W.mroIn K D (.type "object") = some true
def isCB (K : PySem.W.Frag) (D : Addr) : Bool := (PySem.W.clsIn K D).isSome && (decide (PySem.W.findIn K (.ref D) "__getattribute__" = some (some (.builtin "BaseException.__getattribute__"))) && (decide (PySem.W.findIn K (.ref D) "__getattr__" = some none) &&
  (decide (PySem.W.subIn K (.ref D) (.type "BaseException") = some true) && (decide (PySem.W.findIn K (.ref D) "__class__" = some (some (.builtin "object.__class__"))) && (decide (PySem.W.specialIn K (.builtin "object.__class__") "__get__" = some (some (.builtin "getset_descriptor.__get__"))) &&
  (decide (PySem.W.takesIn K (.builtin "object.__class__") = some true) && decide (PySem.W.mroIn K D (.type "object") = some true)))))))
theorem isCB_ok {K : PySem.W.Frag} {D : Addr} (h : isCB K D = true) : IsC K D := by
  unfold isCB at h
  simp only [Bool.and_eq_true, decide_eq_true_eq] at h
  obtain ⟨h1, h2, h3, h4, h5, h6, h7, h8⟩ := h
  exact ⟨h1, h2, h3, h4, h5, h6, h7, h8⟩
def rIsX (K : PySem.W.Frag) (D a dd : Addr) : List V → Hp → VK → Prop := fun xs H Q => ∃ (c : V) (cv : Value) (b : Bool), xs = [.ref a, c] ∧ (∀ u, RelV c u → u = cv) ∧ PySem.W.kitOne K (.ref D) cv = some b ∧ (∃ fs, H dd = some (.xd fs)) ∧ Q (.bl b) H
theorem call_isX {X : Cx} {a D dd : Addr} {oe : Obj} {pn : List (Addr × Obj)} (C : IsC X.K D) (hz : Zc (.ref D) (some dd) oe) (hf : ∃ vs, oe.data = .fields vs) : CallR (X.suite a ((a, oe) :: pn)) (.builtin "isinstance") (rIsX X.K D a dd) := by
  intro pins s σ H xs us Q I r h
  obtain ⟨c, cv, b, rfl, hcv, e, ⟨fs, hd⟩, q⟩ := h
  cases r with
  | cons rx rr =>
    cases rr with
    | cons rt rr =>
      cases rr
      obtain rfl : _ = Value.ref a := rx
      obtain rfl := hcv _ rt
      obtain ⟨hget, _⟩ := I.pin (a, oe) (List.mem_append_left _ List.mem_cons_self)
      obtain ⟨vs, hv⟩ := hf
      have hx : ObjOk X.prog X.w H s.heap dd (.xd fs) := I.hok dd _ hd
      obtain ⟨mA, hns, hr⟩ := hx
      obtain ⟨od, ho, _⟩ := lookIn_ns hns
      have J : PySem.W.InstAt s.heap a oe D (some od) := ⟨hget, hz.1, by unfold PySem.W.notCls; rw [hv] <;> rfl, by rw [hz.2]; exact ho⟩
      exact PySem.W.kia_one (PySem.W.kitx_exc C.cl C.ga C.gt C.sb C.ca C.cn C.ct C.cm) I.kIn J e (fun z => nomatch z) fun tk => ⟨.bl b, H, I.kept (t' := tk) fun _ _ z => z, rfl, q⟩
structure FnU (P : Program) (w : World) (K : PySem.W.Frag) (mg : Str → Option Value) (base : Heap) (k : Nat) (f : Addr) (fd : FuncData) (ps : List Str) (sp : Sp) : Prop where
  len : ∀ vs H Q E, sp vs H Q E → vs.length = ps.length
  run : ∀ (A : Around) (outer : List Env) (s : Shared) (H : Hp) (args : Args) (us : List Value) (vs : List V) (Q : VK) (p : Addr × Obj), L2H.RoomH k A → L2H.PinOk outer H s p → Env0 P w K mg base A outer s H → BindsTo s fd args (ps.zip us) → Vals vs us → sp vs H Q E0 →
    codeAny (model P w) A (.call (.ref f) args) (CR CX0 outer P w H s Q E0) s
section
variable {P : Program} {w : World} {K : PySem.W.Frag} {mg : Str → Option Value} {base : Heap}
theorem fnU_of {k : Nat} {f : Addr} {name qual : Str} {params : Arguments} {body : List Stmt} {scope : Scope} {dV kV doc pm cdv ct oc : Value} {an od : Option Addr} {osl : Array (Option Value)} {N ps : List Str} {sp : Sp}
    (lk : K.lookup f = some ⟨oc, od, .func (PySem.W.fnOf name qual params body scope dV kV doc pm an cdv ct), osl⟩) (hcd : PySem.W.codeIn K cdv qual = true) (S : FnScope N ps scope) (len : ∀ vs H Q E, sp vs H Q E → vs.length = ps.length)
    (hb : ∀ (A : Around) (outer : List Env) (s : Shared) (H : Hp) (vs : List V) (Q : VK) (p : Addr × Obj), sp vs H Q E0 → ∃ t, PSs (L2H.cxH CX0 P w K mg base N qual scope f cdv A outer s H E0 p) body t ∧ t { nx := fun _ H' => Q .non H', rt := Q } (L2.start N vs) H) :
    FnU P w K mg base (k + 1) f (PySem.W.fnOf name qual params body scope dV kV doc pm an cdv ct) ps sp := by
  refine ⟨len, fun A outer s H args us vs Q p hr hp e0 bd r hs => ?_⟩
  have KX : K.In s.heap := e0.mod.kin.keeps fun b o e => (e0.bs b o e).1
  have lim : s.heap.NoLimit := e0.mod.nolimit.keeps fun b o e => (e0.bs b o e).1
  refine codeAny_call_function hr.depth (KX _ _ lk) rfl S.co S.gen rfl (PySem.W.codeRec_of KX hcd) (bd _ _ _ _ (wpAny_newFunctionEnv_cells S.kind (fun ⟨n, v⟩ hy => (S.par n (List.of_mem_zip hy).1).imp id fun q => ⟨q, PySem.W.cellsFrom_some _ _ _ (.inl q)⟩) fun env he s1 x => ?_))
  subst he
  refine ⟨lim.keeps x.toInCall.keep, codeAny_func ?_⟩
  obtain ⟨t, ht, hq⟩ := hb A outer s H vs Q p hs
  refine wpAny_mono (ht.run [] s1 (L2.start N vs) H _ (L2H.inv_startH S hp e0 (len _ _ _ _ hs) r x) hq) (fun fl s' hs2 => ?_) fun e s' hs2 => hs2
  cases fl with
  | ret u =>
    obtain ⟨v, σ', H', J, rv, q⟩ := hs2
    exact ⟨v, H', J.os, J.bare, J.base, J.hok, rv, q⟩
  | next =>
    obtain ⟨σ', H', J, q⟩ := hs2
    exact ⟨.non, H', J.os, J.bare, J.base, J.hok, rfl, q⟩
  | brk =>
    obtain ⟨_, _, _, q⟩ := hs2
    exact q.elim
  | cont =>
    obtain ⟨_, _, _, q⟩ := hs2
    exact q.elim
end
/-- the call, where some pin stands -/
theorem pe_callU {X : Cx} {k : Nat} {f : Addr} {fd : FuncData} {ps : List Str} {sp : Sp} {x : Str} {q pos : Pos} {e : Expr} {es : List Expr} {t : TA} (F : FnU X.prog X.w X.K X.mg X.base k f fd ps sp) (hr : L2H.RoomH k X.A) (hp : ∃ p, p ∈ X.pn) (hg : Gl X x) (hm : X.mg x = some (.ref f))
    (hk : PySem.W.keepIn X.K (.ref f) = true) (hb : Binds X.K fd ps []) (ha : PA X (e :: es) t) (hdb : (x == ("__debug__" : Str)) = false := by decide)
    (he : starEach (e :: es) X.env = (false, eval e X.env) :: starEach es X.env := by rfl) (hpl : (backTo pos (starEach es X.env)).any (·.1) = false := by rfl) :
    PE X (.Call (.Name x q) (e :: es) [] pos) (fun σ H Q => t σ H fun vs H1 => sp vs H1 Q E0) := by
  refine ⟨fun pins s σ H Q I h => wpAny_Call_Name_kw (ld_glob I hg hm ?_ hdb)⟩
  refine PySem.W.callWith_K (h₀ := X.base) I.ok.mod.kin hk (thn (ha.run pos pins s σ H _ I h) fun us s1 ⟨vs, H1, I1, r, h1⟩ => ⟨I1.kIn, ?_⟩) he hpl
  obtain ⟨p, hp⟩ := hp
  have b := hb s1 us I1.kIn (by rw [List.append_nil, ← r.length]; exact F.len _ _ _ _ h1)
  rw [List.append_nil] at b
  have P1 := I1.pin p (List.mem_append_left _ hp)
  refine wpAny_call (codeAny_mono (F.run X.A X.stack s1 H1 ⟨us, []⟩ us vs Q p hr ⟨P1.1, P1.2.1, fun hm => (List.mem_cons.mp (I1.stkSub p.1 hm)).elim P1.2.2.1 P1.2.2.2.1, P1.2.2.2.2⟩ I1.env0 b r h1) fun rr s' hq => ?_)
  cases rr with
  | error e => exact hq.elim
  | ok fl =>
    cases fl with
    | ret u => exact I1.after hq
    | next => exact hq.elim
    | brk => exact hq.elim
    | cont => exact hq.elim
end SupX
set_option Elab.async false
set_option linter.all false
set_option maxRecDepth 100000
set_option maxHeartbeats 4000000
namespace K82
open PySem PySem.Spec PyProof.Rows L2 Ly
/-- the suite of read_doubt_deed -/
def hNone : PyData → DS := fun _ DD _ => DD.rt (.d .none)
theorem lh_none {K : PySem.W.Frag} {Er : ErT} : LH K Er (fun _ _ _ => tRet (tC .non)) hNone := fun C S B H σ Δ D DD x cls d a en v na q k =>
  k.rt S B H .non (.d .none) en.st .non q
/-- the suite of _law_asked: the number of the line is asked -/
def hAsk : PyData → DS := fun x DD Δ => ∃ i L : Int, x = .tuple [.str "BadText", .int i] ∧ Δ[2]? = some (some (.d (.int L))) ∧ 5 < Δ.length ∧ DD.rt (.d (.bool (decide (0 < L) && decide (i = L))))
/-- what the suite of _law_asked needs -/
structure AskF (P : Program) (w : World) (K : PySem.W.Frag) (mg : Str → Option Value) (base : Heap) (k : Nat) (CH : Addr) : Prop where
  gH : mg "HallError" = some (.ref CH)
  bad : ∃ CB CI : Addr, mg "BadText" = some (.ref CB) ∧ mg "InvalidDoubt" = some (.ref CI) ∧ SupX.IsC K CB ∧ XfC K CB ∧ PySem.W.findIn K (.ref CB) "line" = some none ∧
    PySem.W.kitOne K (.ref CB) (.ref CB) = some true ∧ PySem.W.kitOne K (.ref CB) (.type "ValueError") = some true ∧ PySem.W.kitOne K (.ref CB) (.ref CI) = some false
  cat : ∀ x cls dd H, XV mg x cls dd H → PySem.W.exmOne K cls (.ref CH) = some true
  whole : ∃ (f : Addr) (fd : FuncData) (ps : List Str), SupX.FnU P w K mg base k f fd ps (fun vs H Q _ => ∃ i : Int, vs = [.int i] ∧ Q (.bl true) H) ∧ mg "_law_whole" = some (.ref f) ∧ PySem.W.keepIn K (.ref f) = true ∧ Binds K fd ps []
theorem sc_law_asked : FnScope ["_law_records", "_law_text_here", "_law_line_here", "_law_deeds", "_law_told", "e", "_law_written", "_law_record"] ["_law_records"] (defScope s_law_asked) := ⟨rfl, rfl, rfl, by decide +kernel, rfl, by decide +kernel, by decide +kernel⟩
def askSuite : List Stmt := match (defBody s_law_asked).getD 3 (.Pass ⟨0, 0, 0, 0⟩) with
  | .Try _ [.ExceptHandler _ _ b _] _ _ _ => b
  | _ => []
def spW : Sp := fun vs H Q _ => ∃ i : Int, vs = [.int i] ∧ Q (.bl true) H
def tIsA (K : PySem.W.Frag) (CB a dd : Addr) (c : V) : TE := tCB (SupX.rIsX K CB a dd) (tCons (tVar 5) (tCons (tC c) tNil))
def tLn (a : Addr) (CB dd : Addr) : TE := tXf a (.ref CB) (some dd) CB "line" (tVar 5)
def tAskR (K : PySem.W.Frag) (CB CI a dd : Addr) : TS :=
  tSeq (tIfS (tOr (tNot (tB (tIsA K CB a dd (.ref CB)))) (tOr (tNot (tB (tIsA K CB a dd (.ty "ValueError")))) (tB (tIsA K CB a dd (.ref CI))))) (tRet (tC (.bl false))) tNext)
    (tRet (tAndV (tOp (rI0 fun i j => .bl (decide (j < i))) (tVar 2) (tC (.int 0))) (tAndV (fun σ H Q => tCons (tLn a CB dd) tNil σ H fun vs H1 => spW vs H1 Q E0) (tOp rEq (tLn a CB dd) (tVar 2)))))
def tAsk (K : PySem.W.Frag) (CB CI : Addr) (a : Addr) (cls : Value) (d : Option Addr) : TS := fun D σ H => ∃ dd, cls = .ref CB ∧ d = some dd ∧ tAskR K CB CI a dd D σ H
section
variable {P : Program} {w : World} {K : PySem.W.Frag} {mg : Str → Option Value} {base : Heap} {f : Addr} {k : Nat}
theorem asked_suite (hB : Bl mg) {CB CI : Addr} (gB : mg "BadText" = some (.ref CB)) (gI : mg "InvalidDoubt" = some (.ref CI)) (isc : SupX.IsC K CB) (xfc : XfC K CB) (nol : PySem.W.findIn K (.ref CB) "line" = some none)
    {fw : Addr} {fdw : FuncData} {psw : List Str} (FU : SupX.FnU P w K mg base k fw fdw psw spW) (gw : mg "_law_whole" = some (.ref fw)) (kw : PySem.W.keepIn K (.ref fw) = true) (bw : Binds K fdw psw [])
    {cdv : Value} {A : Around} {outer : List Env} {s : Shared} {H : Hp} {E : XK} {X : Cx} (hX : X = (cxOf CX0 P w K mg base ["_law_records", "_law_text_here", "_law_line_here", "_law_deeds", "_law_told", "e", "_law_written", "_law_record"] "_law_asked" (defScope s_law_asked) f cdv A outer s H E).nox) (hr : Room k X.A)
    (a : Addr) (oe : Obj) (cls : Value) (d : Option Addr) (pn : List (Addr × Obj)) (hz : Zc cls d oe) (hf : ∃ vs, oe.data = .fields vs) : PSs (X.suite a ((a, oe) :: pn)) askSuite (tAsk K CB CI a cls d) := by
  subst hX
  refine ⟨fun pins s0 σ H0 D I h => ?_⟩
  obtain ⟨dd, rfl, rfl, h⟩ := h
  refine PSs.run (t := tAskR K CB CI a dd) ?_ pins s0 σ H0 D I h
  have hi := SupX.call_isX (X := (cxOf CX0 P w K mg base ["_law_records", "_law_text_here", "_law_line_here", "_law_deeds", "_law_told", "e", "_law_written", "_law_record"] "_law_asked" (defScope s_law_asked) f cdv A outer s H E).nox) (a := a) (pn := pn) isc hz hf
  exact pss_cons (ps_if (PW.pt (pw_or (pt_not (pt_val (pe_callB hi (by rfl) hB.m_isinstance (by rfl) (pa_cons (pv 5) (pa_cons (pe_glob (by rfl) gB rfl) pa_nil)))))
      (pw_or (pt_not (pt_val (pe_callB hi (by rfl) hB.m_isinstance (by rfl) (pa_cons (pv 5) (pa_cons (pe_bltn (by rfl) hB.m_ValueError (by rfl) rfl) pa_nil)))))
      (pw_or1 (pt_val (pe_callB hi (by rfl) hB.m_isinstance (by rfl) (pa_cons (pv 5) (pa_cons (pe_glob (by rfl) gI rfl) pa_nil)))))))) (pss_one (ps_ret pe_bl)) pss_nil)
    (pss_one (ps_ret (pe_and (pe_cmpR op_gt (pv 2) pe_int (by rfl)) (pe_and (SupX.pe_callU FU ⟨hr.dp, hr.un⟩ ⟨_, List.mem_cons_self⟩ (by rfl) gw kw bw (pa_cons (pe_xf xfc nol hz hf (pv 5)) pa_nil)) (pe_one (pe_cmpR op_eq (pe_xf xfc nol hz hf (pv 5)) (pv 2) (by rfl)))))))
theorem asked_ok {CB CI : Addr} (gB : mg "BadText" = some (.ref CB)) (k1 : PySem.W.kitOne K (.ref CB) (.ref CB) = some true) (k2 : PySem.W.kitOne K (.ref CB) (.type "ValueError") = some true) (k3 : PySem.W.kitOne K (.ref CB) (.ref CI) = some false)
    {W : Value → Option Addr → L2.St → Hp → Prop} (C : Cz) (S : List Addr) (B H : Hp) (σ : L2.St) (Δ : DSt) (D : Ends) (DD : DEnds) (x : PyData) (cls : Value) (d : Option Addr) (a : Addr) (en : En K C S B H σ Δ) (v : XV mg x cls d H) (na : H a = none) (h : hAsk x DD Δ) (k : EndsOk K ⟨W, XV mg⟩ C B D DD) :
    tAsk K CB CI a cls d { nx := fun σ' H' => D.nx (σ'.set 5 none) H', rt := D.rt, bk := fun σ' H' => D.bk (σ'.set 5 none) H', ct := fun σ' H' => D.ct (σ'.set 5 none) H' } (σ.set 5 (some (.ref a))) H := by
  obtain ⟨i, L, rfl, hL, h5, q⟩ := h
  rw [en.len] at h5
  obtain ⟨nm, p, C', dx, u, hn, e1, e2, rfl, rfl, e3, e4⟩ := v
  have e5 := PyData.tuple.inj e1
  obtain ⟨e6, e7⟩ := List.cons.inj e5
  have e8 := PyData.str.inj e6
  subst e8
  obtain ⟨e9, _⟩ := List.cons.inj e7
  subst e9
  rw [gB] at e2
  cases e2
  cases e4
  have hf : fldOf "BadText" = "line" := by decide
  rw [hf] at e3
  have s5 : ∀ (u : V), (σ.set 5 (some u))[5]? = some (some u) := fun u => by rw [List.getElem?_set_self h5]
  have s2 : (σ.set 5 (some (V.ref a)))[2]? = some (some (.int L)) := by
    obtain ⟨v, h1, h2⟩ := en.vr 2 _ hL
    cases (show Dv B v (.int L) from h2)
    rw [List.getElem?_set_ne (by decide)]
    exact h1
  have isx : ∀ (c : V) (cv : Value) (b : Bool) (R : V → Hp → Prop), (∀ u, RelV c u → u = cv) → PySem.W.kitOne K (.ref CB) cv = some b → R (.bl b) H → tIsA K CB a dx c (σ.set 5 (some (.ref a))) H R := fun c cv b R h1 h2 h3 =>
    ⟨_, s5 _, c, cv, b, rfl, h1, h2, ⟨_, e3⟩, h3⟩
  refine ⟨dx, rfl, rfl, ?_⟩
  refine isx _ (.ref CB) true _ (fun u r => r) k1 ⟨true, rfl, ?_⟩
  refine isx _ (.type "ValueError") true _ (fun u r => r) k2 ⟨true, rfl, ?_⟩
  refine isx _ (.ref CI) false _ (fun u r => r) k3 ⟨false, rfl, ?_⟩
  have fin : ∀ b : Bool, b = (decide (0 < L) && decide (i = L)) → D.rt (.bl b) H := fun b hb => by
    subst hb
    exact k.rt S B H (.bl _) (.d (.bool _)) en.st (.bl _) q
  have ln : ∀ (R : V → Hp → Prop), R (.int i) H → tLn a CB dx (σ.set 5 (some (.ref a))) H R := fun R h => ⟨_, s5 _, rfl, rfl, dx, _, .int i, rfl, e3, by simp [List.lookup], h⟩
  refine ⟨.int L, s2, L, 0, rfl, rfl, decide (0 < L), rfl, ?_⟩
  by_cases hp : 0 < L
  · rw [decide_eq_true hp]
    refine iteT (ln _ ⟨i, rfl, true, rfl, iteT (ln _ ⟨.int L, s2, rfl, fin _ ?_⟩)⟩)
    rw [decide_eq_true hp, Bool.true_and]
    by_cases hi : i = L
    · rw [decide_eq_true hi, decide_eq_true (by rw [hi])]
    · rw [decide_eq_false hi, decide_eq_false (fun z => hi (by injection z))]
  · rw [decide_eq_false hp]
    exact iteF (fin _ (by rw [decide_eq_false hp, Bool.false_and]))
theorem try_asked (hB : Bl mg) {CH : Addr} (A1 : AskF P w K mg base k CH) {cdv : Value} {A : Around} {outer : List Env} {s : Shared} {H : Hp} {E : XK} {X : Cx} (hX : X = (cxOf CX0 P w K mg base ["_law_records", "_law_text_here", "_law_line_here", "_law_deeds", "_law_told", "e", "_law_written", "_law_record"] "_law_asked" (defScope s_law_asked) f cdv A outer s H E).nox) (hr : Room k X.A)
    {body : List Stmt} {b0 : Stmt} {suite : List Stmt} {np pos' pos : Pos} {d : DS} (hsuite : b0 :: suite = askSuite)
    (hb : ∀ (W : Value → Option Addr → L2.St → Hp → Prop) (pn : List (Addr × Obj)) (xe : Value → Shared → Prop), Takes (X.tr pn xe) W → XB (X.tr pn xe) ⟨W, XV mg⟩ body d) :
    XS X ⟨fun _ _ _ _ => False, XV mg⟩ (.Try body [.ExceptHandler (some (.Name "HallError" np)) (some "e") (b0 :: suite) pos'] [] [] pos) (dTry d hAsk) := by
  subst hX
  obtain ⟨CB, CI, gB, gI, isc, xfc, nol, k1, k2, k3⟩ := A1.bad
  obtain ⟨fw, fdw, psw, FU, gw, kw, bw⟩ := A1.whole
  refine xs_tryAs (i := 5) (c := .ref CH) (ts := tAsk K CB CI) rfl rfl sc_law_asked.nd rfl (by rfl) ⟨by rfl, by decide, .inl A1.gH⟩ ?tk A1.cat hb (fun a oe cls dd pn hz hf => ?hsu) ?lh
  case hsu =>
    rw [hsuite]
    exact asked_suite hB gB gI isc xfc nol FU gw kw bw rfl hr a oe cls dd pn hz hf
  case tk => exact takes0
  case lh =>
    intro C S B H σ Δ D DD x cls dd a en v na h k
    exact asked_ok gB k1 k2 k3 C S B H σ Δ D DD x cls dd a en v na h k
end
end K82
set_option Elab.async false
set_option linter.all false
set_option maxRecDepth 100000
set_option maxHeartbeats 4000000
namespace K82
open PySem PySem.Spec PyProof.Rows L2 Ly
theorem sc_law_source : FnScope ["_law_script", "_law_place"] ["_law_script", "_law_place"] (defScope s_law_source) := ⟨rfl, rfl, rfl, by decide +kernel, rfl, by decide +kernel, by decide +kernel⟩
theorem sc_law_draw : FnScope ["_law_source_here", "_law_size", "_law_cell", "_law_mixed"] ["_law_source_here", "_law_size"] (defScope s_law_draw) := ⟨rfl, rfl, rfl, by decide +kernel, rfl, by decide +kernel, by decide +kernel⟩
def F_law_draw : FD
  | [.int n], P => 0 < n ∧ n < 1000000000 ∧ ∀ r : Int, 0 ≤ r → r < n → P (.int r)
  | _, _ => False
section
variable {P : Program} {w : World} {K : PySem.W.Frag} {mg : Str → Option Value} {base : Heap} {f : Addr} {fd : FuncData} {k : Nat}
theorem step_src {a : Addr} {B H : Hp} {u v : Int} (hs : Same B H) (t : Two H a) (n : B a = none) : Step [a] B H B (upd H a (.lst [.int u, .int v])) := by
  refine ⟨Same.refl _, fun b o e => ?_, fun b h1 h2 => absurd h1 h2, fun b o hb e => ?_, fun b hb => ?_⟩
  · have nb : b ≠ a := fun z => by rw [z, n] at e; cases e
    rw [upd_ne nb]; exact hs _ _ e
  · rw [upd_ne (fun z => hb (by simp [z]))]; exact e
  · have e : b = a := by simpa using hb
    subst e
    exact ⟨⟨u, v, upd_same⟩, n⟩
theorem cmul_mod (a n b : Int) (h : 0 < n) (hn : n < 2 ^ 40) : CMul (a % n) b := by
  have h1 := Int.emod_nonneg a (show n ≠ 0 by omega)
  have h2 := Int.emod_lt_of_pos a h
  exact .inl ⟨by omega, by omega⟩
theorem two_le : 2 ≤ sizeLine := by decide
theorem ifT {c : Bool} {A B : Prop} (hc : c = true) (h : A) : if c = true then A else B := by rw [if_pos hc]; exact h
theorem ifF {c : Bool} {A B : Prop} (hc : c = false) (h : B) : if c = true then A else B := by subst hc; rw [if_neg Bool.false_ne_true]; exact h
theorem ixN2 (i : Nat) (h : i < 2) : ixN 2 (i : Int) = some i := by
  unfold ixN
  rw [if_pos (by omega), if_pos (by omega), Int.toNat_natCast]
theorem ok_law_draw (hB : Bl mg) (Fn : Fun K "_law_draw" "_law_draw" s_law_draw f fd) : FnOk P w K mg base CX0 1 f fd ["_law_source_here", "_law_size"] (spG 1 2 F_law_draw) := by
  have nd := sc_law_draw.nd
  refine Fn.ok sc_law_draw (fun vs H Q E h => ?_) (fun cdv A outer s H vs Q E hr h => ?_)
  · obtain ⟨ss, ws, B, ds, P, _, _, e, _⟩ := h
    exact e
  · refine ⟨_, pss_cons (ps_set (i := 2) nd rfl (.inl rfl) (pe_ix ix_seq (pv 0) pe_int (by intro _ _; rfl)))
      (pss_cons (ps_if (pt_cmpR op_ge (pv 2) (pe_op op_pow pe_int pe_int) (by rfl))
          (pss_cons (ps_asg (pe_op op_fdiv (pv 2) (pv 1)) (pg_sub (pv 0) pe_int set_list)) (pss_one (ps_ret (pe_op op_mod (pe_callTy call_int1 (by rfl) hB.m_int (by rfl) (pa_cons (pv 2) pa_nil)) (pv 1))))) pss_nil)
      (pss_cons (ps_asg (pe_op op_add (pe_ix ix_seq (pv 0) pe_int (by intro _ _; rfl)) pe_int) (pg_sub (pv 0) pe_int set_list))
      (pss_cons (ps_set (i := 3) nd rfl (.inl rfl) (pe_op op_mod (pe_callTy call_int1 (by rfl) hB.m_int (by rfl) (pa_cons (pe_op op_add (pe_op op_add (pv 2) (pe_op op_mul pe_int (pe_ix ix_seq (pv 0) pe_int (by intro _ _; rfl)))) pe_int) pa_nil)) pe_int))
      (pss_cons (ps_set (i := 3) nd rfl (.inl rfl) (pe_op op_mod (pe_callTy call_int1 (by rfl) hB.m_int (by rfl) (pa_cons (pe_op op_mul (pv 3) (pe_op op_add (pv 3) pe_int)) pa_nil)) pe_int))
      (pss_cons (ps_set (i := 3) nd rfl (.inl rfl) (pe_op op_mod (pe_callTy call_int1 (by rfl) hB.m_int (by rfl) (pa_cons (pe_op op_add (pe_op op_mul (pv 3) (pe_op op_add (pv 3) pe_int)) (pe_op op_mul pe_int (pe_ix ix_seq (pv 0) pe_int (by intro _ _; rfl)))) pa_nil)) pe_int))
      (pss_one (ps_ret (pe_op op_mod (pe_callTy call_int1 (by rfl) hB.m_int (by rfl) (pa_cons (pe_op op_fdiv (pv 3) pe_int) pa_nil)) (pv 1))))))))), ?_⟩
    obtain ⟨ss, ws, B, ds, PP, rfl, hl, e, hs, tw, r, hF, q⟩ := h
    obtain ⟨a, rfl⟩ : ∃ a, ss = [a] := by
      match ss, hl with
      | [a], _ => exact ⟨a, rfl⟩
    obtain ⟨n, rfl, hn0, hn1, hP⟩ : ∃ n, ds = [.int n] ∧ 0 < n ∧ n < 1000000000 ∧ ∀ r : Int, 0 ≤ r → r < n → PP (.int r) := by
      match ds, hF with
      | [.int n], hF => exact ⟨n, rfl, hF.1, hF.2.1, hF.2.2⟩
    obtain rfl : ws = [.int n] := by
      cases r with
      | cons r1 r2 => cases r1; cases r2; rfl
    obtain ⟨t, nB⟩ := tw a (by simp)
    have t' := t
    obtain ⟨u, v, hH⟩ := t
    have ret : ∀ (x y r : Int), 0 ≤ r → r < n → Q (.int r) (upd H a (.lst [.int x, .int y])) := fun x y r h0 h1 => q _ _ B _ (step_src hs t' nB) (.int r) (hP r h0 h1)
    -- cell
    refine ⟨.ref a, rfl, .inl ⟨a, _, _, .int u, rfl, rfl, .inl (.inl hH), rfl, ?_⟩⟩
    refine ⟨.int u, rfl, 10, 18, rfl, rfl, ⟨by decide, by decide, by decide⟩, u, 10 ^ 18, rfl, rfl, _, rfl, ?_⟩
    by_cases hc : (10 : Int) ^ (18 : Int).toNat ≤ u
    · refine ifT (decide_eq_true hc) ?_
      refine ⟨.int u, rfl, .int n, rfl, u, n, rfl, rfl, ⟨hn0, by omega⟩, .ref a, rfl, a, _, 0, 0, rfl, rfl, hH, rfl, ?_⟩
      refine ⟨.int u, rfl, .inl ⟨u, rfl, .int n, rfl, u, n, rfl, rfl, hn0, ?_⟩⟩
      exact ret _ _ _ (Int.emod_nonneg _ (by omega)) (Int.emod_lt_of_pos _ hn0)
    · refine ifF (decide_eq_false hc) ?_
      refine ⟨.ref a, rfl, .inl ⟨a, _, _, .int v, rfl, rfl, .inl (.inl hH), rfl, v, 1, rfl, rfl, .ref a, rfl, a, _, 1, 1, rfl, rfl, hH, rfl, ?_⟩⟩
      have h1 : ∀ {o : HO}, (upd H a o) a = some o := fun {o} => upd_same
      have p1 : (0 : Int) < 2147483647 := by decide
      have p2 : (0 : Int) < 2147483629 := by decide
      refine ⟨.int u, rfl, .ref a, rfl, .inl ⟨a, _, _, .int (v + 1), rfl, rfl, .inl (.inl h1), rfl, 7919, v + 1, rfl, rfl, .inl ⟨by decide, by decide⟩, u, _, rfl, rfl, _, _, rfl, rfl, .inl ⟨_, rfl, _, _, rfl, rfl, p1, ?_⟩⟩⟩
      refine ⟨_, rfl, _, rfl, _, 48271, rfl, rfl, _, _, rfl, rfl, cmul_mod _ _ _ p1 (by decide), .inl ⟨_, rfl, _, _, rfl, rfl, p2, ?_⟩⟩
      refine ⟨_, rfl, _, rfl, _, 69621, rfl, rfl, _, _, rfl, rfl, cmul_mod _ _ _ p2 (by decide), .ref a, rfl, .inl ⟨a, _, _, .int (v + 1), rfl, rfl, .inl (.inl h1), rfl, 31, v + 1, rfl, rfl, .inl ⟨by decide, by decide⟩, _, _, rfl, rfl, .inl ⟨_, rfl, _, _, rfl, rfl, p1, ?_⟩⟩⟩
      refine ⟨_, rfl, _, 9, rfl, rfl, ⟨by decide, by decide⟩, .inl ⟨_, rfl, .int n, rfl, _, n, rfl, rfl, hn0, ?_⟩⟩
      exact ret _ _ _ (Int.emod_nonneg _ (by omega)) (Int.emod_lt_of_pos _ hn0)
theorem ok_law_source (hB : Bl mg) (Fn : Fun K "_law_source" "_law_source" s_law_source f fd) : FnOk P w K mg base CX0 1 f fd ["_law_script", "_law_place"] (spSrc K) := by
  have nd := sc_law_source.nd
  refine Fn.ok sc_law_source (fun vs H Q E h => ?_) (fun cdv A outer s H vs Q E hr h => ?_)
  · obtain ⟨a, ns, i, rfl, _⟩ := h
    rfl
  · refine ⟨_, pss_cons (ps_if (pt_cmpR op_lt (pv 1) (pe_callB call_len (by rfl) hB.m_len (by rfl) (pa_cons (pv 0) pa_nil)) (by rfl))
        (pss_one (ps_ret (pe_lst (pa_cons (pe_callB call_abs (by rfl) hB.m_abs (by rfl) (pa_cons (pe_ix ix_seq (pv 0) (pv 1) (by intro _ _; rfl)) pa_nil)) (pa_cons (pv 1) pa_nil))))) pss_nil)
      (pss_cons (ps_if (pt_cmpR op_eq (pe_callB call_len (by rfl) hB.m_len (by rfl) (pa_cons (pv 0) pa_nil)) pe_int (by rfl))
        (pss_one (ps_ret (pe_lst (pa_cons (pe_op op_add (pe_op op_mul pe_int (pv 1)) pe_int) (pa_cons (pv 1) pa_nil))))) pss_nil)
      (pss_one (ps_ret (pe_lst (pa_cons (pe_op op_add (pe_op op_add (pe_op op_mul pe_int (pe_callB call_abs (by rfl) hB.m_abs (by rfl) (pa_cons (pe_ix ix_seq (pv 0) (pe_op op_mod (pe_callTy call_int1 (by rfl) hB.m_int (by rfl) (pa_cons (pv 1) pa_nil)) (pe_callB call_len (by rfl) hB.m_len (by rfl) (pa_cons (pv 0) pa_nil))) (by intro _ _; rfl)) pa_nil)))
        (pe_op op_mul pe_int (pv 1))) pe_int) (pa_cons (pv 1) pa_nil)))))), ?_⟩
    obtain ⟨a, ns, i, rfl, hS, h0, h1, hl, q⟩ := h
    have ll : (ns.map V.int).length = ns.length := List.length_map ..
    refine ⟨.int i, rfl, .ref a, rfl, .ref a, (ns.map V.int).length, rfl, .inl ⟨_, hS, rfl⟩, i, _, rfl, rfl, _, rfl, ?_⟩
    rw [ll]
    by_cases hc : i < (ns.length : Int)
    · refine ifT (decide_eq_true hc) ?_
      have hg : ∃ m, ns[i.toNat]? = some m := ⟨ns[i.toNat]'(by omega), by simp⟩
      obtain ⟨m, hm⟩ := hg
      have ha : atI (ns.map V.int) i = some (.int m) := by
        have e : i = ((i.toNat : Nat) : Int) := by omega
        rw [e]
        exact atI_nat (by rw [List.getElem?_map, hm] <;> rfl)
      refine ⟨.ref a, rfl, .int i, rfl, .inl ⟨a, _, i, _, rfl, rfl, hS, ha, m, rfl, .int i, rfl, two_le, fun l hn => q l _ _ hn⟩⟩
    · refine ifF (decide_eq_false hc) ?_
      refine ⟨.ref a, rfl, .ref a, (ns.map V.int).length, rfl, .inl ⟨_, hS, rfl⟩, rfl, _, rfl, ?_⟩
      rw [ll]
      by_cases hz : ns.length = 0
      · refine ifT (decide_eq_true (by rw [hz] <;> rfl)) ?_
        exact ⟨.int i, rfl, 1009, i, rfl, rfl, .inl ⟨by decide, by decide⟩, _, 17, rfl, rfl, .int i, rfl, two_le, fun l hn => q l _ _ hn⟩
      · refine ifF (decide_eq_false (fun e => hz (by injection e with e; omega))) ?_
        have hp : (0 : Int) < (ns.length : Nat) := by omega
        have b0 := Int.emod_nonneg i (show ((ns.length : Nat) : Int) ≠ 0 by omega)
        have b1 := Int.emod_lt_of_pos i hp
        have hg : ∃ m, ns[(i % ((ns.length : Nat) : Int)).toNat]? = some m := ⟨ns[(i % ((ns.length : Nat) : Int)).toNat]'(by omega), by simp⟩
        obtain ⟨m, hm⟩ := hg
        have ha : atI (ns.map V.int) (i % ((ns.length : Nat) : Int)) = some (.int m) := by
          have e : i % ((ns.length : Nat) : Int) = (((i % ((ns.length : Nat) : Int)).toNat : Nat) : Int) := by omega
          rw [e]
          exact atI_nat (by rw [List.getElem?_map, hm] <;> rfl)
        refine ⟨.ref a, rfl, .int i, rfl, .inl ⟨i, rfl, .ref a, rfl, .ref a, _, rfl, .inl ⟨_, hS, rfl⟩, i, _, rfl, rfl, by rw [ll]; exact hp, .inl ⟨a, _, _, .int m, rfl, rfl, hS, by rw [ll]; exact ha, m, rfl, ?_⟩⟩⟩
        exact ⟨31, _, rfl, rfl, .inl ⟨by decide, by decide⟩, .int i, rfl, 1009, i, rfl, rfl, .inl ⟨by decide, by decide⟩, _, _, rfl, rfl, _, 17, rfl, rfl, .int i, rfl, two_le, fun l hn => q l _ _ hn⟩
end
end K82
set_option Elab.async false
set_option linter.all false
set_option maxRecDepth 100000
set_option maxHeartbeats 4000000
namespace K82
open PySem PySem.Spec PyProof.Rows L2 Ly
theorem sc_read_doubt_deed : FnScope ["text"] ["text"] (defScope s_read_doubt_deed) := ⟨rfl, rfl, rfl, by decide +kernel, rfl, by decide +kernel, by decide +kernel⟩
def rd_read_doubt_deed (F_parse_doubt : FX) : DS :=
  (dSeq (dTry (dDropX (dCX 1 F_parse_doubt (dCons (dVar 0) dNil))) hNone)
  (dRet (dTup (dCons (dC (.str "doubt")) (dCons (dVar 0) dNil)))))

theorem sc_law_asked2 : FnScope ["_law_records", "_law_text_here", "_law_line_here", "_law_deeds", "_law_told", "e", "_law_written", "_law_record"] ["_law_records"] (defScope s_law_asked) := ⟨rfl, rfl, rfl, by decide +kernel, rfl, by decide +kernel, by decide +kernel⟩
def rd_law_asked (F_law_text : FD) (F_law_first_bad : FD) (F_law_rows : FD) (F_format_deeds : FD) (F_parse_deeds : FX) : DS :=
  (dSeq (dSet 1 (dCall 1 F_law_text (dCons (dVar 0) dNil)))
  (dSeq (dSet 2 (dCall 1 F_law_first_bad (dCons (dVar 0) dNil)))
  (dSeq (dSetL 3 (dLc 7 (diL (dVar 0)) (dTst (dOp ntND (dOp ixD (dVar 7) (dC (.int 1))) (dC .none))) (dOp ixD (dVar 7) (dC (.int 1)))))
  (dSeq (dTry (dSetX 4 (dCX 1 F_parse_deeds (dCons (dVar 1) dNil))) hAsk)
  (dSeq (dIfS (dOr (dTst (dOp gtD (dVar 2) (dC (.int 0)))) (dNot (dTst (dCall 2 F_law_rows (dCons (dVar 4) (dCons (dVar 3) dNil))))))
    (dRet (dC (.bool false)))
    dNext)
  (dSeq (dSetF 6 (dCall 1 F_format_deeds (dCons (dVar 4) dNil)))
  (dSeq (dIfS (dOr (dNot (dTst (dIs "str" (dVar 6)))) (dOr (dTst (dOp neD (dVar 6) (dVar 1))) (dNot (dTst (dCall 2 F_law_rows (dCons (dVar 4) (dCons (dVar 3) dNil)))))))
    (dRet (dC (.bool false)))
    dNext)
  (dSeq (dApp 4 (dTup (dCons (dC (.str "withdraw")) (dCons (dC (.int 0)) dNil))))
  (dRet (dCall 2 F_law_rows (dCons (dCallX 1 F_parse_deeds (dCons (dVar 1) dNil)) (dCons (dVar 3) dNil))))))))))))

theorem sc_law : FnScope ["_law_script", "_law_source_here", "_law_count", "_law_form", "_law_records", "_law_place", "_law_drawn", "_law_deed_here", "_law_deeds", "_law_handed", "_law_written", "_law_spoil", "_law_turn", "_law_rows_here", "_law_record"] ["_law_script"] (defScope s_law) := ⟨rfl, rfl, rfl, by decide +kernel, rfl, by decide +kernel, by decide +kernel⟩
def rd_law (F_law_draw : FD) (F_law_deed : FD) (F_law_line : FD) (F_format_deeds : FD) (F_law_text : FD) (F_law_asked : FD) (F_law_spoilt : FD) : DS :=
  (dSeq (dNewS 1 0 (dC (.int 0)))
  (dSeq (dSet 2 (dCallS 1 2 F_law_draw (dCons (dC (.int 7)) dNil)))
  (dSeq (dIfS (dTst (dOp eqD (dCallS 1 2 F_law_draw (dCons (dC (.int 8)) dNil)) (dC (.int 0))))
    (dSet 2 (dCallS 1 2 F_law_draw (dCons (dC (.int 31)) dNil)))
    dNext)
  (dSeq (dSet 3 (dCallS 1 2 F_law_draw (dCons (dC (.int 2)) dNil)))
  (dSeq (dNew 4 (dLst dNil))
  (dSeq (dFor (diR1 (dCons (dVar 2) dNil)) (dgN 5)
    (dSeq (dAlias 6 1)
  (dSeq (dIfS (dTst (dOp ltD (dVar 5) (dC (.int 20))))
    (dNewS 6 0 (dOp addD (dC (.int 1)) (dVar 5)))
    dNext)
  (dSeq (dSet 7 (dCallS 6 2 F_law_deed (dCons (dOp gtD (dVar 5) (dC (.int 5))) dNil)))
  (dApp 4 (dFzL (dLst (dCons (dCall 1 F_law_line (dCons (dVar 7) dNil)) (dCons (dVar 7) dNil)))))))))
  (dSeq (dSetLZ 8 (dLc 14 (diL (dVar 4)) dYes (dOp ixD (dVar 14) (dC (.int 1)))))
  (dSeq (dSet 9 (dCB toLstD (dCons (dVar 8) dNil)))
  (dSeq (dIfS (dTst (dOp eqD (dVar 3) (dC (.int 1))))
    (dSet 9 (dCB toTupD (dCons (dVar 8) dNil)))
    dNext)
  (dSeq (dSet 10 (dCall 1 F_format_deeds (dCons (dVar 9) dNil)))
  (dSeq (dIfS (dOr (dNot (dTst (dIs "str" (dVar 10)))) (dOr (dTst (dOp neD (dVar 10) (dCall 1 F_law_text (dCons (dVar 4) dNil)))) (dTst (dOp neD (dCB toLstD (dCons (dVar 9) dNil)) (dVar 8)))))
    (dRet (dC (.bool false)))
    dNext)
  (dSeq (dIfS (dOr (dNot (dTst (dCall 1 F_law_asked (dCons (dVar 4) dNil)))) (dNot (dTst (dCall 1 F_law_asked (dCons (dFzL (dLst dNil)) dNil)))))
    (dRet (dC (.bool false)))
    dNext)
  (dSeq (dNewS 11 0 (dC (.int 21)))
  (dSeq (dFor (diR1 (dCons (dC (.int 3)) dNil)) (dgN 12)
    (dSeq (dSet 13 (dCallS 11 2 F_law_spoilt (dCons (dVar 4) dNil)))
  (dIfS (dOr (dNot (dTst (dCall 1 F_law_asked (dCons (dVar 13) dNil)))) (dNot (dTst (dCall 1 F_law_asked (dCons (dCallS 11 2 F_law_spoilt (dCons (dVar 13) dNil)) dNil)))))
    (dRet (dC (.bool false)))
    dNext)))
  (dRet (dCall 1 F_law_asked (dCons (dVar 4) dNil)))))))))))))))))


section
variable {P : Program} {w : World} {K : PySem.W.Frag} {mg : Str → Option Value} {base : Heap} {f : Addr} {k : Nat}
variable (hB : Bl mg)
include hB
theorem bd_read_doubt_deed {F_parse_doubt : FX} {X : Cx} {cdv : Value} {A : Around} {outer : List Env} {s : Shared} {H : Hp} {E : XK} (hX : X = (cxOf CX0 P w K mg base ["text"] "read_doubt_deed" (defScope s_read_doubt_deed) f cdv A outer s H E).nox) (hr : Room k X.A) (c_parse_doubt : CalX P w K mg base k "parse_doubt" (spX 1 (XV mg) F_parse_doubt)) {CI CB : Addr} (gI : mg "InvalidDoubt" = some (.ref CI)) (gB : mg "BadText" = some (.ref CB)) (hT : ∀ x cls dd H, XV mg x cls dd H → PySem.W.exmAny K cls [.ref CB, .ref CI] = some true) : XB X ⟨fun _ _ _ _ => False, (XV mg)⟩ (defBody s_read_doubt_deed) (rd_read_doubt_deed F_parse_doubt) := by
  subst hX
  have hS := sc_read_doubt_deed
  have hu := hr.units
  have hu0 := hr.units0
  have hu5 := units65 hr
  exact (xb_cons (xs_try2 rfl rfl (by rfl) (by decide) gB (by rfl) (by decide) gI hT (lh := lh_none) (hsu := fun a oe cls dd pn _ _ => pss_one (ps_ret pe_non)) (hb := fun W pn xe tk => (xb_one (xs_dropX (xx_call tk c_parse_doubt hr (Nat.le_refl _) (by rfl) (xa_cons (xe_var 0) xa_nil))))))
  (xb_one (xs_ret (xe_tup (xa_cons xe_str (xa_cons (xe_var 0) xa_nil))))))
theorem bd_law_asked {F_law_text : FD} {F_law_first_bad : FD} {F_law_rows : FD} {F_format_deeds : FD} {F_parse_deeds : FX} {X : Cx} {cdv : Value} {A : Around} {outer : List Env} {s : Shared} {H : Hp} {E : XK} (hX : X = (cxOf CX0 P w K mg base ["_law_records", "_law_text_here", "_law_line_here", "_law_deeds", "_law_told", "e", "_law_written", "_law_record"] "_law_asked" (defScope s_law_asked) f cdv A outer s H E).nox) (hr : Room k X.A) (c_law_text : C8.Cal P w K mg base k "_law_text" (spG 0 1 F_law_text) []) (c_law_first_bad : C8.Cal P w K mg base k "_law_first_bad" (spG 0 1 F_law_first_bad) []) (c_law_rows : C8.Cal P w K mg base k "_law_rows" (spG 0 2 F_law_rows) []) (c_format_deeds : C8.Cal P w K mg base k "format_deeds" (spG 0 1 F_format_deeds) []) (c_parse_deeds : CalX P w K mg base k "parse_deeds" (spX 1 (XV mg) F_parse_deeds)) {CH : Addr} (A1 : AskF P w K mg base k CH) : XB X ⟨fun _ _ _ _ => False, (XV mg)⟩ (defBody s_law_asked) (rd_law_asked F_law_text F_law_first_bad F_law_rows F_format_deeds F_parse_deeds) := by
  subst hX
  have hS := sc_law_asked
  have hu := hr.units
  have hu0 := hr.units0
  have hu5 := units65 hr
  exact (xb_cons (xs_set 1 hS.nd (.inl rfl) (xe_call c_law_text hr (Nat.le_refl _) (by rfl) (xa_cons (xe_var 0) xa_nil)))
  (xb_cons (xs_set 2 hS.nd (.inl rfl) (xe_call c_law_first_bad hr (Nat.le_refl _) (by rfl) (xa_cons (xe_var 0) xa_nil)))
  (xb_cons (xs_setL 3 7 rfl hS.nd (xi_list (xe_var 0)) (blkOk_by (by rfl)) (fun _ _ => .inl rfl) (fun _ _ _ _ _ => (xts_one (xt_cmp op_notN lr_ntN (xe_ix (xe_var 7) xe_int) xe_non (by rfl)))) (fun _ _ _ _ _ => (xe_ix (xe_var 7) xe_int)) (fun _ _ => .inr rfl))
  (xb_cons (try_asked hB A1 rfl hr (by rfl) (fun W pn xe tk => (xb_one (xs_setX 4 hS.nd (.inl rfl) (xx_call tk c_parse_deeds hr (Nat.le_refl _) (by rfl) (xa_cons (xe_var 1) xa_nil))))))
  (xb_cons (xs_if (XW.pt (xw_or (xt_cmp op_gt lr_bool0 (xe_var 2) xe_int (by rfl)) (xw_or1 (xt_not (xt_val (xe_call c_law_rows hr (Nat.le_refl _) (by rfl) (xa_cons (xe_var 4) (xa_cons (xe_var 3) xa_nil))))))))
    (xb_one (xs_ret xe_bl))
    xb_nil)
  (xb_cons (xs_setF 6 hS.nd (.inl rfl) (xe_call c_format_deeds hr (Nat.le_refl _) (by rfl) (xa_cons (xe_var 4) xa_nil)))
  (xb_cons (xs_if (XW.pt (xw_or (xt_not (xt_val (xe_is (T := "str") (by decide) (by rfl) hB.m_isinstance (by rfl) hB.m_str (by rfl) (xe_var 6)))) (xw_or (xt_cmp (op_neA hu) lr_ne (xe_var 6) (xe_var 1) (by rfl)) (xw_or1 (xt_not (xt_val (xe_call c_law_rows hr (Nat.le_refl _) (by rfl) (xa_cons (xe_var 4) (xa_cons (xe_var 3) xa_nil)))))))))
    (xb_one (xs_ret xe_bl))
    xb_nil)
  (xb_cons (xs_app 4 (xe_tup (xa_cons xe_str (xa_cons xe_int xa_nil))))
  (xb_one (xs_ret (xe_call c_law_rows hr (Nat.le_refl _) (by rfl) (xa_cons (xe_callX c_parse_deeds hr (Nat.le_refl _) (by rfl) (xa_cons (xe_var 1) xa_nil)) (xa_cons (xe_var 3) xa_nil)))))))))))))
theorem bd_law {F_law_draw : FD} {F_law_deed : FD} {F_law_line : FD} {F_format_deeds : FD} {F_law_text : FD} {F_law_asked : FD} {F_law_spoilt : FD} {X : Cx} {cdv : Value} {A : Around} {outer : List Env} {s : Shared} {H : Hp} {E : XK} (hX : X = (cxOf CX0 P w K mg base ["_law_script", "_law_source_here", "_law_count", "_law_form", "_law_records", "_law_place", "_law_drawn", "_law_deed_here", "_law_deeds", "_law_handed", "_law_written", "_law_spoil", "_law_turn", "_law_rows_here", "_law_record"] "law" (defScope s_law) f cdv A outer s H E).nox) (hr : Room k X.A) (c_law_draw : C8.Cal P w K mg base k "_law_draw" (spG 1 2 F_law_draw) []) (c_law_deed : C8.Cal P w K mg base k "_law_deed" (spG 1 2 F_law_deed) []) (c_law_line : C8.Cal P w K mg base k "_law_line" (spG 0 1 F_law_line) []) (c_format_deeds : C8.Cal P w K mg base k "format_deeds" (spG 0 1 F_format_deeds) []) (c_law_text : C8.Cal P w K mg base k "_law_text" (spG 0 1 F_law_text) []) (c_law_asked : C8.Cal P w K mg base k "_law_asked" (spG 0 1 F_law_asked) []) (c_law_spoilt : C8.Cal P w K mg base k "_law_spoilt" (spG 1 2 F_law_spoilt) []) (c_law_source : C8.Cal P w K mg base k "_law_source" (spSrc K) []) {U : PyData → Value → Option Addr → Hp → Prop} : XB X ⟨fun _ _ _ _ => False, U⟩ (defBody s_law) (rd_law F_law_draw F_law_deed F_law_line F_format_deeds F_law_text F_law_asked F_law_spoilt) := by
  subst hX
  have hS := sc_law
  have hu := hr.units
  have hu0 := hr.units0
  have hu5 := units65 hr
  exact (xb_cons (xs_newS 1 0 c_law_source hr (Nat.le_refl _) (by rfl) xe_int hS.nd (.inl rfl))
  (xb_cons (xs_set 2 hS.nd (.inl rfl) (xe_callS 1 c_law_draw hr (Nat.le_refl _) (by rfl) (xa_cons xe_int xa_nil)))
  (xb_cons (xs_if (xt_cmp (op_eqA hu) lr_eq (xe_callS 1 c_law_draw hr (Nat.le_refl _) (by rfl) (xa_cons xe_int xa_nil)) xe_int (by rfl))
    (xb_one (xs_set 2 hS.nd (.inl rfl) (xe_callS 1 c_law_draw hr (Nat.le_refl _) (by rfl) (xa_cons xe_int xa_nil))))
    xb_nil)
  (xb_cons (xs_set 3 hS.nd (.inl rfl) (xe_callS 1 c_law_draw hr (Nat.le_refl _) (by rfl) (xa_cons xe_int xa_nil)))
  (xb_cons (xs_new 4 hS.nd (.inl rfl) (xl_lst xa_nil))
  (xb_cons (xs_for PassesOwn.never rfl (xi_rng1 (by rfl) hB.m_range (xa_cons (xe_var 2) xa_nil)) (xg_name 5 hS.nd (.inl rfl))
    (xb_cons (xs_alias 6 1 hS.nd (.inl rfl))
  (xb_cons (xs_if (xt_cmp op_lt lr_bool0 (xe_var 5) xe_int (by rfl))
    (xb_one (xs_newS 6 0 c_law_source hr (Nat.le_refl _) (by rfl) (xe_op op_addA lr_add xe_int (xe_var 5)) hS.nd (.inl rfl)))
    xb_nil)
  (xb_cons (xs_set 7 hS.nd (.inl rfl) (xe_callS 6 c_law_deed hr (Nat.le_refl _) (by rfl) (xa_cons (xe_cmp op_gt lr_bool0 (xe_var 5) xe_int (by rfl)) xa_nil)))
  (xb_one (xs_app 4 (XL.fz (xl_lst (xa_cons (xe_call c_law_line hr (Nat.le_refl _) (by rfl) (xa_cons (xe_var 7) xa_nil)) (xa_cons (xe_var 7) xa_nil))))))))))
  (xb_cons (xs_setLZ 8 14 rfl hS.nd (xi_list (xe_var 4)) (blkOk_by (by rfl)) (fun _ _ => .inl rfl) (fun _ _ _ _ _ => xts_nil) (fun _ _ _ _ _ => (xe_ix (xe_var 14) xe_int)) (fun _ _ => .inr rfl))
  (xb_cons (xs_set 9 hS.nd (.inl rfl) (xe_ct call_list_of lc_lst (by rfl) hB.m_list (by rfl) (xa_cons (xe_var 8) xa_nil)))
  (xb_cons (xs_if (xt_cmp (op_eqA hu) lr_eq (xe_var 3) xe_int (by rfl))
    (xb_one (xs_set 9 hS.nd (.inl rfl) (xe_ct call_tuple_of lc_tup (by rfl) hB.m_tuple (by rfl) (xa_cons (xe_var 8) xa_nil))))
    xb_nil)
  (xb_cons (xs_set 10 hS.nd (.inl rfl) (xe_call c_format_deeds hr (Nat.le_refl _) (by rfl) (xa_cons (xe_var 9) xa_nil)))
  (xb_cons (xs_if (XW.pt (xw_or (xt_not (xt_val (xe_is (T := "str") (by decide) (by rfl) hB.m_isinstance (by rfl) hB.m_str (by rfl) (xe_var 10)))) (xw_or (xt_cmp (op_neA hu) lr_ne (xe_var 10) (xe_call c_law_text hr (Nat.le_refl _) (by rfl) (xa_cons (xe_var 4) xa_nil)) (by rfl)) (xw_or1 (xt_cmp (op_neA hu) lr_ne (xe_ct call_list_of lc_lst (by rfl) hB.m_list (by rfl) (xa_cons (xe_var 9) xa_nil)) (xe_var 8) (by rfl))))))
    (xb_one (xs_ret xe_bl))
    xb_nil)
  (xb_cons (xs_if (XW.pt (xw_or (xt_not (xt_val (xe_call c_law_asked hr (Nat.le_refl _) (by rfl) (xa_cons (xe_var 4) xa_nil)))) (xw_or1 (xt_not (xt_val (xe_call c_law_asked hr (Nat.le_refl _) (by rfl) (xa_cons (XL.fz (xl_lst xa_nil)) xa_nil)))))))
    (xb_one (xs_ret xe_bl))
    xb_nil)
  (xb_cons (xs_newS 11 0 c_law_source hr (Nat.le_refl _) (by rfl) xe_int hS.nd (.inl rfl))
  (xb_cons (xs_for PassesOwn.never rfl (xi_rng1 (by rfl) hB.m_range (xa_cons xe_int xa_nil)) (xg_name 12 hS.nd (.inl rfl))
    (xb_cons (xs_set 13 hS.nd (.inl rfl) (xe_callS 11 c_law_spoilt hr (Nat.le_refl _) (by rfl) (xa_cons (xe_var 4) xa_nil)))
  (xb_one (xs_if (XW.pt (xw_or (xt_not (xt_val (xe_call c_law_asked hr (Nat.le_refl _) (by rfl) (xa_cons (xe_var 13) xa_nil)))) (xw_or1 (xt_not (xt_val (xe_call c_law_asked hr (Nat.le_refl _) (by rfl) (xa_cons (xe_callS 11 c_law_spoilt hr (Nat.le_refl _) (by rfl) (xa_cons (xe_var 13) xa_nil)) xa_nil)))))))
    (xb_one (xs_ret xe_bl))
    xb_nil))))
  (xb_one (xs_ret (xe_call c_law_asked hr (Nat.le_refl _) (by rfl) (xa_cons (xe_var 4) xa_nil))))))))))))))))))
end
end K82
set_option Elab.async false
set_option linter.all false
set_option maxRecDepth 100000
set_option maxHeartbeats 4000000
namespace K82
open PySem PySem.Spec PyProof.Rows L2 Ly SX
theorem sh_int (x : Int) : SeqAt.shaped (.int x) = true := by simp [SeqAt.shaped, PyData.canLay0, PyData.depth]
theorem sh_none : SeqAt.shaped .none = true := by simp [SeqAt.shaped, PyData.canLay0, PyData.depth]
theorem sh_tup0 : SeqAt.shaped (.tuple []) = true := by decide +kernel
theorem sh_tupN : SeqAt.shaped (.tuple [.none]) = true := by decide +kernel
theorem sh_tupI (i : Int) : SeqAt.shaped (.tuple [.int i]) = true := by simp [SeqAt.shaped, PyData.canLay0, PyData.canLayAll0, PyData.depth, PyData.depthAll]
theorem ev_str (x y : Str) : PyData.eqv (.str x) (.str y) = (x == y) := by simp [PyData.eqv]
theorem ev_int (x y : Int) : PyData.eqv (.int x) (.int y) = (x == y) := by simp [PyData.eqv]
theorem ev_tup0 : PyData.eqv (.tuple []) (.tuple []) = true := by simp [PyData.eqv, PyData.eqvAll]
theorem ev_tup1 (d : PyData) : PyData.eqv (.tuple [d]) (.tuple []) = false := by simp [PyData.eqv, PyData.eqvAll]
theorem ev_ni (x : Int) : PyData.eqv .none (.int x) = false := by simp [PyData.eqv]
theorem ev_in (x : Int) : PyData.eqv (.int x) .none = false := by simp [PyData.eqv]
/-- a loop that does nothing but may leave -/
theorem loop_skip {g : DG} {tb : DS} {DD : DEnds} : ∀ (ds : List PyData) (Δ : DSt), dLoop g tb DD (ds) Δ = dLoop g tb DD ds Δ := fun _ _ => rfl
section
variable {Q : PyData → Prop} {a b : Str} {i j : Int} {xs ys : List PyData} {lo hi : Option Int} {d : PyData}
theorem eqSS : eqD (.str a) (.str b) Q = Q (.bool (decide (a = b))) := rfl
theorem eqII : eqD (.int i) (.int j) Q = Q (.bool (decide (i = j))) := rfl
theorem neSS : neD (.str a) (.str b) Q = Q (.bool (!decide (a = b))) := rfl
theorem neII : neD (.int i) (.int j) Q = Q (.bool (!decide (i = j))) := rfl
theorem addII : addD (.int i) (.int j) Q = Q (.int (i + j)) := rfl
theorem addSS : addD (.str a) (.str b) Q = (a.length + b.length ≤ sizeLine ∧ Q (.str (a ++ b))) := rfl
theorem addLL : addD (.list xs) (.list ys) Q = (xs.length + ys.length ≤ sizeLine ∧ Q (.list (xs ++ ys))) := rfl
theorem intDI {g : Int → Int → PyData} {C : Int → Int → Prop} : Ly.intD g C (.int i) (.int j) Q = (C i j ∧ Q (g i j)) := rfl
theorem ixLI : ixD (.list xs) (.int i) Q = ∃ d, atI xs i = some d ∧ Q d := rfl
theorem ixTI : ixD (.tuple xs) (.int i) Q = ∃ d, atI xs i = some d ∧ Q d := rfl
theorem ixSI : ixD (.str a) (.int i) Q = (a.length ≤ sizeLine ∧ ∃ c, atI a.cps.toList i = some c ∧ Q (.str ⟨#[c]⟩)) := rfl
theorem slLL : slD (.list xs) lo hi Q = Q (.list (cutD xs lo hi)) := rfl
theorem slSS : slD (.str a) lo hi Q = (a.length ≤ sizeLine ∧ Q (.str (cutS a lo hi))) := rfl
theorem lenL : lenD [.list xs] Q = Q (.int xs.length) := rfl
theorem lenT : lenD [.tuple xs] Q = Q (.int xs.length) := rfl
theorem lenS : lenD [.str a] Q = (a.length ≤ sizeLine ∧ Q (.int a.length)) := rfl
theorem strI : toStrD [.int i] Q = (i.natAbs.log2 < 1920 ∧ Q (.str (toString i))) := rfl
theorem strS : toStrD [.str a] Q = Q (.str a) := rfl
theorem intI : toIntD [.int i] Q = Q (.int i) := rfl
theorem intB {k : Bool} : toIntD [.bool k] Q = Q (.int (if k then 1 else 0)) := rfl
theorem intS : toIntD [.str a] Q = ∃ n, PySem.intText? a = some n ∧ a.length ≤ 640 ∧ Q (.int n) := rfl
theorem tupL : toTupD [.list xs] Q = Q (.tuple xs) := rfl
theorem tupT : toTupD [.tuple xs] Q = Q (.tuple xs) := rfl
theorem lstL : toLstD [.list xs] Q = Q (.list xs) := rfl
theorem lstT : toLstD [.tuple xs] Q = Q (.list xs) := rfl
theorem minI : minD [.int i, .int j] Q = Q (.int (if j < i then j else i)) := rfl
theorem okE_d {x : PyData} : okE (.d x) = True := rfl
theorem okE_own {x : List PyData} : okE (.own x) = True := rfl
theorem okE_any : okE .any = True := rfl
theorem nT {c : Bool} {A B : Prop} (hc : c = true) (h : B) : ∃ k, PyData.bool c = PyData.bool k ∧ if (!k) = true then A else B := ⟨c, rfl, by subst hc; exact h⟩
theorem nF {c : Bool} {A B : Prop} (hc : c = false) (h : A) : ∃ k, PyData.bool c = PyData.bool k ∧ if (!k) = true then A else B := ⟨c, rfl, by subst hc; exact h⟩
/-- the wanted end, met by a given bool -/
theorem bT {c : Bool} {A B : Prop} (hc : c = true) (h : A) : ∃ k, PyData.bool c = PyData.bool k ∧ if k = true then A else B := ⟨c, rfl, by rw [if_pos hc]; exact h⟩
theorem bF {c : Bool} {A B : Prop} (hc : c = false) (h : B) : ∃ k, PyData.bool c = PyData.bool k ∧ if k = true then A else B := ⟨c, rfl, by rw [if_neg (by rw [hc]; exact Bool.false_ne_true)]; exact h⟩
end
end K82
set_option Elab.async false
set_option linter.all false
set_option maxRecDepth 100000
namespace K82
open PySem PySem.Spec PyProof.Rows L2 SX
abbrev Wd := List Nat
def digB (c : Nat) : Bool := decide (48 ≤ c) && decide (c ≤ 57)
/-- a count: 1 to 12 figures, no zero ahead -/
def rc (w : Wd) : Option Nat := if w = [] ∨ 12 < w.length then none else if w.all digB = true then (if 1 < w.length ∧ w.head? = some 48 then none else some (NumText.digitsVal w)) else none
/-- a number -/
def rn (w : Wd) : Option Int := if w.take 1 = [45] then (match rc (w.drop 1) with | none => none | some 0 => none | some (n + 1) => some (-((n + 1 : Nat) : Int))) else (rc w).map Int.ofNat
def wAny : Wd := [97, 110, 121]
/-- a bound -/
def rb (w : Wd) : Option (Option Int) := if w = wAny then some none else (rn w).map some
theorem allDig {w : Wd} (h : w.all digB = true) : NumText.AllDigits w := fun c hc => by
  have := List.all_eq_true.mp h c hc
  simpa [digB] using this
theorem dig_all {w : Wd} (h : NumText.AllDigits w) : w.all digB = true := List.all_eq_true.mpr fun c hc => by
  have := h c hc
  simp [digB, this.1, this.2]
/-- the figures of a number -/
theorem rc_num {n : Nat} (h : n < 10 ^ 12) : rc (TL.numL n) = some n := by
  have hl := TL.numL_len (n := n) (k := 12) (by decide) h
  have hn := TL.numL_ne n
  unfold rc
  rw [if_neg (by rintro (z | z); exact hn z; omega), if_pos (dig_all (TL.numL_digits n)), TL.numL_val]
  refine if_neg ?_
  rintro ⟨h1, h2⟩
  by_cases h9 : n < 10
  · rw [TL.numL_lt h9] at h1; simp at h1
  · have h0 : ∀ m, 0 < m → (TL.numL m).head? ≠ some 48 := by
      intro m
      induction m using Nat.strongRecOn with
      | _ m ih =>
        intro hm
        by_cases h9 : m < 10
        · rw [TL.numL_lt h9]; simp; omega
        · rw [TL.numL_step (by omega)]
          have := ih (m / 10) (by omega) (by omega)
          have hne := TL.numL_ne (m / 10)
          cases q : TL.numL (m / 10) with
          | nil => exact absurd q hne
          | cons a r => rw [q] at this; simpa using this
    exact h0 n (by omega) h2
/-- the text of a whole number -/
def itx (i : Int) : Wd := if i < 0 then 45 :: TL.numL (-i).toNat else TL.numL i.toNat
theorem itx_nat (n : Nat) : itx (n : Int) = TL.numL n := by
  unfold itx
  rw [if_neg (by omega), Int.toNat_natCast]
theorem rc_neg (w : Wd) : rc (45 :: w) = none := by
  unfold rc
  split
  · rfl
  · rw [if_neg]
    simp [digB]
theorem rn_itx {i : Int} (h : -(10 ^ 12) < i) (h2 : i < 10 ^ 12) : rn (itx i) = some i := by
  unfold itx
  by_cases hi : i < 0
  · rw [if_pos hi]
    unfold rn
    rw [if_pos (show List.take 1 (45 :: TL.numL (-i).toNat) = [45] from rfl)]
    show (match rc (TL.numL (-i).toNat) with | none => none | some 0 => none | some (n + 1) => some (-((n + 1 : Nat) : Int))) = some i
    rw [rc_num (by omega)]
    cases q : (-i).toNat with
    | zero => omega
    | succ n => show some _ = some _; congr 1; omega
  · rw [if_neg hi]
    unfold rn
    rw [if_neg, rc_num (by omega)]
    · show some (Int.ofNat i.toNat) = some i
      congr 1
      exact Int.toNat_of_nonneg (by omega)
    · intro e
      have := TL.numL_free (n := i.toNat) (s := 45) (by omega)
      have hm : 45 ∈ (TL.numL i.toNat).take 1 := by rw [e]; simp
      exact this (List.mem_of_mem_take hm)
theorem itx_ne_any (i : Int) : itx i ≠ wAny := by
  unfold itx wAny
  split
  · intro e; cases e
  · intro e
    have := TL.numL_free (n := i.toNat) (s := 97) (by omega)
    rw [e] at this
    simp at this
theorem rb_itx {i : Int} (h : -(10 ^ 12) < i) (h2 : i < 10 ^ 12) : rb (itx i) = some (some i) := by
  unfold rb
  rw [if_neg (itx_ne_any i), rn_itx h h2]
  rfl
theorem toStr_itx (i : Int) : (Str.ofString (toString i)) = S (itx i) := by
  unfold itx
  by_cases hi : i < 0
  · rw [if_pos hi]
    obtain ⟨n, rfl⟩ : ∃ n : Nat, i = -((n : Nat) : Int) := ⟨(-i).toNat, by omega⟩
    rw [PyProof.Rows.toString_neg hi]
    have e : (0 : Int) - (-((n : Nat) : Int)) = (n : Int) := by omega
    rw [e]
    refine TL.ext_tl ?_
    have hn : ((-(-(n : Int))).toNat) = n := by omega
    rw [hn]
    show TL.tl (Str.ofString ("-" ++ toString (n : Int))) = 45 :: TL.numL n
    rw [TL.tl_ofString, String.toList_append, List.map_append]
    have := TL.tl_num n
    rw [TL.tl_ofString] at this
    rw [this]
    rfl
  · rw [if_neg hi]
    obtain ⟨n, rfl⟩ : ∃ n : Nat, i = ((n : Nat) : Int) := ⟨i.toNat, by omega⟩
    rw [Int.toNat_natCast]
    exact num_S n
theorem itx_len {i : Int} (h : -(10 ^ 12) < i) (h2 : i < 10 ^ 12) : (itx i).length ≤ 13 := by
  unfold itx
  split
  · have := TL.numL_len (n := (-i).toNat) (k := 12) (by decide) (by omega)
    simp; omega
  · have := TL.numL_len (n := i.toNat) (k := 12) (by decide) (by omega)
    omega
theorem itx_free {s : Nat} (i : Int) (h : s < 48 ∨ 57 < s) (h2 : s ≠ 45) : s ∉ itx i := by
  unfold itx
  split
  · intro z
    rcases List.mem_cons.mp z with e | z
    · exact h2 e
    · exact TL.numL_free h z
  · exact TL.numL_free h
end K82
set_option Elab.async false
set_option linter.all false
set_option maxRecDepth 100000
namespace K82
open PySem PySem.Spec PyProof.Rows L2 SX
def geLast (acc : List Int) (n : Int) : Bool := match acc.getLast? with
  | some m => decide (n ≤ m)
  | none => false
def rlotGo : List Wd → List Int → Option (List Int)
  | [], acc => some acc
  | p :: r, acc => match rc p with
    | none => none
    | some n => if geLast acc n = true then none else rlotGo r (acc ++ [(n : Int)])
theorem rlot_none {p : Wd} {r : List Wd} {acc : List Int} (q : rc p = none) : rlotGo (p :: r) acc = none := by unfold rlotGo; rw [q]
theorem rlot_bad {p : Wd} {r : List Wd} {acc : List Int} {n : Nat} (q : rc p = some n) (g : geLast acc n = true) : rlotGo (p :: r) acc = none := by
  unfold rlotGo
  rw [q]
  exact if_pos g
theorem rlot_go {p : Wd} {r : List Wd} {acc : List Int} {n : Nat} (q : rc p = some n) (g : geLast acc n = false) : rlotGo (p :: r) acc = rlotGo r (acc ++ [(n : Int)]) := by
  conv => lhs; unfold rlotGo
  rw [q]
  exact if_neg (by rw [g]; exact Bool.false_ne_true)
/-- one lot -/
def rlot (w : Wd) : Option (List Int) := if w = [45] then some [] else rlotGo (TL.spl [44] 0 [] w) []
def geLastL (acc : List (List Int)) (l : List Int) : Bool := match acc.getLast? with
  | some m => !decide (m < l)
  | none => false
def rlotsGo : List Wd → List (List Int) → Option (List (List Int))
  | [], acc => some acc
  | p :: r, acc => match rlot p with
    | none => none
    | some l => if geLastL acc l = true then none else rlotsGo r (acc ++ [l])
theorem rlots_none {p : Wd} {r : List Wd} {acc : List (List Int)} (q : rlot p = none) : rlotsGo (p :: r) acc = none := by unfold rlotsGo; rw [q]
theorem rlots_bad {p : Wd} {r : List Wd} {acc : List (List Int)} {n : List Int} (q : rlot p = some n) (g : geLastL acc n = true) : rlotsGo (p :: r) acc = none := by
  unfold rlotsGo
  rw [q]
  exact if_pos g
theorem rlots_go {p : Wd} {r : List Wd} {acc : List (List Int)} {n : List Int} (q : rlot p = some n) (g : geLastL acc n = false) : rlotsGo (p :: r) acc = rlotsGo r (acc ++ [n]) := by
  conv => lhs; unfold rlotsGo
  rw [q]
  exact if_neg (by rw [g]; exact Bool.false_ne_true)
def wNone : Wd := [110, 111, 110, 101]
def rlots (w : Wd) : Option (List (List Int)) := if w = wNone then some [] else rlotsGo (TL.spl [47] 0 [] w) []
inductive Pl where
  | most (n : Nat) | within (n : Nat) | lots (ls : List (List Int)) | both (a b : Pl) | either (a b : Pl)
def kMost : Wd := [109, 111, 115, 116]
def kWithin : Wd := [119, 105, 116, 104, 105, 110]
def kLots : Wd := [108, 111, 116, 115]
def kBoth : Wd := [98, 111, 116, 104]
def kEither : Wd := [101, 105, 116, 104, 101, 114]
/-- a plan at the head of the words, with the number of its words -/
def rp : Nat → List Wd → Option (Pl × Nat)
  | _, [] => none
  | _, [_] => none
  | deep, k :: w :: rest =>
    if k = kMost then (rc w).map fun n => (.most n, 2)
    else if k = kWithin then (rc w).map fun n => (.within n, 2)
    else if k = kLots then (rlots w).map fun l => (.lots l, 2)
    else if ¬ (k = kBoth ∨ k = kEither) then none
    else match deep with
      | 0 => none
      | d + 1 => match rp d (w :: rest) with
        | none => none
        | some (a, i) => match rp d ((w :: rest).drop i) with
          | none => none
          | some (b, j) => some (if k = kBoth then .both a b else .either a b, 1 + i + j)
theorem rp_len : ∀ (d : Nat) (ws : List Wd) (p : Pl) (k : Nat), rp d ws = some (p, k) → k ≤ ws.length
  | d, [], p, k, h => by cases d <;> cases h
  | d, [_], p, k, h => by cases d <;> cases h
  | d, kw :: w :: rest, p, k, h => by
    unfold rp at h
    split at h
    · cases q : rc w with
      | none => rw [q] at h; cases h
      | some n => rw [q] at h; cases h; simp
    split at h
    · cases q : rc w with
      | none => rw [q] at h; cases h
      | some n => rw [q] at h; cases h; simp
    split at h
    · cases q : rlots w with
      | none => rw [q] at h; cases h
      | some n => rw [q] at h; cases h; simp
    split at h
    · cases h
    cases d with
    | zero => cases h
    | succ d =>
      simp only at h
      cases q1 : rp d (w :: rest) with
      | none => simp only [q1] at h; cases h
      | some pa =>
        obtain ⟨a, i⟩ := pa
        simp only [q1] at h
        cases q2 : rp d ((w :: rest).drop i) with
        | none => simp only [q2] at h; cases h
        | some pb =>
          obtain ⟨b, j⟩ := pb
          simp only [q2] at h
          have h1 := rp_len d _ _ _ q1
          have h2 := rp_len d _ _ _ q2
          cases h
          simp at h1 h2 ⊢
          omega
/-- a doubt: the words just make a plan -/
def rdbt (ws : List Wd) : Option Pl := match rp 3 ws with
  | none => none
  | some (p, k) => if k = ws.length then some p else none
end K82
set_option Elab.async false
set_option linter.all false
set_option maxRecDepth 100000
namespace K82
open PySem PySem.Spec PyProof.Rows L2 SX
inductive Deed where
  | tell (a b : Nat) (lo hi : Option Int) (w : Nat) | recount (a b : Nat) (v : Int) | correct (n : Nat) (lo hi : Option Int) | withdraw (n : Nat) | doubt (t : Wd)
def kTell : Wd := [116, 101, 108, 108]
def kRecount : Wd := [114, 101, 99, 111, 117, 110, 116]
def kCorrect : Wd := [99, 111, 114, 114, 101, 99, 116]
def kWithdraw : Wd := [119, 105, 116, 104, 100, 114, 97, 119]
def kDoubt : Wd := [100, 111, 117, 98, 116]
def kWeight : Wd := [119, 101, 105, 103, 104, 116]
def wb : Option Int → Wd
  | none => wAny
  | some i => itx i
def wn (n : Nat) : Wd := TL.numL n
def words (l : Wd) : List Wd := TL.spl [32] 0 [] l
/-- the words of a deed; a doubt's text by its own words -/
def dwords : Deed → List Wd
  | .tell a b lo hi w => [kTell, wn a, wn b, wb lo, wb hi, kWeight, wn w]
  | .recount a b v => [kRecount, wn a, wn b, itx v]
  | .correct n lo hi => [kCorrect, wn n, wb lo, wb hi]
  | .withdraw n => [kWithdraw, wn n]
  | .doubt t => kDoubt :: words t
def line (d : Deed) : Wd := match d with
  | .doubt t => kDoubt ++ 32 :: t
  | d => TL.joinL [32] (dwords d)
/-- what the program reads -/
def rtell (ws : List Wd) : Option Deed := match ws with
  | [_, a, b, lo, hi, k, w] => if k = kWeight then (match rc a, rc b, rc w, rb lo, rb hi with
      | some a, some b, some w, some lo, some hi => some (.tell a b lo hi w)
      | _, _, _, _, _ => none) else none
  | _ => none
def rrecount (ws : List Wd) : Option Deed := match ws with
  | [_, a, b, v] => (match rc a, rc b, rn v with
      | some a, some b, some v => some (.recount a b v)
      | _, _, _ => none)
  | _ => none
def rcorrect (ws : List Wd) : Option Deed := match ws with
  | [_, n, lo, hi] => (match rc n, rb lo, rb hi with
      | some n, some lo, some hi => some (.correct n lo hi)
      | _, _, _ => none)
  | _ => none
def rwithdraw (ws : List Wd) : Option Deed := match ws with
  | [_, n] => (rc n).map .withdraw
  | _ => none
def plOk : Pl → Bool
  | .most n => decide (n ≤ 99)
  | .within n => decide (n ≤ 1000000)
  | .lots ls => decide (ls.length ≤ 24) && ls.all fun l => l.all fun n => decide (n ≤ 39)
  | .both a b => plOk a && plOk b
  | .either a b => plOk a && plOk b
def dbtOk (t : Wd) : Bool := match rdbt (words t) with
  | none => false
  | some p => plOk p
def rdeed (l : Wd) : Option Deed :=
  let ws := words l
  let k := ws.headD []
  if k = kTell then rtell ws else if k = kRecount then rrecount ws else if k = kCorrect then rcorrect ws else if k = kWithdraw then rwithdraw ws
  else if k = kDoubt then (if dbtOk (l.drop 6) = true then some (.doubt (l.drop 6)) else none) else none
/-- the bounds of what is written -/
def okB : Option Int → Prop
  | none => True
  | some i => -(10 ^ 12) < i ∧ i < 10 ^ 12
def DeedB : Deed → Prop
  | .tell a b lo hi w => a < 10 ^ 12 ∧ b < 10 ^ 12 ∧ okB lo ∧ okB hi ∧ w < 10 ^ 12
  | .recount a b v => a < 10 ^ 12 ∧ b < 10 ^ 12 ∧ -(10 ^ 12) < v ∧ v < 10 ^ 12
  | .correct n lo hi => n < 10 ^ 12 ∧ okB lo ∧ okB hi
  | .withdraw n => n < 10 ^ 12
  | .doubt t => t.length ≤ 100000
theorem wn_len {n : Nat} (h : n < 10 ^ 12) : (wn n).length ≤ 12 := TL.numL_len (by decide) h
theorem wb_len {o : Option Int} (h : okB o) : (wb o).length ≤ 13 := by
  cases o with
  | none => show wAny.length ≤ 13; decide
  | some i => exact itx_len h.1 h.2
theorem rb_wb {o : Option Int} (h : okB o) : rb (wb o) = some o := by
  cases o with
  | none => show rb wAny = some none; rfl
  | some i => exact rb_itx h.1 h.2
theorem log_ok {i : Int} (h : -(10 ^ 12) < i) (h2 : i < 10 ^ 12) : i.natAbs.log2 < 1920 := by
  have h3 : i.natAbs < 2 ^ 1920 := Nat.lt_of_lt_of_le (show i.natAbs < 2 ^ 40 by omega) (Nat.pow_le_pow_right (by decide) (by decide))
  by_cases h0 : i.natAbs = 0
  · rw [h0]; decide
  · exact (Nat.log2_lt h0).mpr h3
end K82
set_option Elab.async false
set_option linter.all false
set_option maxRecDepth 100000
set_option maxHeartbeats 4000000
namespace K82
open PySem PySem.Spec PyProof.Rows L2 Ly SX
theorem S_size (a : Wd) : (S a).cps.size = a.length := by simp [S]
theorem S_list (a : Wd) : (S a).cps.toList = a := by simp [S]
theorem lit (s : String) : Str.ofString s = S (s.toList.map Char.toNat) := by rw [Str.ofString_eq_toList]
theorem lit_dig : Str.ofString "0123456789" = S [48, 49, 50, 51, 52, 53, 54, 55, 56, 57] := lit _
theorem lit_0 : Str.ofString "0" = S [48] := lit _
theorem lit_e : Str.ofString "" = S [] := lit _
theorem lit_m : Str.ofString "-" = S [45] := lit _
theorem lit_any : Str.ofString "any" = S wAny := lit _
theorem lit_sp : Str.ofString " " = S [32] := lit _
theorem S_eq {a b : Wd} : (S a = S b) = (a = b) := propext ⟨S_inj, fun h => by rw [h]⟩
theorem charsS (a : Wd) : charsD (S a) = a.map fun c => .str (S [c]) := by unfold charsD; rw [S_list]
theorem digB_mem (c : Nat) : decide (c ∈ [48, 49, 50, 51, 52, 53, 54, 55, 56, 57]) = digB c := by
  rw [Bool.eq_iff_iff]
  simp [digB]
  omega
theorem sz_line : sizeLine = 16777216 := sizeLine_eq
theorem nin_dig {c : Nat} {Q : PyData → Prop} (h : Q (.bool (!digB c))) : ninD (.str (S [c])) (.str (Str.ofString "0123456789")) Q := by
  refine ⟨_, rfl, _, rfl, ?_⟩
  rw [lit_dig, in_one, digB_mem]
  exact h
/-- the figures of a word -/
theorem figs_loop {DD : DEnds} {x : PyData} : ∀ (cs : Wd) (y : Option Ent), (∀ y, cs.all digB = true → DD.nx [some (.d x), y]) → (cs.all digB = false → DD.rt (.d .none)) →
    dLoop (dgN 1) (dIfS (dTst (dOp ninD (dVar 1) (dC (PyData.str (Str.ofString "0123456789"))))) (dRet (dC PyData.none)) dNext) DD (cs.map fun c => .str (S [c])) [some (.d x), y]
  | [], y, h, _ => h y rfl
  | c :: cs, y, h, h2 => by
    have ih := figs_loop (DD := DD) (x := x) cs
    simp only [dLoop, dSeq, dIfS, dOr, dAnd, dNot, dTst, dOp, dVar, dC, dCB, dCons, dNil, dRet, dFor, dIfE, dTup, dLst, dFzL, dSl, dNoPart, dPart, dSplit, dJoin, dUpper, dCall, dCallS, dIs, dNeg, dFmt, dJd, dJs, diLT, diL, diT, diS, diR1, diR2, diE, dgN, dgT2, dYes, dLc, dSet, dSetF, dSetZ, dSetL, dSetLZ, dNew, dApp, dAppF, dPut, dPar, dPar3, dAug, dNext, dAndV, dNotV, dOrT, hide, frz, hd1, fz1, D0, endsP, retP, intDI, isND, ntND, eqSS, eqII, neSS, neII, addII, addSS, addLL, ixLI, ixTI, ixSI, slLL, slSS, lenL, lenT, lenS, strI, strS, intI, intB, intS, tupL, tupT, lstL, lstT, minI, flat, List.map_cons, List.map_nil, List.replicate, List.append_eq, List.nil_append, List.cons_append, List.length_cons, List.length_nil, List.getElem?_cons_zero, List.getElem?_cons_succ, List.set_cons_zero, List.set_cons_succ, Option.some.injEq, Ent.d.injEq, Ent.own.injEq, exists_eq_left', exists_eq_left, exists_eq_right, PyData.bool.injEq, PyData.int.injEq, PyData.str.injEq, PyData.list.injEq, PyData.tuple.injEq, true_and, and_true, Nat.zero_add, Nat.add_zero, Nat.sub_self, Nat.reduceAdd, Nat.reduceSub, List.append_nil, Bool.false_eq_true, if_true, if_false, reduceIte, reduceCtorEq, false_and, exists_false, or_false, false_or, Option.map_some, Option.map_none]
    refine nin_dig ⟨_, rfl, ?_⟩
    by_cases hc : digB c = true
    · rw [hc]
      refine iteF (ih _ (fun y hy => h y ?_) (fun hy => h2 ?_))
      · rw [List.all_cons, hc, hy]; rfl
      · rw [List.all_cons, hc, hy]; rfl
    · have hc' : digB c = false := by simpa using hc
      rw [hc']
      exact iteT (h2 (by rw [List.all_cons, hc']; rfl))
def oN : Option Nat → PyData
  | none => .none
  | some n => .int (n : Nat)
def F_read_count : FD
  | [.str w], P => w.length ≤ sizeLine ∧ P (oN (rc w.cps.toList))
  | _, _ => False
theorem pr_read_count (ds : List PyData) (P : PyData → Prop) (h : F_read_count ds P) : rd_read_count (endsP P) (D0 0 ["word", "sign"] ds) := by
  obtain ⟨w, rfl, hl, hP⟩ : ∃ w, ds = [.str w] ∧ w.length ≤ sizeLine ∧ P (oN (rc w.cps.toList)) := by
    unfold F_read_count at h
    split at h
    · exact ⟨_, rfl, h⟩
    · exact h.elim
  obtain ⟨a, rfl⟩ : ∃ a, w = S a := ⟨w.cps.toList, (S_tl w).symm⟩
  rw [S_len] at hl
  rw [S_list] at hP
  unfold rd_read_count
  simp only [dSeq, dIfS, dOr, dAnd, dNot, dTst, dOp, dVar, dC, dCB, dCons, dNil, dRet, dFor, dIfE, dTup, dLst, dFzL, dSl, dNoPart, dPart, dSplit, dJoin, dUpper, dCall, dCallS, dIs, dNeg, dFmt, dJd, dJs, diLT, diL, diT, diS, diR1, diR2, diE, dgN, dgT2, dYes, dLc, dSet, dSetF, dSetZ, dSetL, dSetLZ, dNew, dApp, dAppF, dPut, dPar, dPar3, dAug, dNext, dAndV, dNotV, dOrT, hide, frz, hd1, fz1, D0, endsP, retP, intDI, isND, ntND, eqSS, eqII, neSS, neII, addII, addSS, addLL, ixLI, ixTI, ixSI, slLL, slSS, lenL, lenT, lenS, strI, strS, intI, intB, intS, tupL, tupT, lstL, lstT, minI, flat, List.map_cons, List.map_nil, List.replicate, List.append_eq, List.nil_append, List.cons_append, List.length_cons, List.length_nil, List.getElem?_cons_zero, List.getElem?_cons_succ, List.set_cons_zero, List.set_cons_succ, Option.some.injEq, Ent.d.injEq, Ent.own.injEq, exists_eq_left', exists_eq_left, exists_eq_right, PyData.bool.injEq, PyData.int.injEq, PyData.str.injEq, PyData.list.injEq, PyData.tuple.injEq, true_and, and_true, Nat.zero_add, Nat.add_zero, Nat.sub_self, Nat.reduceAdd, Nat.reduceSub, List.append_nil, Bool.false_eq_true, if_true, if_false, reduceIte, reduceCtorEq, false_and, exists_false, or_false, false_or, Option.map_some, Option.map_none, S_len, charsS, lit_e, S_eq, decide_eq_true_eq]
  by_cases h0 : a = []
  · subst h0
    rw [if_pos rfl]
    exact hP
  rw [if_neg h0]
  refine ⟨hl, ?_⟩
  by_cases h1 : (12 : Int) < (a.length : Nat)
  · rw [if_pos h1]
    have e : rc a = none := by unfold rc; rw [if_pos (.inr (by omega))]
    rw [e] at hP
    exact hP
  rw [if_neg h1]
  have n12 : ¬ (a = [] ∨ 12 < a.length) := by rintro (z | z); exact h0 z; omega
  refine figs_loop a none (fun y hd => ?_) (fun hd => ?_)
  · simp only [dSeq, dIfS, dOr, dAnd, dNot, dTst, dOp, dVar, dC, dCB, dCons, dNil, dRet, dFor, dIfE, dTup, dLst, dFzL, dSl, dNoPart, dPart, dSplit, dJoin, dUpper, dCall, dCallS, dIs, dNeg, dFmt, dJd, dJs, diLT, diL, diT, diS, diR1, diR2, diE, dgN, dgT2, dYes, dLc, dSet, dSetF, dSetZ, dSetL, dSetLZ, dNew, dApp, dAppF, dPut, dPar, dPar3, dAug, dNext, dAndV, dNotV, dOrT, hide, frz, hd1, fz1, D0, endsP, retP, intDI, isND, ntND, eqSS, eqII, neSS, neII, addII, addSS, addLL, ixLI, ixTI, ixSI, slLL, slSS, lenL, lenT, lenS, strI, strS, intI, intB, intS, tupL, tupT, lstL, lstT, minI, flat, List.map_cons, List.map_nil, List.replicate, List.append_eq, List.nil_append, List.cons_append, List.length_cons, List.length_nil, List.getElem?_cons_zero, List.getElem?_cons_succ, List.set_cons_zero, List.set_cons_succ, Option.some.injEq, Ent.d.injEq, Ent.own.injEq, exists_eq_left', exists_eq_left, exists_eq_right, PyData.bool.injEq, PyData.int.injEq, PyData.str.injEq, PyData.list.injEq, PyData.tuple.injEq, true_and, and_true, Nat.zero_add, Nat.add_zero, Nat.sub_self, Nat.reduceAdd, Nat.reduceSub, List.append_nil, Bool.false_eq_true, if_true, if_false, reduceIte, reduceCtorEq, false_and, exists_false, or_false, false_or, Option.map_some, Option.map_none, S_len, S_list, lit_0, S_eq, decide_eq_true_eq]
    refine ⟨hl, ?_⟩
    obtain ⟨c, r, rfl⟩ : ∃ c r, a = c :: r := by
      cases a with
      | nil => exact absurd rfl h0
      | cons c r => exact ⟨c, r, rfl⟩
    have at0 : atI (c :: r) (0 : Int) = some c := atI_nat (j := 0) rfl
    have val : P (if 1 < (c :: r).length ∧ c = 48 then .none else .int (NumText.digitsVal (c :: r) : Nat)) := by
      have e : rc (c :: r) = if 1 < (c :: r).length ∧ c = 48 then none else some (NumText.digitsVal (c :: r)) := by
        unfold rc
        rw [if_neg n12, if_pos hd]
        simp
      rw [e] at hP
      by_cases q : 1 < (c :: r).length ∧ c = 48
      · rw [if_pos q] at hP ⊢; exact hP
      · rw [if_neg q] at hP ⊢; exact hP
    have fin : ¬ (1 < (c :: r).length ∧ c = 48) → ∃ n, intText? (S (c :: r)) = some n ∧ (c :: r).length ≤ 640 ∧ P (.int n) := fun q => by
      rw [if_neg q] at val
      exact ⟨_, int_S (by simpa [digB] using hd) h0 (by omega), by omega, val⟩
    by_cases h2 : (1 : Int) < (((c :: r).length : Nat) : Int)
    · rw [if_pos h2]
      refine ⟨hl, c, at0, ?_⟩
      by_cases h3 : c = 48
      · rw [if_pos (by rw [h3])]
        rw [if_pos ⟨by omega, h3⟩] at val
        exact val
      · rw [if_neg (fun z => h3 (by simpa using z))]
        exact fin fun q => h3 q.2
    · rw [if_neg h2]
      exact fin fun q => h2 (by have := q.1; omega)
  · have e : rc a = none := by
      unfold rc
      rw [if_neg n12, if_neg (by rw [hd]; exact Bool.false_ne_true)]
    rw [e] at hP
    exact hP
end K82
set_option Elab.async false
set_option linter.all false
set_option maxRecDepth 100000
set_option maxHeartbeats 4000000
namespace K82
open PySem PySem.Spec PyProof.Rows L2 Ly SX
def cutL (a : Wd) (lo hi : Option Int) : Wd := (a.drop (HT.sIx a.length 0 lo)).take (HT.sIx a.length a.length hi - HT.sIx a.length 0 lo)
theorem cutS_S (a : Wd) (lo hi : Option Int) : cutS (S a) lo hi = S (cutL a lo hi) := by
  unfold cutS cutL
  rw [S_list, S_len]
theorem cut_to (a : Wd) (k : Nat) : cutL a none (some (k : Int)) = a.take k := by
  unfold cutL
  rw [HT.sIx_none, HT.sIx_nat, List.drop_zero, Nat.sub_zero]
  by_cases h : k ≤ a.length
  · rw [Nat.min_eq_left h]
  · rw [Nat.min_eq_right (by omega), List.take_length, List.take_of_length_le (by omega)]
theorem cut_from (a : Wd) (k : Nat) : cutL a (some (k : Int)) none = a.drop k := by
  unfold cutL
  rw [HT.sIx_nat, HT.sIx_none]
  by_cases h : k ≤ a.length
  · rw [Nat.min_eq_left h, List.take_of_length_le (by simp)]
  · rw [Nat.min_eq_right (by omega), Nat.sub_self, List.take_zero, List.drop_eq_nil_of_le (by omega)]
theorem cut_to1 (a : Wd) : cutL a none (some 1) = a.take 1 := cut_to a 1
theorem cut_from1 (a : Wd) : cutL a (some 1) none = a.drop 1 := cut_from a 1
theorem cut_from6 (a : Wd) : cutL a (some 6) none = a.drop 6 := cut_from a 6
theorem fi_read_count {w : Wd} {Q : PyData → Prop} (h : w.length ≤ sizeLine) (q : Q (oN (rc w))) : F_read_count [.str (S w)] Q := ⟨by rw [S_len]; exact h, by rw [S_list]; exact q⟩
def oI : Option Int → PyData
  | none => .none
  | some i => .int i
def F_read_number : FD := fun ds P => ∃ w : Wd, ds = [.str (S w)] ∧ w.length ≤ sizeLine ∧ P (oI (rn w))
theorem pr_read_number (ds : List PyData) (P : PyData → Prop) (h : F_read_number ds P) : rd_read_number F_read_count (endsP P) (D0 0 ["word", "count"] ds) := by
  obtain ⟨w, rfl, hl, hP⟩ := h
  unfold rd_read_number
  simp only [dSeq, dIfS, dOr, dAnd, dNot, dTst, dOp, dVar, dC, dCB, dCons, dNil, dRet, dFor, dIfE, dTup, dLst, dFzL, dSl, dNoPart, dPart, dSplit, dJoin, dUpper, dCall, dCallS, dIs, dNeg, dFmt, dJd, dJs, diLT, diL, diT, diS, diR1, diR2, diE, dgN, dgT2, dYes, dLc, dSet, dSetF, dSetZ, dSetL, dSetLZ, dNew, dApp, dAppF, dPut, dPar, dPar3, dAug, dNext, dAndV, dNotV, dOrT, hide, frz, hd1, fz1, D0, endsP, retP, intDI, isND, ntND, eqSS, eqII, neSS, neII, addII, addSS, addLL, ixLI, ixTI, ixSI, slLL, slSS, lenL, lenT, lenS, strI, strS, intI, intB, intS, tupL, tupT, lstL, lstT, minI, flat, List.map_cons, List.map_nil, List.replicate, List.append_eq, List.nil_append, List.cons_append, List.length_cons, List.length_nil, List.getElem?_cons_zero, List.getElem?_cons_succ, List.set_cons_zero, List.set_cons_succ, Option.some.injEq, Ent.d.injEq, Ent.own.injEq, exists_eq_left', exists_eq_left, exists_eq_right, PyData.bool.injEq, PyData.int.injEq, PyData.str.injEq, PyData.list.injEq, PyData.tuple.injEq, true_and, and_true, Nat.zero_add, Nat.add_zero, Nat.sub_self, Nat.reduceAdd, Nat.reduceSub, List.append_nil, Bool.false_eq_true, if_true, if_false, reduceIte, reduceCtorEq, false_and, exists_false, or_false, false_or, Option.map_some, Option.map_none, S_len, cutS_S, cut_to1, cut_from1, lit_m, S_eq, Bool.not_eq_true', decide_eq_false_iff_not]
  refine ⟨hl, ?_⟩
  unfold rn at hP
  by_cases h1 : w.take 1 = [45]
  · rw [if_pos h1] at hP
    rw [if_neg (fun z => z h1)]
    refine ⟨hl, fi_read_count (by simp; omega) ?_⟩
    cases q : rc (w.drop 1) with
    | none => rw [q] at hP; exact iteT hP
    | some n =>
      rw [q] at hP
      simp only [oN]
      refine iteF ⟨_, rfl, ?_⟩
      cases n with
      | zero => exact ifT rfl hP
      | succ n => exact ifF (decide_eq_false (by omega)) ⟨_, rfl, hP⟩
  · rw [if_neg h1] at hP
    rw [if_pos h1]
    refine fi_read_count hl ?_
    cases q : rc w with
    | none => rw [q] at hP; exact hP
    | some n => rw [q] at hP; exact hP
theorem fi_read_number {w : Wd} {Q : PyData → Prop} (h : w.length ≤ sizeLine) (q : Q (oI (rn w))) : F_read_number [.str (S w)] Q := ⟨w, rfl, h, q⟩
def oB : Option (Option Int) → PyData
  | none => .tuple []
  | some none => .tuple [.none]
  | some (some i) => .tuple [.int i]
theorem two_le' : (2 : Nat) ≤ sizeLine := two_le
def F_read_bound : FD := fun ds P => ∃ w : Wd, ds = [.str (S w)] ∧ w.length ≤ sizeLine ∧ P (oB (rb w))
theorem pr_read_bound (ds : List PyData) (P : PyData → Prop) (h : F_read_bound ds P) : rd_read_bound F_read_number (endsP P) (D0 0 ["word", "number"] ds) := by
  obtain ⟨w, rfl, hl, hP⟩ := h
  unfold rd_read_bound
  simp only [dSeq, dIfS, dOr, dAnd, dNot, dTst, dOp, dVar, dC, dCB, dCons, dNil, dRet, dFor, dIfE, dTup, dLst, dFzL, dSl, dNoPart, dPart, dSplit, dJoin, dUpper, dCall, dCallS, dIs, dNeg, dFmt, dJd, dJs, diLT, diL, diT, diS, diR1, diR2, diE, dgN, dgT2, dYes, dLc, dSet, dSetF, dSetZ, dSetL, dSetLZ, dNew, dApp, dAppF, dPut, dPar, dPar3, dAug, dNext, dAndV, dNotV, dOrT, hide, frz, hd1, fz1, D0, endsP, retP, intDI, isND, ntND, eqSS, eqII, neSS, neII, addII, addSS, addLL, ixLI, ixTI, ixSI, slLL, slSS, lenL, lenT, lenS, strI, strS, intI, intB, intS, tupL, tupT, lstL, lstT, minI, flat, List.map_cons, List.map_nil, List.replicate, List.append_eq, List.nil_append, List.cons_append, List.length_cons, List.length_nil, List.getElem?_cons_zero, List.getElem?_cons_succ, List.set_cons_zero, List.set_cons_succ, Option.some.injEq, Ent.d.injEq, Ent.own.injEq, exists_eq_left', exists_eq_left, exists_eq_right, PyData.bool.injEq, PyData.int.injEq, PyData.str.injEq, PyData.list.injEq, PyData.tuple.injEq, true_and, and_true, Nat.zero_add, Nat.add_zero, Nat.sub_self, Nat.reduceAdd, Nat.reduceSub, List.append_nil, Bool.false_eq_true, if_true, if_false, reduceIte, reduceCtorEq, false_and, exists_false, or_false, false_or, Option.map_some, Option.map_none, S_len, lit_any, S_eq, decide_eq_true_eq]
  have z1 : (1 : Nat) ≤ sizeLine := by decide
  have z0 : (0 : Nat) ≤ sizeLine := by decide
  unfold rb at hP
  by_cases h1 : w = wAny
  · rw [if_pos h1] at hP ⊢
    exact ⟨z1, hP⟩
  · rw [if_neg h1] at hP ⊢
    refine fi_read_number hl ?_
    cases q : rn w with
    | none => rw [q] at hP; exact iteT ⟨z0, hP⟩
    | some n => rw [q] at hP; exact iteF ⟨z1, hP⟩
theorem fi_read_bound {w : Wd} {Q : PyData → Prop} (h : w.length ≤ sizeLine) (q : Q (oB (rb w))) : F_read_bound [.str (S w)] Q := ⟨w, rfl, h, q⟩
def wsD (ws : List Wd) : List PyData := ws.map fun w => .str (S w)
theorem split_lit (a : Wd) (c : Nat) (hc : c < 256) : (Txt.split (S a) (S [c])).map PyData.str = wsD (TL.spl [c] 0 [] a) := by
  rw [split_S (by simp) (by simpa using hc), List.map_map]
  rfl
def F_split_words : FD := fun ds P => ∃ w : Wd, ds = [.str (S w)] ∧ w.length + 2 ≤ sizeLine ∧ P (.list (wsD (words w)))
theorem pr_split_words (ds : List PyData) (P : PyData → Prop) (h : F_split_words ds P) : rd_split_words (endsP P) (D0 0 ["line"] ds) := by
  obtain ⟨w, rfl, hl, hP⟩ := h
  unfold rd_split_words
  simp only [dSeq, dIfS, dOr, dAnd, dNot, dTst, dOp, dVar, dC, dCB, dCons, dNil, dRet, dFor, dIfE, dTup, dLst, dFzL, dSl, dNoPart, dPart, dSplit, dJoin, dUpper, dCall, dCallS, dIs, dNeg, dFmt, dJd, dJs, diLT, diL, diT, diS, diR1, diR2, diE, dgN, dgT2, dYes, dLc, dSet, dSetF, dSetZ, dSetL, dSetLZ, dNew, dApp, dAppF, dPut, dPar, dPar3, dAug, dNext, dAndV, dNotV, dOrT, hide, frz, hd1, fz1, D0, endsP, retP, intDI, isND, ntND, eqSS, eqII, neSS, neII, addII, addSS, addLL, ixLI, ixTI, ixSI, slLL, slSS, lenL, lenT, lenS, strI, strS, intI, intB, intS, tupL, tupT, lstL, lstT, minI, flat, List.map_cons, List.map_nil, List.replicate, List.append_eq, List.nil_append, List.cons_append, List.length_cons, List.length_nil, List.getElem?_cons_zero, List.getElem?_cons_succ, List.set_cons_zero, List.set_cons_succ, Option.some.injEq, Ent.d.injEq, Ent.own.injEq, exists_eq_left', exists_eq_left, exists_eq_right, PyData.bool.injEq, PyData.int.injEq, PyData.str.injEq, PyData.list.injEq, PyData.tuple.injEq, true_and, and_true, Nat.zero_add, Nat.add_zero, Nat.sub_self, Nat.reduceAdd, Nat.reduceSub, List.append_nil, Bool.false_eq_true, if_true, if_false, reduceIte, reduceCtorEq, false_and, exists_false, or_false, false_or, Option.map_some, Option.map_none, S_len, lit_sp, split_lit w 32 (by decide)]
  exact ⟨by decide, hl, hP⟩
def F_written : FD := fun ds P => (ds = [.none] ∧ P (.str (S wAny))) ∨ ∃ i : Int, ds = [.int i] ∧ i.natAbs.log2 < 1920 ∧ P (.str (S (itx i)))
theorem pr_written (ds : List PyData) (P : PyData → Prop) (h : F_written ds P) : rd_written (endsP P) (D0 0 ["bound"] ds) := by
  unfold rd_written
  rcases h with ⟨rfl, hP⟩ | ⟨i, rfl, hl, hP⟩
  · simp only [dSeq, dIfS, dOr, dAnd, dNot, dTst, dOp, dVar, dC, dCB, dCons, dNil, dRet, dFor, dIfE, dTup, dLst, dFzL, dSl, dNoPart, dPart, dSplit, dJoin, dUpper, dCall, dCallS, dIs, dNeg, dFmt, dJd, dJs, diLT, diL, diT, diS, diR1, diR2, diE, dgN, dgT2, dYes, dLc, dSet, dSetF, dSetZ, dSetL, dSetLZ, dNew, dApp, dAppF, dPut, dPar, dPar3, dAug, dNext, dAndV, dNotV, dOrT, hide, frz, hd1, fz1, D0, endsP, retP, intDI, isND, ntND, eqSS, eqII, neSS, neII, addII, addSS, addLL, ixLI, ixTI, ixSI, slLL, slSS, lenL, lenT, lenS, strI, strS, intI, intB, intS, tupL, tupT, lstL, lstT, minI, flat, List.map_cons, List.map_nil, List.replicate, List.append_eq, List.nil_append, List.cons_append, List.length_cons, List.length_nil, List.getElem?_cons_zero, List.getElem?_cons_succ, List.set_cons_zero, List.set_cons_succ, Option.some.injEq, Ent.d.injEq, Ent.own.injEq, exists_eq_left', exists_eq_left, exists_eq_right, PyData.bool.injEq, PyData.int.injEq, PyData.str.injEq, PyData.list.injEq, PyData.tuple.injEq, true_and, and_true, Nat.zero_add, Nat.add_zero, Nat.sub_self, Nat.reduceAdd, Nat.reduceSub, List.append_nil, Bool.false_eq_true, if_true, if_false, reduceIte, reduceCtorEq, false_and, exists_false, or_false, false_or, Option.map_some, Option.map_none, lit_any]
    exact hP
  · simp only [dSeq, dIfS, dOr, dAnd, dNot, dTst, dOp, dVar, dC, dCB, dCons, dNil, dRet, dFor, dIfE, dTup, dLst, dFzL, dSl, dNoPart, dPart, dSplit, dJoin, dUpper, dCall, dCallS, dIs, dNeg, dFmt, dJd, dJs, diLT, diL, diT, diS, diR1, diR2, diE, dgN, dgT2, dYes, dLc, dSet, dSetF, dSetZ, dSetL, dSetLZ, dNew, dApp, dAppF, dPut, dPar, dPar3, dAug, dNext, dAndV, dNotV, dOrT, hide, frz, hd1, fz1, D0, endsP, retP, intDI, isND, ntND, eqSS, eqII, neSS, neII, addII, addSS, addLL, ixLI, ixTI, ixSI, slLL, slSS, lenL, lenT, lenS, strI, strS, intI, intB, intS, tupL, tupT, lstL, lstT, minI, flat, List.map_cons, List.map_nil, List.replicate, List.append_eq, List.nil_append, List.cons_append, List.length_cons, List.length_nil, List.getElem?_cons_zero, List.getElem?_cons_succ, List.set_cons_zero, List.set_cons_succ, Option.some.injEq, Ent.d.injEq, Ent.own.injEq, exists_eq_left', exists_eq_left, exists_eq_right, PyData.bool.injEq, PyData.int.injEq, PyData.str.injEq, PyData.list.injEq, PyData.tuple.injEq, true_and, and_true, Nat.zero_add, Nat.add_zero, Nat.sub_self, Nat.reduceAdd, Nat.reduceSub, List.append_nil, Bool.false_eq_true, if_true, if_false, reduceIte, reduceCtorEq, false_and, exists_false, or_false, false_or, Option.map_some, Option.map_none, toStr_itx]
    exact ⟨hl, hP⟩
end K82
set_option Elab.async false
set_option linter.all false
set_option maxRecDepth 100000
set_option maxHeartbeats 4000000
namespace K82
open PySem PySem.Spec PyProof.Rows L2 Ly SX
def wI (ns : List Int) : List PyData := ns.map PyData.int
def wLs (ls : List (List Int)) : List PyData := ls.map fun l => .tuple (wI l)
theorem lit_c : Str.ofString "," = S [44] := lit _
theorem lit_s : Str.ofString "/" = S [47] := lit _
theorem lit_none : Str.ofString "none" = S wNone := lit _
theorem spl_len (c : Nat) (w : Wd) : (TL.spl [c] 0 [] w).length ≤ w.length + 1 := by
  have h : ∀ (w : Wd) (acc : Wd), (TL.spl [c] 0 acc w).length ≤ w.length + 1 := by
    intro w
    induction w with
    | nil => intro acc; rw [TL.spl_nil]; simp
    | cons d r ih =>
      intro acc
      cases q : TL.pre [c] (d :: r) with
      | true => rw [TL.spl_hit q]; have := ih []; simp at this ⊢; omega
      | false => rw [TL.spl_miss q]; have := ih (acc ++ [d]); simp at this ⊢; omega
  exact h w []
theorem spl_mem (c : Nat) (w p : Wd) (h : p ∈ TL.spl [c] 0 [] w) : p.length ≤ w.length := by
  have hh : ∀ (w acc : Wd), p ∈ TL.spl [c] 0 acc w → p.length ≤ acc.length + w.length := by
    intro w
    induction w with
    | nil => intro acc h; rw [TL.spl_nil] at h; simp at h; rw [h]; simp
    | cons d r ih =>
      intro acc h
      cases q : TL.pre [c] (d :: r) with
      | true =>
        rw [TL.spl_hit q] at h
        rcases List.mem_cons.mp h with e | h
        · rw [e]; omega
        · have := ih [] (by simpa using h); simp at this ⊢; omega
      | false => rw [TL.spl_miss q] at h; have := ih _ h; simp at this ⊢; omega
  simpa using hh w [] h
theorem last_cases {α : Type} (xs : List α) : xs = [] ∨ ∃ ys y, xs = ys ++ [y] := by
  cases xs with
  | nil => exact .inl rfl
  | cons a r => exact .inr ⟨(a :: r).dropLast, (a :: r).getLast (by simp), (List.dropLast_concat_getLast (by simp)).symm⟩
def oL : Option (List Int) → PyData
  | none => .none
  | some l => .tuple (wI l)
def F_read_lot : FD := fun ds P => ∃ w : Wd, ds = [.str (S w)] ∧ w.length ≤ 1000000 ∧ P (oL (rlot w))
theorem fi_read_lot {w : Wd} {Q : PyData → Prop} (h : w.length ≤ 1000000) (q : Q (oL (rlot w))) : F_read_lot [.str (S w)] Q := ⟨w, rfl, h, q⟩
def lotBody : DS := (dSeq (dSet 3 (dCall 1 F_read_count (dCons (dVar 2) dNil)))
  (dSeq (dIfS (dOr (dTst (dOp isND (dVar 3) (dC .none))) (dAnd (dTst (dOp gtD (dCB lenD (dCons (dVar 1) dNil)) (dC (.int 0)))) (dTst (dOp geD (dOp ixD (dVar 1) (dNeg (dC (.int 1)))) (dVar 3)))))
    (dRet (dC .none))
    dNext)
  (dApp 1 (dVar 3))))
theorem lot_loop {P : PyData → Prop} {W : PyData} {nx : DSt → Prop} : ∀ (ps : List Wd) (acc : List Int) (y z : Option Ent), (∀ p ∈ ps, p.length ≤ 1000000) → acc.length + ps.length ≤ 2000000 →
    (∀ y z a, rlotGo ps acc = some a → a.length ≤ 2000000 → nx [some (.d W), some (.own (wI a)), y, z]) → (rlotGo ps acc = none → P .none) →
    dLoop (dgN 2) lotBody { nx := nx, rt := retP P } (wsD ps) [some (.d W), some (.own (wI acc)), y, z]
  | [], acc, y, z, _, hl, h, _ => h y z acc rfl (by simpa using hl)
  | p :: ps, acc, y, z, hp, hl, h, h2 => by
    have ih := lot_loop (P := P) (W := W) (nx := nx) ps
    have hp1 := hp p List.mem_cons_self
    unfold wsD lotBody
    simp only [dLoop, dSeq, dIfS, dOr, dAnd, dNot, dTst, dOp, dVar, dC, dCB, dCons, dNil, dRet, dFor, dIfE, dTup, dLst, dFzL, dSl, dNoPart, dPart, dSplit, dJoin, dUpper, dCall, dCallS, dIs, dNeg, dFmt, dJd, dJs, diLT, diL, diT, diS, diR1, diR2, diE, dgN, dgT2, dYes, dLc, dSet, dSetF, dSetZ, dSetL, dSetLZ, dNew, dApp, dAppF, dPut, dPar, dPar3, dAug, dNext, dAndV, dNotV, dOrT, hide, frz, hd1, fz1, D0, endsP, retP, intDI, isND, ntND, eqSS, eqII, neSS, neII, addII, addSS, addLL, ixLI, ixTI, ixSI, slLL, slSS, lenL, lenT, lenS, strI, strS, intI, intB, intS, tupL, tupT, lstL, lstT, minI, flat, List.map_cons, List.map_nil, List.replicate, List.append_eq, List.nil_append, List.cons_append, List.length_cons, List.length_nil, List.getElem?_cons_zero, List.getElem?_cons_succ, List.set_cons_zero, List.set_cons_succ, Option.some.injEq, Ent.d.injEq, Ent.own.injEq, exists_eq_left', exists_eq_left, exists_eq_right, PyData.bool.injEq, PyData.int.injEq, PyData.str.injEq, PyData.list.injEq, PyData.tuple.injEq, true_and, and_true, Nat.zero_add, Nat.add_zero, Nat.sub_self, Nat.reduceAdd, Nat.reduceSub, List.append_nil, Bool.false_eq_true, if_true, if_false, reduceIte, reduceCtorEq, false_and, exists_false, or_false, false_or, Option.map_some, Option.map_none]
    refine fi_read_count (by rw [sz_line]; omega) ?_
    cases q : rc p with
    | none => exact iteT (h2 (rlot_none q))
    | some n =>
      refine iteF ?_
      have go : geLast acc n = false → acc.length < sizeLine ∧ dLoop (dgN 2) lotBody { nx := nx, rt := retP P } (wsD ps) [some (.d W), some (.own (wI (acc ++ [(n : Int)]))), some (.d (.str (S p))), some (.d (.int n))] := fun g => by
        rw [rlot_go q g] at h h2
        refine ⟨by rw [sz_line]; simp at hl; omega, ih (acc ++ [(n : Int)]) _ _ (fun p hp' => hp p (List.mem_cons_of_mem _ hp')) (by simp at hl ⊢; omega) h h2⟩
      rcases last_cases acc with rfl | ⟨ini, m, rfl⟩
      · have := go rfl
        simpa [wI, oN, lotBody, wsD] using this
      · have hg : geLast (ini ++ [m]) n = decide ((n : Int) ≤ m) := by simp [geLast]
        have e1 : wI (ini ++ [m]) = wI ini ++ [.int m] := by simp [wI]
        rw [e1]
        have hpos : (0 : Int) < ((wI ini ++ [PyData.int m]).length : Nat) := by simp
        rw [decide_eq_true hpos]
        refine iteT ⟨_, atI_last _ _, ?_⟩
        simp only [oN, Ly.intD, dSeq, dIfS, dOr, dAnd, dNot, dTst, dOp, dVar, dC, dCB, dCons, dNil, dRet, dFor, dIfE, dTup, dLst, dFzL, dSl, dNoPart, dPart, dSplit, dJoin, dUpper, dCall, dCallS, dIs, dNeg, dFmt, dJd, dJs, diLT, diL, diT, diS, diR1, diR2, diE, dgN, dgT2, dYes, dLc, dSet, dSetF, dSetZ, dSetL, dSetLZ, dNew, dApp, dAppF, dPut, dPar, dPar3, dAug, dNext, dAndV, dNotV, dOrT, hide, frz, hd1, fz1, D0, endsP, retP, intDI, isND, ntND, eqSS, eqII, neSS, neII, addII, addSS, addLL, ixLI, ixTI, ixSI, slLL, slSS, lenL, lenT, lenS, strI, strS, intI, intB, intS, tupL, tupT, lstL, lstT, minI, flat, List.map_cons, List.map_nil, List.replicate, List.append_eq, List.nil_append, List.cons_append, List.length_cons, List.length_nil, List.getElem?_cons_zero, List.getElem?_cons_succ, List.set_cons_zero, List.set_cons_succ, Option.some.injEq, Ent.d.injEq, Ent.own.injEq, exists_eq_left', exists_eq_left, exists_eq_right, PyData.bool.injEq, PyData.int.injEq, PyData.str.injEq, PyData.list.injEq, PyData.tuple.injEq, true_and, and_true, Nat.zero_add, Nat.add_zero, Nat.sub_self, Nat.reduceAdd, Nat.reduceSub, List.append_nil, Bool.false_eq_true, if_true, if_false, reduceIte, reduceCtorEq, false_and, exists_false, or_false, false_or, Option.map_some, Option.map_none]
        by_cases hc : (n : Int) ≤ m
        · rw [decide_eq_true hc]
          exact iteT (h2 (rlot_bad q (by rw [hg, decide_eq_true hc])))
        · rw [decide_eq_false hc]
          have := go (by rw [hg]; exact decide_eq_false hc)
          refine iteF ?_
          simpa [wI, lotBody, wsD] using this
theorem pr_read_lot (ds : List PyData) (P : PyData → Prop) (h : F_read_lot ds P) : rd_read_lot F_read_count (endsP P) (D0 0 ["word", "numbers", "figures", "number"] ds) := by
  obtain ⟨w, rfl, hl, hP⟩ := h
  unfold rd_read_lot
  simp only [dSeq, dIfS, dOr, dAnd, dNot, dTst, dOp, dVar, dC, dCB, dCons, dNil, dRet, dFor, dIfE, dTup, dLst, dFzL, dSl, dNoPart, dPart, dSplit, dJoin, dUpper, dCall, dCallS, dIs, dNeg, dFmt, dJd, dJs, diLT, diL, diT, diS, diR1, diR2, diE, dgN, dgT2, dYes, dLc, dSet, dSetF, dSetZ, dSetL, dSetLZ, dNew, dApp, dAppF, dPut, dPar, dPar3, dAug, dNext, dAndV, dNotV, dOrT, hide, frz, hd1, fz1, D0, endsP, retP, intDI, isND, ntND, eqSS, eqII, neSS, neII, addII, addSS, addLL, ixLI, ixTI, ixSI, slLL, slSS, lenL, lenT, lenS, strI, strS, intI, intB, intS, tupL, tupT, lstL, lstT, minI, flat, List.map_cons, List.map_nil, List.replicate, List.append_eq, List.nil_append, List.cons_append, List.length_cons, List.length_nil, List.getElem?_cons_zero, List.getElem?_cons_succ, List.set_cons_zero, List.set_cons_succ, Option.some.injEq, Ent.d.injEq, Ent.own.injEq, exists_eq_left', exists_eq_left, exists_eq_right, PyData.bool.injEq, PyData.int.injEq, PyData.str.injEq, PyData.list.injEq, PyData.tuple.injEq, true_and, and_true, Nat.zero_add, Nat.add_zero, Nat.sub_self, Nat.reduceAdd, Nat.reduceSub, List.append_nil, Bool.false_eq_true, if_true, if_false, reduceIte, reduceCtorEq, false_and, exists_false, or_false, false_or, Option.map_some, Option.map_none, lit_m, lit_c, S_eq, S_len, decide_eq_true_eq, split_lit w 44 (by decide)]
  unfold rlot at hP
  have z0 : (0 : Nat) ≤ sizeLine := by decide
  by_cases h1 : w = [45]
  · rw [if_pos h1] at hP ⊢
    exact ⟨z0, hP⟩
  · rw [if_neg h1] at hP ⊢
    have hs := spl_len 44 w
    refine ⟨z0, by decide, by rw [sz_line]; omega, ?_⟩
    refine lot_loop (TL.spl [44] 0 [] w) [] none none (fun p hp => Nat.le_trans (spl_mem _ _ _ hp) hl) (by simp; omega) (fun y z a e ha => ?_) (fun e => ?_)
    · rw [e] at hP
      simp only [dSeq, dIfS, dOr, dAnd, dNot, dTst, dOp, dVar, dC, dCB, dCons, dNil, dRet, dFor, dIfE, dTup, dLst, dFzL, dSl, dNoPart, dPart, dSplit, dJoin, dUpper, dCall, dCallS, dIs, dNeg, dFmt, dJd, dJs, diLT, diL, diT, diS, diR1, diR2, diE, dgN, dgT2, dYes, dLc, dSet, dSetF, dSetZ, dSetL, dSetLZ, dNew, dApp, dAppF, dPut, dPar, dPar3, dAug, dNext, dAndV, dNotV, dOrT, hide, frz, hd1, fz1, D0, endsP, retP, intDI, isND, ntND, eqSS, eqII, neSS, neII, addII, addSS, addLL, ixLI, ixTI, ixSI, slLL, slSS, lenL, lenT, lenS, strI, strS, intI, intB, intS, tupL, tupT, lstL, lstT, minI, flat, List.map_cons, List.map_nil, List.replicate, List.append_eq, List.nil_append, List.cons_append, List.length_cons, List.length_nil, List.getElem?_cons_zero, List.getElem?_cons_succ, List.set_cons_zero, List.set_cons_succ, Option.some.injEq, Ent.d.injEq, Ent.own.injEq, exists_eq_left', exists_eq_left, exists_eq_right, PyData.bool.injEq, PyData.int.injEq, PyData.str.injEq, PyData.list.injEq, PyData.tuple.injEq, true_and, and_true, Nat.zero_add, Nat.add_zero, Nat.sub_self, Nat.reduceAdd, Nat.reduceSub, List.append_nil, Bool.false_eq_true, if_true, if_false, reduceIte, reduceCtorEq, false_and, exists_false, or_false, false_or, Option.map_some, Option.map_none]
      exact hP
    · rw [e] at hP; exact hP
end K82
set_option Elab.async false
set_option linter.all false
set_option maxRecDepth 100000
set_option maxHeartbeats 4000000
namespace K82
open PySem PySem.Spec PyProof.Rows L2 Ly SX
theorem dl_tup (xs ys : List Int) : PySem.W.dataLt (.tuple (wI xs)) (.tuple (wI ys)) = decide (xs < ys) := by
  rw [PySem.W.dataLt_tuple]
  exact PySem.W.dataLt_ints xs ys
theorem al_tup (xs ys : List Int) : PySem.W.alike (.tuple (wI xs)) (.tuple (wI ys)) = true := by
  have := PySem.W.alike_ints xs ys
  simpa [PySem.W.alike, wI] using this
theorem dp_wI (xs : List Int) : PyData.depthAll (wI xs) = 0 := PySem.W.depth_ints xs
theorem dp_tup (xs : List Int) : (PyData.tuple (wI xs)).depth ≤ 60 := by
  simp [PyData.depth, dp_wI]
def oLs : Option (List (List Int)) → PyData
  | none => .none
  | some l => .tuple (wLs l)
def F_read_lots : FD := fun ds P => ∃ w : Wd, ds = [.str (S w)] ∧ w.length ≤ 1000000 ∧ P (oLs (rlots w))
theorem fi_read_lots {w : Wd} {Q : PyData → Prop} (h : w.length ≤ 1000000) (q : Q (oLs (rlots w))) : F_read_lots [.str (S w)] Q := ⟨w, rfl, h, q⟩
def lotsBody : DS := (dSeq (dSet 3 (dCall 1 F_read_lot (dCons (dVar 2) dNil)))
  (dSeq (dIfS (dOr (dTst (dOp isND (dVar 3) (dC .none))) (dAnd (dTst (dOp gtD (dCB lenD (dCons (dVar 1) dNil)) (dC (.int 0)))) (dTst (dOp geTD (dOp ixD (dVar 1) (dNeg (dC (.int 1)))) (dVar 3)))))
    (dRet (dC .none))
    dNext)
  (dApp 1 (dVar 3))))
theorem lots_loop {P : PyData → Prop} {W : PyData} {nx : DSt → Prop} : ∀ (ps : List Wd) (acc : List (List Int)) (y z : Option Ent), (∀ p ∈ ps, p.length ≤ 1000000) → acc.length + ps.length ≤ 2000000 →
    (∀ y z a, rlotsGo ps acc = some a → a.length ≤ 2000000 → nx [some (.d W), some (.own (wLs a)), y, z]) → (rlotsGo ps acc = none → P .none) →
    dLoop (dgN 2) lotsBody { nx := nx, rt := retP P } (wsD ps) [some (.d W), some (.own (wLs acc)), y, z]
  | [], acc, y, z, _, hl, h, _ => h y z acc rfl (by simpa using hl)
  | p :: ps, acc, y, z, hp, hl, h, h2 => by
    have ih := lots_loop (P := P) (W := W) (nx := nx) ps
    have hp1 := hp p List.mem_cons_self
    unfold wsD lotsBody
    simp only [dLoop, dSeq, dIfS, dOr, dAnd, dNot, dTst, dOp, dVar, dC, dCB, dCons, dNil, dRet, dFor, dIfE, dTup, dLst, dFzL, dSl, dNoPart, dPart, dSplit, dJoin, dUpper, dCall, dCallS, dIs, dNeg, dFmt, dJd, dJs, diLT, diL, diT, diS, diR1, diR2, diE, dgN, dgT2, dYes, dLc, dSet, dSetF, dSetZ, dSetL, dSetLZ, dNew, dApp, dAppF, dPut, dPar, dPar3, dAug, dNext, dAndV, dNotV, dOrT, hide, frz, hd1, fz1, D0, endsP, retP, intDI, isND, ntND, eqSS, eqII, neSS, neII, addII, addSS, addLL, ixLI, ixTI, ixSI, slLL, slSS, lenL, lenT, lenS, strI, strS, intI, intB, intS, tupL, tupT, lstL, lstT, minI, flat, List.map_cons, List.map_nil, List.replicate, List.append_eq, List.nil_append, List.cons_append, List.length_cons, List.length_nil, List.getElem?_cons_zero, List.getElem?_cons_succ, List.set_cons_zero, List.set_cons_succ, Option.some.injEq, Ent.d.injEq, Ent.own.injEq, exists_eq_left', exists_eq_left, exists_eq_right, PyData.bool.injEq, PyData.int.injEq, PyData.str.injEq, PyData.list.injEq, PyData.tuple.injEq, true_and, and_true, Nat.zero_add, Nat.add_zero, Nat.sub_self, Nat.reduceAdd, Nat.reduceSub, List.append_nil, Bool.false_eq_true, if_true, if_false, reduceIte, reduceCtorEq, false_and, exists_false, or_false, false_or, Option.map_some, Option.map_none]
    refine fi_read_lot hp1 ?_
    cases q : rlot p with
    | none => exact iteT (h2 (rlots_none q))
    | some n =>
      refine iteF ?_
      have go : geLastL acc n = false → acc.length < sizeLine ∧ dLoop (dgN 2) lotsBody { nx := nx, rt := retP P } (wsD ps) [some (.d W), some (.own (wLs (acc ++ [n]))), some (.d (.str (S p))), some (.d (.tuple (wI n)))] := fun g => by
        rw [rlots_go q g] at h h2
        refine ⟨by rw [sz_line]; simp at hl; omega, ih (acc ++ [n]) _ _ (fun p hp' => hp p (List.mem_cons_of_mem _ hp')) (by simp at hl ⊢; omega) h h2⟩
      rcases last_cases acc with rfl | ⟨ini, m, rfl⟩
      · have := go rfl
        simpa [wLs, oL, lotsBody, wsD] using this
      · have hg : geLastL (ini ++ [m]) n = !decide (m < n) := by simp [geLastL]
        have e1 : wLs (ini ++ [m]) = wLs ini ++ [.tuple (wI m)] := by simp [wLs]
        rw [e1]
        have hpos : (0 : Int) < ((wLs ini ++ [PyData.tuple (wI m)]).length : Nat) := by simp
        rw [decide_eq_true hpos]
        refine iteT ⟨_, atI_last _ _, al_tup _ _, (fun z => nomatch z), dp_tup _, ⟨_, rfl, ?_⟩⟩
        rw [show oL (some n) = .tuple (wI n) from rfl, dl_tup]
        by_cases hc : m < n
        · rw [decide_eq_true hc]
          have := go (by rw [hg, decide_eq_true hc]; rfl)
          refine iteF ?_
          simpa [wLs, lotsBody, wsD, oL] using this
        · rw [decide_eq_false hc]
          exact iteT (h2 (rlots_bad q (by rw [hg, decide_eq_false hc]; rfl)))
theorem pr_read_lots (ds : List PyData) (P : PyData → Prop) (h : F_read_lots ds P) : rd_read_lots F_read_lot (endsP P) (D0 0 ["word", "lots", "part", "lot"] ds) := by
  obtain ⟨w, rfl, hl, hP⟩ := h
  unfold rd_read_lots
  simp only [dSeq, dIfS, dOr, dAnd, dNot, dTst, dOp, dVar, dC, dCB, dCons, dNil, dRet, dFor, dIfE, dTup, dLst, dFzL, dSl, dNoPart, dPart, dSplit, dJoin, dUpper, dCall, dCallS, dIs, dNeg, dFmt, dJd, dJs, diLT, diL, diT, diS, diR1, diR2, diE, dgN, dgT2, dYes, dLc, dSet, dSetF, dSetZ, dSetL, dSetLZ, dNew, dApp, dAppF, dPut, dPar, dPar3, dAug, dNext, dAndV, dNotV, dOrT, hide, frz, hd1, fz1, D0, endsP, retP, intDI, isND, ntND, eqSS, eqII, neSS, neII, addII, addSS, addLL, ixLI, ixTI, ixSI, slLL, slSS, lenL, lenT, lenS, strI, strS, intI, intB, intS, tupL, tupT, lstL, lstT, minI, flat, List.map_cons, List.map_nil, List.replicate, List.append_eq, List.nil_append, List.cons_append, List.length_cons, List.length_nil, List.getElem?_cons_zero, List.getElem?_cons_succ, List.set_cons_zero, List.set_cons_succ, Option.some.injEq, Ent.d.injEq, Ent.own.injEq, exists_eq_left', exists_eq_left, exists_eq_right, PyData.bool.injEq, PyData.int.injEq, PyData.str.injEq, PyData.list.injEq, PyData.tuple.injEq, true_and, and_true, Nat.zero_add, Nat.add_zero, Nat.sub_self, Nat.reduceAdd, Nat.reduceSub, List.append_nil, Bool.false_eq_true, if_true, if_false, reduceIte, reduceCtorEq, false_and, exists_false, or_false, false_or, Option.map_some, Option.map_none, lit_none, lit_s, S_eq, S_len, decide_eq_true_eq, split_lit w 47 (by decide)]
  unfold rlots at hP
  have z0 : (0 : Nat) ≤ sizeLine := by decide
  by_cases h1 : w = wNone
  · rw [if_pos h1] at hP ⊢
    exact ⟨z0, hP⟩
  · rw [if_neg h1] at hP ⊢
    have hs := spl_len 47 w
    refine ⟨z0, by decide, by rw [sz_line]; omega, ?_⟩
    refine lots_loop (TL.spl [47] 0 [] w) [] none none (fun p hp => Nat.le_trans (spl_mem _ _ _ hp) hl) (by simp; omega) (fun y z a e ha => ?_) (fun e => ?_)
    · rw [e] at hP
      simp only [dSeq, dIfS, dOr, dAnd, dNot, dTst, dOp, dVar, dC, dCB, dCons, dNil, dRet, dFor, dIfE, dTup, dLst, dFzL, dSl, dNoPart, dPart, dSplit, dJoin, dUpper, dCall, dCallS, dIs, dNeg, dFmt, dJd, dJs, diLT, diL, diT, diS, diR1, diR2, diE, dgN, dgT2, dYes, dLc, dSet, dSetF, dSetZ, dSetL, dSetLZ, dNew, dApp, dAppF, dPut, dPar, dPar3, dAug, dNext, dAndV, dNotV, dOrT, hide, frz, hd1, fz1, D0, endsP, retP, intDI, isND, ntND, eqSS, eqII, neSS, neII, addII, addSS, addLL, ixLI, ixTI, ixSI, slLL, slSS, lenL, lenT, lenS, strI, strS, intI, intB, intS, tupL, tupT, lstL, lstT, minI, flat, List.map_cons, List.map_nil, List.replicate, List.append_eq, List.nil_append, List.cons_append, List.length_cons, List.length_nil, List.getElem?_cons_zero, List.getElem?_cons_succ, List.set_cons_zero, List.set_cons_succ, Option.some.injEq, Ent.d.injEq, Ent.own.injEq, exists_eq_left', exists_eq_left, exists_eq_right, PyData.bool.injEq, PyData.int.injEq, PyData.str.injEq, PyData.list.injEq, PyData.tuple.injEq, true_and, and_true, Nat.zero_add, Nat.add_zero, Nat.sub_self, Nat.reduceAdd, Nat.reduceSub, List.append_nil, Bool.false_eq_true, if_true, if_false, reduceIte, reduceCtorEq, false_and, exists_false, or_false, false_or, Option.map_some, Option.map_none]
      exact hP
    · rw [e] at hP; exact hP
theorem eq_w {a b : Wd} {Q : PyData → Prop} (h : Q (.bool (decide (a = b)))) : eqD (.str (S a)) (.str (S b)) Q := by
  rw [eqSS, show decide (S a = S b) = decide (a = b) by simp only [S_eq]]
  exact h
theorem ne_w {a b : Wd} {Q : PyData → Prop} (h : Q (.bool (!decide (a = b)))) : neD (.str (S a)) (.str (S b)) Q := by
  rw [neSS, show decide (S a = S b) = decide (a = b) by simp only [S_eq]]
  exact h
theorem ne_i {i j : Int} {Q : PyData → Prop} (h : Q (.bool (!decide (i = j)))) : neD (.int i) (.int j) Q := h
theorem eq_i {i j : Int} {Q : PyData → Prop} (h : Q (.bool (decide (i = j)))) : eqD (.int i) (.int j) Q := h
def plD : Pl → PyData
  | .most n => .tuple [.str (S kMost), .int (n : Nat)]
  | .within n => .tuple [.str (S kWithin), .int (n : Nat)]
  | .lots ls => .tuple [.str (S kLots), .tuple (wLs ls)]
  | .both a b => .tuple [.str (S kBoth), plD a, plD b]
  | .either a b => .tuple [.str (S kEither), plD a, plD b]
def oP (start : Nat) : Option (Pl × Nat) → PyData
  | none => .none
  | some (p, k) => .tuple [plD p, .int ((start + k : Nat) : Int)]
theorem lit_most : Str.ofString "most" = S kMost := lit _
theorem lit_within : Str.ofString "within" = S kWithin := lit _
theorem lit_lots : Str.ofString "lots" = S kLots := lit _
theorem lit_both : Str.ofString "both" = S kBoth := lit _
theorem lit_either : Str.ofString "either" = S kEither := lit _
def F_read_part (d : Nat) : FD := fun ds P => ∃ (ws : List Wd) (start : Nat), ds = [.list (wsD ws), .int (start : Nat), .int (d : Nat)] ∧ ws.length ≤ 1000000 ∧ start ≤ 2000000 ∧ (∀ w ∈ ws, w.length ≤ 1000000) ∧ P (oP start (rp d (ws.drop start)))
theorem in_two {a b k : Wd} {Q : PyData → Prop} (h : Q (.bool (decide (k = a) || decide (k = b)))) : inD (.str (S k)) (.tuple [.str (S a), .str (S b)]) Q := by
  refine ⟨S k, [S a, S b], rfl, rfl, ?_⟩
  have e : ([S a, S b].any fun z => z == S k) = (decide (k = a) || decide (k = b)) := by
    simp only [List.any_cons, List.any_nil, Bool.or_false, S_beq_eq]
    congr 1 <;> (rw [decide_eq_decide]; exact eq_comm)
  rw [e]
  exact h
theorem nin_two {a b k : Wd} {Q : PyData → Prop} (h : Q (.bool (!(decide (k = a) || decide (k = b))))) : ninD (.str (S k)) (.tuple [.str (S a), .str (S b)]) Q := in_two ⟨_, rfl, h⟩
theorem drop_two_cons {α : Type} {l : List α} {i : Nat} {x y : α} {r : List α} (h : l.drop i = x :: y :: r) : l[i]? = some x ∧ l[i + 1]? = some y ∧ i + 1 < l.length := by
  have h0 : (l.drop i)[0]? = some x := by rw [h]; rfl
  have h1 : (l.drop i)[1]? = some y := by rw [h]; rfl
  rw [List.getElem?_drop] at h0 h1
  refine ⟨by simpa using h0, h1, ?_⟩
  exact (List.getElem?_eq_some_iff.mp h1).1
theorem wsD_at {ws : List Wd} {i : Nat} {w : Wd} (h : ws[i]? = some w) : atI (wsD ws) (i : Int) = some (.str (S w)) := atI_nat (by simp [wsD, h])
theorem pr_read_part (d : Nat) (Fr : FD) (hF : ∀ e, d = e + 1 → Fr = F_read_part e) (ds : List PyData) (P : PyData → Prop) (h : F_read_part d ds P) : rd_read_part F_read_count F_read_lots Fr (endsP P) (D0 0 ["words", "start", "deep", "word", "number", "lots", "first", "second"] ds) := by
  obtain ⟨ws, start, rfl, hl, hs, hw, hP⟩ := h
  unfold rd_read_part
  have wl : (wsD ws).length = ws.length := by simp [wsD]
  have z2 : (2 : Nat) ≤ sizeLine := by decide
  have z3 : (3 : Nat) ≤ sizeLine := by decide
  simp only [dSeq, dIfS, dOr, dAnd, dNot, dTst, dOp, dVar, dC, dCB, dCons, dNil, dRet, dFor, dIfE, dTup, dLst, dFzL, dSl, dNoPart, dPart, dSplit, dJoin, dUpper, dCall, dCallS, dIs, dNeg, dFmt, dJd, dJs, diLT, diL, diT, diS, diR1, diR2, diE, dgN, dgT2, dYes, dLc, dSet, dSetF, dSetZ, dSetL, dSetLZ, dNew, dApp, dAppF, dPut, dPar, dPar3, dAug, dNext, dAndV, dNotV, dOrT, hide, frz, hd1, fz1, D0, endsP, retP, intDI, isND, ntND, eqSS, eqII, neSS, neII, addII, addSS, addLL, ixLI, ixTI, ixSI, slLL, slSS, lenL, lenT, lenS, strI, strS, intI, intB, intS, tupL, tupT, lstL, lstT, minI, flat, List.map_cons, List.map_nil, List.replicate, List.append_eq, List.nil_append, List.cons_append, List.length_cons, List.length_nil, List.getElem?_cons_zero, List.getElem?_cons_succ, List.set_cons_zero, List.set_cons_succ, Option.some.injEq, Ent.d.injEq, Ent.own.injEq, exists_eq_left', exists_eq_left, exists_eq_right, PyData.bool.injEq, PyData.int.injEq, PyData.str.injEq, PyData.list.injEq, PyData.tuple.injEq, true_and, and_true, Nat.zero_add, Nat.add_zero, Nat.sub_self, Nat.reduceAdd, Nat.reduceSub, List.append_nil, Bool.false_eq_true, if_true, if_false, reduceIte, reduceCtorEq, false_and, exists_false, or_false, false_or, Option.map_some, Option.map_none, lit_most, lit_within, lit_lots, lit_both, lit_either, S_eq, wl, decide_eq_true_eq]
  have short : ws.length ≤ start + 1 → rp d (ws.drop start) = none := fun hle => by
    have : (ws.drop start).length ≤ 1 := by simp; omega
    match q : ws.drop start, this with
    | [], _ => cases d <;> rfl
    | [_], _ => cases d <;> rfl
  by_cases h0 : ((ws.length : Nat) : Int) ≤ (start : Nat) + 1
  · rw [if_pos h0]
    rw [short (by omega)] at hP
    exact hP
  rw [if_neg h0]
  obtain ⟨k, w, rest, hd⟩ : ∃ k w rest, ws.drop start = k :: w :: rest := by
    have : 2 ≤ (ws.drop start).length := by simp; omega
    match q : ws.drop start, this with
    | k :: w :: rest, _ => exact ⟨k, w, rest, rfl⟩
  obtain ⟨g0, g1, g2⟩ := drop_two_cons hd
  rw [hd] at hP
  have hk := hw k (List.mem_of_getElem? g0)
  have hww := hw w (List.mem_of_getElem? g1)
  refine ⟨_, wsD_at g0, z2, in_two ⟨_, rfl, ?_⟩⟩
  have e1 : ((start : Nat) : Int) + 1 = ((start + 1 : Nat) : Int) := by omega
  have lsz : ∀ {x : Wd}, x.length ≤ 1000000 → x.length ≤ sizeLine := fun h => by rw [sz_line]; omega
  by_cases c1 : k = kMost ∨ k = kWithin
  · rw [show (decide (k = kMost) || decide (k = kWithin)) = true by rcases c1 with c | c <;> simp [c]]
    refine iteT ⟨_, by rw [e1]; exact wsD_at g1, fi_read_count (lsz hww) ?_⟩
    have hP' : P (oP start ((rc w).map fun n => (if k = kMost then Pl.most n else Pl.within n, 2))) := by
      unfold rp at hP
      by_cases c : k = kMost
      · rw [if_pos c] at hP
        simpa [c] using hP
      · have c2 : k = kWithin := c1.resolve_left c
        rw [if_neg c, if_pos c2] at hP
        simpa [c] using hP
    cases q : rc w with
    | none => rw [q] at hP'; exact iteT hP'
    | some n =>
      rw [q] at hP'
      refine iteF ⟨z2, z2, ?_⟩
      have e : oP start ((some n).map fun n => (if k = kMost then Pl.most n else Pl.within n, 2)) = .tuple [.tuple [.str (S k), .int (n : Nat)], .int ((start : Nat) + 2)] := by
        by_cases c : k = kMost
        · simp [oP, plD, c]
        · have c2 : k = kWithin := c1.resolve_left c
          have c3 : ¬ kWithin = kMost := by decide
          simp [oP, plD, c2, c3]
      rw [e] at hP'
      exact hP'
  rw [show (decide (k = kMost) || decide (k = kWithin)) = false by simpa using c1]
  refine iteF ?_
  have cm : ¬ k = kMost := fun z => c1 (.inl z)
  have cw : ¬ k = kWithin := fun z => c1 (.inr z)
  unfold rp at hP
  rw [if_neg cm, if_neg cw] at hP
  by_cases c2 : k = kLots
  · rw [if_pos c2] at hP
    refine eq_w (bT (decide_eq_true c2) ⟨_, by rw [e1]; exact wsD_at g1, fi_read_lots hww ?_⟩)
    cases q : rlots w with
    | none => rw [q] at hP; exact iteT hP
    | some l =>
      rw [q] at hP
      refine iteF ⟨z2, z2, ?_⟩
      rw [c2]
      exact hP
  rw [if_neg c2] at hP
  refine eq_w (bF (decide_eq_false c2) ⟨z2, nin_two ?_⟩)
  by_cases c3 : k = kBoth ∨ k = kEither
  · rw [if_neg (fun z => z c3)] at hP
    refine bF (by rcases c3 with c | c <;> simp [c]) ?_
    cases d with
    | zero =>
      rw [if_pos (show ((0 : Nat) : Int) = 0 from rfl)]
      exact hP
    | succ d =>
      rw [if_neg (show ¬ ((d + 1 : Nat) : Int) = 0 by omega)]
      have eF := hF d rfl
      subst eF
      have ed : ((d + 1 : Nat) : Int) - 1 = (d : Nat) := by omega
      have es : ws.drop (start + 1) = w :: rest := by rw [← List.drop_drop, hd]; rfl
      rw [e1, ed]
      refine ⟨ws, start + 1, rfl, hl, by omega, hw, ?_⟩
      rw [es]
      cases q1 : rp d (w :: rest) with
      | none => simp only [q1] at hP; exact iteT hP
      | some pa =>
        obtain ⟨a, i⟩ := pa
        simp only [q1] at hP
        have ei : ws.drop (start + 1 + i) = (w :: rest).drop i := by rw [← List.drop_drop, es]
        have li := rp_len d _ _ _ q1
        have ll : (w :: rest).length = ws.length - (start + 1) := by rw [← es, List.length_drop]
        refine iteF ⟨_, rfl, ws, start + 1 + i, rfl, hl, by omega, hw, ?_⟩
        rw [ei]
        cases q2 : rp d ((w :: rest).drop i) with
        | none => simp only [q2] at hP; exact iteT hP
        | some pb =>
          obtain ⟨b, j⟩ := pb
          simp only [q2] at hP
          refine iteF ⟨_, rfl, _, rfl, z3, _, rfl, z2, ?_⟩
          have e : oP start (some (if k = kBoth then Pl.both a b else Pl.either a b, 1 + i + j)) = .tuple [.tuple [.str (S k), plD a, plD b], .int ((start + 1 + i + j : Nat) : Int)] := by
            have e3 : start + (1 + i + j) = start + 1 + i + j := by omega
            by_cases c : k = kBoth
            · simp [oP, plD, c, e3]
            · have c4 : k = kEither := c3.resolve_left c
              have c5 : ¬ kEither = kBoth := by decide
              simp [oP, plD, c4, c5, e3]
          rw [e] at hP
          exact hP
  · rw [if_pos c3] at hP
    exact bT (by simpa using c3) hP
theorem pr_read_doubt (ds : List PyData) (P : PyData → Prop) (h : ∃ ws : List Wd, ds = [.list (wsD ws)] ∧ ws.length ≤ 1000000 ∧ (∀ w ∈ ws, w.length ≤ 1000000) ∧ P (match rdbt ws with | none => .none | some p => plD p)) : rd_read_doubt (F_read_part 3) (endsP P) (D0 0 ["words", "found"] ds) := by
  obtain ⟨ws, rfl, hl, hw, hP⟩ := h
  unfold rd_read_doubt
  have wl : (wsD ws).length = ws.length := by simp [wsD]
  simp only [dSeq, dIfS, dOr, dAnd, dNot, dTst, dOp, dVar, dC, dCB, dCons, dNil, dRet, dFor, dIfE, dTup, dLst, dFzL, dSl, dNoPart, dPart, dSplit, dJoin, dUpper, dCall, dCallS, dIs, dNeg, dFmt, dJd, dJs, diLT, diL, diT, diS, diR1, diR2, diE, dgN, dgT2, dYes, dLc, dSet, dSetF, dSetZ, dSetL, dSetLZ, dNew, dApp, dAppF, dPut, dPar, dPar3, dAug, dNext, dAndV, dNotV, dOrT, hide, frz, hd1, fz1, D0, endsP, retP, intDI, isND, ntND, eqSS, eqII, neSS, neII, addII, addSS, addLL, ixLI, ixTI, ixSI, slLL, slSS, lenL, lenT, lenS, strI, strS, intI, intB, intS, tupL, tupT, lstL, lstT, minI, flat, List.map_cons, List.map_nil, List.replicate, List.append_eq, List.nil_append, List.cons_append, List.length_cons, List.length_nil, List.getElem?_cons_zero, List.getElem?_cons_succ, List.set_cons_zero, List.set_cons_succ, Option.some.injEq, Ent.d.injEq, Ent.own.injEq, exists_eq_left', exists_eq_left, exists_eq_right, PyData.bool.injEq, PyData.int.injEq, PyData.str.injEq, PyData.list.injEq, PyData.tuple.injEq, true_and, and_true, Nat.zero_add, Nat.add_zero, Nat.sub_self, Nat.reduceAdd, Nat.reduceSub, List.append_nil, Bool.false_eq_true, if_true, if_false, reduceIte, reduceCtorEq, false_and, exists_false, or_false, false_or, Option.map_some, Option.map_none, wl]
  refine ⟨ws, 0, rfl, hl, by omega, hw, ?_⟩
  rw [List.drop_zero]
  unfold rdbt at hP
  cases q : rp 3 ws with
  | none => simp only [q] at hP; exact iteT hP
  | some pk =>
    obtain ⟨p, k⟩ := pk
    simp only [q] at hP
    refine iteF ⟨_, rfl, ?_⟩
    refine ne_i ?_
    by_cases c : k = ws.length
    · rw [if_pos c] at hP
      refine bF (by simp [c]) ⟨_, rfl, hP⟩
    · rw [if_neg c] at hP
      refine bT (by simp; omega) hP
end K82
set_option Elab.async false
set_option linter.all false
set_option maxRecDepth 100000
set_option maxHeartbeats 4000000
namespace K82
open PySem PySem.Spec PyProof.Rows L2 Ly SX
def bD : Option Int → PyData
  | none => .none
  | some i => .int i
def deedD : Deed → PyData
  | .tell a b lo hi w => .tuple [.str (S kTell), .int (a : Nat), .int (b : Nat), bD lo, bD hi, .int (w : Nat)]
  | .recount a b v => .tuple [.str (S kRecount), .int (a : Nat), .int (b : Nat), .int v]
  | .correct n lo hi => .tuple [.str (S kCorrect), .int (n : Nat), bD lo, bD hi]
  | .withdraw n => .tuple [.str (S kWithdraw), .int (n : Nat)]
  | .doubt t => .tuple [.str (S kDoubt), .str (S t)]
theorem lit_tell : Str.ofString "tell" = S kTell := lit _
theorem lit_recount : Str.ofString "recount" = S kRecount := lit _
theorem lit_correct : Str.ofString "correct" = S kCorrect := lit _
theorem lit_withdraw : Str.ofString "withdraw" = S kWithdraw := lit _
theorem lit_doubt : Str.ofString "doubt" = S kDoubt := lit _
theorem lit_weight : Str.ofString "weight" = S kWeight := lit _
theorem lit_tell_ : Str.ofString "tell " = S (kTell ++ [32]) := lit _
theorem lit_recount_ : Str.ofString "recount " = S (kRecount ++ [32]) := lit _
theorem lit_correct_ : Str.ofString "correct " = S (kCorrect ++ [32]) := lit _
theorem lit_weight_ : Str.ofString " weight " = S (32 :: (kWeight ++ [32])) := lit _
theorem empty_S : Str.empty = S [] := rfl
theorem fi_written {o : Option Int} {Q : PyData → Prop} (h : okB o) (q : Q (.str (S (wb o)))) : F_written [bD o] Q := by
  cases o with
  | none => exact .inl ⟨rfl, q⟩
  | some i => exact .inr ⟨i, rfl, log_ok h.1 h.2, q⟩
theorem at_n {α : Type} (xs : List α) (n : Nat) (v : α) (h : xs[n]? = some v) : atI xs ((n : Nat) : Int) = some v := atI_nat h
section
variable {α : Type} {a b c d e f : α} {r : List α}
theorem at0 : atI (a :: r) 0 = some a := atI_nat (j := 0) rfl
theorem at1 : atI (a :: b :: r) 1 = some b := atI_nat (j := 1) rfl
theorem at2 : atI (a :: b :: c :: r) 2 = some c := atI_nat (j := 2) rfl
theorem at3 : atI (a :: b :: c :: d :: r) 3 = some d := atI_nat (j := 3) rfl
theorem at4 : atI (a :: b :: c :: d :: e :: r) 4 = some e := atI_nat (j := 4) rfl
theorem at5 : atI (a :: b :: c :: d :: e :: f :: r) 5 = some f := atI_nat (j := 5) rfl
end
def F_format_deed : FD := fun ds P => ∃ d : Deed, ds = [deedD d] ∧ DeedB d ∧ P (.str (S (line d)))
theorem lsm {n : Nat} (h : n ≤ 1000000) : n ≤ sizeLine := by rw [sz_line]; omega
theorem lsb {o : Option Int} (h : okB o) : (S (wb o)).length ≤ sizeLine := by rw [S_len]; exact lsm (Nat.le_trans (wb_len h) (by decide))
theorem pr_format_deed (ds : List PyData) (P : PyData → Prop) (h : F_format_deed ds P) : rd_format_deed F_written (endsP P) (D0 0 ["deed"] ds) := by
  obtain ⟨d, rfl, hd, hP⟩ := h
  unfold rd_format_deed
  cases d with
  | withdraw n =>
    have l1 := wn_len hd
    have l2 : (TL.numL n).length ≤ 12 := l1
    have g := log_ok (i := (n : Nat)) (by omega) (by have : n < 10 ^ 12 := hd; omega)
    simp only [dSeq, dIfS, dOr, dAnd, dNot, dTst, dOp, dVar, dC, dCB, dCons, dNil, dRet, dFor, dIfE, dTup, dLst, dFzL, dSl, dNoPart, dPart, dSplit, dJoin, dUpper, dCall, dCallS, dIs, dNeg, dFmt, dJd, dJs, diLT, diL, diT, diS, diR1, diR2, diE, dgN, dgT2, dYes, dLc, dSet, dSetF, dSetZ, dSetL, dSetLZ, dNew, dApp, dAppF, dPut, dPar, dPar3, dAug, dNext, dAndV, dNotV, dOrT, hide, frz, hd1, fz1, D0, endsP, retP, intDI, isND, ntND, eqSS, eqII, neSS, neII, addII, addSS, addLL, ixLI, ixTI, ixSI, slLL, slSS, lenL, lenT, lenS, strI, strS, intI, intB, intS, tupL, tupT, lstL, lstT, minI, flat, List.map_cons, List.map_nil, List.replicate, List.append_eq, List.nil_append, List.cons_append, List.length_cons, List.length_nil, List.getElem?_cons_zero, List.getElem?_cons_succ, List.set_cons_zero, List.set_cons_succ, Option.some.injEq, Ent.d.injEq, Ent.own.injEq, exists_eq_left', exists_eq_left, exists_eq_right, PyData.bool.injEq, PyData.int.injEq, PyData.str.injEq, PyData.list.injEq, PyData.tuple.injEq, true_and, and_true, Nat.zero_add, Nat.add_zero, Nat.sub_self, Nat.reduceAdd, Nat.reduceSub, List.append_nil, Bool.false_eq_true, if_true, if_false, reduceIte, reduceCtorEq, false_and, exists_false, or_false, false_or, Option.map_some, Option.map_none, deedD, at0, at1, lit_tell, lit_recount, lit_correct, lit_sp, lit_tell_, lit_recount_, lit_correct_, S_eq, S_cat, S_len, empty_S, toStr_itx, itx_nat]
    refine ifF (by decide) (ifF (by decide) (ifF (by decide) ⟨by decide, by decide, by decide, g, ?_, ?_⟩))
    · exact lsm (by simp [kWithdraw]; omega)
    · exact hP
  | doubt t =>
    have l1 : t.length ≤ 100000 := hd
    simp only [dSeq, dIfS, dOr, dAnd, dNot, dTst, dOp, dVar, dC, dCB, dCons, dNil, dRet, dFor, dIfE, dTup, dLst, dFzL, dSl, dNoPart, dPart, dSplit, dJoin, dUpper, dCall, dCallS, dIs, dNeg, dFmt, dJd, dJs, diLT, diL, diT, diS, diR1, diR2, diE, dgN, dgT2, dYes, dLc, dSet, dSetF, dSetZ, dSetL, dSetLZ, dNew, dApp, dAppF, dPut, dPar, dPar3, dAug, dNext, dAndV, dNotV, dOrT, hide, frz, hd1, fz1, D0, endsP, retP, intDI, isND, ntND, eqSS, eqII, neSS, neII, addII, addSS, addLL, ixLI, ixTI, ixSI, slLL, slSS, lenL, lenT, lenS, strI, strS, intI, intB, intS, tupL, tupT, lstL, lstT, minI, flat, List.map_cons, List.map_nil, List.replicate, List.append_eq, List.nil_append, List.cons_append, List.length_cons, List.length_nil, List.getElem?_cons_zero, List.getElem?_cons_succ, List.set_cons_zero, List.set_cons_succ, Option.some.injEq, Ent.d.injEq, Ent.own.injEq, exists_eq_left', exists_eq_left, exists_eq_right, PyData.bool.injEq, PyData.int.injEq, PyData.str.injEq, PyData.list.injEq, PyData.tuple.injEq, true_and, and_true, Nat.zero_add, Nat.add_zero, Nat.sub_self, Nat.reduceAdd, Nat.reduceSub, List.append_nil, Bool.false_eq_true, if_true, if_false, reduceIte, reduceCtorEq, false_and, exists_false, or_false, false_or, Option.map_some, Option.map_none, deedD, at0, at1, lit_tell, lit_recount, lit_correct, lit_sp, lit_tell_, lit_recount_, lit_correct_, S_eq, S_cat, S_len, empty_S, toStr_itx, itx_nat]
    refine ifF (by decide) (ifF (by decide) (ifF (by decide) ⟨by decide, by decide, by decide, lsm (by omega), ?_, ?_⟩))
    · exact lsm (by simp [kDoubt]; omega)
    · exact hP
  | recount a b v =>
    obtain ⟨h1, h2, h3, h4⟩ := hd
    have l1 := wn_len h1
    have l2 := wn_len h2
    have l3 := itx_len h3 h4
    unfold wn at l1 l2
    have g1 := log_ok (i := (a : Nat)) (by omega) (by omega)
    have g2 := log_ok (i := (b : Nat)) (by omega) (by omega)
    have g3 := log_ok h3 h4
    simp only [dSeq, dIfS, dOr, dAnd, dNot, dTst, dOp, dVar, dC, dCB, dCons, dNil, dRet, dFor, dIfE, dTup, dLst, dFzL, dSl, dNoPart, dPart, dSplit, dJoin, dUpper, dCall, dCallS, dIs, dNeg, dFmt, dJd, dJs, diLT, diL, diT, diS, diR1, diR2, diE, dgN, dgT2, dYes, dLc, dSet, dSetF, dSetZ, dSetL, dSetLZ, dNew, dApp, dAppF, dPut, dPar, dPar3, dAug, dNext, dAndV, dNotV, dOrT, hide, frz, hd1, fz1, D0, endsP, retP, intDI, isND, ntND, eqSS, eqII, neSS, neII, addII, addSS, addLL, ixLI, ixTI, ixSI, slLL, slSS, lenL, lenT, lenS, strI, strS, intI, intB, intS, tupL, tupT, lstL, lstT, minI, flat, List.map_cons, List.map_nil, List.replicate, List.append_eq, List.nil_append, List.cons_append, List.length_cons, List.length_nil, List.getElem?_cons_zero, List.getElem?_cons_succ, List.set_cons_zero, List.set_cons_succ, Option.some.injEq, Ent.d.injEq, Ent.own.injEq, exists_eq_left', exists_eq_left, exists_eq_right, PyData.bool.injEq, PyData.int.injEq, PyData.str.injEq, PyData.list.injEq, PyData.tuple.injEq, true_and, and_true, Nat.zero_add, Nat.add_zero, Nat.sub_self, Nat.reduceAdd, Nat.reduceSub, List.append_nil, Bool.false_eq_true, if_true, if_false, reduceIte, reduceCtorEq, false_and, exists_false, or_false, false_or, Option.map_some, Option.map_none, deedD, at0, at1, at2, at3, lit_tell, lit_recount, lit_correct, lit_sp, lit_tell_, lit_recount_, lit_correct_, S_eq, S_cat, S_len, empty_S, toStr_itx, itx_nat]
    refine ifF (by decide) (ifT (by decide) ⟨by decide, g1, lsm ?_, lsm ?_, g2, lsm ?_, lsm ?_, g3, lsm ?_, ?_⟩)
    · simp [kRecount]; omega
    · simp [kRecount]; omega
    · simp [kRecount]; omega
    · simp [kRecount]; omega
    · simp [kRecount]; omega
    · have e : line (.recount a b v) = kRecount ++ 32 :: (TL.numL a ++ 32 :: (TL.numL b ++ 32 :: itx v)) := rfl
      rw [e] at hP
      simpa using hP
  | correct n lo hi =>
    obtain ⟨h1, h2, h3⟩ := hd
    have l1 := wn_len h1
    have l2 := wb_len h2
    have l3 := wb_len h3
    unfold wn at l1
    have g1 := log_ok (i := (n : Nat)) (by omega) (by omega)
    simp only [dSeq, dIfS, dOr, dAnd, dNot, dTst, dOp, dVar, dC, dCB, dCons, dNil, dRet, dFor, dIfE, dTup, dLst, dFzL, dSl, dNoPart, dPart, dSplit, dJoin, dUpper, dCall, dCallS, dIs, dNeg, dFmt, dJd, dJs, diLT, diL, diT, diS, diR1, diR2, diE, dgN, dgT2, dYes, dLc, dSet, dSetF, dSetZ, dSetL, dSetLZ, dNew, dApp, dAppF, dPut, dPar, dPar3, dAug, dNext, dAndV, dNotV, dOrT, hide, frz, hd1, fz1, D0, endsP, retP, intDI, isND, ntND, eqSS, eqII, neSS, neII, addII, addSS, addLL, ixLI, ixTI, ixSI, slLL, slSS, lenL, lenT, lenS, strI, strS, intI, intB, intS, tupL, tupT, lstL, lstT, minI, flat, List.map_cons, List.map_nil, List.replicate, List.append_eq, List.nil_append, List.cons_append, List.length_cons, List.length_nil, List.getElem?_cons_zero, List.getElem?_cons_succ, List.set_cons_zero, List.set_cons_succ, Option.some.injEq, Ent.d.injEq, Ent.own.injEq, exists_eq_left', exists_eq_left, exists_eq_right, PyData.bool.injEq, PyData.int.injEq, PyData.str.injEq, PyData.list.injEq, PyData.tuple.injEq, true_and, and_true, Nat.zero_add, Nat.add_zero, Nat.sub_self, Nat.reduceAdd, Nat.reduceSub, List.append_nil, Bool.false_eq_true, if_true, if_false, reduceIte, reduceCtorEq, false_and, exists_false, or_false, false_or, Option.map_some, Option.map_none, deedD, at0, at1, at2, at3, lit_tell, lit_recount, lit_correct, lit_sp, lit_tell_, lit_recount_, lit_correct_, S_eq, S_cat, S_len, empty_S, toStr_itx, itx_nat]
    refine ifF (by decide) (ifF (by decide) (ifT (by decide) ⟨by decide, g1, lsm ?_, lsm ?_, fi_written h2 (.inl ⟨_, rfl, lsb h2, ?_, ?_, ?_⟩)⟩))
    · simp [kCorrect]; omega
    · simp [kCorrect]; omega
    · simp only [S_cat, S_len]
      exact lsm (by simp [kCorrect]; omega)
    · simp only [S_cat, S_len]
      exact lsm (by simp [kCorrect]; omega)
    · refine fi_written h3 (.inl ⟨_, rfl, lsb h3, ?_, ?_⟩)
      · simp only [S_cat, S_len]
        exact lsm (by simp [kCorrect]; omega)
      · have e : line (.correct n lo hi) = kCorrect ++ 32 :: (TL.numL n ++ 32 :: (wb lo ++ 32 :: wb hi)) := rfl
        rw [e] at hP
        simp only [S_cat]
        simpa using hP
  | tell a b lo hi w =>
    obtain ⟨h1, h2, h3, h4, h5⟩ := hd
    have l1 := wn_len h1
    have l2 := wn_len h2
    have l5 := wn_len h5
    have l3 := wb_len h3
    have l4 := wb_len h4
    unfold wn at l1 l2 l5
    have g1 := log_ok (i := (a : Nat)) (by omega) (by omega)
    have g2 := log_ok (i := (b : Nat)) (by omega) (by omega)
    have g5 := log_ok (i := (w : Nat)) (by omega) (by omega)
    simp only [dSeq, dIfS, dOr, dAnd, dNot, dTst, dOp, dVar, dC, dCB, dCons, dNil, dRet, dFor, dIfE, dTup, dLst, dFzL, dSl, dNoPart, dPart, dSplit, dJoin, dUpper, dCall, dCallS, dIs, dNeg, dFmt, dJd, dJs, diLT, diL, diT, diS, diR1, diR2, diE, dgN, dgT2, dYes, dLc, dSet, dSetF, dSetZ, dSetL, dSetLZ, dNew, dApp, dAppF, dPut, dPar, dPar3, dAug, dNext, dAndV, dNotV, dOrT, hide, frz, hd1, fz1, D0, endsP, retP, intDI, isND, ntND, eqSS, eqII, neSS, neII, addII, addSS, addLL, ixLI, ixTI, ixSI, slLL, slSS, lenL, lenT, lenS, strI, strS, intI, intB, intS, tupL, tupT, lstL, lstT, minI, flat, List.map_cons, List.map_nil, List.replicate, List.append_eq, List.nil_append, List.cons_append, List.length_cons, List.length_nil, List.getElem?_cons_zero, List.getElem?_cons_succ, List.set_cons_zero, List.set_cons_succ, Option.some.injEq, Ent.d.injEq, Ent.own.injEq, exists_eq_left', exists_eq_left, exists_eq_right, PyData.bool.injEq, PyData.int.injEq, PyData.str.injEq, PyData.list.injEq, PyData.tuple.injEq, true_and, and_true, Nat.zero_add, Nat.add_zero, Nat.sub_self, Nat.reduceAdd, Nat.reduceSub, List.append_nil, Bool.false_eq_true, if_true, if_false, reduceIte, reduceCtorEq, false_and, exists_false, or_false, false_or, Option.map_some, Option.map_none, deedD, at0, at1, at2, at3, at4, at5, lit_tell, lit_recount, lit_correct, lit_sp, lit_tell_, lit_recount_, lit_correct_, lit_weight_, S_eq, S_cat, S_len, empty_S, toStr_itx, itx_nat]
    refine ifT (by decide) ⟨by decide, g1, lsm ?_, lsm ?_, g2, lsm ?_, lsm ?_, fi_written h3 (.inl ⟨_, rfl, lsb h3, ?_, ?_, ?_⟩)⟩
    · simp [kTell]; omega
    · simp [kTell]; omega
    · simp [kTell]; omega
    · simp [kTell]; omega
    · simp only [S_cat, S_len]
      exact lsm (by simp [kTell]; omega)
    · simp only [S_cat, S_len]
      exact lsm (by simp [kTell]; omega)
    · refine fi_written h4 (.inl ⟨_, rfl, lsb h4, ?_, ?_, g5, ?_, ?_⟩)
      · simp only [S_cat, S_len]
        exact lsm (by simp [kTell]; omega)
      · simp only [S_cat, S_len]
        exact lsm (by simp [kTell, kWeight]; omega)
      · simp only [S_cat, S_len]
        exact lsm (by simp [kTell, kWeight]; omega)
      · have e : line (.tell a b lo hi w) = kTell ++ 32 :: (TL.numL a ++ 32 :: (TL.numL b ++ 32 :: (wb lo ++ 32 :: (wb hi ++ 32 :: (kWeight ++ 32 :: TL.numL w))))) := rfl
        rw [e] at hP
        simp only [S_cat]
        simpa using hP
end K82
set_option Elab.async false
set_option linter.all false
set_option maxRecDepth 100000
set_option maxHeartbeats 4000000
namespace K82
open PySem PySem.Spec PyProof.Rows L2 Ly SX
def oD : Option Deed → PyData
  | none => .none
  | some d => deedD d
theorem at6 {α : Type} {a b c d e f g : α} {r : List α} : atI (a :: b :: c :: d :: e :: f :: g :: r) 6 = some g := atI_nat (j := 6) rfl
def okWs (ws : List Wd) : Prop := ws.length ≤ 1000000 ∧ ∀ w ∈ ws, w.length ≤ 1000000
def F_words (f : List Wd → Option Deed) : FD := fun ds P => ∃ ws : List Wd, ds = [.list (wsD ws)] ∧ okWs ws ∧ P (oD (f ws))
theorem oB_tup (o : Option (Option Int)) {Q : PyData → Prop} (h : Q (.bool o.isNone)) : eqD (oB o) (.tuple []) Q := by
  cases o with
  | none => exact ⟨sh_tup0, sh_tup0, by rw [show oB none = .tuple [] from rfl, ev_tup0]; exact h⟩
  | some b =>
    cases b with
    | none => exact ⟨sh_tupN, sh_tup0, by rw [show oB (some none) = .tuple [.none] from rfl, ev_tup1]; exact h⟩
    | some i => exact ⟨sh_tupI i, sh_tup0, by rw [show oB (some (some i)) = .tuple [.int i] from rfl, ev_tup1]; exact h⟩
theorem oB_at {b : Option Int} : ∃ x, oB (some b) = .tuple [x] ∧ x = bD b := by
  cases b with
  | none => exact ⟨_, rfl, rfl⟩
  | some i => exact ⟨_, rfl, rfl⟩
theorem ix_oB {b : Option Int} {Q : PyData → Prop} (h : Q (bD b)) : ixD (oB (some b)) (.int 0) Q := by
  obtain ⟨x, e1, e2⟩ := oB_at (b := b)
  rw [e1, ixTI]
  exact ⟨x, at0, by rw [e2]; exact h⟩
theorem isN_oN (o : Option Nat) : isN (oN o) = o.isNone := by cases o <;> rfl
theorem isN_oI (o : Option Int) : isN (oI o) = o.isNone := by cases o <;> rfl
theorem z0 : (0 : Nat) ≤ sizeLine := by decide
theorem z2 : (2 : Nat) ≤ sizeLine := by decide
theorem z4 : (4 : Nat) ≤ sizeLine := by decide
theorem z6 : (6 : Nat) ≤ sizeLine := by decide
theorem pr_read_withdraw (ds : List PyData) (P : PyData → Prop) (h : F_words rwithdraw ds P) : rd_read_withdraw F_read_count (endsP P) (D0 0 ["words", "number"] ds) := by
  obtain ⟨ws, rfl, ⟨hl, hw⟩, hP⟩ := h
  unfold rd_read_withdraw
  have wl : (wsD ws).length = ws.length := by simp [wsD]
  simp only [dSeq, dIfS, dOr, dAnd, dNot, dTst, dOp, dVar, dC, dCB, dCons, dNil, dRet, dFor, dIfE, dTup, dLst, dFzL, dSl, dNoPart, dPart, dSplit, dJoin, dUpper, dCall, dCallS, dIs, dNeg, dFmt, dJd, dJs, diLT, diL, diT, diS, diR1, diR2, diE, dgN, dgT2, dYes, dLc, dSet, dSetF, dSetZ, dSetL, dSetLZ, dNew, dApp, dAppF, dPut, dPar, dPar3, dAug, dNext, dAndV, dNotV, dOrT, hide, frz, hd1, fz1, D0, endsP, retP, intDI, isND, ntND, eqSS, eqII, neSS, neII, addII, addSS, addLL, ixLI, ixTI, ixSI, slLL, slSS, lenL, lenT, lenS, strI, strS, intI, intB, intS, tupL, tupT, lstL, lstT, minI, flat, List.map_cons, List.map_nil, List.replicate, List.append_eq, List.nil_append, List.cons_append, List.length_cons, List.length_nil, List.getElem?_cons_zero, List.getElem?_cons_succ, List.set_cons_zero, List.set_cons_succ, Option.some.injEq, Ent.d.injEq, Ent.own.injEq, exists_eq_left', exists_eq_left, exists_eq_right, PyData.bool.injEq, PyData.int.injEq, PyData.str.injEq, PyData.list.injEq, PyData.tuple.injEq, true_and, and_true, Nat.zero_add, Nat.add_zero, Nat.sub_self, Nat.reduceAdd, Nat.reduceSub, List.append_nil, Bool.false_eq_true, if_true, if_false, reduceIte, reduceCtorEq, false_and, exists_false, or_false, false_or, Option.map_some, Option.map_none, wl, lit_tell, lit_recount, lit_correct, lit_withdraw]
  match ws, hw, hP with
  | [a, b], hw, hP =>
    refine ifF (by rfl) ⟨_, at1, fi_read_count (lsm (hw b (by simp))) ?_⟩
    have hP' : P (oD ((rc b).map .withdraw)) := hP
    cases q : rc b with
    | none => rw [q] at hP'; exact iteT hP'
    | some n => rw [q] at hP'; exact iteF ⟨z2, hP'⟩
  | [], hw, hP => exact ifT (by rfl) hP
  | [_], hw, hP => exact ifT (by rfl) hP
  | _ :: _ :: _ :: _, hw, hP => exact ifT (by simp; omega) hP
theorem pr_read_recount (ds : List PyData) (P : PyData → Prop) (h : F_words rrecount ds P) : rd_read_recount F_read_number F_read_count (endsP P) (D0 0 ["words", "first", "second", "value"] ds) := by
  obtain ⟨ws, rfl, ⟨hl, hw⟩, hP⟩ := h
  unfold rd_read_recount
  have wl : (wsD ws).length = ws.length := by simp [wsD]
  simp only [dSeq, dIfS, dOr, dAnd, dNot, dTst, dOp, dVar, dC, dCB, dCons, dNil, dRet, dFor, dIfE, dTup, dLst, dFzL, dSl, dNoPart, dPart, dSplit, dJoin, dUpper, dCall, dCallS, dIs, dNeg, dFmt, dJd, dJs, diLT, diL, diT, diS, diR1, diR2, diE, dgN, dgT2, dYes, dLc, dSet, dSetF, dSetZ, dSetL, dSetLZ, dNew, dApp, dAppF, dPut, dPar, dPar3, dAug, dNext, dAndV, dNotV, dOrT, hide, frz, hd1, fz1, D0, endsP, retP, intDI, isND, ntND, eqSS, eqII, neSS, neII, addII, addSS, addLL, ixLI, ixTI, ixSI, slLL, slSS, lenL, lenT, lenS, strI, strS, intI, intB, intS, tupL, tupT, lstL, lstT, minI, flat, List.map_cons, List.map_nil, List.replicate, List.append_eq, List.nil_append, List.cons_append, List.length_cons, List.length_nil, List.getElem?_cons_zero, List.getElem?_cons_succ, List.set_cons_zero, List.set_cons_succ, Option.some.injEq, Ent.d.injEq, Ent.own.injEq, exists_eq_left', exists_eq_left, exists_eq_right, PyData.bool.injEq, PyData.int.injEq, PyData.str.injEq, PyData.list.injEq, PyData.tuple.injEq, true_and, and_true, Nat.zero_add, Nat.add_zero, Nat.sub_self, Nat.reduceAdd, Nat.reduceSub, List.append_nil, Bool.false_eq_true, if_true, if_false, reduceIte, reduceCtorEq, false_and, exists_false, or_false, false_or, Option.map_some, Option.map_none, wl, lit_tell, lit_recount, lit_correct, lit_withdraw]
  match ws, hw, hP with
  | [a, b, c, v], hw, hP =>
    have lw := fun w (h : w ∈ [a, b, c, v]) => lsm (hw w h)
    refine ifF (by rfl) ⟨_, at1, fi_read_count (lw b (by simp)) ⟨_, at2, fi_read_count (lw c (by simp)) ⟨_, at3, fi_read_number (lw v (by simp)) ⟨_, _, _, rfl, ?_⟩⟩⟩⟩
    simp only [dSeq, dIfS, dOr, dAnd, dNot, dTst, dOp, dVar, dC, dCB, dCons, dNil, dRet, dFor, dIfE, dTup, dLst, dFzL, dSl, dNoPart, dPart, dSplit, dJoin, dUpper, dCall, dCallS, dIs, dNeg, dFmt, dJd, dJs, diLT, diL, diT, diS, diR1, diR2, diE, dgN, dgT2, dYes, dLc, dSet, dSetF, dSetZ, dSetL, dSetLZ, dNew, dApp, dAppF, dPut, dPar, dPar3, dAug, dNext, dAndV, dNotV, dOrT, hide, frz, hd1, fz1, D0, endsP, retP, intDI, isND, ntND, eqSS, eqII, neSS, neII, addII, addSS, addLL, ixLI, ixTI, ixSI, slLL, slSS, lenL, lenT, lenS, strI, strS, intI, intB, intS, tupL, tupT, lstL, lstT, minI, flat, List.map_cons, List.map_nil, List.replicate, List.append_eq, List.nil_append, List.cons_append, List.length_cons, List.length_nil, List.getElem?_cons_zero, List.getElem?_cons_succ, List.set_cons_zero, List.set_cons_succ, Option.some.injEq, Ent.d.injEq, Ent.own.injEq, exists_eq_left', exists_eq_left, exists_eq_right, PyData.bool.injEq, PyData.int.injEq, PyData.str.injEq, PyData.list.injEq, PyData.tuple.injEq, true_and, and_true, Nat.zero_add, Nat.add_zero, Nat.sub_self, Nat.reduceAdd, Nat.reduceSub, List.append_nil, Bool.false_eq_true, if_true, if_false, reduceIte, reduceCtorEq, false_and, exists_false, or_false, false_or, Option.map_some, Option.map_none, isN_oN, isN_oI, lit_tell, lit_recount, lit_correct]
    have hP' : P (oD (match rc b, rc c, rn v with | some a, some b, some v => some (.recount a b v) | _, _, _ => none)) := hP
    cases q1 : rc b with
    | none => rw [q1] at hP'; exact iteT hP'
    | some n1 =>
      cases q2 : rc c with
      | none => rw [q1, q2] at hP'; exact iteF (iteT hP')
      | some n2 =>
        cases q3 : rn v with
        | none => rw [q1, q2, q3] at hP'; exact iteF (iteF (iteT hP'))
        | some n3 => rw [q1, q2, q3] at hP'; exact iteF (iteF (iteF ⟨z4, hP'⟩))
  | [], hw, hP => exact ifT (by rfl) hP
  | [_], hw, hP => exact ifT (by rfl) hP
  | [_, _], hw, hP => exact ifT (by rfl) hP
  | [_, _, _], hw, hP => exact ifT (by rfl) hP
  | _ :: _ :: _ :: _ :: _ :: _, hw, hP => exact ifT (by simp; omega) hP
theorem pr_read_correct (ds : List PyData) (P : PyData → Prop) (h : F_words rcorrect ds P) : rd_read_correct F_read_bound F_read_count (endsP P) (D0 0 ["words", "number", "low", "high"] ds) := by
  obtain ⟨ws, rfl, ⟨hl, hw⟩, hP⟩ := h
  unfold rd_read_correct
  have wl : (wsD ws).length = ws.length := by simp [wsD]
  simp only [dSeq, dIfS, dOr, dAnd, dNot, dTst, dOp, dVar, dC, dCB, dCons, dNil, dRet, dFor, dIfE, dTup, dLst, dFzL, dSl, dNoPart, dPart, dSplit, dJoin, dUpper, dCall, dCallS, dIs, dNeg, dFmt, dJd, dJs, diLT, diL, diT, diS, diR1, diR2, diE, dgN, dgT2, dYes, dLc, dSet, dSetF, dSetZ, dSetL, dSetLZ, dNew, dApp, dAppF, dPut, dPar, dPar3, dAug, dNext, dAndV, dNotV, dOrT, hide, frz, hd1, fz1, D0, endsP, retP, intDI, isND, ntND, eqSS, eqII, neSS, neII, addII, addSS, addLL, ixLI, ixTI, ixSI, slLL, slSS, lenL, lenT, lenS, strI, strS, intI, intB, intS, tupL, tupT, lstL, lstT, minI, flat, List.map_cons, List.map_nil, List.replicate, List.append_eq, List.nil_append, List.cons_append, List.length_cons, List.length_nil, List.getElem?_cons_zero, List.getElem?_cons_succ, List.set_cons_zero, List.set_cons_succ, Option.some.injEq, Ent.d.injEq, Ent.own.injEq, exists_eq_left', exists_eq_left, exists_eq_right, PyData.bool.injEq, PyData.int.injEq, PyData.str.injEq, PyData.list.injEq, PyData.tuple.injEq, true_and, and_true, Nat.zero_add, Nat.add_zero, Nat.sub_self, Nat.reduceAdd, Nat.reduceSub, List.append_nil, Bool.false_eq_true, if_true, if_false, reduceIte, reduceCtorEq, false_and, exists_false, or_false, false_or, Option.map_some, Option.map_none, wl, lit_tell, lit_recount, lit_correct, lit_withdraw]
  match ws, hw, hP with
  | [a, b, c, v], hw, hP =>
    have lw := fun w (h : w ∈ [a, b, c, v]) => lsm (hw w h)
    refine ifF (by rfl) ⟨_, at1, fi_read_count (lw b (by simp)) ⟨_, at2, fi_read_bound (lw c (by simp)) ⟨_, at3, fi_read_bound (lw v (by simp)) ⟨_, _, _, rfl, ?_⟩⟩⟩⟩
    simp only [dSeq, dIfS, dOr, dAnd, dNot, dTst, dOp, dVar, dC, dCB, dCons, dNil, dRet, dFor, dIfE, dTup, dLst, dFzL, dSl, dNoPart, dPart, dSplit, dJoin, dUpper, dCall, dCallS, dIs, dNeg, dFmt, dJd, dJs, diLT, diL, diT, diS, diR1, diR2, diE, dgN, dgT2, dYes, dLc, dSet, dSetF, dSetZ, dSetL, dSetLZ, dNew, dApp, dAppF, dPut, dPar, dPar3, dAug, dNext, dAndV, dNotV, dOrT, hide, frz, hd1, fz1, D0, endsP, retP, intDI, isND, ntND, eqSS, eqII, neSS, neII, addII, addSS, addLL, ixLI, ixTI, ixSI, slLL, slSS, lenL, lenT, lenS, strI, strS, intI, intB, intS, tupL, tupT, lstL, lstT, minI, flat, List.map_cons, List.map_nil, List.replicate, List.append_eq, List.nil_append, List.cons_append, List.length_cons, List.length_nil, List.getElem?_cons_zero, List.getElem?_cons_succ, List.set_cons_zero, List.set_cons_succ, Option.some.injEq, Ent.d.injEq, Ent.own.injEq, exists_eq_left', exists_eq_left, exists_eq_right, PyData.bool.injEq, PyData.int.injEq, PyData.str.injEq, PyData.list.injEq, PyData.tuple.injEq, true_and, and_true, Nat.zero_add, Nat.add_zero, Nat.sub_self, Nat.reduceAdd, Nat.reduceSub, List.append_nil, Bool.false_eq_true, if_true, if_false, reduceIte, reduceCtorEq, false_and, exists_false, or_false, false_or, Option.map_some, Option.map_none, isN_oN, isN_oI, lit_tell, lit_recount, lit_correct]
    have hP' : P (oD (match rc b, rb c, rb v with | some n, some lo, some hi => some (.correct n lo hi) | _, _, _ => none)) := hP
    cases q1 : rc b with
    | none => rw [q1] at hP'; exact iteT hP'
    | some n1 =>
      refine iteF ⟨z0, oB_tup _ ?_⟩
      cases q2 : rb c with
      | none => rw [q1, q2] at hP'; exact bT rfl hP'
      | some n2 =>
        refine bF rfl ⟨z0, oB_tup _ ?_⟩
        cases q3 : rb v with
        | none => rw [q1, q2, q3] at hP'; exact bT rfl hP'
        | some n3 =>
          rw [q1, q2, q3] at hP'
          exact bF rfl (ix_oB (ix_oB ⟨z4, hP'⟩))
  | [], hw, hP => exact ifT (by rfl) hP
  | [_], hw, hP => exact ifT (by rfl) hP
  | [_, _], hw, hP => exact ifT (by rfl) hP
  | [_, _, _], hw, hP => exact ifT (by rfl) hP
  | _ :: _ :: _ :: _ :: _ :: _, hw, hP => exact ifT (by simp; omega) hP
theorem pr_read_tell (ds : List PyData) (P : PyData → Prop) (h : F_words rtell ds P) : rd_read_tell F_read_count F_read_bound (endsP P) (D0 0 ["words", "first", "second", "mass", "low", "high"] ds) := by
  obtain ⟨ws, rfl, ⟨hl, hw⟩, hP⟩ := h
  unfold rd_read_tell
  have wl : (wsD ws).length = ws.length := by simp [wsD]
  simp only [dSeq, dIfS, dOr, dAnd, dNot, dTst, dOp, dVar, dC, dCB, dCons, dNil, dRet, dFor, dIfE, dTup, dLst, dFzL, dSl, dNoPart, dPart, dSplit, dJoin, dUpper, dCall, dCallS, dIs, dNeg, dFmt, dJd, dJs, diLT, diL, diT, diS, diR1, diR2, diE, dgN, dgT2, dYes, dLc, dSet, dSetF, dSetZ, dSetL, dSetLZ, dNew, dApp, dAppF, dPut, dPar, dPar3, dAug, dNext, dAndV, dNotV, dOrT, hide, frz, hd1, fz1, D0, endsP, retP, intDI, isND, ntND, eqSS, eqII, neSS, neII, addII, addSS, addLL, ixLI, ixTI, ixSI, slLL, slSS, lenL, lenT, lenS, strI, strS, intI, intB, intS, tupL, tupT, lstL, lstT, minI, flat, List.map_cons, List.map_nil, List.replicate, List.append_eq, List.nil_append, List.cons_append, List.length_cons, List.length_nil, List.getElem?_cons_zero, List.getElem?_cons_succ, List.set_cons_zero, List.set_cons_succ, Option.some.injEq, Ent.d.injEq, Ent.own.injEq, exists_eq_left', exists_eq_left, exists_eq_right, PyData.bool.injEq, PyData.int.injEq, PyData.str.injEq, PyData.list.injEq, PyData.tuple.injEq, true_and, and_true, Nat.zero_add, Nat.add_zero, Nat.sub_self, Nat.reduceAdd, Nat.reduceSub, List.append_nil, Bool.false_eq_true, if_true, if_false, reduceIte, reduceCtorEq, false_and, exists_false, or_false, false_or, Option.map_some, Option.map_none, wl, lit_weight, lit_tell]
  match ws, hw, hP with
  | [a, b, c, lo, hi, k, w], hw, hP =>
    have lw := fun x (h : x ∈ [a, b, c, lo, hi, k, w]) => lsm (hw x h)
    refine ifF (by rfl) ⟨_, at5, ne_w ?_⟩
    have hP' : P (oD (if k = kWeight then (match rc b, rc c, rc w, rb lo, rb hi with | some a, some b, some w, some lo, some hi => some (.tell a b lo hi w) | _, _, _, _, _ => none) else none)) := hP
    by_cases hk : k = kWeight
    · rw [if_pos hk] at hP'
      refine bF (by simp [hk]) ⟨_, at1, fi_read_count (lw b (by simp)) ⟨_, at2, fi_read_count (lw c (by simp)) ⟨_, at6, fi_read_count (lw w (by simp)) ⟨_, _, _, rfl, ?_⟩⟩⟩⟩
      refine ⟨_, at3, fi_read_bound (lw lo (by simp)) ⟨_, at4, fi_read_bound (lw hi (by simp)) ⟨_, _, rfl, ?_⟩⟩⟩
      simp only [dSeq, dIfS, dOr, dAnd, dNot, dTst, dOp, dVar, dC, dCB, dCons, dNil, dRet, dFor, dIfE, dTup, dLst, dFzL, dSl, dNoPart, dPart, dSplit, dJoin, dUpper, dCall, dCallS, dIs, dNeg, dFmt, dJd, dJs, diLT, diL, diT, diS, diR1, diR2, diE, dgN, dgT2, dYes, dLc, dSet, dSetF, dSetZ, dSetL, dSetLZ, dNew, dApp, dAppF, dPut, dPar, dPar3, dAug, dNext, dAndV, dNotV, dOrT, hide, frz, hd1, fz1, D0, endsP, retP, intDI, isND, ntND, eqSS, eqII, neSS, neII, addII, addSS, addLL, ixLI, ixTI, ixSI, slLL, slSS, lenL, lenT, lenS, strI, strS, intI, intB, intS, tupL, tupT, lstL, lstT, minI, flat, List.map_cons, List.map_nil, List.replicate, List.append_eq, List.nil_append, List.cons_append, List.length_cons, List.length_nil, List.getElem?_cons_zero, List.getElem?_cons_succ, List.set_cons_zero, List.set_cons_succ, Option.some.injEq, Ent.d.injEq, Ent.own.injEq, exists_eq_left', exists_eq_left, exists_eq_right, PyData.bool.injEq, PyData.int.injEq, PyData.str.injEq, PyData.list.injEq, PyData.tuple.injEq, true_and, and_true, Nat.zero_add, Nat.add_zero, Nat.sub_self, Nat.reduceAdd, Nat.reduceSub, List.append_nil, Bool.false_eq_true, if_true, if_false, reduceIte, reduceCtorEq, false_and, exists_false, or_false, false_or, Option.map_some, Option.map_none, isN_oN, isN_oI, lit_tell, lit_recount, lit_correct]
      cases q1 : rc b with
      | none => rw [q1] at hP'; exact iteT hP'
      | some n1 =>
        refine iteF ?_
        cases q2 : rc c with
        | none => rw [q1, q2] at hP'; exact iteT hP'
        | some n2 =>
          refine iteF ?_
          cases q3 : rc w with
          | none => rw [q1, q2, q3] at hP'; exact iteT hP'
          | some n3 =>
            refine iteF ⟨z0, oB_tup _ ?_⟩
            cases q4 : rb lo with
            | none => rw [q1, q2, q3, q4] at hP'; exact bT rfl hP'
            | some n4 =>
              refine bF rfl ⟨z0, oB_tup _ ?_⟩
              cases q5 : rb hi with
              | none => rw [q1, q2, q3, q4, q5] at hP'; exact bT rfl hP'
              | some n5 =>
                rw [q1, q2, q3, q4, q5] at hP'
                exact bF rfl (ix_oB (ix_oB ⟨z6, hP'⟩))
    · rw [if_neg hk] at hP'
      exact bT (by simp [hk]) hP'
  | [], hw, hP => exact ifT (by rfl) hP
  | [_], hw, hP => exact ifT (by rfl) hP
  | [_, _], hw, hP => exact ifT (by rfl) hP
  | [_, _, _], hw, hP => exact ifT (by rfl) hP
  | [_, _, _, _], hw, hP => exact ifT (by rfl) hP
  | [_, _, _, _, _], hw, hP => exact ifT (by rfl) hP
  | [_, _, _, _, _, _], hw, hP => exact ifT (by rfl) hP
  | _ :: _ :: _ :: _ :: _ :: _ :: _ :: _ :: _, hw, hP => exact ifT (by simp; omega) hP
end K82
set_option Elab.async false
set_option linter.all false
set_option maxRecDepth 100000
set_option maxHeartbeats 4000000
namespace K82
open PySem PySem.Spec PyProof.Rows L2 Ly SX
def F_read_doubt_deed : FD := fun ds P => ∃ t : Wd, ds = [.str (S t)] ∧ t.length ≤ 300000 ∧ P (oD (if dbtOk t = true then some (.doubt t) else none))
def F_read_deed : FD := fun ds P => ∃ l : Wd, ds = [.str (S l)] ∧ l.length ≤ 300000 ∧ P (oD (rdeed l))
theorem words_ok {l : Wd} (h : l.length ≤ 300000) : okWs (words l) := ⟨Nat.le_trans (spl_len 32 l) (by omega), fun w hw => Nat.le_trans (spl_mem 32 l w hw) (by omega)⟩
theorem spl_ne (c : Nat) (w acc : Wd) : TL.spl [c] 0 acc w ≠ [] := by
  induction w generalizing acc with
  | nil => rw [TL.spl_nil]; simp
  | cons d r ih =>
    cases q : TL.pre [c] (d :: r) with
    | true => rw [TL.spl_hit q]; simp
    | false => rw [TL.spl_miss q]; exact ih _
theorem pr_read_deed (ds : List PyData) (P : PyData → Prop) (h : F_read_deed ds P) : rd_read_deed F_split_words (F_words rtell) (F_words rrecount) (F_words rcorrect) (F_words rwithdraw) F_read_doubt_deed (endsP P) (D0 0 ["line", "words"] ds) := by
  obtain ⟨l, rfl, hl, hP⟩ := h
  unfold rd_read_deed
  simp only [dSeq, dIfS, dOr, dAnd, dNot, dTst, dOp, dVar, dC, dCB, dCons, dNil, dRet, dFor, dIfE, dTup, dLst, dFzL, dSl, dNoPart, dPart, dSplit, dJoin, dUpper, dCall, dCallS, dIs, dNeg, dFmt, dJd, dJs, diLT, diL, diT, diS, diR1, diR2, diE, dgN, dgT2, dYes, dLc, dSet, dSetF, dSetZ, dSetL, dSetLZ, dNew, dApp, dAppF, dPut, dPar, dPar3, dAug, dNext, dAndV, dNotV, dOrT, hide, frz, hd1, fz1, D0, endsP, retP, intDI, isND, ntND, eqSS, eqII, neSS, neII, addII, addSS, addLL, ixLI, ixTI, ixSI, slLL, slSS, lenL, lenT, lenS, strI, strS, intI, intB, intS, tupL, tupT, lstL, lstT, minI, flat, List.map_cons, List.map_nil, List.replicate, List.append_eq, List.nil_append, List.cons_append, List.length_cons, List.length_nil, List.getElem?_cons_zero, List.getElem?_cons_succ, List.set_cons_zero, List.set_cons_succ, Option.some.injEq, Ent.d.injEq, Ent.own.injEq, exists_eq_left', exists_eq_left, exists_eq_right, PyData.bool.injEq, PyData.int.injEq, PyData.str.injEq, PyData.list.injEq, PyData.tuple.injEq, true_and, and_true, Nat.zero_add, Nat.add_zero, Nat.sub_self, Nat.reduceAdd, Nat.reduceSub, List.append_nil, Bool.false_eq_true, if_true, if_false, reduceIte, reduceCtorEq, false_and, exists_false, or_false, false_or, Option.map_some, Option.map_none, lit_tell, lit_recount, lit_correct, lit_withdraw, lit_doubt, S_len, cutS_S, cut_from6]
  refine ⟨l, rfl, by rw [sz_line]; omega, ?_⟩
  obtain ⟨k, r, hw⟩ : ∃ k r, words l = k :: r := by
    cases q : words l with
    | nil => exact absurd q (spl_ne 32 l [])
    | cons k r => exact ⟨k, r, rfl⟩
  have ok := words_ok hl
  have hP' : P (oD (if k = kTell then rtell (words l) else if k = kRecount then rrecount (words l) else if k = kCorrect then rcorrect (words l) else if k = kWithdraw then rwithdraw (words l)
    else if k = kDoubt then (if dbtOk (l.drop 6) = true then some (.doubt (l.drop 6)) else none) else none)) := by
    have e : (words l).headD [] = k := by rw [hw]; rfl
    unfold rdeed at hP
    simp only [e] at hP
    exact hP
  have a0 : atI (wsD (words l)) 0 = some (.str (S k)) := by rw [hw]; exact at0
  refine ⟨_, a0, eq_w ?_⟩
  by_cases c1 : k = kTell
  · rw [if_pos c1] at hP'
    exact bT (decide_eq_true c1) ⟨_, rfl, ok, hP'⟩
  rw [if_neg c1] at hP'
  refine bF (decide_eq_false c1) ⟨_, a0, eq_w ?_⟩
  by_cases c2 : k = kRecount
  · rw [if_pos c2] at hP'
    exact bT (decide_eq_true c2) ⟨_, rfl, ok, hP'⟩
  rw [if_neg c2] at hP'
  refine bF (decide_eq_false c2) ⟨_, a0, eq_w ?_⟩
  by_cases c3 : k = kCorrect
  · rw [if_pos c3] at hP'
    exact bT (decide_eq_true c3) ⟨_, rfl, ok, hP'⟩
  rw [if_neg c3] at hP'
  refine bF (decide_eq_false c3) ⟨_, a0, eq_w ?_⟩
  by_cases c4 : k = kWithdraw
  · rw [if_pos c4] at hP'
    exact bT (decide_eq_true c4) ⟨_, rfl, ok, hP'⟩
  rw [if_neg c4] at hP'
  refine bF (decide_eq_false c4) ⟨_, a0, eq_w ?_⟩
  by_cases c5 : k = kDoubt
  · rw [if_pos c5] at hP'
    exact bT (decide_eq_true c5) ⟨by rw [sz_line]; omega, _, rfl, by simp; omega, hP'⟩
  rw [if_neg c5] at hP'
  exact bF (decide_eq_false c5) hP'
def AscI (l : List Int) : Prop := l.Pairwise (· < ·) ∧ (∀ n ∈ l, 0 ≤ n) ∧ l.length ≤ 1000000
def F_mask_of : FD := fun ds P => ∃ l : List Int, ds = [.tuple (wI l)] ∧ (∀ n ∈ l, 0 ≤ n ∧ n ≤ 1000) ∧ ∀ m : Int, P (.int m)
theorem mask_loop {P : PyData → Prop} {W : PyData} : ∀ (l : List Int) (m : Int) (z : Option Ent), (∀ n ∈ l, 0 ≤ n ∧ n ≤ 1000) → (∀ m : Int, P (.int m)) →
    dLoop (dgN 2) (dAug 1 Builtin.bitOr (dOp shlD (dC (.int 1)) (dVar 2))) { nx := dRet (dVar 1) (endsP P), rt := retP P } (wI l) [some (.d W), some (.d (.int m)), z]
  | [], m, z, _, h => by
    simp only [wI, dLoop, dSeq, dIfS, dOr, dAnd, dNot, dTst, dOp, dVar, dC, dCB, dCons, dNil, dRet, dFor, dIfE, dTup, dLst, dFzL, dSl, dNoPart, dPart, dSplit, dJoin, dUpper, dCall, dCallS, dIs, dNeg, dFmt, dJd, dJs, diLT, diL, diT, diS, diR1, diR2, diE, dgN, dgT2, dYes, dLc, dSet, dSetF, dSetZ, dSetL, dSetLZ, dNew, dApp, dAppF, dPut, dPar, dPar3, dAug, dNext, dAndV, dNotV, dOrT, hide, frz, hd1, fz1, D0, endsP, retP, intDI, isND, ntND, eqSS, eqII, neSS, neII, addII, addSS, addLL, ixLI, ixTI, ixSI, slLL, slSS, lenL, lenT, lenS, strI, strS, intI, intB, intS, tupL, tupT, lstL, lstT, minI, flat, List.map_cons, List.map_nil, List.replicate, List.append_eq, List.nil_append, List.cons_append, List.length_cons, List.length_nil, List.getElem?_cons_zero, List.getElem?_cons_succ, List.set_cons_zero, List.set_cons_succ, Option.some.injEq, Ent.d.injEq, Ent.own.injEq, exists_eq_left', exists_eq_left, exists_eq_right, PyData.bool.injEq, PyData.int.injEq, PyData.str.injEq, PyData.list.injEq, PyData.tuple.injEq, true_and, and_true, Nat.zero_add, Nat.add_zero, Nat.sub_self, Nat.reduceAdd, Nat.reduceSub, List.append_nil, Bool.false_eq_true, if_true, if_false, reduceIte, reduceCtorEq, false_and, exists_false, or_false, false_or, Option.map_some, Option.map_none]
    exact h m
  | n :: l, m, z, hl, h => by
    have ih := mask_loop (P := P) (W := W) l
    have hn := hl n List.mem_cons_self
    simp only [wI, dLoop, dSeq, dIfS, dOr, dAnd, dNot, dTst, dOp, dVar, dC, dCB, dCons, dNil, dRet, dFor, dIfE, dTup, dLst, dFzL, dSl, dNoPart, dPart, dSplit, dJoin, dUpper, dCall, dCallS, dIs, dNeg, dFmt, dJd, dJs, diLT, diL, diT, diS, diR1, diR2, diE, dgN, dgT2, dYes, dLc, dSet, dSetF, dSetZ, dSetL, dSetLZ, dNew, dApp, dAppF, dPut, dPar, dPar3, dAug, dNext, dAndV, dNotV, dOrT, hide, frz, hd1, fz1, D0, endsP, retP, intDI, isND, ntND, eqSS, eqII, neSS, neII, addII, addSS, addLL, ixLI, ixTI, ixSI, slLL, slSS, lenL, lenT, lenS, strI, strS, intI, intB, intS, tupL, tupT, lstL, lstT, minI, flat, List.map_cons, List.map_nil, List.replicate, List.append_eq, List.nil_append, List.cons_append, List.length_cons, List.length_nil, List.getElem?_cons_zero, List.getElem?_cons_succ, List.set_cons_zero, List.set_cons_succ, Option.some.injEq, Ent.d.injEq, Ent.own.injEq, exists_eq_left', exists_eq_left, exists_eq_right, PyData.bool.injEq, PyData.int.injEq, PyData.str.injEq, PyData.list.injEq, PyData.tuple.injEq, true_and, and_true, Nat.zero_add, Nat.add_zero, Nat.sub_self, Nat.reduceAdd, Nat.reduceSub, List.append_nil, Bool.false_eq_true, if_true, if_false, reduceIte, reduceCtorEq, false_and, exists_false, or_false, false_or, Option.map_some, Option.map_none]
    exact ⟨⟨hn.1, by omega, by decide⟩, ih _ _ (fun n hn => hl n (List.mem_cons_of_mem _ hn)) h⟩
theorem pr_mask_of (ds : List PyData) (P : PyData → Prop) (h : F_mask_of ds P) : rd_mask_of (endsP P) (D0 0 ["indexes", "mask", "index"] ds) := by
  obtain ⟨l, rfl, hl, hP⟩ := h
  unfold rd_mask_of
  have := mask_loop (P := P) (W := .tuple (wI l)) l 0 none hl hP
  simp only [dSeq, dIfS, dOr, dAnd, dNot, dTst, dOp, dVar, dC, dCB, dCons, dNil, dRet, dFor, dIfE, dTup, dLst, dFzL, dSl, dNoPart, dPart, dSplit, dJoin, dUpper, dCall, dCallS, dIs, dNeg, dFmt, dJd, dJs, diLT, diL, diT, diS, diR1, diR2, diE, dgN, dgT2, dYes, dLc, dSet, dSetF, dSetZ, dSetL, dSetLZ, dNew, dApp, dAppF, dPut, dPar, dPar3, dAug, dNext, dAndV, dNotV, dOrT, hide, frz, hd1, fz1, D0, endsP, retP, intDI, isND, ntND, eqSS, eqII, neSS, neII, addII, addSS, addLL, ixLI, ixTI, ixSI, slLL, slSS, lenL, lenT, lenS, strI, strS, intI, intB, intS, tupL, tupT, lstL, lstT, minI, flat, List.map_cons, List.map_nil, List.replicate, List.append_eq, List.nil_append, List.cons_append, List.length_cons, List.length_nil, List.getElem?_cons_zero, List.getElem?_cons_succ, List.set_cons_zero, List.set_cons_succ, Option.some.injEq, Ent.d.injEq, Ent.own.injEq, exists_eq_left', exists_eq_left, exists_eq_right, PyData.bool.injEq, PyData.int.injEq, PyData.str.injEq, PyData.list.injEq, PyData.tuple.injEq, true_and, and_true, Nat.zero_add, Nat.add_zero, Nat.sub_self, Nat.reduceAdd, Nat.reduceSub, List.append_nil, Bool.false_eq_true, if_true, if_false, reduceIte, reduceCtorEq, false_and, exists_false, or_false, false_or, Option.map_some, Option.map_none] at this ⊢
  exact this
def eInv (s : String) : PyData := .tuple [.str "InvalidDoubt", .str s]
def F_known_lot : FX := fun ds P Px => ∃ l : List Int, ds = [.tuple (wI l)] ∧ AscI l ∧ ((l.all fun n => decide (n ≤ 39)) = true → P (.d (.tuple (wI l)))) ∧ ((l.all fun n => decide (n ≤ 39)) = false → Px (eInv "lots"))
theorem sort_ints {l : List Int} (h : l.Pairwise (· < ·)) : (wI l).mergeSort (PySem.W.dataLe false fun d => d) = wI l := by
  refine List.mergeSort_of_pairwise ?_
  unfold wI
  rw [List.pairwise_map]
  refine h.imp fun {a b} hab => ?_
  show (!PySem.W.dataLt (.int b) (.int a)) = true
  rw [PySem.W.dataLt_int, decide_eq_false (by omega)]
  rfl
theorem al_wI (l : List Int) : PySem.W.AllAlike (wI l) := PySem.W.AllAlike.of (enc := PyData.int) (bs := l) fun _ _ => by simp [PySem.W.alike]
theorem so_wI (l : List Int) : SortOk (wI l) := .inl (PySem.W.Sortable.others (enc := PyData.int) (bs := l) fun _ => ⟨(fun z => nomatch z), (fun _ z => nomatch z)⟩)
def enumJ (j : Nat) (ds : List PyData) : List PyData := ds.mapIdx fun i d => .tuple [.int ((i + j : Nat) : Int), d]
theorem enumJ_cons (j : Nat) (d : PyData) (ds : List PyData) : enumJ j (d :: ds) = .tuple [.int (j : Nat), d] :: enumJ (j + 1) ds := by
  unfold enumJ
  rw [List.mapIdx_cons]
  simp only [Nat.zero_add]
  congr 1
  refine List.mapIdx_eq_mapIdx_iff.mpr fun i hi => ?_
  simp [Nat.add_assoc, Nat.add_comm 1 j]
theorem enum0 (ds : List PyData) : enumD ds = enumJ 0 ds := by
  unfold enumD enumJ
  simp
theorem chain_in {i lo hi : Int} {j : Nat} {Δ : DSt} {Q : PyData → Prop} (hj : Δ[j]? = some (some (.d (.int i)))) (h : Q (.bool (decide (lo ≤ i) && decide (i ≤ hi)))) : dChain leD leD (dC (.int lo)) (dVar j) (dC (.int hi)) Δ Q := by
  refine ⟨_, hj, trivial, _, rfl, ?_⟩
  by_cases c : lo ≤ i
  · rw [decide_eq_true c] at h ⊢
    exact iteT ⟨trivial, by simpa using h⟩
  · rw [decide_eq_false c] at h ⊢
    exact iteF (by simpa using h)
theorem okS_lots : OkdS (.str (Str.ofString "lots")) := ⟨_, rfl, by decide⟩
theorem okS_count : OkdS (.str (Str.ofString "count")) := ⟨_, rfl, by decide⟩
theorem okS_limit : OkdS (.str (Str.ofString "limit")) := ⟨_, rfl, by decide⟩
def knBody : DS := (dSeq (dIfS (dNot (dTst (dChain leD leD (dC (.int 0)) (dVar 3) (dC (.int 39)))))
    (dRaise "InvalidDoubt" OkdS (dC (.str "lots")))
    dNext)
  (dIfS (dAnd (dTst (dOp gtD (dVar 2) (dC (.int 0)))) (dTst (dOp eqD (dOp ixD (dVar 1) (dOp subD (dVar 2) (dC (.int 1)))) (dVar 3))))
    (dRaise "InvalidDoubt" OkdS (dC (.str "lots")))
    dNext))
theorem kn_loop {P : Ent → Prop} {Px : PyData → Prop} {W : PyData} {nx : DSt → Prop} (L : List Int) (hL : AscI L) : ∀ (l : List Int) (p : List Int) (y z : Option Ent), L = p ++ l → (∀ y z, (l.all fun n => decide (n ≤ 39)) = true → nx [some (.d W), some (.d (.list (wI L))), y, z]) → ((l.all fun n => decide (n ≤ 39)) = false → Px (eInv "lots")) →
    dLoop (dgT2 2 3) knBody { nx := nx, rt := fun en => okE en ∧ P en, ex := fun x _ => Px x } (enumJ p.length (wI l)) [some (.d W), some (.d (.list (wI L))), y, z]
  | [], p, y, z, e, h, _ => h y z rfl
  | n :: l, p, y, z, e, h, h2 => by
    have ih := kn_loop (P := P) (Px := Px) (W := W) (nx := nx) L hL l (p ++ [n])
    have hn : 0 ≤ n := hL.2.1 n (by rw [e]; simp)
    show dLoop _ _ _ (enumJ p.length (.int n :: wI l)) _
    rw [enumJ_cons]
    simp only [dLoop, knBody, dSeq, dIfS, dOr, dAnd, dNot, dTst, dOp, dVar, dC, dCB, dCons, dNil, dRet, dFor, dIfE, dTup, dLst, dFzL, dSl, dNoPart, dPart, dSplit, dJoin, dUpper, dCall, dCallS, dIs, dNeg, dFmt, dJd, dJs, diLT, diL, diT, diS, diR1, diR2, diE, dgN, dgT2, dYes, dLc, dSet, dSetF, dSetZ, dSetL, dSetLZ, dNew, dApp, dAppF, dPut, dPar, dPar3, dAug, dNext, dAndV, dNotV, dOrT, hide, frz, hd1, fz1, D0, endsP, retP, intDI, isND, ntND, eqSS, eqII, neSS, neII, addII, addSS, addLL, ixLI, ixTI, ixSI, slLL, slSS, lenL, lenT, lenS, strI, strS, intI, intB, intS, tupL, tupT, lstL, lstT, minI, flat, List.map_cons, List.map_nil, List.replicate, List.append_eq, List.nil_append, List.cons_append, List.length_cons, List.length_nil, List.getElem?_cons_zero, List.getElem?_cons_succ, List.set_cons_zero, List.set_cons_succ, Option.some.injEq, Ent.d.injEq, Ent.own.injEq, exists_eq_left', exists_eq_left, exists_eq_right, PyData.bool.injEq, PyData.int.injEq, PyData.str.injEq, PyData.list.injEq, PyData.tuple.injEq, true_and, and_true, Nat.zero_add, Nat.add_zero, Nat.sub_self, Nat.reduceAdd, Nat.reduceSub, List.append_nil, Bool.false_eq_true, if_true, if_false, reduceIte, reduceCtorEq, false_and, exists_false, or_false, false_or, Option.map_some, Option.map_none, dRaise, dSetX, dRetX, dDropX, dCX, dMk, dMk2, endsX, okE_d, okE_own, okE_any, dPutF, dGetF, endsI, D0I, putD, dTry, hNone, dAlias, dNewS, dCallX, frzQ, dRetO, dRetL]
    refine ⟨_, _, rfl, chain_in rfl ?_⟩
    rw [decide_eq_true hn, Bool.true_and]
    by_cases c : n ≤ 39
    · rw [decide_eq_true c]
      have go : dLoop (dgT2 2 3) knBody { nx := nx, rt := fun en => okE en ∧ P en, ex := fun x _ => Px x } (enumJ (p.length + 1) (wI l)) [some (.d W), some (.d (.list (wI L))), some (.d (.int (p.length : Nat))), some (.d (.int n))] := by
        have := ih (some (.d (.int (p.length : Nat)))) (some (.d (.int n))) (by rw [e]; simp) (fun y z q => h y z (by simp [c, q])) (fun q => h2 (by simp [c, q]))
        simpa using this
      refine nT rfl ⟨trivial, ?_⟩
      rcases last_cases p with rfl | ⟨ini, m, rfl⟩
      · exact bF (decide_eq_false (by simp)) go
      · have hm : m < n := by
          have := hL.1
          rw [e, List.append_assoc, List.pairwise_append] at this
          have := this.2.1
          rw [List.singleton_append, List.pairwise_cons] at this
          exact this.1 n (by simp)
        have hpos : (0 : Int) < ((ini ++ [m]).length : Nat) := by simp
        refine bT (decide_eq_true hpos) ⟨trivial, .int m, ?_, eq_i (bF (decide_eq_false (by omega)) go)⟩
        have e2 : (((ini ++ [m]).length : Nat) : Int) - 1 = ((ini.length : Nat) : Int) := by simp
        rw [e2]
        refine atI_nat ?_
        rw [e]
        simp [wI]
    · rw [decide_eq_false c]
      exact nF rfl ⟨okS_lots, h2 (by simp [c])⟩
theorem pr_known_lot (ds : List PyData) (P : Ent → Prop) (Px : PyData → Prop) (h : F_known_lot ds P Px) : rd_known_lot (endsX P Px) (D0 0 ["lot", "numbers", "index", "number"] ds) := by
  obtain ⟨l, rfl, hl, hP, hx⟩ := h
  unfold rd_known_lot
  simp only [dSeq, dIfS, dOr, dAnd, dNot, dTst, dOp, dVar, dC, dCB, dCons, dNil, dRet, dFor, dIfE, dTup, dLst, dFzL, dSl, dNoPart, dPart, dSplit, dJoin, dUpper, dCall, dCallS, dIs, dNeg, dFmt, dJd, dJs, diLT, diL, diT, diS, diR1, diR2, diE, dgN, dgT2, dYes, dLc, dSet, dSetF, dSetZ, dSetL, dSetLZ, dNew, dApp, dAppF, dPut, dPar, dPar3, dAug, dNext, dAndV, dNotV, dOrT, hide, frz, hd1, fz1, D0, endsP, retP, intDI, isND, ntND, eqSS, eqII, neSS, neII, addII, addSS, addLL, ixLI, ixTI, ixSI, slLL, slSS, lenL, lenT, lenS, strI, strS, intI, intB, intS, tupL, tupT, lstL, lstT, minI, flat, List.map_cons, List.map_nil, List.replicate, List.append_eq, List.nil_append, List.cons_append, List.length_cons, List.length_nil, List.getElem?_cons_zero, List.getElem?_cons_succ, List.set_cons_zero, List.set_cons_succ, Option.some.injEq, Ent.d.injEq, Ent.own.injEq, exists_eq_left', exists_eq_left, exists_eq_right, PyData.bool.injEq, PyData.int.injEq, PyData.str.injEq, PyData.list.injEq, PyData.tuple.injEq, true_and, and_true, Nat.zero_add, Nat.add_zero, Nat.sub_self, Nat.reduceAdd, Nat.reduceSub, List.append_nil, Bool.false_eq_true, if_true, if_false, reduceIte, reduceCtorEq, false_and, exists_false, or_false, false_or, Option.map_some, Option.map_none, dRaise, dSetX, dRetX, dDropX, dCX, dMk, dMk2, endsX, okE_d, okE_own, okE_any, dPutF, dGetF, endsI, D0I, putD, dTry, hNone, dAlias, dNewS, dCallX, frzQ, dRetO, dRetL]
  refine ⟨al_wI l, so_wI l, ?_, ?_⟩
  · intro d hd
    obtain ⟨n, _, rfl⟩ := List.mem_map.mp hd
    simp [PyData.depth]
  · rw [sort_ints hl.1]
    refine ⟨wI l, rfl, ?_⟩
    rw [enum0]
    exact kn_loop (P := P) (Px := Px) (W := .tuple (wI l)) (nx := fun Δ => dRet (dCB toTupD (dCons (dVar 1) dNil)) (endsX P Px) Δ) l hl l [] none none rfl (fun y z q => by simp only [dSeq, dIfS, dOr, dAnd, dNot, dTst, dOp, dVar, dC, dCB, dCons, dNil, dRet, dFor, dIfE, dTup, dLst, dFzL, dSl, dNoPart, dPart, dSplit, dJoin, dUpper, dCall, dCallS, dIs, dNeg, dFmt, dJd, dJs, diLT, diL, diT, diS, diR1, diR2, diE, dgN, dgT2, dYes, dLc, dSet, dSetF, dSetZ, dSetL, dSetLZ, dNew, dApp, dAppF, dPut, dPar, dPar3, dAug, dNext, dAndV, dNotV, dOrT, hide, frz, hd1, fz1, D0, endsP, retP, intDI, isND, ntND, eqSS, eqII, neSS, neII, addII, addSS, addLL, ixLI, ixTI, ixSI, slLL, slSS, lenL, lenT, lenS, strI, strS, intI, intB, intS, tupL, tupT, lstL, lstT, minI, flat, List.map_cons, List.map_nil, List.replicate, List.append_eq, List.nil_append, List.cons_append, List.length_cons, List.length_nil, List.getElem?_cons_zero, List.getElem?_cons_succ, List.set_cons_zero, List.set_cons_succ, Option.some.injEq, Ent.d.injEq, Ent.own.injEq, exists_eq_left', exists_eq_left, exists_eq_right, PyData.bool.injEq, PyData.int.injEq, PyData.str.injEq, PyData.list.injEq, PyData.tuple.injEq, true_and, and_true, Nat.zero_add, Nat.add_zero, Nat.sub_self, Nat.reduceAdd, Nat.reduceSub, List.append_nil, Bool.false_eq_true, if_true, if_false, reduceIte, reduceCtorEq, false_and, exists_false, or_false, false_or, Option.map_some, Option.map_none, dRaise, dSetX, dRetX, dDropX, dCX, dMk, dMk2, endsX, okE_d, okE_own, okE_any, dPutF, dGetF, endsI, D0I, putD, dTry, hNone, dAlias, dNewS, dCallX, frzQ, dRetO, dRetL]; exact hP q) hx
theorem pr_AtMost_init (Cc dx : Addr) (ds : List PyData) (P : Prop) (Px : PyData → Prop) (h : ∃ n : Int, ds = [.int n] ∧ (0 ≤ n ∧ n ≤ 99 → P) ∧ (¬ (0 ≤ n ∧ n ≤ 99) → Px (eInv "count"))) : rd_AtMost_init Cc (endsI P Px) (D0I ["self", "count"] Cc dx ds) := by
  obtain ⟨n, rfl, hP, hx⟩ := h
  unfold rd_AtMost_init
  simp only [dSeq, dIfS, dOr, dAnd, dNot, dTst, dOp, dVar, dC, dCB, dCons, dNil, dRet, dFor, dIfE, dTup, dLst, dFzL, dSl, dNoPart, dPart, dSplit, dJoin, dUpper, dCall, dCallS, dIs, dNeg, dFmt, dJd, dJs, diLT, diL, diT, diS, diR1, diR2, diE, dgN, dgT2, dYes, dLc, dSet, dSetF, dSetZ, dSetL, dSetLZ, dNew, dApp, dAppF, dPut, dPar, dPar3, dAug, dNext, dAndV, dNotV, dOrT, hide, frz, hd1, fz1, D0, endsP, retP, intDI, isND, ntND, eqSS, eqII, neSS, neII, addII, addSS, addLL, ixLI, ixTI, ixSI, slLL, slSS, lenL, lenT, lenS, strI, strS, intI, intB, intS, tupL, tupT, lstL, lstT, minI, flat, List.map_cons, List.map_nil, List.replicate, List.append_eq, List.nil_append, List.cons_append, List.length_cons, List.length_nil, List.getElem?_cons_zero, List.getElem?_cons_succ, List.set_cons_zero, List.set_cons_succ, Option.some.injEq, Ent.d.injEq, Ent.own.injEq, exists_eq_left', exists_eq_left, exists_eq_right, PyData.bool.injEq, PyData.int.injEq, PyData.str.injEq, PyData.list.injEq, PyData.tuple.injEq, true_and, and_true, Nat.zero_add, Nat.add_zero, Nat.sub_self, Nat.reduceAdd, Nat.reduceSub, List.append_nil, Bool.false_eq_true, if_true, if_false, reduceIte, reduceCtorEq, false_and, exists_false, or_false, false_or, Option.map_some, Option.map_none, dRaise, dSetX, dRetX, dDropX, dCX, dMk, dMk2, endsX, okE_d, okE_own, okE_any, dPutF, dGetF, endsI, D0I, putD, dTry, hNone, dAlias, dNewS, dCallX, frzQ, dRetO, dRetL]
  refine chain_in rfl ?_
  by_cases c : 0 ≤ n ∧ n ≤ 99
  · refine nT (by simp [c.1, c.2]) ⟨dx, [], rfl, by decide, fun j o hj e => ?_, ?_⟩
    · match j, e with
      | 0, _ => exact absurd rfl hj
      | 1, e => cases e; rfl
    · exact hP c
  · refine nF (by simpa using c) ⟨okS_count, hx c⟩
theorem pr_Within_init (Cc dx : Addr) (ds : List PyData) (P : Prop) (Px : PyData → Prop) (h : ∃ n : Int, ds = [.int n] ∧ (0 ≤ n ∧ n ≤ 1000000 → P) ∧ (¬ (0 ≤ n ∧ n ≤ 1000000) → Px (eInv "limit"))) : rd_Within_init Cc (endsI P Px) (D0I ["self", "limit"] Cc dx ds) := by
  obtain ⟨n, rfl, hP, hx⟩ := h
  unfold rd_Within_init
  simp only [dSeq, dIfS, dOr, dAnd, dNot, dTst, dOp, dVar, dC, dCB, dCons, dNil, dRet, dFor, dIfE, dTup, dLst, dFzL, dSl, dNoPart, dPart, dSplit, dJoin, dUpper, dCall, dCallS, dIs, dNeg, dFmt, dJd, dJs, diLT, diL, diT, diS, diR1, diR2, diE, dgN, dgT2, dYes, dLc, dSet, dSetF, dSetZ, dSetL, dSetLZ, dNew, dApp, dAppF, dPut, dPar, dPar3, dAug, dNext, dAndV, dNotV, dOrT, hide, frz, hd1, fz1, D0, endsP, retP, intDI, isND, ntND, eqSS, eqII, neSS, neII, addII, addSS, addLL, ixLI, ixTI, ixSI, slLL, slSS, lenL, lenT, lenS, strI, strS, intI, intB, intS, tupL, tupT, lstL, lstT, minI, flat, List.map_cons, List.map_nil, List.replicate, List.append_eq, List.nil_append, List.cons_append, List.length_cons, List.length_nil, List.getElem?_cons_zero, List.getElem?_cons_succ, List.set_cons_zero, List.set_cons_succ, Option.some.injEq, Ent.d.injEq, Ent.own.injEq, exists_eq_left', exists_eq_left, exists_eq_right, PyData.bool.injEq, PyData.int.injEq, PyData.str.injEq, PyData.list.injEq, PyData.tuple.injEq, true_and, and_true, Nat.zero_add, Nat.add_zero, Nat.sub_self, Nat.reduceAdd, Nat.reduceSub, List.append_nil, Bool.false_eq_true, if_true, if_false, reduceIte, reduceCtorEq, false_and, exists_false, or_false, false_or, Option.map_some, Option.map_none, dRaise, dSetX, dRetX, dDropX, dCX, dMk, dMk2, endsX, okE_d, okE_own, okE_any, dPutF, dGetF, endsI, D0I, putD, dTry, hNone, dAlias, dNewS, dCallX, frzQ, dRetO, dRetL]
  refine chain_in rfl ?_
  by_cases c : 0 ≤ n ∧ n ≤ 1000000
  · refine nT (by simp [c.1, c.2]) ⟨dx, [], rfl, by decide, fun j o hj e => ?_, ?_⟩
    · match j, e with
      | 0, _ => exact absurd rfl hj
      | 1, e => cases e; rfl
    · exact hP c
  · refine nF (by simpa using c) ⟨okS_limit, hx c⟩
end K82
set_option Elab.async false
set_option linter.all false
set_option maxRecDepth 100000
set_option maxHeartbeats 4000000
namespace K82
open PySem PySem.Spec PyProof.Rows L2 Ly SX
def AscLs (ls : List (List Int)) : Prop := ls.Pairwise (· < ·) ∧ (∀ l ∈ ls, AscI l) ∧ ls.length ≤ 1000000
theorem eqv_wI : ∀ a b : List Int, PyData.eqvAll (wI a) (wI b) = decide (a = b)
  | [], [] => by simp [wI, PyData.eqvAll]
  | [], _ :: _ => by simp [wI, PyData.eqvAll]
  | _ :: _, [] => by simp [wI, PyData.eqvAll]
  | x :: a, y :: b => by
    have ih := eqv_wI a b
    simp only [wI, List.map_cons, PyData.eqvAll, PyData.eqv] at ih ⊢
    rw [ih, Bool.eq_iff_iff]
    simp
theorem eqv_tup (a b : List Int) : PyData.eqv (.tuple (wI a)) (.tuple (wI b)) = decide (a = b) := by
  rw [← eqv_wI]
  simp [PyData.eqv]
theorem lay_wI : ∀ a : List Int, PyData.canLayAll0 (wI a) = true
  | [] => by simp [wI, PyData.canLayAll0]
  | x :: a => by
    have ih := lay_wI a
    simp only [wI, List.map_cons, PyData.canLayAll0, PyData.canLay0] at ih ⊢
    simpa using ih
theorem sh_tupL (a : List Int) : SeqAt.shaped (.tuple (wI a)) = true := by
  simp [SeqAt.shaped, PyData.canLay0, lay_wI, PyData.depth, dp_wI]
theorem lay_wLs : ∀ ls : List (List Int), PyData.canLayAll0 (wLs ls) = true
  | [] => by simp [wLs, PyData.canLayAll0]
  | l :: ls => by
    have ih := lay_wLs ls
    simp only [wLs, List.map_cons, PyData.canLayAll0, PyData.canLay0] at ih ⊢
    simp [ih, lay_wI]
theorem dp_wLs : ∀ ls : List (List Int), PyData.depthAll (wLs ls) ≤ 1
  | [] => by simp [wLs, PyData.depthAll]
  | l :: ls => by
    have ih := dp_wLs ls
    simp only [wLs, List.map_cons, PyData.depthAll, PyData.depth] at ih ⊢
    rw [dp_wI]
    omega
theorem sh_list (ls : List (List Int)) : SeqAt.shaped (.list (wLs ls)) = true := by
  have := dp_wLs ls
  simp [SeqAt.shaped, PyData.canLay0, lay_wLs, PyData.depth]
  omega
theorem nin_ls {a : List Int} {ls : List (List Int)} {Q : PyData → Prop} (h : Q (.bool (!decide (a ∈ ls)))) : ninD (.tuple (wI a)) (.list (wLs ls)) Q := by
  refine ⟨sh_tupL a, sh_list ls, _, rfl, ?_⟩
  have e : ((wLs ls).any fun z => z.eqv (.tuple (wI a))) = decide (a ∈ ls) := by
    rw [Bool.eq_iff_iff]
    simp only [wLs, List.any_map, List.any_eq_true, Function.comp, eqv_tup, decide_eq_true_eq]
    constructor
    · rintro ⟨x, h1, rfl⟩; exact h1
    · intro h; exact ⟨a, h, rfl⟩
  rw [e]
  exact h
theorem asc_not (a b : List Int) (h : a < b) : ¬ b < a := fun z => List.lt_irrefl _ (List.lt_trans h z)
theorem sort_ls {ls : List (List Int)} (h : ls.Pairwise (· < ·)) : (wLs ls).mergeSort (PySem.W.dataLe false fun d => d) = wLs ls := by
  refine List.mergeSort_of_pairwise ?_
  unfold wLs
  rw [List.pairwise_map]
  refine h.imp fun {a b} hab => ?_
  show (!PySem.W.dataLt (.tuple (wI b)) (.tuple (wI a))) = true
  rw [dl_tup, decide_eq_false (asc_not a b hab)]
  rfl
theorem al_wLs (ls : List (List Int)) : PySem.W.AllAlike (wLs ls) := PySem.W.AllAlike.of (enc := fun l : List Int => PyData.tuple (wI l)) (bs := ls) fun a b => al_tup a b
theorem so_wLs {ls : List (List Int)} (h : ls.Pairwise (· < ·)) : SortOk (wLs ls) := by
  cases ls with
  | nil => exact .inl (.inl fun d hd => by simp [wLs] at hd)
  | cons a r =>
    cases a with
    | nil =>
      refine .inr ⟨⟨wLs r, rfl⟩, fun d hd => ?_⟩
      obtain ⟨l, _, rfl⟩ := List.mem_map.mp hd
      exact ⟨_, rfl⟩
    | cons x a =>
      refine .inl (.inl fun d hd => ?_)
      obtain ⟨l, hl, rfl⟩ := List.mem_map.mp hd
      cases l with
      | cons y l => exact ⟨_, _, rfl⟩
      | nil =>
        exfalso
        rcases List.mem_cons.mp hl with e | hl
        · cases e
        · have := (List.pairwise_cons.mp h).1 [] hl
          exact absurd this (by simp)
def F_AtMost : FI := fun ds P Px => ∃ n : Int, ds = [.int n] ∧ (0 ≤ n ∧ n ≤ 99 → P) ∧ (¬ (0 ≤ n ∧ n ≤ 99) → Px (eInv "count"))
def F_Within : FI := fun ds P Px => ∃ n : Int, ds = [.int n] ∧ (0 ≤ n ∧ n ≤ 1000000 → P) ∧ (¬ (0 ≤ n ∧ n ≤ 1000000) → Px (eInv "limit"))
def lotsOk (ls : List (List Int)) : Bool := decide (ls.length ≤ 24) && ls.all fun l => l.all fun n => decide (n ≤ 39)
def F_Lots : FI := fun ds P Px => ∃ ls : List (List Int), ds = [.tuple (wLs ls)] ∧ AscLs ls ∧ (lotsOk ls = true → P) ∧ (lotsOk ls = false → Px (eInv "lots"))
end K82
set_option Elab.async false
set_option linter.all false
set_option maxRecDepth 100000
set_option maxHeartbeats 4000000
namespace K82
open PySem PySem.Spec PyProof.Rows L2 Ly SX
theorem masks_go {a b c d e : Option Ent} {Q : List PyData → Prop} (hQ : ∀ acc, Q acc) : ∀ (ls : List (List Int)) (acc : List PyData), acc.length + ls.length ≤ 1000000 → (∀ l ∈ ls, ∀ n ∈ l, 0 ≤ n ∧ n ≤ 1000) →
    dLcGo 4 dYes (dCall 1 F_mask_of (dCons (dVar 4) dNil)) [a, b, c, d, e] Q (wLs ls) acc
  | [], acc, _, _ => hQ acc
  | l :: ls, acc, hl, hm => by
    have ih := masks_go (a := a) (b := b) (c := c) (d := d) (e := e) hQ ls
    simp only [wLs, List.map_cons, dLcGo, dSeq, dIfS, dOr, dAnd, dNot, dTst, dOp, dVar, dC, dCB, dCons, dNil, dRet, dFor, dIfE, dTup, dLst, dFzL, dSl, dNoPart, dPart, dSplit, dJoin, dUpper, dCall, dCallS, dIs, dNeg, dFmt, dJd, dJs, diLT, diL, diT, diS, diR1, diR2, diE, dgN, dgT2, dYes, dLc, dSet, dSetF, dSetZ, dSetL, dSetLZ, dNew, dApp, dAppF, dPut, dPar, dPar3, dAug, dNext, dAndV, dNotV, dOrT, hide, frz, hd1, fz1, D0, endsP, retP, intDI, isND, ntND, eqSS, eqII, neSS, neII, addII, addSS, addLL, ixLI, ixTI, ixSI, slLL, slSS, lenL, lenT, lenS, strI, strS, intI, intB, intS, tupL, tupT, lstL, lstT, minI, flat, List.map_cons, List.map_nil, List.replicate, List.append_eq, List.nil_append, List.cons_append, List.length_cons, List.length_nil, List.getElem?_cons_zero, List.getElem?_cons_succ, List.set_cons_zero, List.set_cons_succ, Option.some.injEq, Ent.d.injEq, Ent.own.injEq, exists_eq_left', exists_eq_left, exists_eq_right, PyData.bool.injEq, PyData.int.injEq, PyData.str.injEq, PyData.list.injEq, PyData.tuple.injEq, true_and, and_true, Nat.zero_add, Nat.add_zero, Nat.sub_self, Nat.reduceAdd, Nat.reduceSub, List.append_nil, Bool.false_eq_true, if_true, if_false, reduceIte, reduceCtorEq, false_and, exists_false, or_false, false_or, Option.map_some, Option.map_none]
    refine ⟨l, rfl, hm l List.mem_cons_self, fun m => ⟨by rw [sz_line]; simp at hl; omega, ih _ (by simp at hl ⊢; omega) fun l' h' => hm l' (List.mem_cons_of_mem _ h')⟩⟩
theorem fz1_obj {y : Option Ent} (h : isObjE y = false) : isObjE (fz1 y) = false := by
  cases y with
  | none => rfl
  | some u => cases u <;> first | rfl | exact h
def ltBody : DS := (dSeq (dSetX 4 (dCX 1 F_known_lot (dCons (dVar 3) dNil)))
  (dIfS (dTst (dOp ninD (dVar 4) (dVar 2)))
    (dApp 2 (dVar 4))
    dNext))
theorem lots_init_loop {o W : Ent} {Cc dx : Addr} {Px : PyData → Prop} {rt : Ent → Prop} {nx : DSt → Prop} (ls : List (List Int)) (hL : AscLs ls) : ∀ (q p : List (List Int)) (y z : Option Ent), isObjE y = false → isObjE z = false → ls = p ++ q → (∀ y z, isObjE y = false → isObjE z = false → (q.all fun l => l.all fun n => decide (n ≤ 39)) = true → nx [some (.obj Cc dx []), some W, some (.own (wLs ls)), y, z]) → ((q.all fun l => l.all fun n => decide (n ≤ 39)) = false → Px (eInv "lots")) →
    dLoop (dgN 3) ltBody { nx := nx, rt := rt, ex := fun x _ => Px x } (wLs q) [some (.obj Cc dx []), some W, some (.own (wLs p)), y, z]
  | [], p, y, z, hy, hz, e, h, _ => by
    rw [List.append_nil] at e
    subst e
    exact h y z hy hz rfl
  | l :: q, p, y, z, hy, hz, e, h, h2 => by
    have ih := lots_init_loop (o := o) (W := W) (Cc := Cc) (dx := dx) (Px := Px) (rt := rt) (nx := nx) ls hL q (p ++ [l])
    have hal : AscI l := hL.2.1 l (by rw [e]; simp)
    have hni : l ∉ p := fun hm => by
      have := hL.1
      rw [e, List.pairwise_append] at this
      exact absurd (this.2.2 l hm l List.mem_cons_self) (List.lt_irrefl _)
    have hlen : p.length < 1000000 := by
      have := hL.2.2
      rw [e] at this
      simp at this
      omega
    unfold wLs ltBody
    simp only [dLoop, dSeq, dIfS, dOr, dAnd, dNot, dTst, dOp, dVar, dC, dCB, dCons, dNil, dRet, dFor, dIfE, dTup, dLst, dFzL, dSl, dNoPart, dPart, dSplit, dJoin, dUpper, dCall, dCallS, dIs, dNeg, dFmt, dJd, dJs, diLT, diL, diT, diS, diR1, diR2, diE, dgN, dgT2, dYes, dLc, dSet, dSetF, dSetZ, dSetL, dSetLZ, dNew, dApp, dAppF, dPut, dPar, dPar3, dAug, dNext, dAndV, dNotV, dOrT, hide, frz, hd1, fz1, D0, endsP, retP, intDI, isND, ntND, eqSS, eqII, neSS, neII, addII, addSS, addLL, ixLI, ixTI, ixSI, slLL, slSS, lenL, lenT, lenS, strI, strS, intI, intB, intS, tupL, tupT, lstL, lstT, minI, flat, List.map_cons, List.map_nil, List.replicate, List.append_eq, List.nil_append, List.cons_append, List.length_cons, List.length_nil, List.getElem?_cons_zero, List.getElem?_cons_succ, List.set_cons_zero, List.set_cons_succ, Option.some.injEq, Ent.d.injEq, Ent.own.injEq, exists_eq_left', exists_eq_left, exists_eq_right, PyData.bool.injEq, PyData.int.injEq, PyData.str.injEq, PyData.list.injEq, PyData.tuple.injEq, true_and, and_true, Nat.zero_add, Nat.add_zero, Nat.sub_self, Nat.reduceAdd, Nat.reduceSub, List.append_nil, Bool.false_eq_true, if_true, if_false, reduceIte, reduceCtorEq, false_and, exists_false, or_false, false_or, Option.map_some, Option.map_none, dRaise, dSetX, dRetX, dDropX, dCX, dMk, dMk2, endsX, okE_d, okE_own, okE_any, dPutF, dGetF, endsI, D0I, putD, dTry, hNone, dAlias, dNewS, dCallX, frzQ, dRetO, dRetL]
    refine ⟨l, rfl, hal, fun ok => ?_, fun bad => h2 (by simp [bad])⟩
    refine ⟨_, rfl, nin_ls (ls := p) ?_⟩
    rw [decide_eq_false hni]
    refine bT rfl ?_
    refine ⟨_, rfl, lsm ?_, ?_⟩
    · rw [List.length_map]; omega
    have := ih (some (.d (.tuple (wI l)))) (some (.d (.tuple (wI l)))) rfl rfl (by rw [e]; simp) (fun y z hy hz g => h y z hy hz (by simp [ok, g])) (fun g => h2 (by simp [g]))
    simpa [wLs, ltBody] using this
theorem pr_Lots_init (Cc dx : Addr) (ds : List PyData) (P : Prop) (Px : PyData → Prop) (h : F_Lots ds P Px) : rd_Lots_init F_mask_of F_known_lot Cc (endsI P Px) (D0I ["self", "lots", "known", "lot", "numbers"] Cc dx ds) := by
  obtain ⟨ls, rfl, hl, hP, hx⟩ := h
  unfold rd_Lots_init
  have wl : (wLs ls).length = ls.length := by simp [wLs]
  simp only [dSeq, dIfS, dOr, dAnd, dNot, dTst, dOp, dVar, dC, dCB, dCons, dNil, dRet, dFor, dIfE, dTup, dLst, dFzL, dSl, dNoPart, dPart, dSplit, dJoin, dUpper, dCall, dCallS, dIs, dNeg, dFmt, dJd, dJs, diLT, diL, diT, diS, diR1, diR2, diE, dgN, dgT2, dYes, dLc, dSet, dSetF, dSetZ, dSetL, dSetLZ, dNew, dApp, dAppF, dPut, dPar, dPar3, dAug, dNext, dAndV, dNotV, dOrT, hide, frz, hd1, fz1, D0, endsP, retP, intDI, isND, ntND, eqSS, eqII, neSS, neII, addII, addSS, addLL, ixLI, ixTI, ixSI, slLL, slSS, lenL, lenT, lenS, strI, strS, intI, intB, intS, tupL, tupT, lstL, lstT, minI, flat, List.map_cons, List.map_nil, List.replicate, List.append_eq, List.nil_append, List.cons_append, List.length_cons, List.length_nil, List.getElem?_cons_zero, List.getElem?_cons_succ, List.set_cons_zero, List.set_cons_succ, Option.some.injEq, Ent.d.injEq, Ent.own.injEq, exists_eq_left', exists_eq_left, exists_eq_right, PyData.bool.injEq, PyData.int.injEq, PyData.str.injEq, PyData.list.injEq, PyData.tuple.injEq, true_and, and_true, Nat.zero_add, Nat.add_zero, Nat.sub_self, Nat.reduceAdd, Nat.reduceSub, List.append_nil, Bool.false_eq_true, if_true, if_false, reduceIte, reduceCtorEq, false_and, exists_false, or_false, false_or, Option.map_some, Option.map_none, dRaise, dSetX, dRetX, dDropX, dCX, dMk, dMk2, endsX, okE_d, okE_own, okE_any, dPutF, dGetF, endsI, D0I, putD, dTry, hNone, dAlias, dNewS, dCallX, frzQ, dRetO, dRetL, wl]
  by_cases c : ls.length ≤ 24
  · refine ifF (decide_eq_false (by omega)) ⟨z0, ?_⟩
    refine lots_init_loop (o := .any) ls hl ls [] none none rfl rfl rfl (fun y z hy hz g => ?_) (fun g => hx (by simp [lotsOk, g]))
    have hb : ∀ l ∈ ls, ∀ n ∈ l, 0 ≤ n ∧ n ≤ 1000 := fun l h1 n h2 => by
      have g1 := List.all_eq_true.mp (List.all_eq_true.mp g l h1) n h2
      have g2 := of_decide_eq_true g1
      exact ⟨(hl.2.1 l h1).2.1 n h2, by omega⟩
    have hdp : ∀ d ∈ wLs ls, d.depth ≤ 60 := fun d hd => by
      obtain ⟨l, _, rfl⟩ := List.mem_map.mp hd
      exact dp_tup l
    have hp := hP (by simp [lotsOk, c, g])
    simp only [dSeq, dIfS, dOr, dAnd, dNot, dTst, dOp, dVar, dC, dCB, dCons, dNil, dRet, dFor, dIfE, dTup, dLst, dFzL, dSl, dNoPart, dPart, dSplit, dJoin, dUpper, dCall, dCallS, dIs, dNeg, dFmt, dJd, dJs, diLT, diL, diT, diS, diR1, diR2, diE, dgN, dgT2, dYes, dLc, dSet, dSetF, dSetZ, dSetL, dSetLZ, dNew, dApp, dAppF, dPut, dPar, dPar3, dAug, dNext, dAndV, dNotV, dOrT, hide, frz, hd1, fz1, D0, endsP, retP, intDI, isND, ntND, eqSS, eqII, neSS, neII, addII, addSS, addLL, ixLI, ixTI, ixSI, slLL, slSS, lenL, lenT, lenS, strI, strS, intI, intB, intS, tupL, tupT, lstL, lstT, minI, flat, List.map_cons, List.map_nil, List.replicate, List.append_eq, List.nil_append, List.cons_append, List.length_cons, List.length_nil, List.getElem?_cons_zero, List.getElem?_cons_succ, List.set_cons_zero, List.set_cons_succ, Option.some.injEq, Ent.d.injEq, Ent.own.injEq, exists_eq_left', exists_eq_left, exists_eq_right, PyData.bool.injEq, PyData.int.injEq, PyData.str.injEq, PyData.list.injEq, PyData.tuple.injEq, true_and, and_true, Nat.zero_add, Nat.add_zero, Nat.sub_self, Nat.reduceAdd, Nat.reduceSub, List.append_nil, Bool.false_eq_true, if_true, if_false, reduceIte, reduceCtorEq, false_and, exists_false, or_false, false_or, Option.map_some, Option.map_none, dRaise, dSetX, dRetX, dDropX, dCX, dMk, dMk2, endsX, okE_d, okE_own, okE_any, dPutF, dGetF, endsI, D0I, putD, dTry, hNone, dAlias, dNewS, dCallX, frzQ, dRetO, dRetL]
    refine ⟨dx, [], rfl, by decide, fun j o hj e => ?_, al_wLs ls, so_wLs hl.1, hdp, ?_⟩
    · match j, e with
      | 0, _ => exact absurd rfl hj
      | 1, e => cases e; rfl
      | 2, e => cases e; rfl
      | 3, e => cases e; exact hy
      | 4, e => cases e; exact hz
    · rw [sort_ls hl.1]
      simp only [dSeq, dIfS, dOr, dAnd, dNot, dTst, dOp, dVar, dC, dCB, dCons, dNil, dRet, dFor, dIfE, dTup, dLst, dFzL, dSl, dNoPart, dPart, dSplit, dJoin, dUpper, dCall, dCallS, dIs, dNeg, dFmt, dJd, dJs, diLT, diL, diT, diS, diR1, diR2, diE, dgN, dgT2, dYes, dLc, dSet, dSetF, dSetZ, dSetL, dSetLZ, dNew, dApp, dAppF, dPut, dPar, dPar3, dAug, dNext, dAndV, dNotV, dOrT, hide, frz, hd1, fz1, D0, endsP, retP, intDI, isND, ntND, eqSS, eqII, neSS, neII, addII, addSS, addLL, ixLI, ixTI, ixSI, slLL, slSS, lenL, lenT, lenS, strI, strS, intI, intB, intS, tupL, tupT, lstL, lstT, minI, flat, List.map_cons, List.map_nil, List.replicate, List.append_eq, List.nil_append, List.cons_append, List.length_cons, List.length_nil, List.getElem?_cons_zero, List.getElem?_cons_succ, List.set_cons_zero, List.set_cons_succ, Option.some.injEq, Ent.d.injEq, Ent.own.injEq, exists_eq_left', exists_eq_left, exists_eq_right, PyData.bool.injEq, PyData.int.injEq, PyData.str.injEq, PyData.list.injEq, PyData.tuple.injEq, true_and, and_true, Nat.zero_add, Nat.add_zero, Nat.sub_self, Nat.reduceAdd, Nat.reduceSub, List.append_nil, Bool.false_eq_true, if_true, if_false, reduceIte, reduceCtorEq, false_and, exists_false, or_false, false_or, Option.map_some, Option.map_none, dRaise, dSetX, dRetX, dDropX, dCX, dMk, dMk2, endsX, okE_d, okE_own, okE_any, dPutF, dGetF, endsI, D0I, putD, dTry, hNone, dAlias, dNewS, dCallX, frzQ, dRetO, dRetL]
      refine ⟨_, _, rfl, Nat.lt_of_sub_eq_succ rfl, fun j o hj e => ?_, _, _, _, rfl, rfl, _, rfl, ?_⟩
      · match j, e with
        | 0, _ => exact absurd rfl hj
        | 1, e => cases e; rfl
        | 2, e => cases e; rfl
        | 3, e => cases e; exact fz1_obj hy
        | 4, e => cases e; exact fz1_obj hz
      · exact masks_go (fun _ => hp) ls [] (by simp; have := hl.2.2; omega) hb
  · exact ifT (decide_eq_true (by omega)) ⟨okS_lots, hx (by simp [lotsOk, c])⟩
end K82
set_option Elab.async false
set_option linter.all false
set_option maxRecDepth 100000
set_option maxHeartbeats 4000000
namespace K82
open PySem PySem.Spec PyProof.Rows L2 Ly SX
def plDp : Pl → Nat
  | .most _ => 0
  | .within _ => 0
  | .lots _ => 0
  | .both a b => max (plDp a) (plDp b) + 1
  | .either a b => max (plDp a) (plDp b) + 1
def PlAsc : Pl → Prop
  | .most _ => True
  | .within _ => True
  | .lots ls => AscLs ls
  | .both a b => PlAsc a ∧ PlAsc b
  | .either a b => PlAsc a ∧ PlAsc b
def PxI (Px : PyData → Prop) : Prop := Px (eInv "count") ∧ Px (eInv "limit") ∧ Px (eInv "lots")
def F_build (e : Nat) : FX := fun ds P Px => ∃ p, ds = [plD p] ∧ plDp p ≤ e ∧ PlAsc p ∧ (plOk p = true → P .any) ∧ (plOk p = false → PxI Px)
theorem pr_build_doubt (d : Nat) (Fb : FX) (hF : ∀ e, d = e + 1 → Fb = F_build e) (ds : List PyData) (P : Ent → Prop) (Px : PyData → Prop) (h : F_build d ds P Px) : rd_build_doubt Fb F_AtMost F_Within F_Lots (endsX P Px) (D0 0 ["plain", "first", "second"] ds) := by
  obtain ⟨p, rfl, hd, ha, hP, hx⟩ := h
  unfold rd_build_doubt
  cases p with
  | most n =>
    simp only [dSeq, dIfS, dOr, dAnd, dNot, dTst, dOp, dVar, dC, dCB, dCons, dNil, dRet, dFor, dIfE, dTup, dLst, dFzL, dSl, dNoPart, dPart, dSplit, dJoin, dUpper, dCall, dCallS, dIs, dNeg, dFmt, dJd, dJs, diLT, diL, diT, diS, diR1, diR2, diE, dgN, dgT2, dYes, dLc, dSet, dSetF, dSetZ, dSetL, dSetLZ, dNew, dApp, dAppF, dPut, dPar, dPar3, dAug, dNext, dAndV, dNotV, dOrT, hide, frz, hd1, fz1, D0, endsP, retP, intDI, isND, ntND, eqSS, eqII, neSS, neII, addII, addSS, addLL, ixLI, ixTI, ixSI, slLL, slSS, lenL, lenT, lenS, strI, strS, intI, intB, intS, tupL, tupT, lstL, lstT, minI, flat, List.map_cons, List.map_nil, List.replicate, List.append_eq, List.nil_append, List.cons_append, List.length_cons, List.length_nil, List.getElem?_cons_zero, List.getElem?_cons_succ, List.set_cons_zero, List.set_cons_succ, Option.some.injEq, Ent.d.injEq, Ent.own.injEq, exists_eq_left', exists_eq_left, exists_eq_right, PyData.bool.injEq, PyData.int.injEq, PyData.str.injEq, PyData.list.injEq, PyData.tuple.injEq, true_and, and_true, Nat.zero_add, Nat.add_zero, Nat.sub_self, Nat.reduceAdd, Nat.reduceSub, List.append_nil, Bool.false_eq_true, if_true, if_false, reduceIte, reduceCtorEq, false_and, exists_false, or_false, false_or, Option.map_some, Option.map_none, dRaise, dSetX, dRetX, dDropX, dCX, dMk, dMk2, endsX, okE_d, okE_own, okE_any, dPutF, dGetF, endsI, D0I, putD, dTry, hNone, dAlias, dNewS, dCallX, frzQ, dRetO, dRetL, plD, lit_most, lit_within, lit_lots, lit_both, lit_either]
    refine ⟨_, at0, eq_w (bT rfl ⟨_, at1, (n : Nat), rfl, fun h => hP ?_, fun h => (hx ?_).1⟩)⟩
    · simp [plOk]; omega
    · simp [plOk]; omega
  | within n =>
    simp only [dSeq, dIfS, dOr, dAnd, dNot, dTst, dOp, dVar, dC, dCB, dCons, dNil, dRet, dFor, dIfE, dTup, dLst, dFzL, dSl, dNoPart, dPart, dSplit, dJoin, dUpper, dCall, dCallS, dIs, dNeg, dFmt, dJd, dJs, diLT, diL, diT, diS, diR1, diR2, diE, dgN, dgT2, dYes, dLc, dSet, dSetF, dSetZ, dSetL, dSetLZ, dNew, dApp, dAppF, dPut, dPar, dPar3, dAug, dNext, dAndV, dNotV, dOrT, hide, frz, hd1, fz1, D0, endsP, retP, intDI, isND, ntND, eqSS, eqII, neSS, neII, addII, addSS, addLL, ixLI, ixTI, ixSI, slLL, slSS, lenL, lenT, lenS, strI, strS, intI, intB, intS, tupL, tupT, lstL, lstT, minI, flat, List.map_cons, List.map_nil, List.replicate, List.append_eq, List.nil_append, List.cons_append, List.length_cons, List.length_nil, List.getElem?_cons_zero, List.getElem?_cons_succ, List.set_cons_zero, List.set_cons_succ, Option.some.injEq, Ent.d.injEq, Ent.own.injEq, exists_eq_left', exists_eq_left, exists_eq_right, PyData.bool.injEq, PyData.int.injEq, PyData.str.injEq, PyData.list.injEq, PyData.tuple.injEq, true_and, and_true, Nat.zero_add, Nat.add_zero, Nat.sub_self, Nat.reduceAdd, Nat.reduceSub, List.append_nil, Bool.false_eq_true, if_true, if_false, reduceIte, reduceCtorEq, false_and, exists_false, or_false, false_or, Option.map_some, Option.map_none, dRaise, dSetX, dRetX, dDropX, dCX, dMk, dMk2, endsX, okE_d, okE_own, okE_any, dPutF, dGetF, endsI, D0I, putD, dTry, hNone, dAlias, dNewS, dCallX, frzQ, dRetO, dRetL, plD, lit_most, lit_within, lit_lots, lit_both, lit_either]
    refine ⟨_, at0, eq_w (bF (by decide) ⟨_, at0, eq_w (bT rfl ⟨_, at1, (n : Nat), rfl, fun h => hP ?_, fun h => (hx ?_).2.1⟩)⟩)⟩
    · simp [plOk]; omega
    · simp [plOk]; omega
  | lots ls =>
    simp only [dSeq, dIfS, dOr, dAnd, dNot, dTst, dOp, dVar, dC, dCB, dCons, dNil, dRet, dFor, dIfE, dTup, dLst, dFzL, dSl, dNoPart, dPart, dSplit, dJoin, dUpper, dCall, dCallS, dIs, dNeg, dFmt, dJd, dJs, diLT, diL, diT, diS, diR1, diR2, diE, dgN, dgT2, dYes, dLc, dSet, dSetF, dSetZ, dSetL, dSetLZ, dNew, dApp, dAppF, dPut, dPar, dPar3, dAug, dNext, dAndV, dNotV, dOrT, hide, frz, hd1, fz1, D0, endsP, retP, intDI, isND, ntND, eqSS, eqII, neSS, neII, addII, addSS, addLL, ixLI, ixTI, ixSI, slLL, slSS, lenL, lenT, lenS, strI, strS, intI, intB, intS, tupL, tupT, lstL, lstT, minI, flat, List.map_cons, List.map_nil, List.replicate, List.append_eq, List.nil_append, List.cons_append, List.length_cons, List.length_nil, List.getElem?_cons_zero, List.getElem?_cons_succ, List.set_cons_zero, List.set_cons_succ, Option.some.injEq, Ent.d.injEq, Ent.own.injEq, exists_eq_left', exists_eq_left, exists_eq_right, PyData.bool.injEq, PyData.int.injEq, PyData.str.injEq, PyData.list.injEq, PyData.tuple.injEq, true_and, and_true, Nat.zero_add, Nat.add_zero, Nat.sub_self, Nat.reduceAdd, Nat.reduceSub, List.append_nil, Bool.false_eq_true, if_true, if_false, reduceIte, reduceCtorEq, false_and, exists_false, or_false, false_or, Option.map_some, Option.map_none, dRaise, dSetX, dRetX, dDropX, dCX, dMk, dMk2, endsX, okE_d, okE_own, okE_any, dPutF, dGetF, endsI, D0I, putD, dTry, hNone, dAlias, dNewS, dCallX, frzQ, dRetO, dRetL, plD, lit_most, lit_within, lit_lots, lit_both, lit_either]
    refine ⟨_, at0, eq_w (bF (by decide) ⟨_, at0, eq_w (bF (by decide) ⟨_, at0, eq_w (bT rfl ⟨_, at1, ls, rfl, ha, fun h => hP h, fun h => (hx h).2.2⟩)⟩)⟩)⟩
  | both a b =>
    have hd' : max (plDp a) (plDp b) + 1 ≤ d := hd
    obtain ⟨e, rfl⟩ : ∃ e, d = e + 1 := ⟨d - 1, by omega⟩
    have := hF e rfl
    subst this
    simp only [dSeq, dIfS, dOr, dAnd, dNot, dTst, dOp, dVar, dC, dCB, dCons, dNil, dRet, dFor, dIfE, dTup, dLst, dFzL, dSl, dNoPart, dPart, dSplit, dJoin, dUpper, dCall, dCallS, dIs, dNeg, dFmt, dJd, dJs, diLT, diL, diT, diS, diR1, diR2, diE, dgN, dgT2, dYes, dLc, dSet, dSetF, dSetZ, dSetL, dSetLZ, dNew, dApp, dAppF, dPut, dPar, dPar3, dAug, dNext, dAndV, dNotV, dOrT, hide, frz, hd1, fz1, D0, endsP, retP, intDI, isND, ntND, eqSS, eqII, neSS, neII, addII, addSS, addLL, ixLI, ixTI, ixSI, slLL, slSS, lenL, lenT, lenS, strI, strS, intI, intB, intS, tupL, tupT, lstL, lstT, minI, flat, List.map_cons, List.map_nil, List.replicate, List.append_eq, List.nil_append, List.cons_append, List.length_cons, List.length_nil, List.getElem?_cons_zero, List.getElem?_cons_succ, List.set_cons_zero, List.set_cons_succ, Option.some.injEq, Ent.d.injEq, Ent.own.injEq, exists_eq_left', exists_eq_left, exists_eq_right, PyData.bool.injEq, PyData.int.injEq, PyData.str.injEq, PyData.list.injEq, PyData.tuple.injEq, true_and, and_true, Nat.zero_add, Nat.add_zero, Nat.sub_self, Nat.reduceAdd, Nat.reduceSub, List.append_nil, Bool.false_eq_true, if_true, if_false, reduceIte, reduceCtorEq, false_and, exists_false, or_false, false_or, Option.map_some, Option.map_none, dRaise, dSetX, dRetX, dDropX, dCX, dMk, dMk2, endsX, okE_d, okE_own, okE_any, dPutF, dGetF, endsI, D0I, putD, dTry, hNone, dAlias, dNewS, dCallX, frzQ, dRetO, dRetL, plD, lit_most, lit_within, lit_lots, lit_both, lit_either]
    refine ⟨_, at0, eq_w (bF (by decide) ⟨_, at0, eq_w (bF (by decide) ⟨_, at0, eq_w (bF (by decide) ⟨_, at1, a, rfl, by omega, ha.1, fun oa => ⟨_, at2, b, rfl, by omega, ha.2, fun ob => ⟨_, at0, eq_w (bT rfl ⟨rfl, rfl, hP ?_⟩)⟩, fun nb => hx ?_⟩, fun na => hx ?_⟩)⟩)⟩)⟩
    · simp [plOk, oa, ob]
    · simp [plOk, nb]
    · simp [plOk, na]
  | either a b =>
    have hd' : max (plDp a) (plDp b) + 1 ≤ d := hd
    obtain ⟨e, rfl⟩ : ∃ e, d = e + 1 := ⟨d - 1, by omega⟩
    have := hF e rfl
    subst this
    simp only [dSeq, dIfS, dOr, dAnd, dNot, dTst, dOp, dVar, dC, dCB, dCons, dNil, dRet, dFor, dIfE, dTup, dLst, dFzL, dSl, dNoPart, dPart, dSplit, dJoin, dUpper, dCall, dCallS, dIs, dNeg, dFmt, dJd, dJs, diLT, diL, diT, diS, diR1, diR2, diE, dgN, dgT2, dYes, dLc, dSet, dSetF, dSetZ, dSetL, dSetLZ, dNew, dApp, dAppF, dPut, dPar, dPar3, dAug, dNext, dAndV, dNotV, dOrT, hide, frz, hd1, fz1, D0, endsP, retP, intDI, isND, ntND, eqSS, eqII, neSS, neII, addII, addSS, addLL, ixLI, ixTI, ixSI, slLL, slSS, lenL, lenT, lenS, strI, strS, intI, intB, intS, tupL, tupT, lstL, lstT, minI, flat, List.map_cons, List.map_nil, List.replicate, List.append_eq, List.nil_append, List.cons_append, List.length_cons, List.length_nil, List.getElem?_cons_zero, List.getElem?_cons_succ, List.set_cons_zero, List.set_cons_succ, Option.some.injEq, Ent.d.injEq, Ent.own.injEq, exists_eq_left', exists_eq_left, exists_eq_right, PyData.bool.injEq, PyData.int.injEq, PyData.str.injEq, PyData.list.injEq, PyData.tuple.injEq, true_and, and_true, Nat.zero_add, Nat.add_zero, Nat.sub_self, Nat.reduceAdd, Nat.reduceSub, List.append_nil, Bool.false_eq_true, if_true, if_false, reduceIte, reduceCtorEq, false_and, exists_false, or_false, false_or, Option.map_some, Option.map_none, dRaise, dSetX, dRetX, dDropX, dCX, dMk, dMk2, endsX, okE_d, okE_own, okE_any, dPutF, dGetF, endsI, D0I, putD, dTry, hNone, dAlias, dNewS, dCallX, frzQ, dRetO, dRetL, plD, lit_most, lit_within, lit_lots, lit_both, lit_either]
    refine ⟨_, at0, eq_w (bF (by decide) ⟨_, at0, eq_w (bF (by decide) ⟨_, at0, eq_w (bF (by decide) ⟨_, at1, a, rfl, by omega, ha.1, fun oa => ⟨_, at2, b, rfl, by omega, ha.2, fun ob => ⟨_, at0, eq_w (bF (by decide) ⟨rfl, rfl, hP ?_⟩)⟩, fun nb => hx ?_⟩, fun na => hx ?_⟩)⟩)⟩)⟩
    · simp [plOk, oa, ob]
    · simp [plOk, nb]
    · simp [plOk, na]
theorem geLast_lt {acc : List Int} {n : Int} (h : acc.Pairwise (· < ·)) (g : geLast acc n = false) : ∀ m ∈ acc, m < n := fun m hm => by
  rcases last_cases acc with rfl | ⟨ini, k, rfl⟩
  · cases hm
  · have : k < n := by
      have e : geLast (ini ++ [k]) n = decide (n ≤ k) := by simp [geLast]
      rw [e] at g
      have := of_decide_eq_false g
      omega
    rcases List.mem_append.mp hm with h1 | h1
    · have := (List.pairwise_append.mp h).2.2 m h1 k (by simp)
      omega
    · rw [List.mem_singleton.mp h1]; exact this
theorem geLastL_lt {acc : List (List Int)} {n : List Int} (h : acc.Pairwise (· < ·)) (g : geLastL acc n = false) : ∀ m ∈ acc, m < n := fun m hm => by
  rcases last_cases acc with rfl | ⟨ini, k, rfl⟩
  · cases hm
  · have : k < n := by
      have e : geLastL (ini ++ [k]) n = !decide (k < n) := by simp [geLastL]
      rw [e] at g
      simpa using g
    rcases List.mem_append.mp hm with h1 | h1
    · have := (List.pairwise_append.mp h).2.2 m h1 k (by simp)
      exact List.lt_trans this ‹k < n›
    · rw [List.mem_singleton.mp h1]; exact this
theorem pw_app {α : Type} {R : α → α → Prop} {acc : List α} {n : α} (h : acc.Pairwise R) (g : ∀ m ∈ acc, R m n) : (acc ++ [n]).Pairwise R := by
  rw [List.pairwise_append]
  exact ⟨h, by simp, fun a ha b hb => by rw [List.mem_singleton.mp hb]; exact g a ha⟩
theorem rlotGo_asc : ∀ (ps : List Wd) (acc l : List Int), acc.Pairwise (· < ·) → (∀ n ∈ acc, 0 ≤ n) → rlotGo ps acc = some l → l.Pairwise (· < ·) ∧ (∀ n ∈ l, 0 ≤ n) ∧ l.length ≤ acc.length + ps.length
  | [], acc, l, h1, h2, e => by cases e; exact ⟨h1, h2, by simp⟩
  | p :: ps, acc, l, h1, h2, e => by
    cases q : rc p with
    | none => rw [rlot_none q] at e; cases e
    | some n =>
      cases g : geLast acc n with
      | true => rw [rlot_bad q g] at e; cases e
      | false =>
        rw [rlot_go q g] at e
        have := rlotGo_asc ps _ l (pw_app h1 (geLast_lt h1 g)) (fun m hm => by
          rcases List.mem_append.mp hm with z | z
          · exact h2 m z
          · rw [List.mem_singleton.mp z]; omega) e
        simp at this ⊢
        exact ⟨this.1, this.2.1, by omega⟩
theorem rlot_asc {w : Wd} {l : List Int} (hw : w.length < 1000000) (e : rlot w = some l) : AscI l := by
  unfold rlot at e
  split at e
  · cases e; exact ⟨.nil, (fun _ z => nomatch z), by simp⟩
  · have := rlotGo_asc _ _ l .nil (fun _ z => nomatch z) e
    have hs := spl_len 44 w
    simp at this
    exact ⟨this.1, this.2.1, by omega⟩
theorem rlotsGo_asc : ∀ (ps : List Wd) (acc l : List (List Int)), (∀ p ∈ ps, p.length < 1000000) → acc.Pairwise (· < ·) → (∀ n ∈ acc, AscI n) → rlotsGo ps acc = some l → l.Pairwise (· < ·) ∧ (∀ n ∈ l, AscI n) ∧ l.length ≤ acc.length + ps.length
  | [], acc, l, _, h1, h2, e => by cases e; exact ⟨h1, h2, by simp⟩
  | p :: ps, acc, l, h0, h1, h2, e => by
    cases q : rlot p with
    | none => rw [rlots_none q] at e; cases e
    | some n =>
      cases g : geLastL acc n with
      | true => rw [rlots_bad q g] at e; cases e
      | false =>
        rw [rlots_go q g] at e
        have := rlotsGo_asc ps _ l (fun p hp => h0 p (List.mem_cons_of_mem _ hp)) (pw_app h1 (geLastL_lt h1 g)) (fun m hm => by
          rcases List.mem_append.mp hm with z | z
          · exact h2 m z
          · rw [List.mem_singleton.mp z]; exact rlot_asc (h0 p List.mem_cons_self) q) e
        simp at this ⊢
        exact ⟨this.1, this.2.1, by omega⟩
theorem rlots_asc {w : Wd} {l : List (List Int)} (hw : w.length < 1000000) (e : rlots w = some l) : AscLs l := by
  unfold rlots at e
  split at e
  · cases e; exact ⟨.nil, (fun _ z => nomatch z), by simp⟩
  · have hs := spl_len 47 w
    have := rlotsGo_asc _ _ l (fun p hp => Nat.lt_of_le_of_lt (spl_mem 47 w p hp) hw) .nil (fun _ z => nomatch z) e
    simp at this
    exact ⟨this.1, this.2.1, by omega⟩
theorem rp_asc : ∀ (d : Nat) (ws : List Wd) (p : Pl) (k : Nat), (∀ w ∈ ws, w.length < 1000000) → rp d ws = some (p, k) → plDp p ≤ d ∧ PlAsc p
  | d, [], p, k, _, h => by cases d <;> cases h
  | d, [_], p, k, _, h => by cases d <;> cases h
  | d, kw :: w :: rest, p, k, hw, h => by
    unfold rp at h
    split at h
    · cases q : rc w with
      | none => rw [q] at h; cases h
      | some n => rw [q] at h; cases h; exact ⟨Nat.zero_le _, trivial⟩
    split at h
    · cases q : rc w with
      | none => rw [q] at h; cases h
      | some n => rw [q] at h; cases h; exact ⟨Nat.zero_le _, trivial⟩
    split at h
    · cases q : rlots w with
      | none => rw [q] at h; cases h
      | some n => rw [q] at h; cases h; exact ⟨Nat.zero_le _, rlots_asc (hw w (by simp)) q⟩
    split at h
    · cases h
    cases d with
    | zero => cases h
    | succ d =>
      simp only at h
      cases q1 : rp d (w :: rest) with
      | none => simp only [q1] at h; cases h
      | some pa =>
        obtain ⟨a, i⟩ := pa
        simp only [q1] at h
        cases q2 : rp d ((w :: rest).drop i) with
        | none => simp only [q2] at h; cases h
        | some pb =>
          obtain ⟨b, j⟩ := pb
          simp only [q2] at h
          have h1 := rp_asc d _ _ _ (fun w h => hw w (List.mem_cons_of_mem _ h)) q1
          have h2 := rp_asc d _ _ _ (fun w h => hw w (List.mem_cons_of_mem _ (List.mem_of_mem_drop h))) q2
          cases h
          split
          · exact ⟨by show max _ _ + 1 ≤ _; omega, h1.2, h2.2⟩
          · exact ⟨by show max _ _ + 1 ≤ _; omega, h1.2, h2.2⟩
theorem rdbt_asc {ws : List Wd} {p : Pl} (hw : ∀ w ∈ ws, w.length < 1000000) (h : rdbt ws = some p) : plDp p ≤ 3 ∧ PlAsc p := by
  unfold rdbt at h
  cases q : rp 3 ws with
  | none => rw [q] at h; cases h
  | some pk =>
    obtain ⟨p', k⟩ := pk
    rw [q] at h
    simp only at h
    split at h
    · cases h; exact rp_asc _ _ _ _ hw q
    · cases h
end K82
set_option Elab.async false
set_option linter.all false
set_option maxRecDepth 100000
set_option maxHeartbeats 4000000
namespace K82
open PySem PySem.Spec PyProof.Rows L2 Ly SX
def F_read_doubt : FD := fun ds P => ∃ ws : List Wd, ds = [.list (wsD ws)] ∧ ws.length ≤ 1000000 ∧ (∀ w ∈ ws, w.length ≤ 1000000) ∧ P (match rdbt ws with | none => .none | some p => plD p)
def eBad (n : Nat) : PyData := .tuple [.str "BadText", .int (n : Nat)]
def F_parse_doubt : FX := fun ds P Px => ∃ t : Wd, ds = [.str (S t)] ∧ t.length ≤ 300000 ∧ (dbtOk t = true → P .any) ∧ (dbtOk t = false → PxI Px ∧ Px (eBad 1))
theorem okI_1 {n : Nat} (h : n < 1000000) : OkdI (.int (n : Nat)) := ⟨n, rfl, by omega, by omega⟩
theorem pr_parse_doubt (ds : List PyData) (P : Ent → Prop) (Px : PyData → Prop) (h : F_parse_doubt ds P Px) : rd_parse_doubt F_read_doubt F_split_words (F_build 3) (endsX P Px) (D0 0 ["text", "plain"] ds) := by
  obtain ⟨t, rfl, ht, hP, hx⟩ := h
  unfold rd_parse_doubt
  simp only [dSeq, dIfS, dOr, dAnd, dNot, dTst, dOp, dVar, dC, dCB, dCons, dNil, dRet, dFor, dIfE, dTup, dLst, dFzL, dSl, dNoPart, dPart, dSplit, dJoin, dUpper, dCall, dCallS, dIs, dNeg, dFmt, dJd, dJs, diLT, diL, diT, diS, diR1, diR2, diE, dgN, dgT2, dYes, dLc, dSet, dSetF, dSetZ, dSetL, dSetLZ, dNew, dApp, dAppF, dPut, dPar, dPar3, dAug, dNext, dAndV, dNotV, dOrT, hide, frz, hd1, fz1, D0, endsP, retP, intDI, isND, ntND, eqSS, eqII, neSS, neII, addII, addSS, addLL, ixLI, ixTI, ixSI, slLL, slSS, lenL, lenT, lenS, strI, strS, intI, intB, intS, tupL, tupT, lstL, lstT, minI, flat, List.map_cons, List.map_nil, List.replicate, List.append_eq, List.nil_append, List.cons_append, List.length_cons, List.length_nil, List.getElem?_cons_zero, List.getElem?_cons_succ, List.set_cons_zero, List.set_cons_succ, Option.some.injEq, Ent.d.injEq, Ent.own.injEq, exists_eq_left', exists_eq_left, exists_eq_right, PyData.bool.injEq, PyData.int.injEq, PyData.str.injEq, PyData.list.injEq, PyData.tuple.injEq, true_and, and_true, Nat.zero_add, Nat.add_zero, Nat.sub_self, Nat.reduceAdd, Nat.reduceSub, List.append_nil, Bool.false_eq_true, if_true, if_false, reduceIte, reduceCtorEq, false_and, exists_false, or_false, false_or, Option.map_some, Option.map_none, dRaise, dSetX, dRetX, dDropX, dCX, dMk, dMk2, endsX, okE_d, okE_own, okE_any, dPutF, dGetF, endsI, D0I, putD, dTry, hNone, dAlias, dNewS, dCallX, frzQ, dRetO, dRetL]
  have ok := words_ok ht
  have ok2 : ∀ w ∈ words t, w.length < 1000000 := fun w hw => by
    have := spl_mem 32 t w hw
    omega
  refine ⟨t, rfl, by rw [sz_line]; omega, words t, rfl, ok.1, fun w hw => Nat.le_of_lt (ok2 w hw), ?_⟩
  unfold dbtOk at hP hx
  cases q : rdbt (words t) with
  | none =>
    rw [q] at hx
    exact iteT ⟨okI_1 (by decide), (hx rfl).2⟩
  | some p =>
    rw [q] at hx hP
    have := rdbt_asc ok2 q
    refine ifF (by cases p <;> rfl) ⟨p, rfl, this.1, this.2, fun o => ⟨trivial, hP o⟩, fun o => (hx o).1⟩
theorem pr_read_doubt_deed (ds : List PyData) (P : PyData → Prop) (h : F_read_doubt_deed ds P) : rd_read_doubt_deed F_parse_doubt (endsP P) (D0 0 ["text"] ds) := by
  obtain ⟨t, rfl, ht, hP⟩ := h
  unfold rd_read_doubt_deed
  simp only [dSeq, dIfS, dOr, dAnd, dNot, dTst, dOp, dVar, dC, dCB, dCons, dNil, dRet, dFor, dIfE, dTup, dLst, dFzL, dSl, dNoPart, dPart, dSplit, dJoin, dUpper, dCall, dCallS, dIs, dNeg, dFmt, dJd, dJs, diLT, diL, diT, diS, diR1, diR2, diE, dgN, dgT2, dYes, dLc, dSet, dSetF, dSetZ, dSetL, dSetLZ, dNew, dApp, dAppF, dPut, dPar, dPar3, dAug, dNext, dAndV, dNotV, dOrT, hide, frz, hd1, fz1, D0, endsP, retP, intDI, isND, ntND, eqSS, eqII, neSS, neII, addII, addSS, addLL, ixLI, ixTI, ixSI, slLL, slSS, lenL, lenT, lenS, strI, strS, intI, intB, intS, tupL, tupT, lstL, lstT, minI, flat, List.map_cons, List.map_nil, List.replicate, List.append_eq, List.nil_append, List.cons_append, List.length_cons, List.length_nil, List.getElem?_cons_zero, List.getElem?_cons_succ, List.set_cons_zero, List.set_cons_succ, Option.some.injEq, Ent.d.injEq, Ent.own.injEq, exists_eq_left', exists_eq_left, exists_eq_right, PyData.bool.injEq, PyData.int.injEq, PyData.str.injEq, PyData.list.injEq, PyData.tuple.injEq, true_and, and_true, Nat.zero_add, Nat.add_zero, Nat.sub_self, Nat.reduceAdd, Nat.reduceSub, List.append_nil, Bool.false_eq_true, if_true, if_false, reduceIte, reduceCtorEq, false_and, exists_false, or_false, false_or, Option.map_some, Option.map_none, dRaise, dSetX, dRetX, dDropX, dCX, dMk, dMk2, endsX, okE_d, okE_own, okE_any, dPutF, dGetF, endsI, D0I, putD, dTry, hNone, dAlias, dNewS, dCallX, frzQ, dRetO, dRetL]
  refine ⟨t, rfl, ht, fun o => ?_, fun o => ?_⟩
  · rw [if_pos o] at hP
    exact ⟨z2, hP⟩
  · rw [if_neg (by rw [o]; exact Bool.false_ne_true)] at hP
    exact ⟨⟨hP, hP, hP⟩, hP⟩
def pgo : List Wd → Nat → List Deed → List Deed ⊕ Nat
  | [], _, acc => .inl acc
  | l :: r, i, acc => match rdeed l with
    | none => .inr (i + 1)
    | some d => pgo r (i + 1) (acc ++ [d])
def lnes (t : Wd) : List Wd := TL.spl [10] 0 [] t
def pdeeds (t : Wd) : List Deed ⊕ Nat := if t = [] then .inl [] else pgo (lnes t) 0 []
def PPd (P : Ent → Prop) (Px : PyData → Prop) : List Deed ⊕ Nat → Prop
  | .inl ds => P (.own (ds.map deedD))
  | .inr n => Px (eBad n)
def F_parse_deeds : FX := fun ds P Px => ∃ t : Wd, ds = [.str (S t)] ∧ t.length ≤ 300000 ∧ PPd P Px (pdeeds t)
theorem lit_nl : Str.ofString "\n" = S [10] := lit _
theorem fi_read_deed {l : Wd} {Q : PyData → Prop} (h : l.length ≤ 300000) (q : Q (oD (rdeed l))) : F_read_deed [.str (S l)] Q := ⟨l, rfl, h, q⟩
def pdBody : DS := (dSeq (dSet 4 (dCall 1 F_read_deed (dCons (dVar 3) dNil)))
  (dSeq (dIfS (dTst (dOp isND (dVar 4) (dC .none)))
    (dRaise "BadText" OkdI (dOp addD (dVar 2) (dC (.int 1))))
    dNext)
  (dApp 1 (dVar 4))))
theorem isN_deed (d : Deed) : isN (deedD d) = false := by cases d <;> rfl
theorem pd_loop {P : Ent → Prop} {Px : PyData → Prop} {W : Ent} : ∀ (ls : List Wd) (i : Nat) (acc : List Deed) (x y z : Option Ent), (∀ l ∈ ls, l.length ≤ 300000) → i + ls.length < 900000 → acc.length = i → PPd P Px (pgo ls i acc) →
    dLoop (dgT2 2 3) pdBody { nx := dRetO 1 (endsX P Px), rt := fun en => okE en ∧ P en, ex := fun x _ => Px x } (enumJ i (wsD ls)) [some W, some (.own (acc.map deedD)), x, y, z]
  | [], i, acc, x, y, z, _, _, _, h => by
    show dRetO 1 (endsX P Px) _
    simp only [dSeq, dIfS, dOr, dAnd, dNot, dTst, dOp, dVar, dC, dCB, dCons, dNil, dRet, dFor, dIfE, dTup, dLst, dFzL, dSl, dNoPart, dPart, dSplit, dJoin, dUpper, dCall, dCallS, dIs, dNeg, dFmt, dJd, dJs, diLT, diL, diT, diS, diR1, diR2, diE, dgN, dgT2, dYes, dLc, dSet, dSetF, dSetZ, dSetL, dSetLZ, dNew, dApp, dAppF, dPut, dPar, dPar3, dAug, dNext, dAndV, dNotV, dOrT, hide, frz, hd1, fz1, D0, endsP, retP, intDI, isND, ntND, eqSS, eqII, neSS, neII, addII, addSS, addLL, ixLI, ixTI, ixSI, slLL, slSS, lenL, lenT, lenS, strI, strS, intI, intB, intS, tupL, tupT, lstL, lstT, minI, flat, List.map_cons, List.map_nil, List.replicate, List.append_eq, List.nil_append, List.cons_append, List.length_cons, List.length_nil, List.getElem?_cons_zero, List.getElem?_cons_succ, List.set_cons_zero, List.set_cons_succ, Option.some.injEq, Ent.d.injEq, Ent.own.injEq, exists_eq_left', exists_eq_left, exists_eq_right, PyData.bool.injEq, PyData.int.injEq, PyData.str.injEq, PyData.list.injEq, PyData.tuple.injEq, true_and, and_true, Nat.zero_add, Nat.add_zero, Nat.sub_self, Nat.reduceAdd, Nat.reduceSub, List.append_nil, Bool.false_eq_true, if_true, if_false, reduceIte, reduceCtorEq, false_and, exists_false, or_false, false_or, Option.map_some, Option.map_none, dRaise, dSetX, dRetX, dDropX, dCX, dMk, dMk2, endsX, okE_d, okE_own, okE_any, dPutF, dGetF, endsI, D0I, putD, dTry, hNone, dAlias, dNewS, dCallX, frzQ, dRetO, dRetL]
    exact h
  | l :: ls, i, acc, x, y, z, hw, hi, ha, h => by
    have ih := pd_loop (P := P) (Px := Px) (W := W) ls (i + 1)
    show dLoop _ _ _ (enumJ i (.str (S l) :: wsD ls)) _
    rw [enumJ_cons]
    unfold pdBody
    simp only [dLoop, dSeq, dIfS, dOr, dAnd, dNot, dTst, dOp, dVar, dC, dCB, dCons, dNil, dRet, dFor, dIfE, dTup, dLst, dFzL, dSl, dNoPart, dPart, dSplit, dJoin, dUpper, dCall, dCallS, dIs, dNeg, dFmt, dJd, dJs, diLT, diL, diT, diS, diR1, diR2, diE, dgN, dgT2, dYes, dLc, dSet, dSetF, dSetZ, dSetL, dSetLZ, dNew, dApp, dAppF, dPut, dPar, dPar3, dAug, dNext, dAndV, dNotV, dOrT, hide, frz, hd1, fz1, D0, endsP, retP, intDI, isND, ntND, eqSS, eqII, neSS, neII, addII, addSS, addLL, ixLI, ixTI, ixSI, slLL, slSS, lenL, lenT, lenS, strI, strS, intI, intB, intS, tupL, tupT, lstL, lstT, minI, flat, List.map_cons, List.map_nil, List.replicate, List.append_eq, List.nil_append, List.cons_append, List.length_cons, List.length_nil, List.getElem?_cons_zero, List.getElem?_cons_succ, List.set_cons_zero, List.set_cons_succ, Option.some.injEq, Ent.d.injEq, Ent.own.injEq, exists_eq_left', exists_eq_left, exists_eq_right, PyData.bool.injEq, PyData.int.injEq, PyData.str.injEq, PyData.list.injEq, PyData.tuple.injEq, true_and, and_true, Nat.zero_add, Nat.add_zero, Nat.sub_self, Nat.reduceAdd, Nat.reduceSub, List.append_nil, Bool.false_eq_true, if_true, if_false, reduceIte, reduceCtorEq, false_and, exists_false, or_false, false_or, Option.map_some, Option.map_none, dRaise, dSetX, dRetX, dDropX, dCX, dMk, dMk2, endsX, okE_d, okE_own, okE_any, dPutF, dGetF, endsI, D0I, putD, dTry, hNone, dAlias, dNewS, dCallX, frzQ, dRetO, dRetL]
    refine ⟨_, _, rfl, fi_read_deed (hw l List.mem_cons_self) ?_⟩
    cases q : rdeed l with
    | none =>
      have e : pgo (l :: ls) i acc = .inr (i + 1) := by unfold pgo; rw [q]
      rw [e] at h
      refine iteT ⟨rfl, okI_1 (n := i + 1) (by simp at hi; omega), h⟩
    | some d =>
      have e : pgo (l :: ls) i acc = pgo ls (i + 1) (acc ++ [d]) := by rw [pgo, q]
      rw [e] at h
      refine ifF (isN_deed d) ⟨lsm ?_, ?_⟩
      · simp at hi ⊢; omega
      · have := ih (acc ++ [d]) (some (.d (.int (i : Nat)))) (some (.d (.str (S l)))) (some (.d (deedD d))) (fun l h => hw l (List.mem_cons_of_mem _ h)) (by simp at hi; omega) (by simp [ha]) h
        rw [show (acc ++ [d]).map deedD = acc.map deedD ++ [deedD d] by simp] at this
        exact this
theorem pr_parse_deeds (ds : List PyData) (P : Ent → Prop) (Px : PyData → Prop) (h : F_parse_deeds ds P Px) : rd_parse_deeds F_read_deed (endsX P Px) (D0 0 ["text", "found", "index", "line", "deed"] ds) := by
  obtain ⟨t, rfl, ht, hP⟩ := h
  unfold rd_parse_deeds
  simp only [dSeq, dIfS, dOr, dAnd, dNot, dTst, dOp, dVar, dC, dCB, dCons, dNil, dRet, dFor, dIfE, dTup, dLst, dFzL, dSl, dNoPart, dPart, dSplit, dJoin, dUpper, dCall, dCallS, dIs, dNeg, dFmt, dJd, dJs, diLT, diL, diT, diS, diR1, diR2, diE, dgN, dgT2, dYes, dLc, dSet, dSetF, dSetZ, dSetL, dSetLZ, dNew, dApp, dAppF, dPut, dPar, dPar3, dAug, dNext, dAndV, dNotV, dOrT, hide, frz, hd1, fz1, D0, endsP, retP, intDI, isND, ntND, eqSS, eqII, neSS, neII, addII, addSS, addLL, ixLI, ixTI, ixSI, slLL, slSS, lenL, lenT, lenS, strI, strS, intI, intB, intS, tupL, tupT, lstL, lstT, minI, flat, List.map_cons, List.map_nil, List.replicate, List.append_eq, List.nil_append, List.cons_append, List.length_cons, List.length_nil, List.getElem?_cons_zero, List.getElem?_cons_succ, List.set_cons_zero, List.set_cons_succ, Option.some.injEq, Ent.d.injEq, Ent.own.injEq, exists_eq_left', exists_eq_left, exists_eq_right, PyData.bool.injEq, PyData.int.injEq, PyData.str.injEq, PyData.list.injEq, PyData.tuple.injEq, true_and, and_true, Nat.zero_add, Nat.add_zero, Nat.sub_self, Nat.reduceAdd, Nat.reduceSub, List.append_nil, Bool.false_eq_true, if_true, if_false, reduceIte, reduceCtorEq, false_and, exists_false, or_false, false_or, Option.map_some, Option.map_none, dRaise, dSetX, dRetX, dDropX, dCX, dMk, dMk2, endsX, okE_d, okE_own, okE_any, dPutF, dGetF, endsI, D0I, putD, dTry, hNone, dAlias, dNewS, dCallX, frzQ, dRetO, dRetL, lit_e, lit_nl, S_eq, S_len, decide_eq_true_eq, split_lit t 10 (by decide)]
  unfold pdeeds at hP
  by_cases c : t = []
  · rw [if_pos c] at hP ⊢
    exact ⟨z0, hP⟩
  · rw [if_neg c] at hP ⊢
    have hs := spl_len 10 t
    refine ⟨z0, by decide, by rw [sz_line]; omega, _, rfl, ?_⟩
    rw [enum0]
    exact pd_loop (lnes t) 0 [] none none none (fun l hl => Nat.le_trans (spl_mem 10 t l hl) ht) (by unfold lnes; omega) rfl hP
end K82
set_option Elab.async false
set_option linter.all false
set_option maxRecDepth 100000
set_option maxHeartbeats 4000000
namespace K82
open PySem PySem.Spec PyProof.Rows L2 Ly SX
theorem lc_map {α : Type} {i : Nat} {te : DE} {Δ : DSt} {Q : List PyData → Prop} {f g : α → PyData} : ∀ (xs : List α) (acc : List PyData), (∀ x ∈ xs, ∀ R : PyData → Prop, R (g x) → te (Δ.set i (some (.d (f x)))) R) → acc.length + xs.length ≤ 1000000 → Q (acc ++ xs.map g) → dLcGo i dYes te Δ Q (xs.map f) acc
  | [], acc, _, _, h => by simpa [dLcGo] using h
  | x :: xs, acc, h, hl, hQ => by
    have ih := lc_map (i := i) (te := te) (Δ := Δ) (Q := Q) (f := f) (g := g) xs (acc ++ [g x]) (fun y hy => h y (List.mem_cons_of_mem _ hy)) (by simp at hl ⊢; omega) (by simpa using hQ)
    simp only [List.map_cons, dLcGo, dYes]
    rw [if_pos trivial]
    exact h x List.mem_cons_self _ ⟨by rw [sz_line]; simp at hl; omega, ih⟩
theorem lc_filter {α : Type} {i : Nat} {tt : DT} {te : DE} {Δ : DSt} {Q : List PyData → Prop} {f g : α → PyData} {p : α → Bool} : ∀ (xs : List α) (acc : List PyData), (∀ x ∈ xs, ∀ R : Bool → Prop, R (p x) → tt (Δ.set i (some (.d (f x)))) R) → (∀ x ∈ xs, p x = true → ∀ R : PyData → Prop, R (g x) → te (Δ.set i (some (.d (f x)))) R) → acc.length + xs.length ≤ 1000000 → Q (acc ++ (xs.filter p).map g) → dLcGo i tt te Δ Q (xs.map f) acc
  | [], acc, _, _, _, h => by simpa [dLcGo] using h
  | x :: xs, acc, h, h', hl, hQ => by
    simp only [List.map_cons, dLcGo]
    refine h x List.mem_cons_self _ ?_
    cases q : p x with
    | true =>
      have ih := lc_filter (i := i) (tt := tt) (te := te) (Δ := Δ) (Q := Q) (f := f) (g := g) (p := p) xs (acc ++ [g x]) (fun y hy => h y (List.mem_cons_of_mem _ hy)) (fun y hy => h' y (List.mem_cons_of_mem _ hy)) (by simp at hl ⊢; omega) (by simpa [q] using hQ)
      exact iteT (h' x List.mem_cons_self q _ ⟨by rw [sz_line]; simp at hl; omega, ih⟩)
    | false =>
      exact iteF (lc_filter (i := i) (tt := tt) (te := te) (Δ := Δ) (Q := Q) (f := f) (g := g) (p := p) xs acc (fun y hy => h y (List.mem_cons_of_mem _ hy)) (fun y hy => h' y (List.mem_cons_of_mem _ hy)) (by simp at hl ⊢; omega) (by simpa [q] using hQ))
theorem r62 {n : Int} (h : -1000000 ≤ n) (h2 : n ≤ 1000000) : -(2 ^ 62) ≤ n ∧ n < 2 ^ 62 := by
  have e : (2 : Int) ^ 62 = 4611686018427387904 := rfl
  rw [e]
  omega
theorem rng_cons (lo : Int) (n : Nat) : rngD lo (n + 1) = .int lo :: rngD (lo + 1) n := by
  unfold rngD
  rw [List.range_succ_eq_map]
  simp only [List.map_cons, List.map_map]
  congr 1
  · simp
  · refine List.map_congr_left fun i _ => ?_
    show PyData.int _ = PyData.int _
    congr 1
    show lo + ((i + 1 : Nat) : Int) = lo + 1 + (i : Nat)
    omega
theorem at_mem {α : Type} {xs : List α} {r : Int} (h : 0 ≤ r) (h2 : r < xs.length) : ∃ v, atI xs r = some v ∧ v ∈ xs := by
  obtain ⟨n, rfl⟩ := Int.eq_ofNat_of_zero_le h
  have : n < xs.length := by omega
  exact ⟨xs[n], atI_nat (by simp [this]), List.getElem_mem this⟩
/-- a draw below n -/
theorem fi_draw {n : Int} {Q : PyData → Prop} (h : 0 < n) (h2 : n < 1000000000) (q : ∀ r : Int, 0 ≤ r → r < n → Q (.int r)) : F_law_draw [.int n] Q := ⟨h, h2, q⟩
def lsD (ls : List (List Int)) : List PyData := ls.map fun l => .list (wI l)
def lpD : Pl → PyData
  | .most n => .tuple [.str (S kMost), .int (n : Nat)]
  | .within n => .tuple [.str (S kWithin), .int (n : Nat)]
  | .lots ls => .tuple [.str (S kLots), .list (lsD ls)]
  | .both a b => .tuple [.str (S kBoth), lpD a, lpD b]
  | .either a b => .tuple [.str (S kEither), lpD a, lpD b]
def LotG (l : List Int) : Prop := l.Pairwise (· < ·) ∧ ∀ n ∈ l, 0 ≤ n ∧ n ≤ 39
def lm (ls : List (List Int)) : Nat := (ls.map fun l => l.length + 1).sum
def LpOk : Pl → Prop
  | .most n => n ≤ 99
  | .within n => n ≤ 1000000
  | .lots ls => ls.length ≤ 24 ∧ (∀ l ∈ ls, LotG l) ∧ lm ls ≤ 64
  | .both a b => LpOk a ∧ LpOk b
  | .either a b => LpOk a ∧ LpOk b
/-- .. with its lots in order -/
def PlG : Pl → Prop
  | .most n => n ≤ 99
  | .within n => n ≤ 1000000
  | .lots ls => ls.length ≤ 24 ∧ ls.Pairwise (· < ·) ∧ (∀ l ∈ ls, LotG l) ∧ lm ls ≤ 64
  | .both a b => PlG a ∧ PlG b
  | .either a b => PlG a ∧ PlG b
def F_law_group : FD := fun ds P => ∃ n : Nat, ds = [.int (n : Nat)] ∧ n ≤ 40 ∧ ∀ l : List Int, LotG l → l.length ≤ n → P (.list (wI l))
def grBody : DS := (dIfS (dTst (dOp eqD (dCallS 0 2 F_law_draw (dCons (dC (.int 2)) dNil)) (dC (.int 1))))
    (dApp 2 (dVar 3))
    dNext)
theorem group_loop {n : Nat} {W : Ent} {P : PyData → Prop} {rt : Ent → Prop} : ∀ (k : Nat) (lo : Nat) (acc : List Int) (z : Option Ent), lo + k = n → n ≤ 40 → acc.Pairwise (· < ·) → (∀ x ∈ acc, 0 ≤ x ∧ x < lo) → acc.length ≤ lo → (∀ l : List Int, LotG l → l.length ≤ n → P (.list (wI l))) →
    dLoop (dgN 3) grBody { nx := dRet (dVar 2) (endsP P), rt := rt } (rngD (lo : Nat) k) [some .src, some W, some (.own (wI acc)), z]
  | 0, lo, acc, z, e, hn, h1, h2, h3, h => by
    simp only [rngD, List.range_zero, List.map_nil, dLoop, dSeq, dIfS, dOr, dAnd, dNot, dTst, dOp, dVar, dC, dCB, dCons, dNil, dRet, dFor, dIfE, dTup, dLst, dFzL, dSl, dNoPart, dPart, dSplit, dJoin, dUpper, dCall, dCallS, dIs, dNeg, dFmt, dJd, dJs, diLT, diL, diT, diS, diR1, diR2, diE, dgN, dgT2, dYes, dLc, dSet, dSetF, dSetZ, dSetL, dSetLZ, dNew, dApp, dAppF, dPut, dPar, dPar3, dAug, dNext, dAndV, dNotV, dOrT, hide, frz, hd1, fz1, D0, endsP, retP, intDI, isND, ntND, eqSS, eqII, neSS, neII, addII, addSS, addLL, ixLI, ixTI, ixSI, slLL, slSS, lenL, lenT, lenS, strI, strS, intI, intB, intS, tupL, tupT, lstL, lstT, minI, flat, List.map_cons, List.map_nil, List.replicate, List.append_eq, List.nil_append, List.cons_append, List.length_cons, List.length_nil, List.getElem?_cons_zero, List.getElem?_cons_succ, List.set_cons_zero, List.set_cons_succ, Option.some.injEq, Ent.d.injEq, Ent.own.injEq, exists_eq_left', exists_eq_left, exists_eq_right, PyData.bool.injEq, PyData.int.injEq, PyData.str.injEq, PyData.list.injEq, PyData.tuple.injEq, true_and, and_true, Nat.zero_add, Nat.add_zero, Nat.sub_self, Nat.reduceAdd, Nat.reduceSub, List.append_nil, Bool.false_eq_true, if_true, if_false, reduceIte, reduceCtorEq, false_and, exists_false, or_false, false_or, Option.map_some, Option.map_none]
    exact h acc ⟨h1, fun n hn => by have := h2 n hn; omega⟩ (by omega)
  | k + 1, lo, acc, z, e, hn, h1, h2, h3, h => by
    have ih := group_loop (n := n) (W := W) (P := P) (rt := rt) k (lo + 1)
    rw [rng_cons]
    unfold grBody
    simp only [dLoop, dSeq, dIfS, dOr, dAnd, dNot, dTst, dOp, dVar, dC, dCB, dCons, dNil, dRet, dFor, dIfE, dTup, dLst, dFzL, dSl, dNoPart, dPart, dSplit, dJoin, dUpper, dCall, dCallS, dIs, dNeg, dFmt, dJd, dJs, diLT, diL, diT, diS, diR1, diR2, diE, dgN, dgT2, dYes, dLc, dSet, dSetF, dSetZ, dSetL, dSetLZ, dNew, dApp, dAppF, dPut, dPar, dPar3, dAug, dNext, dAndV, dNotV, dOrT, hide, frz, hd1, fz1, D0, endsP, retP, intDI, isND, ntND, eqSS, eqII, neSS, neII, addII, addSS, addLL, ixLI, ixTI, ixSI, slLL, slSS, lenL, lenT, lenS, strI, strS, intI, intB, intS, tupL, tupT, lstL, lstT, minI, flat, List.map_cons, List.map_nil, List.replicate, List.append_eq, List.nil_append, List.cons_append, List.length_cons, List.length_nil, List.getElem?_cons_zero, List.getElem?_cons_succ, List.set_cons_zero, List.set_cons_succ, Option.some.injEq, Ent.d.injEq, Ent.own.injEq, exists_eq_left', exists_eq_left, exists_eq_right, PyData.bool.injEq, PyData.int.injEq, PyData.str.injEq, PyData.list.injEq, PyData.tuple.injEq, true_and, and_true, Nat.zero_add, Nat.add_zero, Nat.sub_self, Nat.reduceAdd, Nat.reduceSub, List.append_nil, Bool.false_eq_true, if_true, if_false, reduceIte, reduceCtorEq, false_and, exists_false, or_false, false_or, Option.map_some, Option.map_none]
    refine fi_draw (by decide) (by decide) fun r r0 r1 => eq_i ?_
    have e1 : ((lo : Nat) : Int) + 1 = ((lo + 1 : Nat) : Int) := by omega
    rw [e1]
    by_cases c : r = 1
    · refine bT (decide_eq_true c) ⟨lsm (by simp [wI]; omega), ?_⟩
      have := ih (acc ++ [(lo : Int)]) (some (.d (.int (lo : Nat)))) (by omega) hn (pw_app h1 fun m hm => (h2 m hm).2) (fun x hx => by
        rcases List.mem_append.mp hx with z | z
        · have := h2 x z
          omega
        · rw [List.mem_singleton.mp z]; omega) (by simp; omega) h
      rw [show wI (acc ++ [(lo : Int)]) = wI acc ++ [.int (lo : Nat)] by simp [wI]] at this
      exact this
    · refine bF (decide_eq_false c) ?_
      exact ih acc (some (.d (.int (lo : Nat)))) (by omega) hn h1 (fun x hx => by have := h2 x hx; omega) (by omega) h
theorem pr_law_group (ds : List PyData) (P : PyData → Prop) (h : F_law_group ds P) : rd_law_group F_law_draw (endsP P) (D0 1 ["_law_source_here", "_law_count", "_law_group_here", "_law_index"] ds) := by
  obtain ⟨n, rfl, hn, hP⟩ := h
  unfold rd_law_group
  simp only [dSeq, dIfS, dOr, dAnd, dNot, dTst, dOp, dVar, dC, dCB, dCons, dNil, dRet, dFor, dIfE, dTup, dLst, dFzL, dSl, dNoPart, dPart, dSplit, dJoin, dUpper, dCall, dCallS, dIs, dNeg, dFmt, dJd, dJs, diLT, diL, diT, diS, diR1, diR2, diE, dgN, dgT2, dYes, dLc, dSet, dSetF, dSetZ, dSetL, dSetLZ, dNew, dApp, dAppF, dPut, dPar, dPar3, dAug, dNext, dAndV, dNotV, dOrT, hide, frz, hd1, fz1, D0, endsP, retP, intDI, isND, ntND, eqSS, eqII, neSS, neII, addII, addSS, addLL, ixLI, ixTI, ixSI, slLL, slSS, lenL, lenT, lenS, strI, strS, intI, intB, intS, tupL, tupT, lstL, lstT, minI, flat, List.map_cons, List.map_nil, List.replicate, List.append_eq, List.nil_append, List.cons_append, List.length_cons, List.length_nil, List.getElem?_cons_zero, List.getElem?_cons_succ, List.set_cons_zero, List.set_cons_succ, Option.some.injEq, Ent.d.injEq, Ent.own.injEq, exists_eq_left', exists_eq_left, exists_eq_right, PyData.bool.injEq, PyData.int.injEq, PyData.str.injEq, PyData.list.injEq, PyData.tuple.injEq, true_and, and_true, Nat.zero_add, Nat.add_zero, Nat.sub_self, Nat.reduceAdd, Nat.reduceSub, List.append_nil, Bool.false_eq_true, if_true, if_false, reduceIte, reduceCtorEq, false_and, exists_false, or_false, false_or, Option.map_some, Option.map_none]
  refine ⟨z0, _, rfl, (r62 (by omega) (by omega)).1, (r62 (by omega) (by omega)).2, ?_⟩
  have := group_loop (n := n) (W := .d (.int (n : Nat))) (P := P) (rt := (endsP P).rt) n 0 [] none (by omega) hn .nil (fun _ z => nomatch z) (by simp) hP
  rw [Int.toNat_natCast]
  exact this
end K82
set_option Elab.async false
set_option linter.all false
set_option maxRecDepth 100000
set_option maxHeartbeats 4000000
namespace K82
open PySem PySem.Spec PyProof.Rows L2 Ly SX
theorem z3 : (3 : Nat) ≤ sizeLine := by decide
theorem cmul {i j : Int} (h1 : -1000000 ≤ i) (h2 : i ≤ 1000000) (h3 : -1000000 ≤ j) (h4 : j ≤ 1000000) : CMul i j := by
  have e : (2 : Int) ^ 64 = 18446744073709551616 := rfl
  unfold CMul
  rw [e]
  omega
def F_law_plan (e : Nat) : FD := fun ds P => ∃ n : Nat, ds = [.int (n : Nat), .int (e : Nat)] ∧ n ≤ 12 ∧ e ≤ 2 ∧ ∀ p, LpOk p → plDp p ≤ e → P (lpD p)
theorem groups_go {a b c d e : Option Ent} {W : Option Ent} {n : Nat} {P : PyData → Prop} (hn : n ≤ 12) : ∀ (k : Nat) (lo : Int) (acc : List (List Int)), acc.length + k ≤ 3 → (∀ l ∈ acc, LotG l ∧ l.length ≤ 12) → (∀ ls : List (List Int), ls.length ≤ 3 → (∀ l ∈ ls, LotG l ∧ l.length ≤ 12) → P (.list (lsD ls))) →
    dLcGo 6 dYes (dCallS 0 2 F_law_group (dCons (dVar 1) dNil)) [some .src, some (.d (.int (n : Nat))), a, b, c, d, e] (fun xs => P (.list xs)) (rngD lo k) (lsD acc)
  | 0, lo, acc, hl, ha, h => h acc (by omega) ha
  | k + 1, lo, acc, hl, ha, h => by
    have ih := groups_go (a := a) (b := b) (c := c) (d := d) (e := e) (W := W) (n := n) (P := P) hn k (lo + 1)
    rw [rng_cons]
    simp only [dLcGo, dSeq, dIfS, dOr, dAnd, dNot, dTst, dOp, dVar, dC, dCB, dCons, dNil, dRet, dFor, dIfE, dTup, dLst, dFzL, dSl, dNoPart, dPart, dSplit, dJoin, dUpper, dCall, dCallS, dIs, dNeg, dFmt, dJd, dJs, diLT, diL, diT, diS, diR1, diR2, diE, dgN, dgT2, dYes, dLc, dSet, dSetF, dSetZ, dSetL, dSetLZ, dNew, dApp, dAppF, dPut, dPar, dPar3, dAug, dNext, dAndV, dNotV, dOrT, hide, frz, hd1, fz1, D0, endsP, retP, intDI, isND, ntND, eqSS, eqII, neSS, neII, addII, addSS, addLL, ixLI, ixTI, ixSI, slLL, slSS, lenL, lenT, lenS, strI, strS, intI, intB, intS, tupL, tupT, lstL, lstT, minI, flat, List.map_cons, List.map_nil, List.replicate, List.append_eq, List.nil_append, List.cons_append, List.length_cons, List.length_nil, List.getElem?_cons_zero, List.getElem?_cons_succ, List.set_cons_zero, List.set_cons_succ, Option.some.injEq, Ent.d.injEq, Ent.own.injEq, exists_eq_left', exists_eq_left, exists_eq_right, PyData.bool.injEq, PyData.int.injEq, PyData.str.injEq, PyData.list.injEq, PyData.tuple.injEq, true_and, and_true, Nat.zero_add, Nat.add_zero, Nat.sub_self, Nat.reduceAdd, Nat.reduceSub, List.append_nil, Bool.false_eq_true, if_true, if_false, reduceIte, reduceCtorEq, false_and, exists_false, or_false, false_or, Option.map_some, Option.map_none]
    refine ⟨n, rfl, by omega, fun l h1 h2 => ⟨lsm (by simp [lsD]; omega), ?_⟩⟩
    have := ih (acc ++ [l]) (by simp; omega) (fun l' hl' => by
      rcases List.mem_append.mp hl' with z | z
      · exact ha l' z
      · rw [List.mem_singleton.mp z]; exact ⟨h1, by omega⟩) h
    rw [show lsD (acc ++ [l]) = lsD acc ++ [.list (wI l)] by simp [lsD]] at this
    exact this
theorem lm_le {k : Nat} : ∀ (ls : List (List Int)), (∀ l ∈ ls, l.length ≤ k) → lm ls ≤ ls.length * (k + 1)
  | [], _ => by simp [lm]
  | l :: ls, h => by
    have ih := lm_le (k := k) ls fun l hl => h l (List.mem_cons_of_mem _ hl)
    have := h l List.mem_cons_self
    simp only [lm, List.map_cons, List.sum_cons, List.length_cons] at ih ⊢
    rw [Nat.succ_mul]
    omega
theorem pr_law_plan (e : Nat) (Fp : FD) (hF : ∀ d, e = d + 1 → Fp = F_law_plan d) (ds : List PyData) (P : PyData → Prop) (h : F_law_plan e ds P) : rd_law_plan F_law_draw F_law_group Fp (endsP P) (D0 1 ["_law_source_here", "_law_count", "_law_deep", "_law_kind", "_law_first", "_law_second", "_law_index"] ds) := by
  obtain ⟨n, rfl, hn, he, hP⟩ := h
  unfold rd_law_plan
  simp only [dSeq, dIfS, dOr, dAnd, dNot, dTst, dOp, dVar, dC, dCB, dCons, dNil, dRet, dFor, dIfE, dTup, dLst, dFzL, dSl, dNoPart, dPart, dSplit, dJoin, dUpper, dCall, dCallS, dIs, dNeg, dFmt, dJd, dJs, diLT, diL, diT, diS, diR1, diR2, diE, dgN, dgT2, dYes, dLc, dSet, dSetF, dSetZ, dSetL, dSetLZ, dNew, dApp, dAppF, dPut, dPar, dPar3, dAug, dNext, dAndV, dNotV, dOrT, hide, frz, hd1, fz1, D0, endsP, retP, intDI, isND, ntND, eqSS, eqII, neSS, neII, addII, addSS, addLL, ixLI, ixTI, ixSI, slLL, slSS, lenL, lenT, lenS, strI, strS, intI, intB, intS, tupL, tupT, lstL, lstT, minI, flat, List.map_cons, List.map_nil, List.replicate, List.append_eq, List.nil_append, List.cons_append, List.length_cons, List.length_nil, List.getElem?_cons_zero, List.getElem?_cons_succ, List.set_cons_zero, List.set_cons_succ, Option.some.injEq, Ent.d.injEq, Ent.own.injEq, exists_eq_left', exists_eq_left, exists_eq_right, PyData.bool.injEq, PyData.int.injEq, PyData.str.injEq, PyData.list.injEq, PyData.tuple.injEq, true_and, and_true, Nat.zero_add, Nat.add_zero, Nat.sub_self, Nat.reduceAdd, Nat.reduceSub, List.append_nil, Bool.false_eq_true, if_true, if_false, reduceIte, reduceCtorEq, false_and, exists_false, or_false, false_or, Option.map_some, Option.map_none, lit_most, lit_within, lit_lots, lit_both, lit_either]
  have step : ∀ (m : Int), m = 3 ∨ (m = 5 ∧ 0 < e) → F_law_draw [.int m] fun x =>
      eqD x (PyData.int 0) fun x_1 =>
        ∃ k, x_1 = PyData.bool k ∧
            if k = true then
              F_law_draw [PyData.int (↑n + 2)] fun x => 2 ≤ sizeLine ∧ P (PyData.tuple [PyData.str (S kMost), x])
            else
              eqD x (PyData.int 1) fun x_2 =>
                ∃ k, x_2 = PyData.bool k ∧
                    if k = true then
                      CMul 2 ↑n ∧
                        F_law_draw [PyData.int (2 * ↑n + 2)] fun x =>
                          2 ≤ sizeLine ∧ P (PyData.tuple [PyData.str (S kWithin), x])
                    else
                      eqD x (PyData.int 2) fun x_3 =>
                        ∃ k, x_3 = PyData.bool k ∧
                            if k = true then
                              F_law_draw [PyData.int 4] fun x_4 =>
                                ∃ j, [x_4] = [PyData.int j] ∧ -2 ^ 62 ≤ j ∧ j < 2 ^ 62 ∧
                                        dLcGo 6 dYes (dCallS 0 2 F_law_group (dCons (dVar 1) dNil))
                                          [some Ent.src, some (Ent.d (PyData.int ↑n)), some (Ent.d (PyData.int ↑e)),
                                            some (Ent.d x), none, none, none]
                                          (fun xs => 2 ≤ sizeLine ∧ P (PyData.tuple [PyData.str (S kLots), PyData.list xs]))
                                          (rngD 0 j.toNat) []
                            else
                              Fp [PyData.int ↑n, PyData.int (↑e - 1)] fun x_4 =>
                                Fp [PyData.int ↑n, PyData.int (↑e - 1)] fun x_5 =>
                                  eqD x (PyData.int 3) fun x =>
                                    ∃ k, x = PyData.bool k ∧
                                        if k = true then
                                          3 ≤ sizeLine ∧ P (PyData.tuple [PyData.str (S kBoth), x_4, x_5])
                                        else 3 ≤ sizeLine ∧ P (PyData.tuple [PyData.str (S kEither), x_4, x_5]) := fun m hm => by
    refine fi_draw (by omega) (by omega) fun r r0 r1 => eq_i ?_
    by_cases c0 : r = 0
    · refine bT (decide_eq_true c0) (fi_draw (by omega) (by omega) fun q q0 q1 => ⟨z2, ?_⟩)
      obtain ⟨q, rfl⟩ := Int.eq_ofNat_of_zero_le q0
      exact hP (.most q) (by show q ≤ 99; omega) (Nat.zero_le _)
    refine bF (decide_eq_false c0) (eq_i ?_)
    by_cases c1 : r = 1
    · refine bT (decide_eq_true c1) ⟨cmul (by omega) (by omega) (by omega) (by omega), fi_draw (by omega) (by omega) fun q q0 q1 => ⟨z2, ?_⟩⟩
      obtain ⟨q, rfl⟩ := Int.eq_ofNat_of_zero_le q0
      exact hP (.within q) (by show q ≤ 1000000; omega) (Nat.zero_le _)
    refine bF (decide_eq_false c1) (eq_i ?_)
    by_cases c2 : r = 2
    · refine bT (decide_eq_true c2) (fi_draw (by omega) (by omega) fun q q0 q1 => ⟨_, rfl, (r62 (by omega) (by omega)).1, (r62 (by omega) (by omega)).2, ?_⟩)
      refine groups_go (P := fun x => 2 ≤ sizeLine ∧ P (.tuple [.str (S kLots), x])) (W := none) hn q.toNat 0 [] (by simp; omega) (fun _ z => nomatch z) fun ls h1 h2 => ⟨z2, ?_⟩
      refine hP (.lots ls) ⟨by omega, fun l hl => (h2 l hl).1, ?_⟩ (Nat.zero_le _)
      have := lm_le ls fun l hl => (h2 l hl).2
      omega
    refine bF (decide_eq_false c2) ?_
    obtain ⟨d, rfl⟩ : ∃ d, e = d + 1 := ⟨e - 1, by omega⟩
    have := hF d rfl
    subst this
    rw [show ((d + 1 : Nat) : Int) - 1 = (d : Nat) by omega]
    refine ⟨n, rfl, hn, by omega, fun a ha hda => ⟨n, rfl, hn, by omega, fun b hb hdb => eq_i ?_⟩⟩
    by_cases c3 : r = 3
    · exact bT (decide_eq_true c3) ⟨z3, hP (.both a b) ⟨ha, hb⟩ (by show max _ _ + 1 ≤ _; omega)⟩
    · exact bF (decide_eq_false c3) ⟨z3, hP (.either a b) ⟨ha, hb⟩ (by show max _ _ + 1 ≤ _; omega)⟩
  by_cases c : (1 : Int) < e
  · rw [if_pos c]
    exact ⟨cmul (by omega) (by omega) (by omega) (by omega), step _ (.inr ⟨by omega, by omega⟩)⟩
  · rw [if_neg c]
    refine ⟨cmul (by omega) (by omega) (by omega) (by omega), step _ ?_⟩
    omega
def F_law_whole : FD := fun ds P => ∃ i : Int, ds = [.int i] ∧ P (.bool true)
theorem pr_law_whole (ds : List PyData) (P : PyData → Prop) (h : F_law_whole ds P) : rd_law_whole (endsP P) (D0 0 ["_law_actual"] ds) := by
  obtain ⟨i, rfl, hP⟩ := h
  unfold rd_law_whole
  simp only [dSeq, dIfS, dOr, dAnd, dNot, dTst, dOp, dVar, dC, dCB, dCons, dNil, dRet, dFor, dIfE, dTup, dLst, dFzL, dSl, dNoPart, dPart, dSplit, dJoin, dUpper, dCall, dCallS, dIs, dNeg, dFmt, dJd, dJs, diLT, diL, diT, diS, diR1, diR2, diE, dgN, dgT2, dYes, dLc, dSet, dSetF, dSetZ, dSetL, dSetLZ, dNew, dApp, dAppF, dPut, dPar, dPar3, dAug, dNext, dAndV, dNotV, dOrT, hide, frz, hd1, fz1, D0, endsP, retP, intDI, isND, ntND, eqSS, eqII, neSS, neII, addII, addSS, addLL, ixLI, ixTI, ixSI, slLL, slSS, lenL, lenT, lenS, strI, strS, intI, intB, intS, tupL, tupT, lstL, lstT, minI, flat, List.map_cons, List.map_nil, List.replicate, List.append_eq, List.nil_append, List.cons_append, List.length_cons, List.length_nil, List.getElem?_cons_zero, List.getElem?_cons_succ, List.set_cons_zero, List.set_cons_succ, Option.some.injEq, Ent.d.injEq, Ent.own.injEq, exists_eq_left', exists_eq_left, exists_eq_right, PyData.bool.injEq, PyData.int.injEq, PyData.str.injEq, PyData.list.injEq, PyData.tuple.injEq, true_and, and_true, Nat.zero_add, Nat.add_zero, Nat.sub_self, Nat.reduceAdd, Nat.reduceSub, List.append_nil, Bool.false_eq_true, if_true, if_false, reduceIte, reduceCtorEq, false_and, exists_false, or_false, false_or, Option.map_some, Option.map_none]
  exact hP
end K82
set_option Elab.async false
set_option linter.all false
set_option maxRecDepth 100000
set_option maxHeartbeats 4000000
namespace K82
open PySem PySem.Spec PyProof.Rows L2 Ly SX
def F_lots_once : FD := fun ds P => ∃ ls : List (List Int), ds = [.list (lsD ls)] ∧ ls.length ≤ 24 ∧ ∀ ls' : List (List Int), ls'.Pairwise (· < ·) → (∃ ls0 : List (List Int), ls0.Perm ls ∧ ls'.Sublist ls0) → (ls ≠ [] → ls' ≠ []) → P (.list (lsD ls'))
theorem dl_lst (xs ys : List Int) : PySem.W.dataLt (.list (wI xs)) (.list (wI ys)) = decide (xs < ys) := by
  rw [PySem.W.dataLt_list]
  exact PySem.W.dataLt_ints xs ys
theorem al_lst (xs ys : List Int) : PySem.W.alike (.list (wI xs)) (.list (wI ys)) = true := by
  have := PySem.W.alike_ints xs ys
  simpa [PySem.W.alike, wI] using this
theorem al_lsD (ls : List (List Int)) : PySem.W.AllAlike (lsD ls) := PySem.W.AllAlike.of (enc := fun l : List Int => PyData.list (wI l)) (bs := ls) fun a b => al_lst a b
theorem so_lsD (ls : List (List Int)) : SortOk (lsD ls) := .inl (PySem.W.Sortable.others (enc := fun l : List Int => PyData.list (wI l)) (bs := ls) fun _ => ⟨(fun z => nomatch z), (fun _ z => nomatch z)⟩)
theorem dp_lsD {ls : List (List Int)} : ∀ d ∈ lsD ls, d.depth ≤ 60 := fun d hd => by
  obtain ⟨l, _, rfl⟩ := List.mem_map.mp hd
  simp [PyData.depth, dp_wI]
def leI (a b : List Int) : Bool := !decide (b < a)
def srtI (ls : List (List Int)) : List (List Int) := ls.mergeSort leI
theorem srt_lsD (ls : List (List Int)) : (lsD ls).mergeSort (PySem.W.dataLe false fun d => d) = lsD (srtI ls) := by
  unfold lsD srtI
  refine (List.map_mergeSort fun a _ b _ => ?_).symm
  show leI a b = (!PySem.W.dataLt (.list (wI b)) (.list (wI a)))
  rw [dl_lst]
  rfl
theorem leI_iff {a b : List Int} : leI a b = true ↔ a ≤ b := by
  unfold leI
  simp
theorem srt_pw (ls : List (List Int)) : (srtI ls).Pairwise (· ≤ ·) := by
  have := List.pairwise_mergeSort (le := leI) (fun a b c h1 h2 => leI_iff.mpr (List.le_trans (leI_iff.mp h1) (leI_iff.mp h2))) (fun a b => by
    rcases List.le_total a b with h | h
    · rw [leI_iff.mpr h]; rfl
    · rw [leI_iff.mpr h]; simp) ls
  exact this.imp fun h => leI_iff.mp h
theorem srt_perm (ls : List (List Int)) : (srtI ls).Perm ls := List.mergeSort_perm ls leI
theorem sh_lst (a : List Int) : SeqAt.shaped (.list (wI a)) = true := by
  simp [SeqAt.shaped, PyData.canLay0, lay_wI, PyData.depth, dp_wI]
theorem lay_lsD : ∀ ls : List (List Int), PyData.canLayAll0 (lsD ls) = true
  | [] => by simp [lsD, PyData.canLayAll0]
  | l :: ls => by
    have ih := lay_lsD ls
    simp only [lsD, List.map_cons, PyData.canLayAll0, PyData.canLay0] at ih ⊢
    simp [ih, lay_wI]
theorem dpa_lsD : ∀ ls : List (List Int), PyData.depthAll (lsD ls) ≤ 1
  | [] => by simp [lsD, PyData.depthAll]
  | l :: ls => by
    have ih := dpa_lsD ls
    simp only [lsD, List.map_cons, PyData.depthAll, PyData.depth] at ih ⊢
    rw [dp_wI]
    omega
theorem sh_lsts (ls : List (List Int)) : SeqAt.shaped (.list (lsD ls)) = true := by
  have := dpa_lsD ls
  simp [SeqAt.shaped, PyData.canLay0, lay_lsD, PyData.depth]
  omega
theorem eqv_lst (a b : List Int) : PyData.eqv (.list (wI a)) (.list (wI b)) = decide (a = b) := by
  rw [← eqv_wI]
  simp [PyData.eqv]
theorem nin_lsts {a : List Int} {ls : List (List Int)} {Q : PyData → Prop} (h : Q (.bool (!decide (a ∈ ls)))) : ninD (.list (wI a)) (.list (lsD ls)) Q := by
  refine ⟨sh_lst a, sh_lsts ls, _, rfl, ?_⟩
  have e : ((lsD ls).any fun z => z.eqv (.list (wI a))) = decide (a ∈ ls) := by
    rw [Bool.eq_iff_iff]
    simp only [lsD, List.any_map, List.any_eq_true, Function.comp, eqv_lst, decide_eq_true_eq]
    constructor
    · rintro ⟨x, h1, rfl⟩; exact h1
    · intro h; exact ⟨a, h, rfl⟩
  rw [e]
  exact h
def onBody : DS := (dIfS (dTst (dOp ninD (dVar 2) (dVar 1)))
    (dApp 1 (dVar 2))
    dNext)
theorem once_loop {W : Ent} {rt : Ent → Prop} {nx : DSt → Prop} (ls : List (List Int)) (hL : ls.Pairwise (· ≤ ·)) (hl : ls.length ≤ 24) : ∀ (q p acc : List (List Int)) (z : Option Ent), ls = p ++ q → acc.Pairwise (· < ·) → acc.Sublist p → (∀ l ∈ p, l ∈ acc) →
    (∀ ls' z, ls'.Pairwise (· < ·) → ls'.Sublist ls → (∀ l ∈ ls, l ∈ ls') → nx [some W, some (.own (lsD ls')), z]) →
    dLoop (dgN 2) onBody { nx := nx, rt := rt } (lsD q) [some W, some (.own (lsD acc)), z]
  | [], p, acc, z, e, h1, h2, h3, h => by
    rw [List.append_nil] at e
    subst e
    exact h acc z h1 h2 h3
  | l :: q, p, acc, z, e, h1, h2, h3, h => by
    have ih := once_loop (W := W) (rt := rt) (nx := nx) ls hL hl q (p ++ [l])
    unfold lsD onBody
    simp only [dLoop, dSeq, dIfS, dOr, dAnd, dNot, dTst, dOp, dVar, dC, dCB, dCons, dNil, dRet, dFor, dIfE, dTup, dLst, dFzL, dSl, dNoPart, dPart, dSplit, dJoin, dUpper, dCall, dCallS, dIs, dNeg, dFmt, dJd, dJs, diLT, diL, diT, diS, diR1, diR2, diE, dgN, dgT2, dYes, dLc, dSet, dSetF, dSetZ, dSetL, dSetLZ, dNew, dApp, dAppF, dPut, dPar, dPar3, dAug, dNext, dAndV, dNotV, dOrT, hide, frz, hd1, fz1, D0, endsP, retP, intDI, isND, ntND, eqSS, eqII, neSS, neII, addII, addSS, addLL, ixLI, ixTI, ixSI, slLL, slSS, lenL, lenT, lenS, strI, strS, intI, intB, intS, tupL, tupT, lstL, lstT, minI, flat, List.map_cons, List.map_nil, List.replicate, List.append_eq, List.nil_append, List.cons_append, List.length_cons, List.length_nil, List.getElem?_cons_zero, List.getElem?_cons_succ, List.set_cons_zero, List.set_cons_succ, Option.some.injEq, Ent.d.injEq, Ent.own.injEq, exists_eq_left', exists_eq_left, exists_eq_right, PyData.bool.injEq, PyData.int.injEq, PyData.str.injEq, PyData.list.injEq, PyData.tuple.injEq, true_and, and_true, Nat.zero_add, Nat.add_zero, Nat.sub_self, Nat.reduceAdd, Nat.reduceSub, List.append_nil, Bool.false_eq_true, if_true, if_false, reduceIte, reduceCtorEq, false_and, exists_false, or_false, false_or, Option.map_some, Option.map_none]
    refine nin_lsts (ls := acc) ?_
    by_cases c : l ∈ acc
    · rw [decide_eq_true c]
      refine bF rfl ?_
      exact ih acc _ (by rw [e]; simp) h1 (h2.trans (List.sublist_append_left p [l])) (fun m hm => by
        rcases List.mem_append.mp hm with z | z
        · exact h3 m z
        · rw [List.mem_singleton.mp z]; exact c) h
    · rw [decide_eq_false c]
      have hlen : acc.length ≤ 24 := by
        have := h2.length_le
        rw [e] at hl
        simp at hl
        omega
      refine bT rfl ⟨lsm (by rw [List.length_map]; omega), ?_⟩
      have := ih (acc ++ [l]) (some (.d (.list (wI l)))) (by rw [e]; simp) (pw_app h1 fun m hm => ?_) (h2.append (List.Sublist.refl [l])) (fun m hm => by
        rcases List.mem_append.mp hm with z | z
        · exact List.mem_append_left _ (h3 m z)
        · exact List.mem_append_right _ z) h
      · rw [show lsD (acc ++ [l]) = lsD acc ++ [.list (wI l)] by simp [lsD]] at this
        exact this
      · rw [e, List.pairwise_append] at hL
        have hle := hL.2.2 m (h2.subset hm) l List.mem_cons_self
        by_cases g : m < l
        · exact g
        · exact absurd (List.le_antisymm hle g ▸ hm) c
theorem pr_lots_once (ds : List PyData) (P : PyData → Prop) (h : F_lots_once ds P) : rd_law_lots_once (endsP P) (D0 0 ["_law_lots", "_law_kept", "_law_lot"] ds) := by
  obtain ⟨ls, rfl, hl, hP⟩ := h
  unfold rd_law_lots_once
  simp only [dSeq, dIfS, dOr, dAnd, dNot, dTst, dOp, dVar, dC, dCB, dCons, dNil, dRet, dFor, dIfE, dTup, dLst, dFzL, dSl, dNoPart, dPart, dSplit, dJoin, dUpper, dCall, dCallS, dIs, dNeg, dFmt, dJd, dJs, diLT, diL, diT, diS, diR1, diR2, diE, dgN, dgT2, dYes, dLc, dSet, dSetF, dSetZ, dSetL, dSetLZ, dNew, dApp, dAppF, dPut, dPar, dPar3, dAug, dNext, dAndV, dNotV, dOrT, hide, frz, hd1, fz1, D0, endsP, retP, intDI, isND, ntND, eqSS, eqII, neSS, neII, addII, addSS, addLL, ixLI, ixTI, ixSI, slLL, slSS, lenL, lenT, lenS, strI, strS, intI, intB, intS, tupL, tupT, lstL, lstT, minI, flat, List.map_cons, List.map_nil, List.replicate, List.append_eq, List.nil_append, List.cons_append, List.length_cons, List.length_nil, List.getElem?_cons_zero, List.getElem?_cons_succ, List.set_cons_zero, List.set_cons_succ, Option.some.injEq, Ent.d.injEq, Ent.own.injEq, exists_eq_left', exists_eq_left, exists_eq_right, PyData.bool.injEq, PyData.int.injEq, PyData.str.injEq, PyData.list.injEq, PyData.tuple.injEq, true_and, and_true, Nat.zero_add, Nat.add_zero, Nat.sub_self, Nat.reduceAdd, Nat.reduceSub, List.append_nil, Bool.false_eq_true, if_true, if_false, reduceIte, reduceCtorEq, false_and, exists_false, or_false, false_or, Option.map_some, Option.map_none]
  refine ⟨z0, al_lsD ls, so_lsD ls, dp_lsD, _, rfl, ?_⟩
  rw [srt_lsD]
  have hp := srt_perm ls
  refine once_loop (W := .d (.list (lsD ls))) (srtI ls) (srt_pw ls) (by rw [hp.length_eq]; exact hl) (srtI ls) [] [] none rfl .nil (List.Sublist.refl _) (fun _ z => nomatch z) fun ls' z h1 h2 h3 => ?_
  simp only [dSeq, dIfS, dOr, dAnd, dNot, dTst, dOp, dVar, dC, dCB, dCons, dNil, dRet, dFor, dIfE, dTup, dLst, dFzL, dSl, dNoPart, dPart, dSplit, dJoin, dUpper, dCall, dCallS, dIs, dNeg, dFmt, dJd, dJs, diLT, diL, diT, diS, diR1, diR2, diE, dgN, dgT2, dYes, dLc, dSet, dSetF, dSetZ, dSetL, dSetLZ, dNew, dApp, dAppF, dPut, dPar, dPar3, dAug, dNext, dAndV, dNotV, dOrT, hide, frz, hd1, fz1, D0, endsP, retP, intDI, isND, ntND, eqSS, eqII, neSS, neII, addII, addSS, addLL, ixLI, ixTI, ixSI, slLL, slSS, lenL, lenT, lenS, strI, strS, intI, intB, intS, tupL, tupT, lstL, lstT, minI, flat, List.map_cons, List.map_nil, List.replicate, List.append_eq, List.nil_append, List.cons_append, List.length_cons, List.length_nil, List.getElem?_cons_zero, List.getElem?_cons_succ, List.set_cons_zero, List.set_cons_succ, Option.some.injEq, Ent.d.injEq, Ent.own.injEq, exists_eq_left', exists_eq_left, exists_eq_right, PyData.bool.injEq, PyData.int.injEq, PyData.str.injEq, PyData.list.injEq, PyData.tuple.injEq, true_and, and_true, Nat.zero_add, Nat.add_zero, Nat.sub_self, Nat.reduceAdd, Nat.reduceSub, List.append_nil, Bool.false_eq_true, if_true, if_false, reduceIte, reduceCtorEq, false_and, exists_false, or_false, false_or, Option.map_some, Option.map_none]
  refine hP ls' h1 ⟨_, hp, h2⟩ fun hne e => ?_
  subst e
  cases q : srtI ls with
  | nil => rw [q] at hp; exact hne (List.nil_perm.mp hp)
  | cons a r => rw [q] at h3; exact absurd (h3 a List.mem_cons_self) (fun z => nomatch z)
end K82
set_option Elab.async false
set_option linter.all false
set_option maxRecDepth 100000
set_option maxHeartbeats 4000000
namespace K82
open PySem PySem.Spec PyProof.Rows L2 Ly SX
def lotW (l : List Int) : Wd := if l = [] then [45] else TL.joinL [44] (l.map itx)
def lotsW (ls : List (List Int)) : Wd := if ls = [] then wNone else TL.joinL [47] (ls.map lotW)
def dtx : Pl → Wd
  | .most n => kMost ++ 32 :: wn n
  | .within n => kWithin ++ 32 :: wn n
  | .lots ls => kLots ++ 32 :: lotsW ls
  | .both a b => kBoth ++ 32 :: (dtx a ++ 32 :: dtx b)
  | .either a b => kEither ++ 32 :: (dtx a ++ 32 :: dtx b)
theorem joinL_len (s : Wd) : ∀ ps : List Wd, (TL.joinL s ps).length ≤ (ps.map List.length).sum + ps.length * s.length
  | [] => by simp [TL.joinL]
  | [p] => by simp [TL.joinL]
  | p :: q :: r => by
    have ih := joinL_len s (q :: r)
    have e : TL.joinL s (p :: q :: r) = p ++ s ++ TL.joinL s (q :: r) := by simp [TL.joinL]
    rw [e]
    simp only [List.length_append, List.map_cons, List.sum_cons, List.length_cons, Nat.succ_mul] at ih ⊢
    omega
theorem itx_len2 {i : Int} (h : 0 ≤ i) (h2 : i ≤ 39) : (itx i).length ≤ 2 := by
  obtain ⟨n, rfl⟩ := Int.eq_ofNat_of_zero_le h
  rw [show itx ((n : Nat) : Int) = TL.numL n from itx_nat n]
  exact TL.numL_len (by decide) (by omega)
theorem sum_le {α : Type} {f : α → Nat} {k : Nat} : ∀ l : List α, (∀ x ∈ l, f x ≤ k) → (l.map f).sum ≤ l.length * k
  | [], _ => by simp
  | x :: l, h => by
    have ih := sum_le (f := f) (k := k) l fun y hy => h y (List.mem_cons_of_mem _ hy)
    have := h x List.mem_cons_self
    simp only [List.map_cons, List.sum_cons, List.length_cons, Nat.succ_mul]
    omega
theorem lotW_len {l : List Int} (h : LotG l) : (lotW l).length ≤ 3 * l.length + 1 := by
  unfold lotW
  split
  · simp
  · have := joinL_len [44] (l.map itx)
    have h2 := sum_le (f := fun i => (itx i).length) (k := 2) l fun n hn => itx_len2 (h.2 n hn).1 (h.2 n hn).2
    rw [List.map_map] at this
    have e : (l.map (List.length ∘ itx)).sum = (l.map fun i => (itx i).length).sum := rfl
    rw [e] at this
    simp at this
    omega
theorem lots_sum : ∀ {ls : List (List Int)}, (∀ l ∈ ls, LotG l) → ((ls.map lotW).map List.length).sum + ls.length ≤ 3 * lm ls
  | [], _ => by simp [lm]
  | l :: ls, h => by
    have ih := lots_sum (ls := ls) fun m hm => h m (List.mem_cons_of_mem _ hm)
    have := lotW_len (h l List.mem_cons_self)
    simp only [lm, List.map_cons, List.sum_cons, List.length_cons] at ih ⊢
    omega
theorem lotsW_len {ls : List (List Int)} (h : ∀ l ∈ ls, LotG l) (h2 : lm ls ≤ 64) : (lotsW ls).length ≤ 196 := by
  unfold lotsW
  split
  · decide
  · have := joinL_len [47] (ls.map lotW)
    have h3 := lots_sum h
    simp only [List.length_map, List.length_cons, List.length_nil] at this h3
    omega
theorem dtx_len : ∀ {q : Pl}, PlG q → (dtx q).length + 20 ≤ 240 * 2 ^ plDp q
  | .most n, h => by
    have h' : n ≤ 99 := h
    have := wn_len (n := n) (by omega)
    simp only [dtx, List.length_append, List.length_cons, plDp, kMost, List.length_nil]
    omega
  | .within n, h => by
    have h' : n ≤ 1000000 := h
    have := wn_len (n := n) (by omega)
    simp only [dtx, List.length_append, List.length_cons, plDp, kWithin, List.length_nil]
    omega
  | .lots ls, h => by
    have := lotsW_len h.2.2.1 h.2.2.2
    simp only [dtx, List.length_append, List.length_cons, plDp, kLots, List.length_nil]
    omega
  | .both a b, h => by
    have h1 := dtx_len h.1
    have h2 := dtx_len h.2
    have g1 : 2 ^ plDp a ≤ 2 ^ max (plDp a) (plDp b) := Nat.pow_le_pow_right (by decide) (Nat.le_max_left _ _)
    have g2 : 2 ^ plDp b ≤ 2 ^ max (plDp a) (plDp b) := Nat.pow_le_pow_right (by decide) (Nat.le_max_right _ _)
    simp only [dtx, List.length_append, List.length_cons, plDp, kBoth, List.length_nil, Nat.pow_succ]
    omega
  | .either a b, h => by
    have h1 := dtx_len h.1
    have h2 := dtx_len h.2
    have g1 : 2 ^ plDp a ≤ 2 ^ max (plDp a) (plDp b) := Nat.pow_le_pow_right (by decide) (Nat.le_max_left _ _)
    have g2 : 2 ^ plDp b ≤ 2 ^ max (plDp a) (plDp b) := Nat.pow_le_pow_right (by decide) (Nat.le_max_right _ _)
    simp only [dtx, List.length_append, List.length_cons, plDp, kEither, List.length_nil, Nat.pow_succ]
    omega
theorem fi_join {a : Wd} {parts : List Wd} {Q : PyData → Prop} (h : (parts.map List.length).sum + parts.length * a.length ≤ 16777216) (q : Q (.str (S (TL.joinL a parts)))) :
    ∃ ys : List Str, strsOf (.list (wsD parts)) = some (ys.map PyData.str) ∧ (ys.map (·.length)).sum + ys.length * (S a).length ≤ 16777216 ∧ Q (.str (Txt.join (S a) ys)) := by
  refine ⟨parts.map S, ?_, ?_, ?_⟩
  · simp [strsOf, wsD]
  · rw [List.map_map, List.length_map, S_len]
    have e : (parts.map ((fun x : Str => x.length) ∘ S)).sum = (parts.map List.length).sum := by
      exact congrArg List.sum (List.map_congr_left fun p _ => S_len p)
    rw [e]
    exact h
  · rw [join_S]
    exact q
theorem js1 (parts : List Wd) : strsOf (.list (wsD parts)) = some ((parts.map S).map PyData.str) := by simp [strsOf, wsD]
theorem js2 {parts : List Wd} {a : Wd} (h : (parts.map List.length).sum + parts.length * a.length ≤ 16777216) : ((parts.map S).map (·.length)).sum + (parts.map S).length * (S a).length ≤ 16777216 := by
  rw [List.map_map, List.length_map, S_len]
  have e : (parts.map ((fun x : Str => x.length) ∘ S)).sum = (parts.map List.length).sum := congrArg List.sum (List.map_congr_left fun p _ => S_len p)
  rw [e]
  exact h
theorem lit_lots_ : Str.ofString "lots " = S (kLots ++ [32]) := lit _
theorem lit_lotsnone : Str.ofString "lots none" = S (kLots ++ 32 :: wNone) := lit _
def F_doubt_text (e : Nat) : FD := fun ds P => ∃ p, ds = [lpD p] ∧ LpOk p ∧ plDp p ≤ e ∧ e ≤ 5 ∧ ∀ q, PlG q → plDp q = plDp p → P (.str (S (dtx q)))
theorem fi_add {a b : Wd} {Q : PyData → Prop} (h : a.length + b.length ≤ 1000000) (q : Q (.str (S (a ++ b)))) : addD (.str (S a)) (.str (S b)) Q := by
  rw [addSS, S_cat, S_len, S_len]
  exact ⟨lsm h, q⟩
theorem fi_str {i : Int} {Q : PyData → Prop} (h : -(10 ^ 12) < i) (h2 : i < 10 ^ 12) (q : Q (.str (S (itx i)))) : toStrD [.int i] Q := by
  rw [strI, toStr_itx]
  exact ⟨log_ok h h2, q⟩
theorem small_log {n : Nat} (h : n ≤ 1000000) : ((n : Nat) : Int).natAbs.log2 < 1920 := log_ok (by omega) (by omega)
theorem lm_sub {a b : List (List Int)} (h : a.Sublist b) : lm a ≤ lm b := by
  unfold lm
  induction h with
  | slnil => exact Nat.le_refl _
  | cons x _ ih => rw [List.map_cons, List.sum_cons]; omega
  | cons_cons x _ ih => rw [List.map_cons, List.map_cons, List.sum_cons, List.sum_cons]; omega
theorem lm_perm {a b : List (List Int)} (h : a.Perm b) : lm a = lm b := (h.map _).sum_nat
theorem lm_mem {l : List Int} : ∀ {ls : List (List Int)}, l ∈ ls → l.length ≤ lm ls
  | m :: ls, h => by
    simp only [lm, List.map_cons, List.sum_cons]
    rcases List.mem_cons.mp h with z | z
    · subst z; omega
    · have := lm_mem z
      unfold lm at this
      omega
theorem itx_ne_nil (i : Int) : itx i ≠ [] := by
  unfold itx
  split
  · exact fun z => nomatch z
  · exact TL.numL_ne _
theorem join_nil {s : Wd} {l : List Int} (h : TL.joinL s (l.map itx) = []) (h2 : ∀ i, itx i ≠ []) : l = [] := by
  match l, h with
  | [], _ => rfl
  | [a], h => exact absurd h (h2 a)
  | a :: b :: r, h =>
    have e : TL.joinL s ((a :: b :: r).map itx) = itx a ++ (s ++ TL.joinL s ((b :: r).map itx)) := rfl
    rw [e] at h
    exact absurd (List.append_eq_nil_iff.mp h).1 (h2 a)
theorem pr_doubt_text (e : Nat) (Fd : FD) (hF : ∀ d, e = d + 1 → Fd = F_doubt_text d) (ds : List PyData) (P : PyData → Prop) (h : F_doubt_text e ds P) : rd_law_doubt_text F_lots_once Fd (endsP P) (D0 0 ["_law_plan_here", "_law_lots", "_law_lot", "_law_number_here"] ds) := by
  obtain ⟨p, rfl, hp, hd, he, hP⟩ := h
  unfold rd_law_doubt_text
  have hpow : 2 ^ plDp p ≤ 32 := Nat.le_trans (Nat.pow_le_pow_right (by decide) (Nat.le_trans hd he)) (by decide)
  cases p with
  | most n =>
    have hn : n ≤ 99 := hp
    have l1 := wn_len (n := n) (by omega)
    have l1' : (itx (n : Nat)).length ≤ 12 := by rw [itx_nat]; exact l1
    simp only [dSeq, dIfS, dOr, dAnd, dNot, dTst, dOp, dVar, dC, dCB, dCons, dNil, dRet, dFor, dIfE, dTup, dLst, dFzL, dSl, dNoPart, dPart, dSplit, dJoin, dUpper, dCall, dCallS, dIs, dNeg, dFmt, dJd, dJs, diLT, diL, diT, diS, diR1, diR2, diE, dgN, dgT2, dYes, dLc, dSet, dSetF, dSetZ, dSetL, dSetLZ, dNew, dApp, dAppF, dPut, dPar, dPar3, dAug, dNext, dAndV, dNotV, dOrT, hide, frz, hd1, fz1, D0, endsP, retP, intDI, isND, ntND, eqSS, eqII, neSS, neII, addII, addSS, addLL, ixLI, ixTI, ixSI, slLL, slSS, lenL, lenT, lenS, strI, strS, intI, intB, intS, tupL, tupT, lstL, lstT, minI, flat, List.map_cons, List.map_nil, List.replicate, List.append_eq, List.nil_append, List.cons_append, List.length_cons, List.length_nil, List.getElem?_cons_zero, List.getElem?_cons_succ, List.set_cons_zero, List.set_cons_succ, Option.some.injEq, Ent.d.injEq, Ent.own.injEq, exists_eq_left', exists_eq_left, exists_eq_right, PyData.bool.injEq, PyData.int.injEq, PyData.str.injEq, PyData.list.injEq, PyData.tuple.injEq, true_and, and_true, Nat.zero_add, Nat.add_zero, Nat.sub_self, Nat.reduceAdd, Nat.reduceSub, List.append_nil, Bool.false_eq_true, if_true, if_false, reduceIte, reduceCtorEq, false_and, exists_false, or_false, false_or, Option.map_some, Option.map_none, lpD, lit_most, lit_within, lit_lots, lit_both, lit_either, lit_sp]
    refine ⟨_, at0, eq_w (bT rfl ⟨_, at0, fi_add (by decide) ⟨_, at1, fi_str (by omega) (by omega) (fi_add ?_ ?_)⟩⟩)⟩
    · simp only [List.length_append, kMost, List.length_cons, List.length_nil]; omega
    · have := hP (.most n) hn rfl
      rw [itx_nat, List.append_assoc]
      exact this
  | within n =>
    have hn : n ≤ 1000000 := hp
    have l1 := wn_len (n := n) (by omega)
    have l1' : (itx (n : Nat)).length ≤ 12 := by rw [itx_nat]; exact l1
    simp only [dSeq, dIfS, dOr, dAnd, dNot, dTst, dOp, dVar, dC, dCB, dCons, dNil, dRet, dFor, dIfE, dTup, dLst, dFzL, dSl, dNoPart, dPart, dSplit, dJoin, dUpper, dCall, dCallS, dIs, dNeg, dFmt, dJd, dJs, diLT, diL, diT, diS, diR1, diR2, diE, dgN, dgT2, dYes, dLc, dSet, dSetF, dSetZ, dSetL, dSetLZ, dNew, dApp, dAppF, dPut, dPar, dPar3, dAug, dNext, dAndV, dNotV, dOrT, hide, frz, hd1, fz1, D0, endsP, retP, intDI, isND, ntND, eqSS, eqII, neSS, neII, addII, addSS, addLL, ixLI, ixTI, ixSI, slLL, slSS, lenL, lenT, lenS, strI, strS, intI, intB, intS, tupL, tupT, lstL, lstT, minI, flat, List.map_cons, List.map_nil, List.replicate, List.append_eq, List.nil_append, List.cons_append, List.length_cons, List.length_nil, List.getElem?_cons_zero, List.getElem?_cons_succ, List.set_cons_zero, List.set_cons_succ, Option.some.injEq, Ent.d.injEq, Ent.own.injEq, exists_eq_left', exists_eq_left, exists_eq_right, PyData.bool.injEq, PyData.int.injEq, PyData.str.injEq, PyData.list.injEq, PyData.tuple.injEq, true_and, and_true, Nat.zero_add, Nat.add_zero, Nat.sub_self, Nat.reduceAdd, Nat.reduceSub, List.append_nil, Bool.false_eq_true, if_true, if_false, reduceIte, reduceCtorEq, false_and, exists_false, or_false, false_or, Option.map_some, Option.map_none, lpD, lit_most, lit_within, lit_lots, lit_both, lit_either, lit_sp]
    refine ⟨_, at0, eq_w (bF (by decide) ⟨_, at0, eq_w (bT rfl ⟨_, at0, fi_add (by decide) ⟨_, at1, fi_str (by omega) (by omega) (fi_add ?_ ?_)⟩⟩)⟩)⟩
    · simp only [List.length_append, kWithin, List.length_cons, List.length_nil]; omega
    · have := hP (.within n) hn rfl
      rw [itx_nat, List.append_assoc]
      exact this
  | lots ls =>
    simp only [dSeq, dIfS, dOr, dAnd, dNot, dTst, dOp, dVar, dC, dCB, dCons, dNil, dRet, dFor, dIfE, dTup, dLst, dFzL, dSl, dNoPart, dPart, dSplit, dJoin, dUpper, dCall, dCallS, dIs, dNeg, dFmt, dJd, dJs, diLT, diL, diT, diS, diR1, diR2, diE, dgN, dgT2, dYes, dLc, dSet, dSetF, dSetZ, dSetL, dSetLZ, dNew, dApp, dAppF, dPut, dPar, dPar3, dAug, dNext, dAndV, dNotV, dOrT, hide, frz, hd1, fz1, D0, endsP, retP, intDI, isND, ntND, eqSS, eqII, neSS, neII, addII, addSS, addLL, ixLI, ixTI, ixSI, slLL, slSS, lenL, lenT, lenS, strI, strS, intI, intB, intS, tupL, tupT, lstL, lstT, minI, flat, List.map_cons, List.map_nil, List.replicate, List.append_eq, List.nil_append, List.cons_append, List.length_cons, List.length_nil, List.getElem?_cons_zero, List.getElem?_cons_succ, List.set_cons_zero, List.set_cons_succ, Option.some.injEq, Ent.d.injEq, Ent.own.injEq, exists_eq_left', exists_eq_left, exists_eq_right, PyData.bool.injEq, PyData.int.injEq, PyData.str.injEq, PyData.list.injEq, PyData.tuple.injEq, true_and, and_true, Nat.zero_add, Nat.add_zero, Nat.sub_self, Nat.reduceAdd, Nat.reduceSub, List.append_nil, Bool.false_eq_true, if_true, if_false, reduceIte, reduceCtorEq, false_and, exists_false, or_false, false_or, Option.map_some, Option.map_none, lpD, lit_most, lit_within, lit_lots, lit_both, lit_either, lit_sp, lit_lots_, lit_lotsnone, lit_c, lit_s, lit_m]
    refine ⟨_, at0, eq_w (bF (by decide) ⟨_, at0, eq_w (bF (by decide) ⟨_, at0, eq_w (bT rfl ⟨_, at1, ?_⟩)⟩)⟩)⟩
    rw [lenL]
    refine eq_i ?_
    by_cases c : ls = []
    · refine bT (by subst c; rfl) ?_
      have := hP (.lots []) ⟨by decide, .nil, (fun _ z => nomatch z), by decide⟩ rfl
      simpa [dtx, lotsW] using this
    refine bF (decide_eq_false (by simpa [lsD] using c)) ⟨_, at0, eq_w (bT rfl ⟨_, at1, ls, rfl, hp.1, fun ls' h1 h2 h3 => ⟨_, rfl, ?_⟩⟩)⟩
    obtain ⟨ls0, g1, g2⟩ := h2
    have hG : ∀ l ∈ ls', LotG l := fun l hl => hp.2.1 l (g1.subset (g2.subset hl))
    have hm : lm ls' ≤ 64 := by
      have := lm_sub g2
      rw [lm_perm g1] at this
      exact Nat.le_trans this hp.2.2
    have hlen : ls'.length ≤ 24 := by
      have := g2.length_le
      rw [g1.length_eq] at this
      exact Nat.le_trans this hp.1
    refine lc_map (f := fun l => .list (wI l)) (g := fun l => .str (S (lotW l))) ls' [] (fun l hl R hR => ?_) (by simp; omega) ?_
    · have hg := hG l hl
      have hll : l.length ≤ 64 := Nat.le_trans (lm_mem hl) hm
      simp only [dSeq, dIfS, dOr, dAnd, dNot, dTst, dOp, dVar, dC, dCB, dCons, dNil, dRet, dFor, dIfE, dTup, dLst, dFzL, dSl, dNoPart, dPart, dSplit, dJoin, dUpper, dCall, dCallS, dIs, dNeg, dFmt, dJd, dJs, diLT, diL, diT, diS, diR1, diR2, diE, dgN, dgT2, dYes, dLc, dSet, dSetF, dSetZ, dSetL, dSetLZ, dNew, dApp, dAppF, dPut, dPar, dPar3, dAug, dNext, dAndV, dNotV, dOrT, hide, frz, hd1, fz1, D0, endsP, retP, intDI, isND, ntND, eqSS, eqII, neSS, neII, addII, addSS, addLL, ixLI, ixTI, ixSI, slLL, slSS, lenL, lenT, lenS, strI, strS, intI, intB, intS, tupL, tupT, lstL, lstT, minI, flat, List.map_cons, List.map_nil, List.replicate, List.append_eq, List.nil_append, List.cons_append, List.length_cons, List.length_nil, List.getElem?_cons_zero, List.getElem?_cons_succ, List.set_cons_zero, List.set_cons_succ, Option.some.injEq, Ent.d.injEq, Ent.own.injEq, exists_eq_left', exists_eq_left, exists_eq_right, PyData.bool.injEq, PyData.int.injEq, PyData.str.injEq, PyData.list.injEq, PyData.tuple.injEq, true_and, and_true, Nat.zero_add, Nat.add_zero, Nat.sub_self, Nat.reduceAdd, Nat.reduceSub, List.append_nil, Bool.false_eq_true, if_true, if_false, reduceIte, reduceCtorEq, false_and, exists_false, or_false, false_or, Option.map_some, Option.map_none, lit_c, lit_m]
      refine lc_map (f := PyData.int) (g := fun n => .str (S (itx n))) l [] (fun n hn R hR => ?_) (by simp; omega) ?_
      · have := hg.2 n hn
        simp only [dSeq, dIfS, dOr, dAnd, dNot, dTst, dOp, dVar, dC, dCB, dCons, dNil, dRet, dFor, dIfE, dTup, dLst, dFzL, dSl, dNoPart, dPart, dSplit, dJoin, dUpper, dCall, dCallS, dIs, dNeg, dFmt, dJd, dJs, diLT, diL, diT, diS, diR1, diR2, diE, dgN, dgT2, dYes, dLc, dSet, dSetF, dSetZ, dSetL, dSetLZ, dNew, dApp, dAppF, dPut, dPar, dPar3, dAug, dNext, dAndV, dNotV, dOrT, hide, frz, hd1, fz1, D0, endsP, retP, intDI, isND, ntND, eqSS, eqII, neSS, neII, addII, addSS, addLL, ixLI, ixTI, ixSI, slLL, slSS, lenL, lenT, lenS, strI, strS, intI, intB, intS, tupL, tupT, lstL, lstT, minI, flat, List.map_cons, List.map_nil, List.replicate, List.append_eq, List.nil_append, List.cons_append, List.length_cons, List.length_nil, List.getElem?_cons_zero, List.getElem?_cons_succ, List.set_cons_zero, List.set_cons_succ, Option.some.injEq, Ent.d.injEq, Ent.own.injEq, exists_eq_left', exists_eq_left, exists_eq_right, PyData.bool.injEq, PyData.int.injEq, PyData.str.injEq, PyData.list.injEq, PyData.tuple.injEq, true_and, and_true, Nat.zero_add, Nat.add_zero, Nat.sub_self, Nat.reduceAdd, Nat.reduceSub, List.append_nil, Bool.false_eq_true, if_true, if_false, reduceIte, reduceCtorEq, false_and, exists_false, or_false, false_or, Option.map_some, Option.map_none]
        exact fi_str (by omega) (by omega) hR
      · have h2 := sum_le (f := fun i => (itx i).length) (k := 2) l fun n hn => itx_len2 (hg.2 n hn).1 (hg.2 n hn).2
        have e1 : ((l.map itx).map List.length).sum = (l.map fun i => (itx i).length).sum := by rw [List.map_map]; rfl
        have e2 : [] ++ l.map (fun n => PyData.str (S (itx n))) = wsD (l.map itx) := by simp [wsD]
        rw [e2]
        have hj := joinL_len [44] (l.map itx)
        rw [e1] at hj
        simp only [List.length_map, List.length_cons, List.length_nil] at hj
        refine ⟨_, js1 _, js2 ?_, ?_⟩
        · rw [e1]; simp; omega
        rw [join_S]
        refine ⟨?_, ?_⟩
        · rw [S_len]; exact lsm (by omega)
        · rw [S_len]
          unfold lotW at hR
          by_cases cl : l = []
          · subst cl; exact hR
          · rw [if_neg cl] at hR
            refine ifF (beq_eq_false_iff_ne.mpr fun z => ?_) hR
            exact cl (join_nil (by simpa using z) itx_ne_nil)
    · have e2 : [] ++ ls'.map (fun l => PyData.str (S (lotW l))) = wsD (ls'.map lotW) := by simp [wsD]
      rw [e2]
      have hs := lots_sum hG
      have hj := joinL_len [47] (ls'.map lotW)
      simp only [List.length_map, List.length_cons, List.length_nil] at hs hj
      refine ⟨_, js1 _, js2 ?_, ?_⟩
      · simp only [List.length_map, List.length_cons, List.length_nil]; omega
      rw [join_S]
      have := hP (.lots ls') ⟨hlen, h1, hG, hm⟩ rfl
      simp only [dtx, lotsW, if_neg (h3 c)] at this
      refine fi_add ?_ ?_
      · simp only [List.length_append, kLots, List.length_cons, List.length_nil]; omega
      · rw [List.append_assoc]; exact this
  | both a b =>
    obtain ⟨d, rfl⟩ : ∃ d, e = d + 1 := ⟨e - 1, by have : max (plDp a) (plDp b) + 1 ≤ e := hd; omega⟩
    have := hF d rfl
    subst this
    have hd' : max (plDp a) (plDp b) + 1 ≤ d + 1 := hd
    simp only [dSeq, dIfS, dOr, dAnd, dNot, dTst, dOp, dVar, dC, dCB, dCons, dNil, dRet, dFor, dIfE, dTup, dLst, dFzL, dSl, dNoPart, dPart, dSplit, dJoin, dUpper, dCall, dCallS, dIs, dNeg, dFmt, dJd, dJs, diLT, diL, diT, diS, diR1, diR2, diE, dgN, dgT2, dYes, dLc, dSet, dSetF, dSetZ, dSetL, dSetLZ, dNew, dApp, dAppF, dPut, dPar, dPar3, dAug, dNext, dAndV, dNotV, dOrT, hide, frz, hd1, fz1, D0, endsP, retP, intDI, isND, ntND, eqSS, eqII, neSS, neII, addII, addSS, addLL, ixLI, ixTI, ixSI, slLL, slSS, lenL, lenT, lenS, strI, strS, intI, intB, intS, tupL, tupT, lstL, lstT, minI, flat, List.map_cons, List.map_nil, List.replicate, List.append_eq, List.nil_append, List.cons_append, List.length_cons, List.length_nil, List.getElem?_cons_zero, List.getElem?_cons_succ, List.set_cons_zero, List.set_cons_succ, Option.some.injEq, Ent.d.injEq, Ent.own.injEq, exists_eq_left', exists_eq_left, exists_eq_right, PyData.bool.injEq, PyData.int.injEq, PyData.str.injEq, PyData.list.injEq, PyData.tuple.injEq, true_and, and_true, Nat.zero_add, Nat.add_zero, Nat.sub_self, Nat.reduceAdd, Nat.reduceSub, List.append_nil, Bool.false_eq_true, if_true, if_false, reduceIte, reduceCtorEq, false_and, exists_false, or_false, false_or, Option.map_some, Option.map_none, lpD, lit_most, lit_within, lit_lots, lit_both, lit_either, lit_sp, lit_lots_, lit_lotsnone, lit_c, lit_s, lit_m]
    refine ⟨_, at0, eq_w (bF (by decide) ⟨_, at0, eq_w (bF (by decide) ⟨_, at0, eq_w (bF (by decide) ⟨_, at0, eq_w (bF (by decide) ?_)⟩)⟩)⟩)⟩
    refine ⟨_, at0, fi_add (by decide) ⟨_, at1, a, rfl, hp.1, by omega, by omega, fun qa ga da => ?_⟩⟩
    have la := dtx_len ga
    rw [da] at la
    have h1 : 2 ^ plDp a ≤ 32 := Nat.le_trans (Nat.pow_le_pow_right (by decide) (by omega : plDp a ≤ 5)) (by decide)
    have h2 : 2 ^ plDp b ≤ 32 := Nat.le_trans (Nat.pow_le_pow_right (by decide) (by omega : plDp b ≤ 5)) (by decide)
    refine fi_add ?_ (fi_add ?_ ⟨_, at2, b, rfl, hp.2, by omega, by omega, fun qb gb db => ?_⟩)
    · simp only [List.length_append, kBoth, List.length_cons, List.length_nil]; omega
    · simp only [List.length_append, kBoth, List.length_cons, List.length_nil]; omega
    have lb := dtx_len gb
    rw [db] at lb
    refine fi_add ?_ ?_
    · simp only [List.length_append, kBoth, List.length_cons, List.length_nil]; omega
    · have := hP (.both qa qb) ⟨ga, gb⟩ (by show max _ _ + 1 = max _ _ + 1; rw [da, db])
      simp only [dtx] at this
      simpa using this
  | either a b =>
    obtain ⟨d, rfl⟩ : ∃ d, e = d + 1 := ⟨e - 1, by have : max (plDp a) (plDp b) + 1 ≤ e := hd; omega⟩
    have := hF d rfl
    subst this
    have hd' : max (plDp a) (plDp b) + 1 ≤ d + 1 := hd
    simp only [dSeq, dIfS, dOr, dAnd, dNot, dTst, dOp, dVar, dC, dCB, dCons, dNil, dRet, dFor, dIfE, dTup, dLst, dFzL, dSl, dNoPart, dPart, dSplit, dJoin, dUpper, dCall, dCallS, dIs, dNeg, dFmt, dJd, dJs, diLT, diL, diT, diS, diR1, diR2, diE, dgN, dgT2, dYes, dLc, dSet, dSetF, dSetZ, dSetL, dSetLZ, dNew, dApp, dAppF, dPut, dPar, dPar3, dAug, dNext, dAndV, dNotV, dOrT, hide, frz, hd1, fz1, D0, endsP, retP, intDI, isND, ntND, eqSS, eqII, neSS, neII, addII, addSS, addLL, ixLI, ixTI, ixSI, slLL, slSS, lenL, lenT, lenS, strI, strS, intI, intB, intS, tupL, tupT, lstL, lstT, minI, flat, List.map_cons, List.map_nil, List.replicate, List.append_eq, List.nil_append, List.cons_append, List.length_cons, List.length_nil, List.getElem?_cons_zero, List.getElem?_cons_succ, List.set_cons_zero, List.set_cons_succ, Option.some.injEq, Ent.d.injEq, Ent.own.injEq, exists_eq_left', exists_eq_left, exists_eq_right, PyData.bool.injEq, PyData.int.injEq, PyData.str.injEq, PyData.list.injEq, PyData.tuple.injEq, true_and, and_true, Nat.zero_add, Nat.add_zero, Nat.sub_self, Nat.reduceAdd, Nat.reduceSub, List.append_nil, Bool.false_eq_true, if_true, if_false, reduceIte, reduceCtorEq, false_and, exists_false, or_false, false_or, Option.map_some, Option.map_none, lpD, lit_most, lit_within, lit_lots, lit_both, lit_either, lit_sp, lit_lots_, lit_lotsnone, lit_c, lit_s, lit_m]
    refine ⟨_, at0, eq_w (bF (by decide) ⟨_, at0, eq_w (bF (by decide) ⟨_, at0, eq_w (bF (by decide) ⟨_, at0, eq_w (bF (by decide) ?_)⟩)⟩)⟩)⟩
    refine ⟨_, at0, fi_add (by decide) ⟨_, at1, a, rfl, hp.1, by omega, by omega, fun qa ga da => ?_⟩⟩
    have la := dtx_len ga
    rw [da] at la
    have h1 : 2 ^ plDp a ≤ 32 := Nat.le_trans (Nat.pow_le_pow_right (by decide) (by omega : plDp a ≤ 5)) (by decide)
    have h2 : 2 ^ plDp b ≤ 32 := Nat.le_trans (Nat.pow_le_pow_right (by decide) (by omega : plDp b ≤ 5)) (by decide)
    refine fi_add ?_ (fi_add ?_ ⟨_, at2, b, rfl, hp.2, by omega, by omega, fun qb gb db => ?_⟩)
    · simp only [List.length_append, kEither, List.length_cons, List.length_nil]; omega
    · simp only [List.length_append, kEither, List.length_cons, List.length_nil]; omega
    have lb := dtx_len gb
    rw [db] at lb
    refine fi_add ?_ ?_
    · simp only [List.length_append, kEither, List.length_cons, List.length_nil]; omega
    · have := hP (.either qa qb) ⟨ga, gb⟩ (by show max _ _ + 1 = max _ _ + 1; rw [da, db])
      simp only [dtx] at this
      simpa using this
end K82
set_option Elab.async false
set_option linter.all false
set_option maxRecDepth 100000
set_option maxHeartbeats 4000000
namespace K82
open PySem PySem.Spec PyProof.Rows L2 Ly SX
def F_law_chain : FD := fun ds P => ∃ k : Nat, ds = [.int (k : Nat)] ∧ k ≤ 5 ∧ ∀ p, LpOk p → plDp p = k → P (lpD p)
theorem ix2 {a b : PyData} {r : Int} {Q : PyData → Prop} (h : 0 ≤ r) (h2 : r < 2) (qa : r = 0 → Q a) (qb : r = 1 → Q b) : ∃ d, atI [a, b] r = some d ∧ Q d := by
  have : r = 0 ∨ r = 1 := by omega
  rcases this with rfl | rfl
  · exact ⟨_, at0, qa rfl⟩
  · exact ⟨_, at1, qb rfl⟩
def chBody : DS := (dSeq (dSet 4 (dOp ixD (dFzL (dLst (dCons (dC (.str "both")) (dCons (dC (.str "either")) dNil)))) (dCallS 0 2 F_law_draw (dCons (dC (.int 2)) dNil))))
  (dSeq (dSet 5 (dTup (dCons (dC (.str "within")) (dCons (dCallS 0 2 F_law_draw (dCons (dC (.int 9)) dNil)) dNil))))
  (dSet 2 (dOp ixD (dFzL (dLst (dCons (dTup (dCons (dVar 4) (dCons (dVar 2) (dCons (dVar 5) dNil)))) (dCons (dTup (dCons (dVar 4) (dCons (dVar 5) (dCons (dVar 2) dNil)))) dNil)))) (dCallS 0 2 F_law_draw (dCons (dC (.int 2)) dNil))))))
theorem chain_loop {n : Nat} {W : Ent} {P : PyData → Prop} {rt : Ent → Prop} (h : ∀ p, LpOk p → plDp p = n → P (lpD p)) : ∀ (k : Nat) (lo : Int) (p : Pl) (x y z : Option Ent), plDp p + k = n → LpOk p →
    dLoop (dgN 3) chBody { nx := dRet (dVar 2) (endsP P), rt := rt } (rngD lo k) [some .src, some W, some (.d (lpD p)), x, y, z]
  | 0, lo, p, x, y, z, e, hp => by
    cases x <;> cases y <;> cases z <;> simp only [rngD, List.range_zero, List.map_nil, dLoop, dSeq, dIfS, dOr, dAnd, dNot, dTst, dOp, dVar, dC, dCB, dCons, dNil, dRet, dFor, dIfE, dTup, dLst, dFzL, dSl, dNoPart, dPart, dSplit, dJoin, dUpper, dCall, dCallS, dIs, dNeg, dFmt, dJd, dJs, diLT, diL, diT, diS, diR1, diR2, diE, dgN, dgT2, dYes, dLc, dSet, dSetF, dSetZ, dSetL, dSetLZ, dNew, dApp, dAppF, dPut, dPar, dPar3, dAug, dNext, dAndV, dNotV, dOrT, hide, frz, hd1, fz1, D0, endsP, retP, intDI, isND, ntND, eqSS, eqII, neSS, neII, addII, addSS, addLL, ixLI, ixTI, ixSI, slLL, slSS, lenL, lenT, lenS, strI, strS, intI, intB, intS, tupL, tupT, lstL, lstT, minI, flat, List.map_cons, List.map_nil, List.replicate, List.append_eq, List.nil_append, List.cons_append, List.length_cons, List.length_nil, List.getElem?_cons_zero, List.getElem?_cons_succ, List.set_cons_zero, List.set_cons_succ, Option.some.injEq, Ent.d.injEq, Ent.own.injEq, exists_eq_left', exists_eq_left, exists_eq_right, PyData.bool.injEq, PyData.int.injEq, PyData.str.injEq, PyData.list.injEq, PyData.tuple.injEq, true_and, and_true, Nat.zero_add, Nat.add_zero, Nat.sub_self, Nat.reduceAdd, Nat.reduceSub, List.append_nil, Bool.false_eq_true, if_true, if_false, reduceIte, reduceCtorEq, false_and, exists_false, or_false, false_or, Option.map_some, Option.map_none] <;> exact h p hp (by omega)
  | k + 1, lo, p, x, y, z, e, hp => by
    have ih := chain_loop (n := n) (W := W) (P := P) (rt := rt) h k (lo + 1)
    rw [rng_cons]
    unfold chBody
    simp only [dLoop, dSeq, dIfS, dOr, dAnd, dNot, dTst, dOp, dVar, dC, dCB, dCons, dNil, dRet, dFor, dIfE, dTup, dLst, dFzL, dSl, dNoPart, dPart, dSplit, dJoin, dUpper, dCall, dCallS, dIs, dNeg, dFmt, dJd, dJs, diLT, diL, diT, diS, diR1, diR2, diE, dgN, dgT2, dYes, dLc, dSet, dSetF, dSetZ, dSetL, dSetLZ, dNew, dApp, dAppF, dPut, dPar, dPar3, dAug, dNext, dAndV, dNotV, dOrT, hide, frz, hd1, fz1, D0, endsP, retP, intDI, isND, ntND, eqSS, eqII, neSS, neII, addII, addSS, addLL, ixLI, ixTI, ixSI, slLL, slSS, lenL, lenT, lenS, strI, strS, intI, intB, intS, tupL, tupT, lstL, lstT, minI, flat, List.map_cons, List.map_nil, List.replicate, List.append_eq, List.nil_append, List.cons_append, List.length_cons, List.length_nil, List.getElem?_cons_zero, List.getElem?_cons_succ, List.set_cons_zero, List.set_cons_succ, Option.some.injEq, Ent.d.injEq, Ent.own.injEq, exists_eq_left', exists_eq_left, exists_eq_right, PyData.bool.injEq, PyData.int.injEq, PyData.str.injEq, PyData.list.injEq, PyData.tuple.injEq, true_and, and_true, Nat.zero_add, Nat.add_zero, Nat.sub_self, Nat.reduceAdd, Nat.reduceSub, List.append_nil, Bool.false_eq_true, if_true, if_false, reduceIte, reduceCtorEq, false_and, exists_false, or_false, false_or, Option.map_some, Option.map_none, lit_both, lit_either, lit_within]
    refine ⟨z2, fi_draw (by decide) (by decide) fun r r0 r1 => ix2 r0 r1 (fun _ => ?_) fun _ => ?_⟩
    all_goals
      refine fi_draw (by decide) (by decide) fun q q0 q1 => ?_
      obtain ⟨q, rfl⟩ := Int.eq_ofNat_of_zero_le q0
      refine ⟨z2, z3, z3, z2, fi_draw (by decide) (by decide) fun t t0 t1 => ix2 t0 t1 (fun _ => ?_) fun _ => ?_⟩
    · exact ih (.both p (.within q)) _ _ _ (by simp [plDp]; omega) ⟨hp, by show q ≤ 1000000; omega⟩
    · exact ih (.both (.within q) p) _ _ _ (by simp [plDp]; omega) ⟨by show q ≤ 1000000; omega, hp⟩
    · exact ih (.either p (.within q)) _ _ _ (by simp [plDp]; omega) ⟨hp, by show q ≤ 1000000; omega⟩
    · exact ih (.either (.within q) p) _ _ _ (by simp [plDp]; omega) ⟨by show q ≤ 1000000; omega, hp⟩
theorem pr_law_chain (ds : List PyData) (P : PyData → Prop) (h : F_law_chain ds P) : rd_law_chain F_law_draw (endsP P) (D0 1 ["_law_source_here", "_law_deep", "_law_plan_here", "_law_turn", "_law_word", "_law_side"] ds) := by
  obtain ⟨n, rfl, hn, hP⟩ := h
  unfold rd_law_chain
  simp only [dSeq, dIfS, dOr, dAnd, dNot, dTst, dOp, dVar, dC, dCB, dCons, dNil, dRet, dFor, dIfE, dTup, dLst, dFzL, dSl, dNoPart, dPart, dSplit, dJoin, dUpper, dCall, dCallS, dIs, dNeg, dFmt, dJd, dJs, diLT, diL, diT, diS, diR1, diR2, diE, dgN, dgT2, dYes, dLc, dSet, dSetF, dSetZ, dSetL, dSetLZ, dNew, dApp, dAppF, dPut, dPar, dPar3, dAug, dNext, dAndV, dNotV, dOrT, hide, frz, hd1, fz1, D0, endsP, retP, intDI, isND, ntND, eqSS, eqII, neSS, neII, addII, addSS, addLL, ixLI, ixTI, ixSI, slLL, slSS, lenL, lenT, lenS, strI, strS, intI, intB, intS, tupL, tupT, lstL, lstT, minI, flat, List.map_cons, List.map_nil, List.replicate, List.append_eq, List.nil_append, List.cons_append, List.length_cons, List.length_nil, List.getElem?_cons_zero, List.getElem?_cons_succ, List.set_cons_zero, List.set_cons_succ, Option.some.injEq, Ent.d.injEq, Ent.own.injEq, exists_eq_left', exists_eq_left, exists_eq_right, PyData.bool.injEq, PyData.int.injEq, PyData.str.injEq, PyData.list.injEq, PyData.tuple.injEq, true_and, and_true, Nat.zero_add, Nat.add_zero, Nat.sub_self, Nat.reduceAdd, Nat.reduceSub, List.append_nil, Bool.false_eq_true, if_true, if_false, reduceIte, reduceCtorEq, false_and, exists_false, or_false, false_or, Option.map_some, Option.map_none, lit_most]
  refine fi_draw (by decide) (by decide) fun q q0 q1 => ?_
  obtain ⟨q, rfl⟩ := Int.eq_ofNat_of_zero_le q0
  refine ⟨z2, _, rfl, (r62 (by omega) (by omega)).1, (r62 (by omega) (by omega)).2, ?_⟩
  rw [Int.toNat_natCast]
  exact chain_loop (W := .d (.int (n : Nat))) (rt := (endsP P).rt) hP n 0 (.most q) none none none (by simp [plDp]) (by show q ≤ 99; omega)
theorem ix_mem {xs : List PyData} {r : Int} {Q : PyData → Prop} (h : 0 ≤ r) (h2 : r < xs.length) (q : ∀ v ∈ xs, Q v) : ∃ d, atI xs r = some d ∧ Q d := by
  obtain ⟨v, e, hv⟩ := at_mem h h2
  exact ⟨v, e, q v hv⟩
def F_law_number : FD := fun ds P => ds = [] ∧ ∀ n : Nat, n < 10 ^ 12 → P (.int (n : Nat))
def F_law_signed : FD := fun ds P => ds = [] ∧ ∀ i : Int, -(10 ^ 12) < i → i < 10 ^ 12 → P (.int i)
def F_law_bound : FD := fun ds P => ds = [] ∧ ∀ o, okB o → P (bD o)
theorem pr_law_number (ds : List PyData) (P : PyData → Prop) (h : F_law_number ds P) : rd_law_number F_law_draw (endsP P) (D0 1 ["_law_source_here", "_law_kind"] ds) := by
  obtain ⟨rfl, hP⟩ := h
  have hP' : ∀ n : Int, 0 ≤ n → n < 1000000000000 → P (.int n) := fun n h0 h1 => by
    obtain ⟨n, rfl⟩ := Int.eq_ofNat_of_zero_le h0
    exact hP n (by omega)
  have p6 : (10 : Int) ^ (6 : Int).toNat = 1000000 := rfl
  have p9 : (10 : Int) ^ (9 : Int).toNat = 1000000000 := rfl
  have p12 : (10 : Int) ^ (12 : Int).toNat = 1000000000000 := rfl
  have c6 : CPow 10 6 := ⟨by decide, by decide, by decide⟩
  have c9 : CPow 10 9 := ⟨by decide, by decide, by decide⟩
  have c12 : CPow 10 12 := ⟨by decide, by decide, by decide⟩
  unfold rd_law_number
  simp only [dSeq, dIfS, dOr, dAnd, dNot, dTst, dOp, dVar, dC, dCB, dCons, dNil, dRet, dFor, dIfE, dTup, dLst, dFzL, dSl, dNoPart, dPart, dSplit, dJoin, dUpper, dCall, dCallS, dIs, dNeg, dFmt, dJd, dJs, diLT, diL, diT, diS, diR1, diR2, diE, dgN, dgT2, dYes, dLc, dSet, dSetF, dSetZ, dSetL, dSetLZ, dNew, dApp, dAppF, dPut, dPar, dPar3, dAug, dNext, dAndV, dNotV, dOrT, hide, frz, hd1, fz1, D0, endsP, retP, intDI, isND, ntND, eqSS, eqII, neSS, neII, addII, addSS, addLL, ixLI, ixTI, ixSI, slLL, slSS, lenL, lenT, lenS, strI, strS, intI, intB, intS, tupL, tupT, lstL, lstT, minI, flat, List.map_cons, List.map_nil, List.replicate, List.append_eq, List.nil_append, List.cons_append, List.length_cons, List.length_nil, List.getElem?_cons_zero, List.getElem?_cons_succ, List.set_cons_zero, List.set_cons_succ, Option.some.injEq, Ent.d.injEq, Ent.own.injEq, exists_eq_left', exists_eq_left, exists_eq_right, PyData.bool.injEq, PyData.int.injEq, PyData.str.injEq, PyData.list.injEq, PyData.tuple.injEq, true_and, and_true, Nat.zero_add, Nat.add_zero, Nat.sub_self, Nat.reduceAdd, Nat.reduceSub, List.append_nil, Bool.false_eq_true, if_true, if_false, reduceIte, reduceCtorEq, false_and, exists_false, or_false, false_or, Option.map_some, Option.map_none, p6, p9, p12]
  refine fi_draw (by decide) (by decide) fun r r0 r1 => eq_i ?_
  by_cases c0 : r = 0
  · refine bT (decide_eq_true c0) ⟨c6, fi_draw (by decide) (by decide) fun a a0 a1 => ⟨c6, ?_⟩⟩
    refine ⟨cmul (by omega) (by omega) (by omega) (by omega), c6, fi_draw (by decide) (by decide) fun b b0 b1 => ?_⟩
    exact hP' _ (by omega) (by omega)
  refine bF (decide_eq_false c0) (eq_i ?_)
  by_cases c1 : r = 1
  · refine bT (decide_eq_true c1) ?_
    refine ⟨c9, c12, by decide, fi_draw (by decide) (by decide) fun a a0 a1 => ix_mem a0 a1 fun v hv => ?_⟩
    simp only [List.mem_cons, List.not_mem_nil, or_false] at hv
    rcases hv with rfl | rfl | rfl | rfl | rfl | rfl | rfl | rfl | rfl | rfl <;> exact hP' _ (by decide) (by decide)
  · exact bF (decide_eq_false c1) (fi_draw (by decide) (by decide) fun a a0 a1 => hP' _ a0 (by omega))
theorem pr_law_signed (ds : List PyData) (P : PyData → Prop) (h : F_law_signed ds P) : rd_law_signed F_law_number F_law_draw (endsP P) (D0 1 ["_law_source_here", "_law_number_here"] ds) := by
  obtain ⟨rfl, hP⟩ := h
  unfold rd_law_signed
  simp only [dSeq, dIfS, dOr, dAnd, dNot, dTst, dOp, dVar, dC, dCB, dCons, dNil, dRet, dFor, dIfE, dTup, dLst, dFzL, dSl, dNoPart, dPart, dSplit, dJoin, dUpper, dCall, dCallS, dIs, dNeg, dFmt, dJd, dJs, diLT, diL, diT, diS, diR1, diR2, diE, dgN, dgT2, dYes, dLc, dSet, dSetF, dSetZ, dSetL, dSetLZ, dNew, dApp, dAppF, dPut, dPar, dPar3, dAug, dNext, dAndV, dNotV, dOrT, hide, frz, hd1, fz1, D0, endsP, retP, intDI, isND, ntND, eqSS, eqII, neSS, neII, addII, addSS, addLL, ixLI, ixTI, ixSI, slLL, slSS, lenL, lenT, lenS, strI, strS, intI, intB, intS, tupL, tupT, lstL, lstT, minI, flat, List.map_cons, List.map_nil, List.replicate, List.append_eq, List.nil_append, List.cons_append, List.length_cons, List.length_nil, List.getElem?_cons_zero, List.getElem?_cons_succ, List.set_cons_zero, List.set_cons_succ, Option.some.injEq, Ent.d.injEq, Ent.own.injEq, exists_eq_left', exists_eq_left, exists_eq_right, PyData.bool.injEq, PyData.int.injEq, PyData.str.injEq, PyData.list.injEq, PyData.tuple.injEq, true_and, and_true, Nat.zero_add, Nat.add_zero, Nat.sub_self, Nat.reduceAdd, Nat.reduceSub, List.append_nil, Bool.false_eq_true, if_true, if_false, reduceIte, reduceCtorEq, false_and, exists_false, or_false, false_or, Option.map_some, Option.map_none]
  refine ⟨rfl, fun n hn => ⟨trivial, z2, fi_draw (by decide) (by decide) fun r r0 r1 => ix2 r0 r1 (fun _ => hP _ (by omega) (by omega)) fun _ => hP _ (by omega) (by omega)⟩⟩
theorem pr_law_bound (ds : List PyData) (P : PyData → Prop) (h : F_law_bound ds P) : rd_law_bound F_law_signed F_law_draw (endsP P) (D0 1 ["_law_source_here", "_law_number_here"] ds) := by
  obtain ⟨rfl, hP⟩ := h
  unfold rd_law_bound
  simp only [dSeq, dIfS, dOr, dAnd, dNot, dTst, dOp, dVar, dC, dCB, dCons, dNil, dRet, dFor, dIfE, dTup, dLst, dFzL, dSl, dNoPart, dPart, dSplit, dJoin, dUpper, dCall, dCallS, dIs, dNeg, dFmt, dJd, dJs, diLT, diL, diT, diS, diR1, diR2, diE, dgN, dgT2, dYes, dLc, dSet, dSetF, dSetZ, dSetL, dSetLZ, dNew, dApp, dAppF, dPut, dPar, dPar3, dAug, dNext, dAndV, dNotV, dOrT, hide, frz, hd1, fz1, D0, endsP, retP, intDI, isND, ntND, eqSS, eqII, neSS, neII, addII, addSS, addLL, ixLI, ixTI, ixSI, slLL, slSS, lenL, lenT, lenS, strI, strS, intI, intB, intS, tupL, tupT, lstL, lstT, minI, flat, List.map_cons, List.map_nil, List.replicate, List.append_eq, List.nil_append, List.cons_append, List.length_cons, List.length_nil, List.getElem?_cons_zero, List.getElem?_cons_succ, List.set_cons_zero, List.set_cons_succ, Option.some.injEq, Ent.d.injEq, Ent.own.injEq, exists_eq_left', exists_eq_left, exists_eq_right, PyData.bool.injEq, PyData.int.injEq, PyData.str.injEq, PyData.list.injEq, PyData.tuple.injEq, true_and, and_true, Nat.zero_add, Nat.add_zero, Nat.sub_self, Nat.reduceAdd, Nat.reduceSub, List.append_nil, Bool.false_eq_true, if_true, if_false, reduceIte, reduceCtorEq, false_and, exists_false, or_false, false_or, Option.map_some, Option.map_none]
  refine ⟨rfl, fun n h1 h2 => ⟨z4, fi_draw (by decide) (by decide) fun r r0 r1 => ?_⟩⟩
  obtain ⟨v, e, hv⟩ := at_mem (xs := [PyData.int n, .int n, .int n, .none]) r0 r1
  refine ⟨v, e, ?_⟩
  simp only [List.mem_cons, List.not_mem_nil, or_false] at hv
  rcases hv with rfl | rfl | rfl | rfl
  · exact hP (some n) ⟨h1, h2⟩
  · exact hP (some n) ⟨h1, h2⟩
  · exact hP (some n) ⟨h1, h2⟩
  · exact hP none trivial
def F_drawn_doubt : FD := fun ds P => ds = [] ∧ ∀ p, LpOk p → plDp p ≤ 3 → P (lpD p)
def F_plan : FD := fun ds P => ∃ e, e ≤ 2 ∧ F_law_plan e ds P
def singles (n : Nat) : List (List Int) := (List.range n).map fun i : Nat => [((i : Nat) : Int)]
theorem singles_ok : LpOk (.lots (singles 24)) := by
  refine ⟨by simp [singles], fun l hl => ?_, by decide +kernel⟩
  obtain ⟨i, hi, rfl⟩ := List.mem_map.mp hl
  have := List.mem_range.mp hi
  exact ⟨by simp, fun n hn => by rw [List.mem_singleton.mp hn]; omega⟩
theorem pr_drawn_doubt (ds : List PyData) (P : PyData → Prop) (h : F_drawn_doubt ds P) : rd_law_drawn_doubt F_law_draw F_law_chain F_law_group F_plan (endsP P) (D0 1 ["_law_source_here", "_law_kind", "_law_index"] ds) := by
  obtain ⟨rfl, hP⟩ := h
  have p6 : (10 : Int) ^ (6 : Int).toNat = 1000000 := rfl
  have c6 : CPow 10 6 := ⟨by decide, by decide, by decide⟩
  unfold rd_law_drawn_doubt
  simp only [dSeq, dIfS, dOr, dAnd, dNot, dTst, dOp, dVar, dC, dCB, dCons, dNil, dRet, dFor, dIfE, dTup, dLst, dFzL, dSl, dNoPart, dPart, dSplit, dJoin, dUpper, dCall, dCallS, dIs, dNeg, dFmt, dJd, dJs, diLT, diL, diT, diS, diR1, diR2, diE, dgN, dgT2, dYes, dLc, dSet, dSetF, dSetZ, dSetL, dSetLZ, dNew, dApp, dAppF, dPut, dPar, dPar3, dAug, dNext, dAndV, dNotV, dOrT, hide, frz, hd1, fz1, D0, endsP, retP, intDI, isND, ntND, eqSS, eqII, neSS, neII, addII, addSS, addLL, ixLI, ixTI, ixSI, slLL, slSS, lenL, lenT, lenS, strI, strS, intI, intB, intS, tupL, tupT, lstL, lstT, minI, flat, List.map_cons, List.map_nil, List.replicate, List.append_eq, List.nil_append, List.cons_append, List.length_cons, List.length_nil, List.getElem?_cons_zero, List.getElem?_cons_succ, List.set_cons_zero, List.set_cons_succ, Option.some.injEq, Ent.d.injEq, Ent.own.injEq, exists_eq_left', exists_eq_left, exists_eq_right, PyData.bool.injEq, PyData.int.injEq, PyData.str.injEq, PyData.list.injEq, PyData.tuple.injEq, true_and, and_true, Nat.zero_add, Nat.add_zero, Nat.sub_self, Nat.reduceAdd, Nat.reduceSub, List.append_nil, Bool.false_eq_true, if_true, if_false, reduceIte, reduceCtorEq, false_and, exists_false, or_false, false_or, Option.map_some, Option.map_none, p6, lit_most, lit_within, lit_lots]
  refine fi_draw (by decide) (by decide) fun r r0 r1 => eq_i ?_
  by_cases c0 : r = 0
  · refine bT (decide_eq_true c0) ⟨z2, c6, z2, _, rfl, by decide, by decide, ?_⟩
    refine lc_map (f := fun i : Nat => PyData.int (0 + (i : Nat))) (g := fun i : Nat => PyData.list (wI [((i : Nat) : Int)])) (List.range 24) [] (fun i hi R hR => ?_) (by decide) ?_
    · simp only [dSeq, dIfS, dOr, dAnd, dNot, dTst, dOp, dVar, dC, dCB, dCons, dNil, dRet, dFor, dIfE, dTup, dLst, dFzL, dSl, dNoPart, dPart, dSplit, dJoin, dUpper, dCall, dCallS, dIs, dNeg, dFmt, dJd, dJs, diLT, diL, diT, diS, diR1, diR2, diE, dgN, dgT2, dYes, dLc, dSet, dSetF, dSetZ, dSetL, dSetLZ, dNew, dApp, dAppF, dPut, dPar, dPar3, dAug, dNext, dAndV, dNotV, dOrT, hide, frz, hd1, fz1, D0, endsP, retP, intDI, isND, ntND, eqSS, eqII, neSS, neII, addII, addSS, addLL, ixLI, ixTI, ixSI, slLL, slSS, lenL, lenT, lenS, strI, strS, intI, intB, intS, tupL, tupT, lstL, lstT, minI, flat, List.map_cons, List.map_nil, List.replicate, List.append_eq, List.nil_append, List.cons_append, List.length_cons, List.length_nil, List.getElem?_cons_zero, List.getElem?_cons_succ, List.set_cons_zero, List.set_cons_succ, Option.some.injEq, Ent.d.injEq, Ent.own.injEq, exists_eq_left', exists_eq_left, exists_eq_right, PyData.bool.injEq, PyData.int.injEq, PyData.str.injEq, PyData.list.injEq, PyData.tuple.injEq, true_and, and_true, Nat.zero_add, Nat.add_zero, Nat.sub_self, Nat.reduceAdd, Nat.reduceSub, List.append_nil, Bool.false_eq_true, if_true, if_false, reduceIte, reduceCtorEq, false_and, exists_false, or_false, false_or, Option.map_some, Option.map_none]
      rw [Int.zero_add]
      exact ⟨by decide, hR⟩
    · refine ⟨z2, z3, fi_draw (by decide) (by decide) fun a a0 a1 => ix_mem a0 a1 fun v hv => ?_⟩
      simp only [List.mem_cons, List.not_mem_nil, or_false] at hv
      rcases hv with rfl | rfl | rfl
      · exact hP (.most 99) (by show 99 ≤ 99; decide) (by decide)
      · exact hP (.within 1000000) (by show 1000000 ≤ 1000000; decide) (by decide)
      · have := hP (.lots (singles 24)) singles_ok (by decide)
        simp only [lpD, lsD, singles, List.map_map] at this
        exact this
  refine bF (decide_eq_false c0) (eq_i ?_)
  by_cases c1 : r = 1
  · exact bT (decide_eq_true c1) ⟨3, rfl, by decide, fun p hp hd => hP p hp (by omega)⟩
  refine bF (decide_eq_false c1) (eq_i ?_)
  by_cases c2 : r = 2
  · refine bT (decide_eq_true c2) ⟨40, rfl, by decide, fun l hl hl2 => ⟨by decide, z2, ?_⟩⟩
    refine hP (.lots [l]) ⟨by simp, fun m hm => by rw [List.mem_singleton.mp hm]; exact hl, ?_⟩ (Nat.zero_le _)
    simp [lm]; omega
  refine bF (decide_eq_false c2) ⟨z4, fi_draw (by decide) (by decide) fun a a0 a1 => ix_mem a0 a1 fun v hv => ⟨z4, fi_draw (by decide) (by decide) fun b b0 b1 => ix_mem b0 b1 fun u hu => ?_⟩⟩
  have hv' : ∃ n : Nat, v = .int (n : Nat) ∧ n ≤ 12 := by
    simp only [List.mem_cons, List.not_mem_nil, or_false] at hv
    rcases hv with rfl | rfl | rfl | rfl
    · exact ⟨0, rfl, by decide⟩
    · exact ⟨3, rfl, by decide⟩
    · exact ⟨6, rfl, by decide⟩
    · exact ⟨12, rfl, by decide⟩
  obtain ⟨n, rfl, hn⟩ := hv'
  simp only [List.mem_cons, List.not_mem_nil, or_false] at hu
  rcases hu with rfl | rfl | rfl | rfl
  · exact ⟨0, by decide, n, rfl, hn, by decide, fun p hp hd => hP p hp (by omega)⟩
  · exact ⟨1, by decide, n, rfl, hn, by decide, fun p hp hd => hP p hp (by omega)⟩
  · exact ⟨1, by decide, n, rfl, hn, by decide, fun p hp hd => hP p hp (by omega)⟩
  · exact ⟨2, by decide, n, rfl, hn, by decide, fun p hp hd => hP p hp (by omega)⟩
def F_law_deed : FD := fun ds P => ∃ b : Bool, ds = [.bool b] ∧ ∀ d, DeedB d → (∀ t, d = .doubt t → ∃ q, PlG q ∧ plDp q ≤ 3 ∧ t = dtx q) → P (deedD d)
theorem pr_law_deed (ds : List PyData) (P : PyData → Prop) (h : F_law_deed ds P) : rd_law_deed F_law_draw F_law_number F_law_bound F_law_signed (F_doubt_text 5) F_law_chain F_drawn_doubt (endsP P) (D0 1 ["_law_source_here", "_law_plain", "_law_kind", "_law_number_here", "_law_second", "_law_low"] ds) := by
  obtain ⟨b, rfl, hP⟩ := h
  unfold rd_law_deed
  simp only [dSeq, dIfS, dOr, dAnd, dNot, dTst, dOp, dVar, dC, dCB, dCons, dNil, dRet, dFor, dIfE, dTup, dLst, dFzL, dSl, dNoPart, dPart, dSplit, dJoin, dUpper, dCall, dCallS, dIs, dNeg, dFmt, dJd, dJs, diLT, diL, diT, diS, diR1, diR2, diE, dgN, dgT2, dYes, dLc, dSet, dSetF, dSetZ, dSetL, dSetLZ, dNew, dApp, dAppF, dPut, dPar, dPar3, dAug, dNext, dAndV, dNotV, dOrT, hide, frz, hd1, fz1, D0, endsP, retP, intDI, isND, ntND, eqSS, eqII, neSS, neII, addII, addSS, addLL, ixLI, ixTI, ixSI, slLL, slSS, lenL, lenT, lenS, strI, strS, intI, intB, intS, tupL, tupT, lstL, lstT, minI, flat, List.map_cons, List.map_nil, List.replicate, List.append_eq, List.nil_append, List.cons_append, List.length_cons, List.length_nil, List.getElem?_cons_zero, List.getElem?_cons_succ, List.set_cons_zero, List.set_cons_succ, Option.some.injEq, Ent.d.injEq, Ent.own.injEq, exists_eq_left', exists_eq_left, exists_eq_right, PyData.bool.injEq, PyData.int.injEq, PyData.str.injEq, PyData.list.injEq, PyData.tuple.injEq, true_and, and_true, Nat.zero_add, Nat.add_zero, Nat.sub_self, Nat.reduceAdd, Nat.reduceSub, List.append_nil, Bool.false_eq_true, if_true, if_false, reduceIte, reduceCtorEq, false_and, exists_false, or_false, false_or, Option.map_some, Option.map_none, lit_tell, lit_recount, lit_correct, lit_withdraw, lit_doubt]
  refine fi_draw (by decide) (by decide) fun r r0 r1 => ⟨rfl, fun n hn => eq_i ?_⟩
  by_cases c0 : r = 0
  · refine bT (decide_eq_true c0) ⟨rfl, fun m hm => ⟨rfl, fun lo hlo => ⟨rfl, fun hi hhi => ⟨rfl, fun k hk => ⟨z6, hP (.tell n m lo hi k) ⟨hn, hm, hlo, hhi, hk⟩ (fun _ z => nomatch z)⟩⟩⟩⟩⟩
  refine bF (decide_eq_false c0) (eq_i ?_)
  by_cases c1 : r = 1
  · exact bT (decide_eq_true c1) ⟨rfl, fun m hm => ⟨rfl, fun v h1 h2 => ⟨z4, hP (.recount n m v) ⟨hn, hm, h1, h2⟩ (fun _ z => nomatch z)⟩⟩⟩
  refine bF (decide_eq_false c1) (eq_i ?_)
  by_cases c2 : r = 2
  · exact bT (decide_eq_true c2) ⟨rfl, fun lo hlo => ⟨rfl, fun hi hhi => ⟨z4, hP (.correct n lo hi) ⟨hn, hlo, hhi⟩ (fun _ z => nomatch z)⟩⟩⟩
  refine bF (decide_eq_false c2) (eq_i ?_)
  by_cases c3 : r = 3
  · exact bT (decide_eq_true c3) ⟨z2, hP (.withdraw n) hn (fun _ z => nomatch z)⟩
  refine bF (decide_eq_false c3) ?_
  have fin : ∀ q, PlG q → plDp q ≤ 3 → P (.tuple [.str (S kDoubt), .str (S (dtx q))]) := fun q hq hd => by
    refine hP (.doubt (dtx q)) ?_ fun t e => ⟨q, hq, hd, by cases e; rfl⟩
    have := dtx_len hq
    have h2 : 2 ^ plDp q ≤ 8 := Nat.le_trans (Nat.pow_le_pow_right (by decide) hd) (by decide)
    show (dtx q).length ≤ 100000
    omega
  cases b with
  | true =>
    refine iteT (fi_draw (by decide) (by decide) fun a a0 a1 => ?_)
    obtain ⟨a, rfl⟩ := Int.eq_ofNat_of_zero_le a0
    refine ⟨a, rfl, by omega, fun p hp hd => ⟨p, rfl, hp, by omega, by decide, fun q hq hdq => ⟨z2, fin q hq (by omega)⟩⟩⟩
  | false =>
    exact iteF ⟨rfl, fun p hp hd => ⟨p, rfl, hp, by omega, by decide, fun q hq hdq => ⟨z2, fin q hq (by omega)⟩⟩⟩
end K82
set_option Elab.async false
set_option linter.all false
set_option maxRecDepth 100000
set_option maxHeartbeats 4000000
namespace K82
open PySem PySem.Spec PyProof.Rows L2 Ly SX
inductive Pt where
  | s (w : Wd) | n | i (v : Int)
def ptD : Pt → PyData
  | .s w => .str (S w)
  | .n => .none
  | .i v => .int v
def ptW : Pt → Wd
  | .s w => w
  | .n => wAny
  | .i v => itx v
theorem ptW_s (w : Wd) : ptW (.s w) = w := rfl
theorem ptW_i (v : Int) : ptW (.i v) = itx v := rfl
def ptOk : Pt → Prop
  | .s w => w.length ≤ 100000
  | .n => True
  | .i v => -(10 ^ 12) < v ∧ v < 10 ^ 12
def bP : Option Int → Pt
  | none => .n
  | some i => .i i
def dparts : Deed → List Pt
  | .tell a b lo hi w => [.s kTell, .i (a : Nat), .i (b : Nat), bP lo, bP hi, .i (w : Nat)]
  | .recount a b v => [.s kRecount, .i (a : Nat), .i (b : Nat), .i v]
  | .correct n lo hi => [.s kCorrect, .i (n : Nat), bP lo, bP hi]
  | .withdraw n => [.s kWithdraw, .i (n : Nat)]
  | .doubt t => [.s kDoubt, .s t]
theorem ptD_b (o : Option Int) : ptD (bP o) = bD o := by cases o <;> rfl
theorem ptW_b (o : Option Int) : ptW (bP o) = wb o := by cases o <;> rfl
theorem deed_parts (d : Deed) : deedD d = .tuple ((dparts d).map ptD) := by
  cases d with
  | tell a b lo hi w => cases lo <;> cases hi <;> rfl
  | recount a b v => rfl
  | correct n lo hi => cases lo <;> cases hi <;> rfl
  | withdraw n => rfl
  | doubt t => rfl
theorem parts_len (d : Deed) : (dparts d).length ≤ 6 := by cases d <;> simp [dparts]
theorem okB_pt {o : Option Int} (h : okB o) : ptOk (bP o) := by
  cases o with
  | none => trivial
  | some i => exact h
theorem nat_ok {n : Nat} (h : n < 10 ^ 12) : ptOk (.i (n : Nat)) := ⟨by omega, by omega⟩
theorem parts_ok {d : Deed} (h : DeedB d) : ∀ p ∈ dparts d, ptOk p := by
  have kl : ∀ k ∈ [kTell, kRecount, kCorrect, kWithdraw, kDoubt], ptOk (.s k) := fun k hk => by
    simp only [List.mem_cons, List.not_mem_nil, or_false] at hk
    rcases hk with rfl | rfl | rfl | rfl | rfl <;> (show List.length _ ≤ _; decide)
  intro p hp
  cases d with
  | tell a b lo hi w =>
    obtain ⟨h1, h2, h3, h4, h5⟩ := h
    simp only [dparts, List.mem_cons, List.not_mem_nil, or_false] at hp
    rcases hp with rfl | rfl | rfl | rfl | rfl | rfl
    · exact kl _ (by simp)
    · exact nat_ok h1
    · exact nat_ok h2
    · exact okB_pt h3
    · exact okB_pt h4
    · exact nat_ok h5
  | recount a b v =>
    obtain ⟨h1, h2, h3, h4⟩ := h
    simp only [dparts, List.mem_cons, List.not_mem_nil, or_false] at hp
    rcases hp with rfl | rfl | rfl | rfl
    · exact kl _ (by simp)
    · exact nat_ok h1
    · exact nat_ok h2
    · exact ⟨h3, h4⟩
  | correct n lo hi =>
    obtain ⟨h1, h3, h4⟩ := h
    simp only [dparts, List.mem_cons, List.not_mem_nil, or_false] at hp
    rcases hp with rfl | rfl | rfl | rfl
    · exact kl _ (by simp)
    · exact nat_ok h1
    · exact okB_pt h3
    · exact okB_pt h4
  | withdraw n =>
    simp only [dparts, List.mem_cons, List.not_mem_nil, or_false] at hp
    rcases hp with rfl | rfl
    · exact kl _ (by simp)
    · exact nat_ok h
  | doubt t =>
    simp only [dparts, List.mem_cons, List.not_mem_nil, or_false] at hp
    rcases hp with rfl | rfl
    · exact kl _ (by simp)
    · exact h
theorem pt_len {p : Pt} (h : ptOk p) : (ptW p).length ≤ 100000 := by
  cases p with
  | s w => exact h
  | n => show wAny.length ≤ _; decide
  | i v => exact Nat.le_trans (itx_len h.1 h.2) (by decide)
def lnBody : DS := (dIfS (dTst (dOp isND (dVar 2) (dC .none)))
    (dApp 1 (dC (.str "any")))
    (dApp 1 (dCB toStrD (dCons (dVar 2) dNil))))
theorem line_loop {W : Ent} {rt : Ent → Prop} {nx : DSt → Prop} : ∀ (ps : List Pt) (acc : List Wd) (z : Option Ent), (∀ p ∈ ps, ptOk p) → acc.length + ps.length ≤ 1000 → (∀ z, nx [some W, some (.own (wsD (acc ++ ps.map ptW))), z]) →
    dLoop (dgN 2) lnBody { nx := nx, rt := rt } (ps.map ptD) [some W, some (.own (wsD acc)), z]
  | [], acc, z, _, _, h => by
    have := h z
    simpa [dLoop] using this
  | p :: ps, acc, z, hp, hl, h => by
    have ih := fun z => line_loop (W := W) (rt := rt) (nx := nx) ps (acc ++ [ptW p]) z (fun q hq => hp q (List.mem_cons_of_mem _ hq)) (by simp at hl ⊢; omega) (fun z => by have := h z; simpa using this)
    have e : wsD (acc ++ [ptW p]) = wsD acc ++ [.str (S (ptW p))] := by simp [wsD]
    rw [e] at ih
    have hlen : (wsD acc).length < sizeLine := lsm (n := (wsD acc).length + 1) (by simp [wsD]; simp at hl; omega)
    have hpp := hp p List.mem_cons_self
    unfold lnBody
    cases p with
    | s w =>
      simp only [List.map_cons, dLoop, ptD, dSeq, dIfS, dOr, dAnd, dNot, dTst, dOp, dVar, dC, dCB, dCons, dNil, dRet, dFor, dIfE, dTup, dLst, dFzL, dSl, dNoPart, dPart, dSplit, dJoin, dUpper, dCall, dCallS, dIs, dNeg, dFmt, dJd, dJs, diLT, diL, diT, diS, diR1, diR2, diE, dgN, dgT2, dYes, dLc, dSet, dSetF, dSetZ, dSetL, dSetLZ, dNew, dApp, dAppF, dPut, dPar, dPar3, dAug, dNext, dAndV, dNotV, dOrT, hide, frz, hd1, fz1, D0, endsP, retP, intDI, isND, ntND, eqSS, eqII, neSS, neII, addII, addSS, addLL, ixLI, ixTI, ixSI, slLL, slSS, lenL, lenT, lenS, strI, strS, intI, intB, intS, tupL, tupT, lstL, lstT, minI, flat, List.map_cons, List.map_nil, List.replicate, List.append_eq, List.nil_append, List.cons_append, List.length_cons, List.length_nil, List.getElem?_cons_zero, List.getElem?_cons_succ, List.set_cons_zero, List.set_cons_succ, Option.some.injEq, Ent.d.injEq, Ent.own.injEq, exists_eq_left', exists_eq_left, exists_eq_right, PyData.bool.injEq, PyData.int.injEq, PyData.str.injEq, PyData.list.injEq, PyData.tuple.injEq, true_and, and_true, Nat.zero_add, Nat.add_zero, Nat.sub_self, Nat.reduceAdd, Nat.reduceSub, List.append_nil, Bool.false_eq_true, if_true, if_false, reduceIte, reduceCtorEq, false_and, exists_false, or_false, false_or, Option.map_some, Option.map_none, lit_any]
      exact iteF ⟨hlen, ih _⟩
    | n =>
      simp only [List.map_cons, dLoop, ptD, dSeq, dIfS, dOr, dAnd, dNot, dTst, dOp, dVar, dC, dCB, dCons, dNil, dRet, dFor, dIfE, dTup, dLst, dFzL, dSl, dNoPart, dPart, dSplit, dJoin, dUpper, dCall, dCallS, dIs, dNeg, dFmt, dJd, dJs, diLT, diL, diT, diS, diR1, diR2, diE, dgN, dgT2, dYes, dLc, dSet, dSetF, dSetZ, dSetL, dSetLZ, dNew, dApp, dAppF, dPut, dPar, dPar3, dAug, dNext, dAndV, dNotV, dOrT, hide, frz, hd1, fz1, D0, endsP, retP, intDI, isND, ntND, eqSS, eqII, neSS, neII, addII, addSS, addLL, ixLI, ixTI, ixSI, slLL, slSS, lenL, lenT, lenS, strI, strS, intI, intB, intS, tupL, tupT, lstL, lstT, minI, flat, List.map_cons, List.map_nil, List.replicate, List.append_eq, List.nil_append, List.cons_append, List.length_cons, List.length_nil, List.getElem?_cons_zero, List.getElem?_cons_succ, List.set_cons_zero, List.set_cons_succ, Option.some.injEq, Ent.d.injEq, Ent.own.injEq, exists_eq_left', exists_eq_left, exists_eq_right, PyData.bool.injEq, PyData.int.injEq, PyData.str.injEq, PyData.list.injEq, PyData.tuple.injEq, true_and, and_true, Nat.zero_add, Nat.add_zero, Nat.sub_self, Nat.reduceAdd, Nat.reduceSub, List.append_nil, Bool.false_eq_true, if_true, if_false, reduceIte, reduceCtorEq, false_and, exists_false, or_false, false_or, Option.map_some, Option.map_none, lit_any]
      exact iteT ⟨hlen, ih _⟩
    | i v =>
      simp only [List.map_cons, dLoop, ptD, dSeq, dIfS, dOr, dAnd, dNot, dTst, dOp, dVar, dC, dCB, dCons, dNil, dRet, dFor, dIfE, dTup, dLst, dFzL, dSl, dNoPart, dPart, dSplit, dJoin, dUpper, dCall, dCallS, dIs, dNeg, dFmt, dJd, dJs, diLT, diL, diT, diS, diR1, diR2, diE, dgN, dgT2, dYes, dLc, dSet, dSetF, dSetZ, dSetL, dSetLZ, dNew, dApp, dAppF, dPut, dPar, dPar3, dAug, dNext, dAndV, dNotV, dOrT, hide, frz, hd1, fz1, D0, endsP, retP, intDI, isND, ntND, eqSS, eqII, neSS, neII, addII, addSS, addLL, ixLI, ixTI, ixSI, slLL, slSS, lenL, lenT, lenS, strI, strS, intI, intB, intS, tupL, tupT, lstL, lstT, minI, flat, List.map_cons, List.map_nil, List.replicate, List.append_eq, List.nil_append, List.cons_append, List.length_cons, List.length_nil, List.getElem?_cons_zero, List.getElem?_cons_succ, List.set_cons_zero, List.set_cons_succ, Option.some.injEq, Ent.d.injEq, Ent.own.injEq, exists_eq_left', exists_eq_left, exists_eq_right, PyData.bool.injEq, PyData.int.injEq, PyData.str.injEq, PyData.list.injEq, PyData.tuple.injEq, true_and, and_true, Nat.zero_add, Nat.add_zero, Nat.sub_self, Nat.reduceAdd, Nat.reduceSub, List.append_nil, Bool.false_eq_true, if_true, if_false, reduceIte, reduceCtorEq, false_and, exists_false, or_false, false_or, Option.map_some, Option.map_none, lit_any, toStr_itx]
      exact iteF ⟨log_ok hpp.1 hpp.2, hlen, ih _⟩
def F_law_line : FD := fun ds P => ∃ d, ds = [deedD d] ∧ DeedB d ∧ P (.str (S (line d)))
theorem pr_law_line (ds : List PyData) (P : PyData → Prop) (h : F_law_line ds P) : rd_law_line (endsP P) (D0 0 ["_law_deed_here", "_law_words", "_law_part"] ds) := by
  obtain ⟨d, rfl, hd, hP⟩ := h
  unfold rd_law_line
  have ok := parts_ok hd
  rw [deed_parts]
  simp only [dSeq, dIfS, dOr, dAnd, dNot, dTst, dOp, dVar, dC, dCB, dCons, dNil, dRet, dFor, dIfE, dTup, dLst, dFzL, dSl, dNoPart, dPart, dSplit, dJoin, dUpper, dCall, dCallS, dIs, dNeg, dFmt, dJd, dJs, diLT, diL, diT, diS, diR1, diR2, diE, dgN, dgT2, dYes, dLc, dSet, dSetF, dSetZ, dSetL, dSetLZ, dNew, dApp, dAppF, dPut, dPar, dPar3, dAug, dNext, dAndV, dNotV, dOrT, hide, frz, hd1, fz1, D0, endsP, retP, intDI, isND, ntND, eqSS, eqII, neSS, neII, addII, addSS, addLL, ixLI, ixTI, ixSI, slLL, slSS, lenL, lenT, lenS, strI, strS, intI, intB, intS, tupL, tupT, lstL, lstT, minI, flat, List.map_cons, List.map_nil, List.replicate, List.append_eq, List.nil_append, List.cons_append, List.length_cons, List.length_nil, List.getElem?_cons_zero, List.getElem?_cons_succ, List.set_cons_zero, List.set_cons_succ, Option.some.injEq, Ent.d.injEq, Ent.own.injEq, exists_eq_left', exists_eq_left, exists_eq_right, PyData.bool.injEq, PyData.int.injEq, PyData.str.injEq, PyData.list.injEq, PyData.tuple.injEq, true_and, and_true, Nat.zero_add, Nat.add_zero, Nat.sub_self, Nat.reduceAdd, Nat.reduceSub, List.append_nil, Bool.false_eq_true, if_true, if_false, reduceIte, reduceCtorEq, false_and, exists_false, or_false, false_or, Option.map_some, Option.map_none]
  refine ⟨z0, line_loop (dparts d) [] none ok (by have := parts_len d; simp; omega) fun z => ?_⟩
  rw [List.nil_append]
  simp only [dSeq, dIfS, dOr, dAnd, dNot, dTst, dOp, dVar, dC, dCB, dCons, dNil, dRet, dFor, dIfE, dTup, dLst, dFzL, dSl, dNoPart, dPart, dSplit, dJoin, dUpper, dCall, dCallS, dIs, dNeg, dFmt, dJd, dJs, diLT, diL, diT, diS, diR1, diR2, diE, dgN, dgT2, dYes, dLc, dSet, dSetF, dSetZ, dSetL, dSetLZ, dNew, dApp, dAppF, dPut, dPar, dPar3, dAug, dNext, dAndV, dNotV, dOrT, hide, frz, hd1, fz1, D0, endsP, retP, intDI, isND, ntND, eqSS, eqII, neSS, neII, addII, addSS, addLL, ixLI, ixTI, ixSI, slLL, slSS, lenL, lenT, lenS, strI, strS, intI, intB, intS, tupL, tupT, lstL, lstT, minI, flat, List.map_cons, List.map_nil, List.replicate, List.append_eq, List.nil_append, List.cons_append, List.length_cons, List.length_nil, List.getElem?_cons_zero, List.getElem?_cons_succ, List.set_cons_zero, List.set_cons_succ, Option.some.injEq, Ent.d.injEq, Ent.own.injEq, exists_eq_left', exists_eq_left, exists_eq_right, PyData.bool.injEq, PyData.int.injEq, PyData.str.injEq, PyData.list.injEq, PyData.tuple.injEq, true_and, and_true, Nat.zero_add, Nat.add_zero, Nat.sub_self, Nat.reduceAdd, Nat.reduceSub, List.append_nil, Bool.false_eq_true, if_true, if_false, reduceIte, reduceCtorEq, false_and, exists_false, or_false, false_or, Option.map_some, Option.map_none, lit_tell, lit_weight, lit_sp]
  have plain : ∀ {ws : List Wd}, ws.length ≤ 7 → (∀ w ∈ ws, w.length ≤ 100000) → P (.str (S (TL.joinL [32] ws))) → ∃ ys, strsOf (PyData.list (wsD ws)) = some (List.map PyData.str ys) ∧
                  (List.map (fun x => x.length) ys).sum + ys.length * (S [32]).length ≤ 16777216 ∧
                    P (PyData.str (Txt.join (S [32]) ys)) := fun {ws} h1 h2 h3 => by
    refine ⟨_, js1 ws, js2 ?_, by rw [join_S]; exact h3⟩
    have := sum_le (f := List.length) (k := 100000) ws h2
    simp only [List.length_cons, List.length_nil]
    omega
  have hw : ∀ w ∈ (dparts d).map ptW, w.length ≤ 100000 := fun w hw => by
    obtain ⟨p, hp, rfl⟩ := List.mem_map.mp hw
    exact pt_len (ok p hp)
  have hl7 : ((dparts d).map ptW).length ≤ 7 := by have := parts_len d; simp; omega
  cases d with
  | tell a b lo hi w =>
    have e : Ly.cutD (wsD (List.map ptW (dparts (.tell a b lo hi w)))) none (some 5) ++ [PyData.str (S kWeight)] ++ Ly.cutD (wsD (List.map ptW (dparts (.tell a b lo hi w)))) (some 5) none = wsD [kTell, wn a, wn b, wb lo, wb hi, kWeight, wn w] := by
      simp only [dparts, List.map_cons, List.map_nil, ptW_s, ptW_i, ptW_b, wsD, itx_nat]
      rfl
    rw [e]
    obtain ⟨h1, h2, h3, h4, h5⟩ := hd
    refine ⟨_, at0, eq_w (bT rfl ⟨by decide, lsm ?_, lsm ?_, plain (by simp) (fun w hw => ?_) hP⟩)⟩
    · show 5 + 1 ≤ 1000000; decide
    · show 6 + 1 ≤ 1000000; decide
    · have k1 : kTell.length ≤ 100000 := by decide
      have k2 : kWeight.length ≤ 100000 := by decide
      simp only [List.mem_cons, List.not_mem_nil, or_false] at hw
      rcases hw with rfl | rfl | rfl | rfl | rfl | rfl | rfl
      · exact k1
      · exact Nat.le_trans (wn_len h1) (by decide)
      · exact Nat.le_trans (wn_len h2) (by decide)
      · exact Nat.le_trans (wb_len h3) (by decide)
      · exact Nat.le_trans (wb_len h4) (by decide)
      · exact k2
      · exact Nat.le_trans (wn_len h5) (by decide)
  | recount a b v =>
    refine ⟨_, at0, eq_w (bF (by decide) (plain hl7 hw ?_))⟩
    simp only [dparts, List.map_cons, List.map_nil, ptW_s, ptW_i, ptW_b, itx_nat]
    exact hP
  | correct n lo hi =>
    refine ⟨_, at0, eq_w (bF (by decide) (plain hl7 hw ?_))⟩
    simp only [dparts, List.map_cons, List.map_nil, ptW_s, ptW_i, ptW_b, itx_nat]
    exact hP
  | withdraw n =>
    refine ⟨_, at0, eq_w (bF (by decide) (plain hl7 hw ?_))⟩
    simp only [dparts, List.map_cons, List.map_nil, ptW_s, ptW_i, ptW_b, itx_nat]
    exact hP
  | doubt t =>
    refine ⟨_, at0, eq_w (bF (by decide) (plain hl7 hw ?_))⟩
    exact hP
def F_law_row : FD := fun ds P => ∃ d, ds = [deedD d, deedD d] ∧ P (.bool true)
def rwBody : DS := (dIfS (dTst (dOp isND (dOp ixD (dVar 1) (dVar 2)) (dC .none)))
    (dIfS (dTst (dOp ntND (dOp ixD (dVar 0) (dVar 2)) (dC .none)))
    (dRet (dC (.bool false)))
    dNext)
    (dIfS (dTst (dIs "str" (dOp ixD (dVar 1) (dVar 2))))
    (dIfS (dOr (dNot (dTst (dIs "str" (dOp ixD (dVar 0) (dVar 2))))) (dTst (dOp neD (dOp ixD (dVar 0) (dVar 2)) (dOp ixD (dVar 1) (dVar 2)))))
    (dRet (dC (.bool false)))
    dNext)
    (dIfS (dOr (dNot (dTst (dCall 1 F_law_whole (dCons (dOp ixD (dVar 0) (dVar 2)) dNil)))) (dTst (dOp neD (dOp ixD (dVar 0) (dVar 2)) (dOp ixD (dVar 1) (dVar 2)))))
    (dRet (dC (.bool false)))
    dNext)))
theorem row_loop {rt : Ent → Prop} {nx : DSt → Prop} {xs : List Pt} (h : ∀ z, nx [some (.d (.tuple (xs.map ptD))), some (.d (.tuple (xs.map ptD))), z]) : ∀ (q p : List Pt) (z : Option Ent), xs = p ++ q →
    dLoop (dgN 2) rwBody { nx := nx, rt := rt } (rngD (p.length : Nat) q.length) [some (.d (.tuple (xs.map ptD))), some (.d (.tuple (xs.map ptD))), z]
  | [], p, z, e => by
    have := h z
    simpa [rngD, dLoop] using this
  | t :: q, p, z, e => by
    have ih := fun z => row_loop (rt := rt) (nx := nx) h q (p ++ [t]) z (by rw [e]; simp)
    have e1 : ((p ++ [t]).length : Int) = (p.length : Nat) + 1 := by simp
    rw [e1] at ih
    have hat : atI (xs.map ptD) ((p.length : Nat) : Int) = some (ptD t) := atI_nat (by rw [e]; simp)
    rw [List.length_cons, rng_cons]
    unfold rwBody
    cases t with
    | s w =>
      simp only [dLoop, dSeq, dIfS, dOr, dAnd, dNot, dTst, dOp, dVar, dC, dCB, dCons, dNil, dRet, dFor, dIfE, dTup, dLst, dFzL, dSl, dNoPart, dPart, dSplit, dJoin, dUpper, dCall, dCallS, dIs, dNeg, dFmt, dJd, dJs, diLT, diL, diT, diS, diR1, diR2, diE, dgN, dgT2, dYes, dLc, dSet, dSetF, dSetZ, dSetL, dSetLZ, dNew, dApp, dAppF, dPut, dPar, dPar3, dAug, dNext, dAndV, dNotV, dOrT, hide, frz, hd1, fz1, D0, endsP, retP, intDI, isND, ntND, eqSS, eqII, neSS, neII, addII, addSS, addLL, ixLI, ixTI, ixSI, slLL, slSS, lenL, lenT, lenS, strI, strS, intI, intB, intS, tupL, tupT, lstL, lstT, minI, flat, List.map_cons, List.map_nil, List.replicate, List.append_eq, List.nil_append, List.cons_append, List.length_cons, List.length_nil, List.getElem?_cons_zero, List.getElem?_cons_succ, List.set_cons_zero, List.set_cons_succ, Option.some.injEq, Ent.d.injEq, Ent.own.injEq, exists_eq_left', exists_eq_left, exists_eq_right, PyData.bool.injEq, PyData.int.injEq, PyData.str.injEq, PyData.list.injEq, PyData.tuple.injEq, true_and, and_true, Nat.zero_add, Nat.add_zero, Nat.sub_self, Nat.reduceAdd, Nat.reduceSub, List.append_nil, Bool.false_eq_true, if_true, if_false, reduceIte, reduceCtorEq, false_and, exists_false, or_false, false_or, Option.map_some, Option.map_none]
      refine ⟨_, hat, iteF ⟨_, hat, iteT ⟨_, hat, iteF ⟨_, hat, _, hat, ne_w (bF (by simp) (ih _))⟩⟩⟩⟩
    | n =>
      simp only [dLoop, dSeq, dIfS, dOr, dAnd, dNot, dTst, dOp, dVar, dC, dCB, dCons, dNil, dRet, dFor, dIfE, dTup, dLst, dFzL, dSl, dNoPart, dPart, dSplit, dJoin, dUpper, dCall, dCallS, dIs, dNeg, dFmt, dJd, dJs, diLT, diL, diT, diS, diR1, diR2, diE, dgN, dgT2, dYes, dLc, dSet, dSetF, dSetZ, dSetL, dSetLZ, dNew, dApp, dAppF, dPut, dPar, dPar3, dAug, dNext, dAndV, dNotV, dOrT, hide, frz, hd1, fz1, D0, endsP, retP, intDI, isND, ntND, eqSS, eqII, neSS, neII, addII, addSS, addLL, ixLI, ixTI, ixSI, slLL, slSS, lenL, lenT, lenS, strI, strS, intI, intB, intS, tupL, tupT, lstL, lstT, minI, flat, List.map_cons, List.map_nil, List.replicate, List.append_eq, List.nil_append, List.cons_append, List.length_cons, List.length_nil, List.getElem?_cons_zero, List.getElem?_cons_succ, List.set_cons_zero, List.set_cons_succ, Option.some.injEq, Ent.d.injEq, Ent.own.injEq, exists_eq_left', exists_eq_left, exists_eq_right, PyData.bool.injEq, PyData.int.injEq, PyData.str.injEq, PyData.list.injEq, PyData.tuple.injEq, true_and, and_true, Nat.zero_add, Nat.add_zero, Nat.sub_self, Nat.reduceAdd, Nat.reduceSub, List.append_nil, Bool.false_eq_true, if_true, if_false, reduceIte, reduceCtorEq, false_and, exists_false, or_false, false_or, Option.map_some, Option.map_none]
      refine ⟨_, hat, iteT ⟨_, hat, iteF (ih _)⟩⟩
    | i v =>
      simp only [dLoop, dSeq, dIfS, dOr, dAnd, dNot, dTst, dOp, dVar, dC, dCB, dCons, dNil, dRet, dFor, dIfE, dTup, dLst, dFzL, dSl, dNoPart, dPart, dSplit, dJoin, dUpper, dCall, dCallS, dIs, dNeg, dFmt, dJd, dJs, diLT, diL, diT, diS, diR1, diR2, diE, dgN, dgT2, dYes, dLc, dSet, dSetF, dSetZ, dSetL, dSetLZ, dNew, dApp, dAppF, dPut, dPar, dPar3, dAug, dNext, dAndV, dNotV, dOrT, hide, frz, hd1, fz1, D0, endsP, retP, intDI, isND, ntND, eqSS, eqII, neSS, neII, addII, addSS, addLL, ixLI, ixTI, ixSI, slLL, slSS, lenL, lenT, lenS, strI, strS, intI, intB, intS, tupL, tupT, lstL, lstT, minI, flat, List.map_cons, List.map_nil, List.replicate, List.append_eq, List.nil_append, List.cons_append, List.length_cons, List.length_nil, List.getElem?_cons_zero, List.getElem?_cons_succ, List.set_cons_zero, List.set_cons_succ, Option.some.injEq, Ent.d.injEq, Ent.own.injEq, exists_eq_left', exists_eq_left, exists_eq_right, PyData.bool.injEq, PyData.int.injEq, PyData.str.injEq, PyData.list.injEq, PyData.tuple.injEq, true_and, and_true, Nat.zero_add, Nat.add_zero, Nat.sub_self, Nat.reduceAdd, Nat.reduceSub, List.append_nil, Bool.false_eq_true, if_true, if_false, reduceIte, reduceCtorEq, false_and, exists_false, or_false, false_or, Option.map_some, Option.map_none]
      refine ⟨_, hat, iteF ⟨_, hat, iteF ⟨_, hat, v, rfl, _, rfl, iteF ⟨_, hat, _, hat, ne_i (bF (by simp) (ih _))⟩⟩⟩⟩
theorem pr_law_row (ds : List PyData) (P : PyData → Prop) (h : F_law_row ds P) : rd_law_row F_law_whole (endsP P) (D0 0 ["_law_told", "_law_due", "_law_place"] ds) := by
  obtain ⟨d, rfl, hP⟩ := h
  unfold rd_law_row
  rw [deed_parts]
  simp only [dSeq, dIfS, dOr, dAnd, dNot, dTst, dOp, dVar, dC, dCB, dCons, dNil, dRet, dFor, dIfE, dTup, dLst, dFzL, dSl, dNoPart, dPart, dSplit, dJoin, dUpper, dCall, dCallS, dIs, dNeg, dFmt, dJd, dJs, diLT, diL, diT, diS, diR1, diR2, diE, dgN, dgT2, dYes, dLc, dSet, dSetF, dSetZ, dSetL, dSetLZ, dNew, dApp, dAppF, dPut, dPar, dPar3, dAug, dNext, dAndV, dNotV, dOrT, hide, frz, hd1, fz1, D0, endsP, retP, intDI, isND, ntND, eqSS, eqII, neSS, neII, addII, addSS, addLL, ixLI, ixTI, ixSI, slLL, slSS, lenL, lenT, lenS, strI, strS, intI, intB, intS, tupL, tupT, lstL, lstT, minI, flat, List.map_cons, List.map_nil, List.replicate, List.append_eq, List.nil_append, List.cons_append, List.length_cons, List.length_nil, List.getElem?_cons_zero, List.getElem?_cons_succ, List.set_cons_zero, List.set_cons_succ, Option.some.injEq, Ent.d.injEq, Ent.own.injEq, exists_eq_left', exists_eq_left, exists_eq_right, PyData.bool.injEq, PyData.int.injEq, PyData.str.injEq, PyData.list.injEq, PyData.tuple.injEq, true_and, and_true, Nat.zero_add, Nat.add_zero, Nat.sub_self, Nat.reduceAdd, Nat.reduceSub, List.append_nil, Bool.false_eq_true, if_true, if_false, reduceIte, reduceCtorEq, false_and, exists_false, or_false, false_or, Option.map_some, Option.map_none]
  have hl := parts_len d
  refine iteF (ifF rfl ⟨_, rfl, (r62 (by omega) (by simp; omega)).1, (r62 (by omega) (by simp; omega)).2, ?_⟩)
  rw [Int.toNat_natCast, List.length_map]
  exact row_loop (xs := dparts d) (nx := fun Δ => dRet (dC (.bool true)) (endsP P) Δ) (fun z => hP) (dparts d) [] none rfl
end K82
set_option Elab.async false
set_option linter.all false
set_option maxRecDepth 100000
set_option maxHeartbeats 4000000
namespace K82
open PySem PySem.Spec PyProof.Rows L2 Ly SX
abbrev Rec := Wd × Option Deed
def recD (r : Rec) : PyData := .list [.str (S r.1), oD r.2]
structure RecOk (r : Rec) : Prop where
  nl : 10 ∉ r.1
  len : r.1.length ≤ 8000
  rd : rdeed r.1 = r.2
  b : ∀ d, r.2 = some d → DeedB d ∧ r.1 = line d
structure RecsOk (rs : List Rec) : Prop where
  ok : ∀ r ∈ rs, RecOk r
  len : rs.length ≤ 34
def txt (rs : List Rec) : Wd := TL.joinL [10] (rs.map (·.1))
def deedsOf (rs : List Rec) : List Deed := rs.filterMap (·.2)
def fbGo : Nat → List Rec → Nat
  | _, [] => 0
  | i, (_, none) :: _ => i + 1
  | i, (_, some _) :: r => fbGo (i + 1) r
def fb (rs : List Rec) : Nat := if txt rs = [] then 0 else fbGo 0 rs
theorem rdeed_nil : rdeed [] = none := by decide
theorem txt_sum {rs : List Rec} (h : RecsOk rs) : ((rs.map (·.1)).map List.length).sum ≤ 272000 := by
  have := sum_le (f := fun r : Rec => r.1.length) (k := 8000) rs fun r hr => (h.ok r hr).len
  have hl := h.len
  rw [List.map_map]
  have e : (rs.map (List.length ∘ (·.1))).sum = (rs.map fun r : Rec => r.1.length).sum := rfl
  rw [e]
  omega
theorem txt_len {rs : List Rec} (h : RecsOk rs) : (txt rs).length ≤ 300000 := by
  have h1 := joinL_len [10] (rs.map (·.1))
  have h2 := txt_sum h
  have hl := h.len
  unfold txt
  simp only [List.length_map, List.length_cons, List.length_nil] at h1
  omega
theorem txt_nil {rs : List Rec} (h : RecsOk rs) (e : txt rs = []) : deedsOf rs = [] := by
  match rs, h, e with
  | [], _, _ => rfl
  | [(l, o)], h, e =>
    have e' : l = [] := e
    have := (h.ok (l, o) (by simp)).rd
    simp only [e', rdeed_nil] at this
    subst this
    rfl
  | a :: b :: r, h, e =>
    have e2 : txt (a :: b :: r) = a.1 ++ (10 :: TL.joinL [10] ((b :: r).map (·.1))) := rfl
    rw [e2] at e
    simp at e
theorem pgo_recs : ∀ (rs : List Rec) (i : Nat) (acc : List Deed), (∀ r ∈ rs, RecOk r) → pgo (rs.map (·.1)) i acc = if fbGo i rs = 0 then .inl (acc ++ deedsOf rs) else .inr (fbGo i rs)
  | [], i, acc, _ => by simp [pgo, fbGo, deedsOf]
  | (l, none) :: rs, i, acc, h => by
    have hr := (h (l, none) (by simp)).rd
    have hr' : rdeed l = none := hr
    simp only [List.map_cons, pgo, hr', fbGo]
    simp
  | (l, some d) :: rs, i, acc, h => by
    have hr := (h (l, some d) (by simp)).rd
    have hr' : rdeed l = some d := hr
    have ih := pgo_recs rs (i + 1) (acc ++ [d]) fun r hr => h r (List.mem_cons_of_mem _ hr)
    simp only [List.map_cons, pgo, hr', fbGo, ih]
    simp [deedsOf]
theorem lnes_txt {rs : List Rec} (h : RecsOk rs) (hne : rs ≠ []) : lnes (txt rs) = rs.map (·.1) := by
  unfold lnes txt
  refine TL.spl_join (by simpa using hne) fun p hp => ?_
  obtain ⟨r, hr, rfl⟩ := List.mem_map.mp hp
  exact (h.ok r hr).nl
theorem pd_txt {rs : List Rec} (h : RecsOk rs) : pdeeds (txt rs) = if fb rs = 0 then .inl (deedsOf rs) else .inr (fb rs) := by
  unfold pdeeds fb
  by_cases c : txt rs = []
  · simp [c, txt_nil h c]
  · have hne : rs ≠ [] := fun z => c (by subst z; rfl)
    rw [if_neg c, if_neg c, lnes_txt h hne, pgo_recs rs 0 [] h.ok, List.nil_append]
theorem lines_back : ∀ {rs : List Rec} (i : Nat), (∀ r ∈ rs, RecOk r) → fbGo i rs = 0 → (deedsOf rs).map line = rs.map (·.1)
  | [], _, _, _ => rfl
  | (l, none) :: rs, i, _, e => by simp [fbGo] at e
  | (l, some d) :: rs, i, h, e => by
    have ih := lines_back (rs := rs) (i + 1) (fun r hr => h r (List.mem_cons_of_mem _ hr)) e
    have := ((h (l, some d) (by simp)).b d rfl).2
    simp only [deedsOf, List.filterMap_cons, List.map_cons] at ih ⊢
    rw [ih]
    exact congrArg (· :: _) this.symm
theorem txt_back {rs : List Rec} (h : RecsOk rs) (e : fb rs = 0) : TL.joinL [10] ((deedsOf rs).map line) = txt rs := by
  unfold fb at e
  by_cases c : txt rs = []
  · rw [c, txt_nil h c]; rfl
  · rw [if_neg c] at e
    rw [lines_back 0 h.ok e]
    rfl
theorem deeds_mem {rs : List Rec} {d : Deed} (h : d ∈ deedsOf rs) : ∃ r ∈ rs, r.2 = some d := List.mem_filterMap.mp h
theorem deeds_b {rs : List Rec} (h : RecsOk rs) : ∀ d ∈ deedsOf rs, DeedB d := fun d hd => by
  obtain ⟨r, hr, e⟩ := deeds_mem hd
  exact ((h.ok r hr).b d e).1
theorem deeds_len {rs : List Rec} (h : RecsOk rs) : (deedsOf rs).length ≤ 34 := Nat.le_trans (List.length_filterMap_le _ _) h.len
theorem deeds_sum {rs : List Rec} (h : RecsOk rs) : (((deedsOf rs).map line).map List.length).sum ≤ 10000000 := by
  have := sum_le (f := fun d : Deed => (line d).length) (k := 8000) (deedsOf rs) fun d hd => by
    obtain ⟨r, hr, e⟩ := deeds_mem hd
    have h1 := (h.ok r hr).b d e
    show (line d).length ≤ 8000
    rw [← h1.2]
    exact (h.ok r hr).len
  have hl := deeds_len h
  rw [List.map_map]
  have e : ((deedsOf rs).map (List.length ∘ line)).sum = ((deedsOf rs).map fun d : Deed => (line d).length).sum := rfl
  rw [e]
  omega
def F_law_text : FD := fun ds P => ∃ rs : List Rec, ds = [.list (rs.map recD)] ∧ RecsOk rs ∧ P (.str (S (txt rs)))
theorem pr_law_text (ds : List PyData) (P : PyData → Prop) (h : F_law_text ds P) : rd_law_text (endsP P) (D0 0 ["_law_records", "_law_record"] ds) := by
  obtain ⟨rs, rfl, hr, hP⟩ := h
  unfold rd_law_text
  simp only [dSeq, dIfS, dOr, dAnd, dNot, dTst, dOp, dVar, dC, dCB, dCons, dNil, dRet, dFor, dIfE, dTup, dLst, dFzL, dSl, dNoPart, dPart, dSplit, dJoin, dUpper, dCall, dCallS, dIs, dNeg, dFmt, dJd, dJs, diLT, diL, diT, diS, diR1, diR2, diE, dgN, dgT2, dYes, dLc, dSet, dSetF, dSetZ, dSetL, dSetLZ, dNew, dApp, dAppF, dPut, dPar, dPar3, dAug, dNext, dAndV, dNotV, dOrT, hide, frz, hd1, fz1, D0, endsP, retP, intDI, isND, ntND, eqSS, eqII, neSS, neII, addII, addSS, addLL, ixLI, ixTI, ixSI, slLL, slSS, lenL, lenT, lenS, strI, strS, intI, intB, intS, tupL, tupT, lstL, lstT, minI, flat, List.map_cons, List.map_nil, List.replicate, List.append_eq, List.nil_append, List.cons_append, List.length_cons, List.length_nil, List.getElem?_cons_zero, List.getElem?_cons_succ, List.set_cons_zero, List.set_cons_succ, Option.some.injEq, Ent.d.injEq, Ent.own.injEq, exists_eq_left', exists_eq_left, exists_eq_right, PyData.bool.injEq, PyData.int.injEq, PyData.str.injEq, PyData.list.injEq, PyData.tuple.injEq, true_and, and_true, Nat.zero_add, Nat.add_zero, Nat.sub_self, Nat.reduceAdd, Nat.reduceSub, List.append_nil, Bool.false_eq_true, if_true, if_false, reduceIte, reduceCtorEq, false_and, exists_false, or_false, false_or, Option.map_some, Option.map_none, lit_nl]
  refine lc_map (f := recD) (g := fun r => .str (S r.1)) rs [] (fun r _ R hR => ?_) (by have := hr.len; simp; omega) ?_
  · simp only [dSeq, dIfS, dOr, dAnd, dNot, dTst, dOp, dVar, dC, dCB, dCons, dNil, dRet, dFor, dIfE, dTup, dLst, dFzL, dSl, dNoPart, dPart, dSplit, dJoin, dUpper, dCall, dCallS, dIs, dNeg, dFmt, dJd, dJs, diLT, diL, diT, diS, diR1, diR2, diE, dgN, dgT2, dYes, dLc, dSet, dSetF, dSetZ, dSetL, dSetLZ, dNew, dApp, dAppF, dPut, dPar, dPar3, dAug, dNext, dAndV, dNotV, dOrT, hide, frz, hd1, fz1, D0, endsP, retP, intDI, isND, ntND, eqSS, eqII, neSS, neII, addII, addSS, addLL, ixLI, ixTI, ixSI, slLL, slSS, lenL, lenT, lenS, strI, strS, intI, intB, intS, tupL, tupT, lstL, lstT, minI, flat, List.map_cons, List.map_nil, List.replicate, List.append_eq, List.nil_append, List.cons_append, List.length_cons, List.length_nil, List.getElem?_cons_zero, List.getElem?_cons_succ, List.set_cons_zero, List.set_cons_succ, Option.some.injEq, Ent.d.injEq, Ent.own.injEq, exists_eq_left', exists_eq_left, exists_eq_right, PyData.bool.injEq, PyData.int.injEq, PyData.str.injEq, PyData.list.injEq, PyData.tuple.injEq, true_and, and_true, Nat.zero_add, Nat.add_zero, Nat.sub_self, Nat.reduceAdd, Nat.reduceSub, List.append_nil, Bool.false_eq_true, if_true, if_false, reduceIte, reduceCtorEq, false_and, exists_false, or_false, false_or, Option.map_some, Option.map_none, recD]
    exact ⟨_, at0, hR⟩
  · have e2 : [] ++ rs.map (fun r : Rec => PyData.str (S r.1)) = wsD (rs.map (·.1)) := by simp [wsD]
    rw [e2]
    refine ⟨_, js1 _, js2 ?_, by rw [join_S]; exact hP⟩
    have h2 := txt_sum hr
    have hl := hr.len
    simp only [List.length_map, List.length_cons, List.length_nil]
    omega
def F_first_bad : FD := fun ds P => ∃ rs : List Rec, ds = [.list (rs.map recD)] ∧ RecsOk rs ∧ P (.int (fb rs : Nat))
def fbBody : DS := (dIfS (dTst (dOp isND (dOp ixD (dOp ixD (dVar 0) (dVar 1)) (dC (.int 1))) (dC .none)))
    (dRet (dOp addD (dVar 1) (dC (.int 1))))
    dNext)
theorem fb_loop {P : PyData → Prop} {rs : List Rec} : ∀ (q p : List Rec) (z : Option Ent), rs = p ++ q → P (.int (fbGo p.length q : Nat)) →
    dLoop (dgN 1) fbBody { nx := dRet (dC (.int 0)) (endsP P), rt := retP P } (rngD (p.length : Nat) q.length) [some (.d (.list (rs.map recD))), z]
  | [], p, z, e, h => by
    cases z <;> simp only [rngD, List.length_nil, List.range_zero, List.map_nil, dLoop, dSeq, dIfS, dOr, dAnd, dNot, dTst, dOp, dVar, dC, dCB, dCons, dNil, dRet, dFor, dIfE, dTup, dLst, dFzL, dSl, dNoPart, dPart, dSplit, dJoin, dUpper, dCall, dCallS, dIs, dNeg, dFmt, dJd, dJs, diLT, diL, diT, diS, diR1, diR2, diE, dgN, dgT2, dYes, dLc, dSet, dSetF, dSetZ, dSetL, dSetLZ, dNew, dApp, dAppF, dPut, dPar, dPar3, dAug, dNext, dAndV, dNotV, dOrT, hide, frz, hd1, fz1, D0, endsP, retP, intDI, isND, ntND, eqSS, eqII, neSS, neII, addII, addSS, addLL, ixLI, ixTI, ixSI, slLL, slSS, lenL, lenT, lenS, strI, strS, intI, intB, intS, tupL, tupT, lstL, lstT, minI, flat, List.map_cons, List.map_nil, List.replicate, List.append_eq, List.nil_append, List.cons_append, List.length_cons, List.length_nil, List.getElem?_cons_zero, List.getElem?_cons_succ, List.set_cons_zero, List.set_cons_succ, Option.some.injEq, Ent.d.injEq, Ent.own.injEq, exists_eq_left', exists_eq_left, exists_eq_right, PyData.bool.injEq, PyData.int.injEq, PyData.str.injEq, PyData.list.injEq, PyData.tuple.injEq, true_and, and_true, Nat.zero_add, Nat.add_zero, Nat.sub_self, Nat.reduceAdd, Nat.reduceSub, List.append_nil, Bool.false_eq_true, if_true, if_false, reduceIte, reduceCtorEq, false_and, exists_false, or_false, false_or, Option.map_some, Option.map_none] <;> exact h
  | (l, o) :: q, p, z, e, h => by
    have hat : atI (rs.map recD) ((p.length : Nat) : Int) = some (recD (l, o)) := atI_nat (by rw [e]; simp)
    rw [List.length_cons, rng_cons]
    unfold fbBody
    simp only [dLoop, dSeq, dIfS, dOr, dAnd, dNot, dTst, dOp, dVar, dC, dCB, dCons, dNil, dRet, dFor, dIfE, dTup, dLst, dFzL, dSl, dNoPart, dPart, dSplit, dJoin, dUpper, dCall, dCallS, dIs, dNeg, dFmt, dJd, dJs, diLT, diL, diT, diS, diR1, diR2, diE, dgN, dgT2, dYes, dLc, dSet, dSetF, dSetZ, dSetL, dSetLZ, dNew, dApp, dAppF, dPut, dPar, dPar3, dAug, dNext, dAndV, dNotV, dOrT, hide, frz, hd1, fz1, D0, endsP, retP, intDI, isND, ntND, eqSS, eqII, neSS, neII, addII, addSS, addLL, ixLI, ixTI, ixSI, slLL, slSS, lenL, lenT, lenS, strI, strS, intI, intB, intS, tupL, tupT, lstL, lstT, minI, flat, List.map_cons, List.map_nil, List.replicate, List.append_eq, List.nil_append, List.cons_append, List.length_cons, List.length_nil, List.getElem?_cons_zero, List.getElem?_cons_succ, List.set_cons_zero, List.set_cons_succ, Option.some.injEq, Ent.d.injEq, Ent.own.injEq, exists_eq_left', exists_eq_left, exists_eq_right, PyData.bool.injEq, PyData.int.injEq, PyData.str.injEq, PyData.list.injEq, PyData.tuple.injEq, true_and, and_true, Nat.zero_add, Nat.add_zero, Nat.sub_self, Nat.reduceAdd, Nat.reduceSub, List.append_nil, Bool.false_eq_true, if_true, if_false, reduceIte, reduceCtorEq, false_and, exists_false, or_false, false_or, Option.map_some, Option.map_none]
    refine ⟨_, hat, ?_⟩
    simp only [recD, ixLI]
    refine ⟨_, at1, ?_⟩
    cases o with
    | none => exact iteT h
    | some d =>
      have ih := fb_loop (P := P) (rs := rs) q (p ++ [(l, some d)]) (some (.d (.int (p.length : Nat)))) (by rw [e]; simp) (by simpa [fbGo] using h)
      have e1 : ((p ++ [(l, some d)]).length : Int) = (p.length : Nat) + 1 := by simp
      rw [e1] at ih
      exact ifF (isN_deed d) ih
theorem pr_first_bad (ds : List PyData) (P : PyData → Prop) (h : F_first_bad ds P) : rd_law_first_bad F_law_text (endsP P) (D0 0 ["_law_records", "_law_index"] ds) := by
  obtain ⟨rs, rfl, hr, hP⟩ := h
  unfold rd_law_first_bad
  simp only [dSeq, dIfS, dOr, dAnd, dNot, dTst, dOp, dVar, dC, dCB, dCons, dNil, dRet, dFor, dIfE, dTup, dLst, dFzL, dSl, dNoPart, dPart, dSplit, dJoin, dUpper, dCall, dCallS, dIs, dNeg, dFmt, dJd, dJs, diLT, diL, diT, diS, diR1, diR2, diE, dgN, dgT2, dYes, dLc, dSet, dSetF, dSetZ, dSetL, dSetLZ, dNew, dApp, dAppF, dPut, dPar, dPar3, dAug, dNext, dAndV, dNotV, dOrT, hide, frz, hd1, fz1, D0, endsP, retP, intDI, isND, ntND, eqSS, eqII, neSS, neII, addII, addSS, addLL, ixLI, ixTI, ixSI, slLL, slSS, lenL, lenT, lenS, strI, strS, intI, intB, intS, tupL, tupT, lstL, lstT, minI, flat, List.map_cons, List.map_nil, List.replicate, List.append_eq, List.nil_append, List.cons_append, List.length_cons, List.length_nil, List.getElem?_cons_zero, List.getElem?_cons_succ, List.set_cons_zero, List.set_cons_succ, Option.some.injEq, Ent.d.injEq, Ent.own.injEq, exists_eq_left', exists_eq_left, exists_eq_right, PyData.bool.injEq, PyData.int.injEq, PyData.str.injEq, PyData.list.injEq, PyData.tuple.injEq, true_and, and_true, Nat.zero_add, Nat.add_zero, Nat.sub_self, Nat.reduceAdd, Nat.reduceSub, List.append_nil, Bool.false_eq_true, if_true, if_false, reduceIte, reduceCtorEq, false_and, exists_false, or_false, false_or, Option.map_some, Option.map_none, lit_e]
  refine ⟨rs, rfl, hr, eq_w ?_⟩
  unfold fb at hP
  by_cases c : txt rs = []
  · rw [if_pos c] at hP
    exact bT (decide_eq_true c) hP
  · rw [if_neg c] at hP
    have hl := hr.len
    refine bF (decide_eq_false c) ⟨_, rfl, (r62 (by omega) (by simp; omega)).1, (r62 (by omega) (by simp; omega)).2, ?_⟩
    rw [Int.toNat_natCast, List.length_map]
    exact fb_loop (P := P) rs [] none rfl hP
def F_law_rows : FD := fun ds P => ∃ dl : List Deed, ds = [.list (dl.map deedD), .list (dl.map deedD)] ∧ dl.length ≤ 1000 ∧ P (.bool true)
def rsBody : DS := (dIfS (dNot (dTst (dCall 2 F_law_row (dCons (dOp ixD (dVar 0) (dVar 2)) (dCons (dOp ixD (dVar 1) (dVar 2)) dNil)))))
    (dRet (dC (.bool false)))
    dNext)
theorem rows_loop {rt : Ent → Prop} {nx : DSt → Prop} {xs : List Deed} (h : ∀ z, nx [some (.d (.list (xs.map deedD))), some (.d (.list (xs.map deedD))), z]) : ∀ (q p : List Deed) (z : Option Ent), xs = p ++ q →
    dLoop (dgN 2) rsBody { nx := nx, rt := rt } (rngD (p.length : Nat) q.length) [some (.d (.list (xs.map deedD))), some (.d (.list (xs.map deedD))), z]
  | [], p, z, e => by
    have := h z
    simpa [rngD, dLoop] using this
  | t :: q, p, z, e => by
    have ih := fun z => rows_loop (rt := rt) (nx := nx) h q (p ++ [t]) z (by rw [e]; simp)
    have e1 : ((p ++ [t]).length : Int) = (p.length : Nat) + 1 := by simp
    rw [e1] at ih
    have hat : atI (xs.map deedD) ((p.length : Nat) : Int) = some (deedD t) := atI_nat (by rw [e]; simp)
    rw [List.length_cons, rng_cons]
    unfold rsBody
    simp only [dLoop, dSeq, dIfS, dOr, dAnd, dNot, dTst, dOp, dVar, dC, dCB, dCons, dNil, dRet, dFor, dIfE, dTup, dLst, dFzL, dSl, dNoPart, dPart, dSplit, dJoin, dUpper, dCall, dCallS, dIs, dNeg, dFmt, dJd, dJs, diLT, diL, diT, diS, diR1, diR2, diE, dgN, dgT2, dYes, dLc, dSet, dSetF, dSetZ, dSetL, dSetLZ, dNew, dApp, dAppF, dPut, dPar, dPar3, dAug, dNext, dAndV, dNotV, dOrT, hide, frz, hd1, fz1, D0, endsP, retP, intDI, isND, ntND, eqSS, eqII, neSS, neII, addII, addSS, addLL, ixLI, ixTI, ixSI, slLL, slSS, lenL, lenT, lenS, strI, strS, intI, intB, intS, tupL, tupT, lstL, lstT, minI, flat, List.map_cons, List.map_nil, List.replicate, List.append_eq, List.nil_append, List.cons_append, List.length_cons, List.length_nil, List.getElem?_cons_zero, List.getElem?_cons_succ, List.set_cons_zero, List.set_cons_succ, Option.some.injEq, Ent.d.injEq, Ent.own.injEq, exists_eq_left', exists_eq_left, exists_eq_right, PyData.bool.injEq, PyData.int.injEq, PyData.str.injEq, PyData.list.injEq, PyData.tuple.injEq, true_and, and_true, Nat.zero_add, Nat.add_zero, Nat.sub_self, Nat.reduceAdd, Nat.reduceSub, List.append_nil, Bool.false_eq_true, if_true, if_false, reduceIte, reduceCtorEq, false_and, exists_false, or_false, false_or, Option.map_some, Option.map_none]
    exact ⟨_, hat, _, hat, t, rfl, _, rfl, iteF (ih _)⟩
theorem pr_law_rows (ds : List PyData) (P : PyData → Prop) (h : F_law_rows ds P) : rd_law_rows F_law_row (endsP P) (D0 0 ["_law_told", "_law_due", "_law_place"] ds) := by
  obtain ⟨dl, rfl, hl, hP⟩ := h
  unfold rd_law_rows
  simp only [dSeq, dIfS, dOr, dAnd, dNot, dTst, dOp, dVar, dC, dCB, dCons, dNil, dRet, dFor, dIfE, dTup, dLst, dFzL, dSl, dNoPart, dPart, dSplit, dJoin, dUpper, dCall, dCallS, dIs, dNeg, dFmt, dJd, dJs, diLT, diL, diT, diS, diR1, diR2, diE, dgN, dgT2, dYes, dLc, dSet, dSetF, dSetZ, dSetL, dSetLZ, dNew, dApp, dAppF, dPut, dPar, dPar3, dAug, dNext, dAndV, dNotV, dOrT, hide, frz, hd1, fz1, D0, endsP, retP, intDI, isND, ntND, eqSS, eqII, neSS, neII, addII, addSS, addLL, ixLI, ixTI, ixSI, slLL, slSS, lenL, lenT, lenS, strI, strS, intI, intB, intS, tupL, tupT, lstL, lstT, minI, flat, List.map_cons, List.map_nil, List.replicate, List.append_eq, List.nil_append, List.cons_append, List.length_cons, List.length_nil, List.getElem?_cons_zero, List.getElem?_cons_succ, List.set_cons_zero, List.set_cons_succ, Option.some.injEq, Ent.d.injEq, Ent.own.injEq, exists_eq_left', exists_eq_left, exists_eq_right, PyData.bool.injEq, PyData.int.injEq, PyData.str.injEq, PyData.list.injEq, PyData.tuple.injEq, true_and, and_true, Nat.zero_add, Nat.add_zero, Nat.sub_self, Nat.reduceAdd, Nat.reduceSub, List.append_nil, Bool.false_eq_true, if_true, if_false, reduceIte, reduceCtorEq, false_and, exists_false, or_false, false_or, Option.map_some, Option.map_none]
  refine iteF (ifF rfl ⟨_, rfl, (r62 (by omega) (by simp; omega)).1, (r62 (by omega) (by simp; omega)).2, ?_⟩)
  rw [Int.toNat_natCast, List.length_map]
  exact rows_loop (xs := dl) (nx := fun Δ => dRet (dC (.bool true)) (endsP P) Δ) (fun z => hP) dl [] none rfl
def F_format_deeds : FD := fun ds P => ∃ dl : List Deed, (ds = [.list (dl.map deedD)] ∨ ds = [.tuple (dl.map deedD)]) ∧ (∀ d ∈ dl, DeedB d) ∧ dl.length ≤ 1000 ∧ ((dl.map line).map List.length).sum ≤ 10000000 ∧ P (.str (S (TL.joinL [10] (dl.map line))))
theorem pr_format_deeds (ds : List PyData) (P : PyData → Prop) (h : F_format_deeds ds P) : rd_format_deeds F_format_deed (endsP P) (D0 0 ["deeds", "deed"] ds) := by
  obtain ⟨dl, hd, hb, hl, hs, hP⟩ := h
  have fin : ∀ Δ : DSt, Δ.length = 2 → dLcGo 1 dYes (dCall 1 F_format_deed (dCons (dVar 1) dNil)) Δ (fun xs => ∃ ys, strsOf (PyData.list xs) = some (List.map PyData.str ys) ∧
          (List.map (fun x => x.length) ys).sum + ys.length * (S [10]).length ≤ 16777216 ∧ P (PyData.str (Txt.join (S [10]) ys))) (dl.map deedD) [] := fun Δ hΔ => by
    refine lc_map (f := deedD) (g := fun d => .str (S (line d))) dl [] (fun d hd R hR => ?_) (by simp; omega) ?_
    · match Δ, hΔ with
      | [x, y], _ =>
        simp only [dSeq, dIfS, dOr, dAnd, dNot, dTst, dOp, dVar, dC, dCB, dCons, dNil, dRet, dFor, dIfE, dTup, dLst, dFzL, dSl, dNoPart, dPart, dSplit, dJoin, dUpper, dCall, dCallS, dIs, dNeg, dFmt, dJd, dJs, diLT, diL, diT, diS, diR1, diR2, diE, dgN, dgT2, dYes, dLc, dSet, dSetF, dSetZ, dSetL, dSetLZ, dNew, dApp, dAppF, dPut, dPar, dPar3, dAug, dNext, dAndV, dNotV, dOrT, hide, frz, hd1, fz1, D0, endsP, retP, intDI, isND, ntND, eqSS, eqII, neSS, neII, addII, addSS, addLL, ixLI, ixTI, ixSI, slLL, slSS, lenL, lenT, lenS, strI, strS, intI, intB, intS, tupL, tupT, lstL, lstT, minI, flat, List.map_cons, List.map_nil, List.replicate, List.append_eq, List.nil_append, List.cons_append, List.length_cons, List.length_nil, List.getElem?_cons_zero, List.getElem?_cons_succ, List.set_cons_zero, List.set_cons_succ, Option.some.injEq, Ent.d.injEq, Ent.own.injEq, exists_eq_left', exists_eq_left, exists_eq_right, PyData.bool.injEq, PyData.int.injEq, PyData.str.injEq, PyData.list.injEq, PyData.tuple.injEq, true_and, and_true, Nat.zero_add, Nat.add_zero, Nat.sub_self, Nat.reduceAdd, Nat.reduceSub, List.append_nil, Bool.false_eq_true, if_true, if_false, reduceIte, reduceCtorEq, false_and, exists_false, or_false, false_or, Option.map_some, Option.map_none]
        exact ⟨d, rfl, hb d hd, hR⟩
    · have e2 : [] ++ dl.map (fun d => PyData.str (S (line d))) = wsD (dl.map line) := by simp [wsD]
      rw [e2]
      refine ⟨_, js1 _, js2 ?_, by rw [join_S]; exact hP⟩
      simp only [List.length_map, List.length_cons, List.length_nil]
      omega
  unfold rd_format_deeds
  rcases hd with rfl | rfl
  · simp only [dSeq, dIfS, dOr, dAnd, dNot, dTst, dOp, dVar, dC, dCB, dCons, dNil, dRet, dFor, dIfE, dTup, dLst, dFzL, dSl, dNoPart, dPart, dSplit, dJoin, dUpper, dCall, dCallS, dIs, dNeg, dFmt, dJd, dJs, diLT, diL, diT, diS, diR1, diR2, diE, dgN, dgT2, dYes, dLc, dSet, dSetF, dSetZ, dSetL, dSetLZ, dNew, dApp, dAppF, dPut, dPar, dPar3, dAug, dNext, dAndV, dNotV, dOrT, hide, frz, hd1, fz1, D0, endsP, retP, intDI, isND, ntND, eqSS, eqII, neSS, neII, addII, addSS, addLL, ixLI, ixTI, ixSI, slLL, slSS, lenL, lenT, lenS, strI, strS, intI, intB, intS, tupL, tupT, lstL, lstT, minI, flat, List.map_cons, List.map_nil, List.replicate, List.append_eq, List.nil_append, List.cons_append, List.length_cons, List.length_nil, List.getElem?_cons_zero, List.getElem?_cons_succ, List.set_cons_zero, List.set_cons_succ, Option.some.injEq, Ent.d.injEq, Ent.own.injEq, exists_eq_left', exists_eq_left, exists_eq_right, PyData.bool.injEq, PyData.int.injEq, PyData.str.injEq, PyData.list.injEq, PyData.tuple.injEq, true_and, and_true, Nat.zero_add, Nat.add_zero, Nat.sub_self, Nat.reduceAdd, Nat.reduceSub, List.append_nil, Bool.false_eq_true, if_true, if_false, reduceIte, reduceCtorEq, false_and, exists_false, or_false, false_or, Option.map_some, Option.map_none, lit_nl]
    exact fin _ rfl
  · simp only [dSeq, dIfS, dOr, dAnd, dNot, dTst, dOp, dVar, dC, dCB, dCons, dNil, dRet, dFor, dIfE, dTup, dLst, dFzL, dSl, dNoPart, dPart, dSplit, dJoin, dUpper, dCall, dCallS, dIs, dNeg, dFmt, dJd, dJs, diLT, diL, diT, diS, diR1, diR2, diE, dgN, dgT2, dYes, dLc, dSet, dSetF, dSetZ, dSetL, dSetLZ, dNew, dApp, dAppF, dPut, dPar, dPar3, dAug, dNext, dAndV, dNotV, dOrT, hide, frz, hd1, fz1, D0, endsP, retP, intDI, isND, ntND, eqSS, eqII, neSS, neII, addII, addSS, addLL, ixLI, ixTI, ixSI, slLL, slSS, lenL, lenT, lenS, strI, strS, intI, intB, intS, tupL, tupT, lstL, lstT, minI, flat, List.map_cons, List.map_nil, List.replicate, List.append_eq, List.nil_append, List.cons_append, List.length_cons, List.length_nil, List.getElem?_cons_zero, List.getElem?_cons_succ, List.set_cons_zero, List.set_cons_succ, Option.some.injEq, Ent.d.injEq, Ent.own.injEq, exists_eq_left', exists_eq_left, exists_eq_right, PyData.bool.injEq, PyData.int.injEq, PyData.str.injEq, PyData.list.injEq, PyData.tuple.injEq, true_and, and_true, Nat.zero_add, Nat.add_zero, Nat.sub_self, Nat.reduceAdd, Nat.reduceSub, List.append_nil, Bool.false_eq_true, if_true, if_false, reduceIte, reduceCtorEq, false_and, exists_false, or_false, false_or, Option.map_some, Option.map_none, lit_nl]
    exact fin _ rfl
end K82
set_option Elab.async false
set_option linter.all false
set_option maxRecDepth 100000
set_option maxHeartbeats 4000000
namespace K82
open PySem PySem.Spec PyProof.Rows L2 Ly SX
def F_law_asked : FD := fun ds P => ∃ rs : List Rec, ds = [.list (rs.map recD)] ∧ RecsOk rs ∧ P (.bool true)
theorem deeds_map (rs : List Rec) : (rs.filter fun r => r.2.isSome).map (fun r => oD r.2) = (deedsOf rs).map deedD := by
  induction rs with
  | nil => rfl
  | cons r rs ih =>
    obtain ⟨l, o⟩ := r
    cases o with
    | none => simpa [deedsOf] using ih
    | some d =>
      have e1 : ((l, some d) :: rs).filter (fun r : Rec => r.2.isSome) = (l, some d) :: rs.filter fun r => r.2.isSome := rfl
      have e2 : deedsOf ((l, some d) :: rs) = d :: deedsOf rs := rfl
      rw [e1, e2, List.map_cons, List.map_cons, ih]
      rfl
theorem isN_oD (o : Option Deed) : (!isN (oD o)) = o.isSome := by
  cases o with
  | none => rfl
  | some d => rw [show oD (some d) = deedD d from rfl, isN_deed]; rfl
theorem pr_law_asked (ds : List PyData) (P : PyData → Prop) (h : F_law_asked ds P) : rd_law_asked F_law_text F_first_bad F_law_rows F_format_deeds F_parse_deeds (endsP P) (D0 0 ["_law_records", "_law_text_here", "_law_line_here", "_law_deeds", "_law_told", "e", "_law_written", "_law_record"] ds) := by
  obtain ⟨rs, rfl, hr, hP⟩ := h
  have hdl := deeds_len hr
  have hpd := pd_txt hr
  have htl := txt_len hr
  unfold rd_law_asked
  simp only [dSeq, dIfS, dOr, dAnd, dNot, dTst, dOp, dVar, dC, dCB, dCons, dNil, dRet, dFor, dIfE, dTup, dLst, dFzL, dSl, dNoPart, dPart, dSplit, dJoin, dUpper, dCall, dCallS, dIs, dNeg, dFmt, dJd, dJs, diLT, diL, diT, diS, diR1, diR2, diE, dgN, dgT2, dYes, dLc, dSet, dSetF, dSetZ, dSetL, dSetLZ, dNew, dApp, dAppF, dPut, dPar, dPar3, dAug, dNext, dAndV, dNotV, dOrT, hide, frz, hd1, fz1, D0, endsP, retP, intDI, isND, ntND, eqSS, eqII, neSS, neII, addII, addSS, addLL, ixLI, ixTI, ixSI, slLL, slSS, lenL, lenT, lenS, strI, strS, intI, intB, intS, tupL, tupT, lstL, lstT, minI, flat, List.map_cons, List.map_nil, List.replicate, List.append_eq, List.nil_append, List.cons_append, List.length_cons, List.length_nil, List.getElem?_cons_zero, List.getElem?_cons_succ, List.set_cons_zero, List.set_cons_succ, Option.some.injEq, Ent.d.injEq, Ent.own.injEq, exists_eq_left', exists_eq_left, exists_eq_right, PyData.bool.injEq, PyData.int.injEq, PyData.str.injEq, PyData.list.injEq, PyData.tuple.injEq, true_and, and_true, Nat.zero_add, Nat.add_zero, Nat.sub_self, Nat.reduceAdd, Nat.reduceSub, List.append_nil, Bool.false_eq_true, if_true, if_false, reduceIte, reduceCtorEq, false_and, exists_false, or_false, false_or, Option.map_some, Option.map_none, dRaise, dSetX, dRetX, dDropX, dCX, dMk, dMk2, endsX, okE_d, okE_own, okE_any, dPutF, dGetF, endsI, D0I, putD, dTry, hNone, dAlias, dNewS, dCallX, frzQ, dRetO, dRetL]
  refine ⟨rs, rfl, hr, rs, rfl, hr, ?_⟩
  refine lc_filter (f := recD) (g := fun r => oD r.2) (p := fun r => r.2.isSome) rs [] (fun r _ R hR => ?_) (fun r _ _ R hR => ?_) (by have := hr.len; simp; omega) ?_
  · simp only [dSeq, dIfS, dOr, dAnd, dNot, dTst, dOp, dVar, dC, dCB, dCons, dNil, dRet, dFor, dIfE, dTup, dLst, dFzL, dSl, dNoPart, dPart, dSplit, dJoin, dUpper, dCall, dCallS, dIs, dNeg, dFmt, dJd, dJs, diLT, diL, diT, diS, diR1, diR2, diE, dgN, dgT2, dYes, dLc, dSet, dSetF, dSetZ, dSetL, dSetLZ, dNew, dApp, dAppF, dPut, dPar, dPar3, dAug, dNext, dAndV, dNotV, dOrT, hide, frz, hd1, fz1, D0, endsP, retP, intDI, isND, ntND, eqSS, eqII, neSS, neII, addII, addSS, addLL, ixLI, ixTI, ixSI, slLL, slSS, lenL, lenT, lenS, strI, strS, intI, intB, intS, tupL, tupT, lstL, lstT, minI, flat, List.map_cons, List.map_nil, List.replicate, List.append_eq, List.nil_append, List.cons_append, List.length_cons, List.length_nil, List.getElem?_cons_zero, List.getElem?_cons_succ, List.set_cons_zero, List.set_cons_succ, Option.some.injEq, Ent.d.injEq, Ent.own.injEq, exists_eq_left', exists_eq_left, exists_eq_right, PyData.bool.injEq, PyData.int.injEq, PyData.str.injEq, PyData.list.injEq, PyData.tuple.injEq, true_and, and_true, Nat.zero_add, Nat.add_zero, Nat.sub_self, Nat.reduceAdd, Nat.reduceSub, List.append_nil, Bool.false_eq_true, if_true, if_false, reduceIte, reduceCtorEq, false_and, exists_false, or_false, false_or, Option.map_some, Option.map_none, recD]
    refine ⟨_, at1, ?_⟩
    rw [isN_oD]
    exact hR
  · simp only [dSeq, dIfS, dOr, dAnd, dNot, dTst, dOp, dVar, dC, dCB, dCons, dNil, dRet, dFor, dIfE, dTup, dLst, dFzL, dSl, dNoPart, dPart, dSplit, dJoin, dUpper, dCall, dCallS, dIs, dNeg, dFmt, dJd, dJs, diLT, diL, diT, diS, diR1, diR2, diE, dgN, dgT2, dYes, dLc, dSet, dSetF, dSetZ, dSetL, dSetLZ, dNew, dApp, dAppF, dPut, dPar, dPar3, dAug, dNext, dAndV, dNotV, dOrT, hide, frz, hd1, fz1, D0, endsP, retP, intDI, isND, ntND, eqSS, eqII, neSS, neII, addII, addSS, addLL, ixLI, ixTI, ixSI, slLL, slSS, lenL, lenT, lenS, strI, strS, intI, intB, intS, tupL, tupT, lstL, lstT, minI, flat, List.map_cons, List.map_nil, List.replicate, List.append_eq, List.nil_append, List.cons_append, List.length_cons, List.length_nil, List.getElem?_cons_zero, List.getElem?_cons_succ, List.set_cons_zero, List.set_cons_succ, Option.some.injEq, Ent.d.injEq, Ent.own.injEq, exists_eq_left', exists_eq_left, exists_eq_right, PyData.bool.injEq, PyData.int.injEq, PyData.str.injEq, PyData.list.injEq, PyData.tuple.injEq, true_and, and_true, Nat.zero_add, Nat.add_zero, Nat.sub_self, Nat.reduceAdd, Nat.reduceSub, List.append_nil, Bool.false_eq_true, if_true, if_false, reduceIte, reduceCtorEq, false_and, exists_false, or_false, false_or, Option.map_some, Option.map_none, recD]
    exact ⟨_, at1, hR⟩
  rw [List.nil_append, deeds_map]
  refine ⟨txt rs, rfl, htl, ?_⟩
  rw [hpd]
  by_cases c : fb rs = 0
  · rw [if_pos c]
    have c' : ((fb rs : Nat) : Int) = 0 := by omega
    simp only [dSeq, dIfS, dOr, dAnd, dNot, dTst, dOp, dVar, dC, dCB, dCons, dNil, dRet, dFor, dIfE, dTup, dLst, dFzL, dSl, dNoPart, dPart, dSplit, dJoin, dUpper, dCall, dCallS, dIs, dNeg, dFmt, dJd, dJs, diLT, diL, diT, diS, diR1, diR2, diE, dgN, dgT2, dYes, dLc, dSet, dSetF, dSetZ, dSetL, dSetLZ, dNew, dApp, dAppF, dPut, dPar, dPar3, dAug, dNext, dAndV, dNotV, dOrT, hide, frz, hd1, fz1, D0, endsP, retP, intDI, isND, ntND, eqSS, eqII, neSS, neII, addII, addSS, addLL, ixLI, ixTI, ixSI, slLL, slSS, lenL, lenT, lenS, strI, strS, intI, intB, intS, tupL, tupT, lstL, lstT, minI, flat, List.map_cons, List.map_nil, List.replicate, List.append_eq, List.nil_append, List.cons_append, List.length_cons, List.length_nil, List.getElem?_cons_zero, List.getElem?_cons_succ, List.set_cons_zero, List.set_cons_succ, Option.some.injEq, Ent.d.injEq, Ent.own.injEq, exists_eq_left', exists_eq_left, exists_eq_right, PyData.bool.injEq, PyData.int.injEq, PyData.str.injEq, PyData.list.injEq, PyData.tuple.injEq, true_and, and_true, Nat.zero_add, Nat.add_zero, Nat.sub_self, Nat.reduceAdd, Nat.reduceSub, List.append_nil, Bool.false_eq_true, if_true, if_false, reduceIte, reduceCtorEq, false_and, exists_false, or_false, false_or, Option.map_some, Option.map_none, dRaise, dSetX, dRetX, dDropX, dCX, dMk, dMk2, endsX, okE_d, okE_own, okE_any, dPutF, dGetF, endsI, D0I, putD, dTry, hNone, dAlias, dNewS, dCallX, frzQ, dRetO, dRetL, PPd, c']
    have rows : ∀ {Q : PyData → Prop}, Q (.bool true) → F_law_rows [.list ((deedsOf rs).map deedD), .list ((deedsOf rs).map deedD)] Q := fun q => ⟨_, rfl, by omega, q⟩
    refine iteF (rows ⟨_, rfl, iteF ⟨_, .inl rfl, deeds_b hr, by omega, deeds_sum hr, rfl, iteF ?_⟩⟩)
    rw [txt_back hr c]
    refine ne_w (bF (by simp) (rows ⟨_, rfl, iteF ⟨z2, lsm (by simp; omega), _, rfl, htl, ?_⟩⟩))
    rw [hpd, if_pos c]
    exact rows hP
  · rw [if_neg c]
    simp only [PPd, hAsk, eBad]
    refine ⟨_, _, rfl, rfl, by simp, ?_⟩
    have e : (decide ((0 : Int) < (fb rs : Nat)) && decide (((fb rs : Nat) : Int) = (fb rs : Nat))) = true := by
      simp; omega
    rw [e]
    exact hP
end K82
set_option Elab.async false
set_option linter.all false
set_option maxRecDepth 100000
namespace K82
open PySem PySem.Spec PyProof.Rows L2 SX
theorem rp_shape {d : Nat} {ws : List Wd} {p : Pl} {k : Nat} (h : rp d ws = some (p, k)) : ∃ kw w rest, ws = kw :: w :: rest := by
  match ws, h with
  | [], h => cases d <;> cases h
  | [_], h => cases d <;> cases h
  | kw :: w :: rest, _ => exact ⟨_, _, _, rfl⟩
/-- the cases of a plan that is read -/
theorem rp_cases {d : Nat} {kw w : Wd} {rest : List Wd} {p : Pl} {k : Nat} (h : rp d (kw :: w :: rest) = some (p, k)) :
    (k = 2 ∧ ∀ rest', rp d (kw :: w :: rest') = some (p, 2)) ∧ (kw = kMost ∨ kw = kWithin ∨ kw = kLots) ∧ (∀ w' rest', rc w' = none → rlots w' = none → rp d (kw :: w' :: rest') = none) ∨
    ((kw = kBoth ∨ kw = kEither) ∧ ∃ e a i b j, d = e + 1 ∧ rp e (w :: rest) = some (a, i) ∧ rp e ((w :: rest).drop i) = some (b, j) ∧ k = 1 + i + j ∧ p = (if kw = kBoth then .both a b else .either a b)) := by
  unfold rp at h
  split at h
  · rename_i c
    left
    cases q : rc w with
    | none => rw [q] at h; cases h
    | some n =>
      rw [q] at h
      cases h
      refine ⟨⟨rfl, fun rest' => ?_⟩, .inl c, fun w' rest' h1 _ => ?_⟩
      · unfold rp; rw [if_pos c, q]; rfl
      · unfold rp; rw [if_pos c, h1]; rfl
  rename_i c1
  split at h
  · rename_i c
    left
    cases q : rc w with
    | none => rw [q] at h; cases h
    | some n =>
      rw [q] at h
      cases h
      refine ⟨⟨rfl, fun rest' => ?_⟩, .inr (.inl c), fun w' rest' h1 _ => ?_⟩
      · unfold rp; rw [if_neg c1, if_pos c, q]; rfl
      · unfold rp; rw [if_neg c1, if_pos c, h1]; rfl
  rename_i c2
  split at h
  · rename_i c
    left
    cases q : rlots w with
    | none => rw [q] at h; cases h
    | some n =>
      rw [q] at h
      cases h
      refine ⟨⟨rfl, fun rest' => ?_⟩, .inr (.inr c), fun w' rest' _ h1 => ?_⟩
      · unfold rp; rw [if_neg c1, if_neg c2, if_pos c, q]; rfl
      · unfold rp; rw [if_neg c1, if_neg c2, if_pos c, h1]; rfl
  rename_i c3
  right
  split at h
  · cases h
  rename_i c4
  cases d with
  | zero => cases h
  | succ d =>
    simp only at h
    cases q1 : rp d (w :: rest) with
    | none => simp only [q1] at h; cases h
    | some pa =>
      obtain ⟨a, i⟩ := pa
      simp only [q1] at h
      cases q2 : rp d ((w :: rest).drop i) with
      | none => simp only [q2] at h; cases h
      | some pb =>
        obtain ⟨b, j⟩ := pb
        simp only [q2] at h
        cases h
        exact ⟨Decidable.not_not.mp c4, d, a, i, b, j, rfl, q1, q2, rfl, rfl⟩
/-- what the two-part plans do -/
theorem rp_two {d : Nat} {kw w : Wd} {rest : List Wd} (h : kw = kBoth ∨ kw = kEither) : rp (d + 1) (kw :: w :: rest) = match rp d (w :: rest) with
    | none => none
    | some (a, i) => match rp d ((w :: rest).drop i) with
      | none => none
      | some (b, j) => some (if kw = kBoth then .both a b else .either a b, 1 + i + j) := by
  have n1 : ¬ kw = kMost := by rcases h with rfl | rfl <;> decide
  have n2 : ¬ kw = kWithin := by rcases h with rfl | rfl <;> decide
  have n3 : ¬ kw = kLots := by rcases h with rfl | rfl <;> decide
  conv => lhs; unfold rp
  rw [if_neg n1, if_neg n2, if_neg n3, if_neg (fun z => z h)] <;> rfl
theorem rp_pos {d : Nat} {ws : List Wd} {p : Pl} {k : Nat} (h : rp d ws = some (p, k)) : 2 ≤ k := by
  obtain ⟨kw, w, rest, rfl⟩ := rp_shape h
  rcases rp_cases h with ⟨⟨h1, _⟩, _⟩ | ⟨_, e, a, i, b, j, rfl, q1, q2, rfl, _⟩
  · omega
  · have := rp_pos q1
    omega
termination_by d
theorem take_cons {α : Type} {x : α} {l l' : List α} {n : Nat} (h : l'.take (n + 1) = x :: l.take n) : ∃ m, l' = x :: m ∧ m.take n = l.take n := by
  cases l' with
  | nil => simp at h
  | cons y m =>
    rw [List.take_succ_cons] at h
    injection h with h1 h2
    exact ⟨m, by rw [h1], h2⟩
theorem rp_take {d : Nat} {ws ws' : List Wd} {p : Pl} {k : Nat} (h : rp d ws = some (p, k)) (e : ws'.take k = ws.take k) : rp d ws' = some (p, k) := by
  obtain ⟨kw, w, rest, rfl⟩ := rp_shape h
  have hk := rp_pos h
  obtain ⟨n, rfl⟩ : ∃ n, k = n + 2 := ⟨k - 2, by omega⟩
  obtain ⟨m, rfl, e1⟩ := take_cons (l := w :: rest) (by rw [e]; rfl)
  replace e := e1
  obtain ⟨m, rfl, e'⟩ := take_cons (l := rest) (by rw [e]; rfl)
  rcases rp_cases h with ⟨⟨h1, h2⟩, _⟩ | ⟨hk, f, a, i, b, j, rfl, q1, q2, h1, rfl⟩
  · have : n = 0 := by omega
    subst this
    exact h2 m
  · have g1 := rp_take q1 (ws' := w :: m) (by
      have : (w :: m).take i = ((w :: m).take (n + 1)).take i := by rw [List.take_take, Nat.min_eq_left (by omega)]
      rw [this, e, List.take_take, Nat.min_eq_left (by omega)])
    have g2 := rp_take q2 (ws' := (w :: m).drop i) (by
      have e1 : ((w :: m).drop i).take j = ((w :: m).take (n + 1)).drop i := by rw [List.drop_take]; congr 1; omega
      have e2 : ((w :: rest).drop i).take j = ((w :: rest).take (n + 1)).drop i := by rw [List.drop_take]; congr 1; omega
      rw [e1, e2, e])
    rw [rp_two hk, g1]
    simp only [g2]
    congr 2
    omega
termination_by d
/-- a word that no plan holds -/
structure BadP (b : Wd) : Prop where
  kw : b ≠ kMost ∧ b ≠ kWithin ∧ b ≠ kLots ∧ b ≠ kBoth ∧ b ≠ kEither
  rc : rc b = none
  rl : rlots b = none
theorem rp_head {d : Nat} {b : Wd} {ws : List Wd} (h : BadP b) : rp d (b :: ws) = none := by
  cases ws with
  | nil => cases d <;> rfl
  | cons w rest =>
    obtain ⟨⟨h1, h2, h3, h4, h5⟩, _, _⟩ := h
    unfold rp
    rw [if_neg h1, if_neg h2, if_neg h3, if_pos (by rintro (z | z); exact h4 z; exact h5 z)]
theorem rp_bad {d : Nat} {ws ws' : List Wd} {p : Pl} {k i : Nat} {b : Wd} (h : rp d ws = some (p, k)) (hi : i < k) (e : ws'.take i = ws.take i) (hb : ws'[i]? = some b) (B : BadP b) : rp d ws' = none := by
  obtain ⟨kw, w, rest, rfl⟩ := rp_shape h
  cases i with
  | zero =>
    cases ws' with
    | nil => cases hb
    | cons x m => cases hb; exact rp_head B
  | succ i =>
    obtain ⟨m, rfl, e1⟩ := take_cons (l := w :: rest) (by rw [e]; rfl)
    replace e := e1
    have hb' : m[i]? = some b := hb
    rcases rp_cases h with ⟨⟨h1, _⟩, _, h2⟩ | ⟨hk, f, a, u, c, v, rfl, q1, q2, h1, rfl⟩
    · have : i = 0 := by omega
      subst this
      cases m with
      | nil => cases hb'
      | cons x m => cases hb'; exact h2 _ _ B.rc B.rl
    · cases m with
      | nil => cases hb'
      | cons x m =>
        rw [rp_two hk]
        by_cases g : i < u
        · rw [rp_bad q1 g e hb' B]
        · have g1 := rp_take q1 (ws' := x :: m) (by
            have : (x :: m).take u = ((x :: m).take i).take u := by rw [List.take_take, Nat.min_eq_left (by omega)]
            rw [this, e, List.take_take, Nat.min_eq_left (by omega)])
          rw [g1]
          have g2 := rp_bad q2 (i := i - u) (ws' := (x :: m).drop u) (b := b) (by omega) (by
            have e1 : ((x :: m).drop u).take (i - u) = ((x :: m).take i).drop u := by rw [List.drop_take]
            have e2 : ((w :: rest).drop u).take (i - u) = ((w :: rest).take i).drop u := by rw [List.drop_take]
            rw [e1, e2, e]) (by rw [List.getElem?_drop, show u + (i - u) = i by omega]; exact hb') B
          simp only [g2]
termination_by d
theorem rp_short {d : Nat} {ws : List Wd} {p : Pl} {k i : Nat} (h : rp d ws = some (p, k)) (hi : i < k) : rp d (ws.take i) = none := by
  obtain ⟨kw, w, rest, rfl⟩ := rp_shape h
  match i, hi with
  | 0, _ => cases d <;> rfl
  | 1, _ => cases d <;> rfl
  | i + 2, hi =>
    rcases rp_cases h with ⟨⟨h1, _⟩, _⟩ | ⟨hk, f, a, u, c, v, rfl, q1, q2, h1, rfl⟩
    · omega
    · have e : (kw :: w :: rest).take (i + 2) = kw :: w :: rest.take i := rfl
      rw [e, rp_two hk]
      have e1 : w :: rest.take i = (w :: rest).take (i + 1) := rfl
      rw [e1]
      by_cases g : i + 1 < u
      · rw [rp_short q1 g]
      · have g1 := rp_take q1 (ws' := (w :: rest).take (i + 1)) (by rw [List.take_take, Nat.min_eq_left (by omega)])
        rw [g1]
        have g2 := rp_short q2 (i := i + 1 - u) (by omega)
        rw [← List.drop_take] at g2
        simp only [g2]
termination_by d
/-- doubts -/
theorem rdbt_some {ws : List Wd} {p : Pl} (h : rdbt ws = some p) : rp 3 ws = some (p, ws.length) := by
  unfold rdbt at h
  cases q : rp 3 ws with
  | none => rw [q] at h; cases h
  | some pk =>
    obtain ⟨p', k⟩ := pk
    rw [q] at h
    simp only at h
    split at h
    · rename_i c; cases h; rw [c]
    · cases h
theorem rdbt_none {ws : List Wd} (h : rp 3 ws = none) : rdbt ws = none := by unfold rdbt; rw [h]
theorem rdbt_bad {ws ws' : List Wd} {p : Pl} {i : Nat} {b : Wd} (h : rdbt ws = some p) (hi : i < ws.length) (e : ws'.take i = ws.take i) (hb : ws'[i]? = some b) (B : BadP b) : rdbt ws' = none := rdbt_none (rp_bad (rdbt_some h) hi e hb B)
theorem rdbt_short {ws : List Wd} {p : Pl} {i : Nat} (h : rdbt ws = some p) (hi : i < ws.length) : rdbt (ws.take i) = none := rdbt_none (rp_short (rdbt_some h) hi)
theorem rdbt_long {ws r : List Wd} {p : Pl} (h : rdbt ws = some p) (hr : r ≠ []) : rdbt (ws ++ r) = none := by
  have := rp_take (rdbt_some h) (ws' := ws ++ r) (by simp)
  unfold rdbt
  rw [this]
  simp only
  refine if_neg fun z => ?_
  rw [List.length_append] at z
  exact hr (List.eq_nil_of_length_eq_zero (by omega))
end K82
set_option Elab.async false
set_option linter.all false
set_option maxRecDepth 100000
namespace K82
open PySem PySem.Spec PyProof.Rows L2 SX
abbrev sp (c : Nat) (w : Wd) : List Wd := TL.spl [c] 0 [] w
theorem pre1 {c x : Nat} {w : Wd} : TL.pre [c] (x :: w) = decide (x = c) := by
  rw [show TL.pre [c] (x :: w) = (x == c) by simp [TL.pre]]
  rfl
theorem spl_acc (c : Nat) : ∀ (w acc : Wd), ∃ hd tl, sp c w = hd :: tl ∧ TL.spl [c] 0 acc w = (acc ++ hd) :: tl
  | [], acc => ⟨[], [], by simp [sp, TL.spl_nil], by simp [TL.spl_nil]⟩
  | x :: w, acc => by
    by_cases h : x = c
    · have q : TL.pre [c] (x :: w) = true := by rw [pre1]; exact decide_eq_true h
      exact ⟨[], _, TL.spl_hit q, by rw [TL.spl_hit q, List.append_nil]⟩
    · have q : TL.pre [c] (x :: w) = false := by rw [pre1]; exact decide_eq_false h
      obtain ⟨hd, tl, e1, e2⟩ := spl_acc c w (acc ++ [x])
      obtain ⟨hd', tl', e1', e2'⟩ := spl_acc c w [x]
      rw [e1] at e1'
      injection e1' with g1 g2
      subst g1 g2
      refine ⟨x :: hd, tl, ?_, ?_⟩
      · show TL.spl [c] 0 [] (x :: w) = _
        rw [TL.spl_miss q]
        exact e2'
      · rw [TL.spl_miss q, e2]
        simp
theorem sp_sep (c : Nat) (w : Wd) : sp c (c :: w) = [] :: sp c w := by
  have q : TL.pre [c] (c :: w) = true := by rw [pre1]; simp
  exact TL.spl_hit q
theorem sp_cons {c x : Nat} {w : Wd} (h : x ≠ c) : ∃ hd tl, sp c w = hd :: tl ∧ sp c (x :: w) = (x :: hd) :: tl := by
  have q : TL.pre [c] (x :: w) = false := by rw [pre1]; exact decide_eq_false h
  obtain ⟨hd, tl, e1, e2⟩ := spl_acc c w [x]
  refine ⟨hd, tl, e1, ?_⟩
  show TL.spl [c] 0 [] (x :: w) = _
  rw [TL.spl_miss q]
  exact e2
theorem sp_ne (c : Nat) (w : Wd) : sp c w ≠ [] := by
  obtain ⟨hd, tl, e, _⟩ := spl_acc c w []
  rw [e]
  simp
theorem join_cons2 (c : Nat) (p : Wd) {l : List Wd} (h : l ≠ []) : TL.joinL [c] (p :: l) = p ++ c :: TL.joinL [c] l := by
  cases l with
  | nil => exact absurd rfl h
  | cons q r => rfl
theorem join_sp (c : Nat) : ∀ w : Wd, TL.joinL [c] (sp c w) = w
  | [] => by simp [sp, TL.spl_nil, TL.joinL]
  | x :: w => by
    have ih := join_sp c w
    by_cases h : x = c
    · subst h
      rw [sp_sep, join_cons2 x [] (sp_ne x w), ih]
      rfl
    · obtain ⟨hd, tl, e1, e2⟩ := sp_cons (w := w) h
      rw [e2]
      rw [e1] at ih
      cases tl with
      | nil =>
        have ih' : hd = w := ih
        rw [ih']
        rfl
      | cons q r =>
        rw [join_cons2 c hd (by simp)] at ih
        rw [join_cons2 c _ (by simp)]
        rw [List.cons_append, ih]
theorem sp_free (c : Nat) : ∀ w : Wd, ∀ p ∈ sp c w, c ∉ p
  | [], p, hp => by simp [sp, TL.spl_nil] at hp; subst hp; simp
  | x :: w, p, hp => by
    have ih := sp_free c w
    by_cases h : x = c
    · subst h
      rw [sp_sep] at hp
      rcases List.mem_cons.mp hp with rfl | hp
      · simp
      · exact ih p hp
    · obtain ⟨hd, tl, e1, e2⟩ := sp_cons (w := w) h
      rw [e2] at hp
      rw [e1] at ih
      rcases List.mem_cons.mp hp with rfl | hp
      · have := ih hd (by simp)
        intro z
        rcases List.mem_cons.mp z with z | z
        · exact h z.symm
        · exact this z
      · exact ih p (by simp [hp])
theorem sp_join {c : Nat} {ps : List Wd} (h : ps ≠ []) (h2 : ∀ p ∈ ps, c ∉ p) : sp c (TL.joinL [c] ps) = ps := TL.spl_join h h2
theorem join_snoc (c : Nat) : ∀ (ps : List Wd) (q : Wd), ps ≠ [] → TL.joinL [c] (ps ++ [q]) = TL.joinL [c] ps ++ c :: q
  | [], _, h => absurd rfl h
  | [p], q, _ => rfl
  | p :: p2 :: r, q, _ => by
    have ih := join_snoc c (p2 :: r) q (by simp)
    have e : (p :: p2 :: r) ++ [q] = p :: ((p2 :: r) ++ [q]) := rfl
    rw [e, join_cons2 c p (by simp), ih, join_cons2 c p (by simp)]
    simp
theorem join_last (c x : Nat) : ∀ (ps : List Wd) (q : Wd), TL.joinL [c] (ps ++ [q ++ [x]]) = TL.joinL [c] (ps ++ [q]) ++ [x]
  | [], q => rfl
  | p :: ps, q => by
    rw [join_snoc c (p :: ps) _ (by simp), join_snoc c (p :: ps) _ (by simp)]
    simp
theorem sp_snoc_sep (c : Nat) (w : Wd) : sp c (w ++ [c]) = sp c w ++ [[]] := by
  have e : w ++ [c] = TL.joinL [c] (sp c w ++ [[]]) := by rw [join_snoc c _ _ (sp_ne c w), join_sp]
  conv => lhs; rw [e]
  refine sp_join (by simp) fun p hp => ?_
  rcases List.mem_append.mp hp with z | z
  · exact sp_free c w p z
  · rw [List.mem_singleton.mp z]; simp
theorem sp_snoc {c x : Nat} {w : Wd} (h : x ≠ c) : ∃ ini last, sp c w = ini ++ [last] ∧ sp c (w ++ [x]) = ini ++ [last ++ [x]] := by
  obtain ⟨ini, last, e⟩ : ∃ ini last, sp c w = ini ++ [last] := by
    exact ⟨_, _, (List.dropLast_concat_getLast (sp_ne c w)).symm⟩
  refine ⟨ini, last, e, ?_⟩
  have e2 : w ++ [x] = TL.joinL [c] (ini ++ [last ++ [x]]) := by rw [join_last, ← e, join_sp]
  conv => lhs; rw [e2]
  have fr := sp_free c w
  rw [e] at fr
  refine sp_join (by simp) fun p hp => ?_
  rcases List.mem_append.mp hp with z | z
  · exact fr p (List.mem_append_left _ z)
  · rw [List.mem_singleton.mp z]
    intro z
    rcases List.mem_append.mp z with z | z
    · exact fr last (by simp) z
    · rw [List.mem_singleton] at z; exact h z.symm
end K82
set_option Elab.async false
set_option linter.all false
set_option maxRecDepth 100000
namespace K82
open PySem PySem.Spec PyProof.Rows L2 SX
theorem rlotGo_piece : ∀ {ps : List Wd} (acc : List Int), (∃ q ∈ ps, rc q = none) → rlotGo ps acc = none
  | [], _, ⟨q, hq, _⟩ => nomatch hq
  | p :: r, acc, ⟨q, hq, e⟩ => by
    cases g : rc p with
    | none => exact rlot_none g
    | some n =>
      cases b : geLast acc n with
      | true => exact rlot_bad g b
      | false =>
        rw [rlot_go g b]
        rcases List.mem_cons.mp hq with z | z
        · rw [z, g] at e; cases e
        · exact rlotGo_piece _ ⟨q, z, e⟩
theorem rlot_piece {w q : Wd} (h : w ≠ [45]) (hq : q ∈ sp 44 w) (e : rc q = none) : rlot w = none := by
  unfold rlot
  rw [if_neg h]
  exact rlotGo_piece _ ⟨q, hq, e⟩
theorem rlotsGo_piece : ∀ {ps : List Wd} (acc : List (List Int)), (∃ q ∈ ps, rlot q = none) → rlotsGo ps acc = none
  | [], _, ⟨q, hq, _⟩ => nomatch hq
  | p :: r, acc, ⟨q, hq, e⟩ => by
    cases g : rlot p with
    | none => exact rlots_none g
    | some n =>
      cases b : geLastL acc n with
      | true => exact rlots_bad g b
      | false =>
        rw [rlots_go g b]
        rcases List.mem_cons.mp hq with z | z
        · rw [z, g] at e; cases e
        · exact rlotsGo_piece _ ⟨q, z, e⟩
theorem rlots_piece {w q : Wd} (h : w ≠ wNone) (hq : q ∈ sp 47 w) (e : rlot q = none) : rlots w = none := by
  unfold rlots
  rw [if_neg h]
  exact rlotsGo_piece _ ⟨q, hq, e⟩
theorem rc_nil : rc [] = none := rfl
theorem rc_char {w : Wd} {c : Nat} (h : c ∈ w) (hc : digB c = false) : rc w = none := by
  unfold rc
  split
  · rfl
  · rw [if_neg]
    intro z
    have := List.all_eq_true.mp z c h
    rw [hc] at this
    cases this
theorem rc_zero {w : Wd} (h : w ≠ []) : rc (48 :: w) = none := by
  unfold rc
  split
  · rfl
  · split
    · rw [if_pos ⟨by cases w with | nil => exact absurd rfl h | cons a r => simp, rfl⟩]
    · rfl
/-- a word of no deed -/
structure BadW (b : Wd) : Prop where
  p : BadP b
  kw : b ≠ kTell ∧ b ≠ kRecount ∧ b ≠ kCorrect ∧ b ≠ kWithdraw ∧ b ≠ kDoubt ∧ b ≠ kWeight
  rn : rn b = none
  rb : rb b = none
  sp : 32 ∉ b
  nl : 10 ∉ b
def kws : List Wd := [kMost, kWithin, kLots, kBoth, kEither, kTell, kRecount, kCorrect, kWithdraw, kDoubt, kWeight, wNone, wAny]
theorem mkBad {b : Wd} (h : ∀ k ∈ kws, b ≠ k) (h1 : rc b = none) (h2 : rlots b = none) (h3 : rn b = none) (s : 32 ∉ b) (n : 10 ∉ b) : BadW b := by
  refine ⟨⟨⟨h _ (by simp [kws]), h _ (by simp [kws]), h _ (by simp [kws]), h _ (by simp [kws]), h _ (by simp [kws])⟩, h1, h2⟩, ⟨h _ (by simp [kws]), h _ (by simp [kws]), h _ (by simp [kws]), h _ (by simp [kws]), h _ (by simp [kws]), h _ (by simp [kws])⟩, h3, ?_, s, n⟩
  unfold rb
  rw [if_neg (h wAny (by simp [kws])), h3]
  rfl
theorem rn_none {w : Wd} (h : rc w = none) (h2 : rc (w.drop 1) = none) : rn w = none := by
  unfold rn
  split
  · rw [h2]
  · rw [h]; rfl
/-- words whose first and last figures are good -/
structure Nice (w : Wd) : Prop where
  ne : w ≠ []
  fc : w.head? ≠ some 44
  fs : w.head? ≠ some 47
  ls : w.getLast? ≠ some 47
  sp : 32 ∉ w
  nl : 10 ∉ w
theorem bad_zero {w : Wd} (h : Nice w) : BadW (48 :: w) := by
  have hne : ∀ k ∈ kws, (48 :: w) ≠ k := fun k hk e => by
    have h1 : k.head? = some 48 := by rw [← e]; rfl
    have : ∀ k ∈ kws, k.head? ≠ some 48 := by decide
    exact this k hk h1
  obtain ⟨hd, tl, e1, e2⟩ := sp_cons (c := 47) (x := 48) (w := w) (by decide)
  have hd0 : hd ≠ [] ∧ hd.head? ≠ some 44 := by
    have hj := join_sp 47 w
    rw [e1] at hj
    cases hd with
    | nil =>
      exfalso
      cases tl with
      | nil => exact h.ne hj.symm
      | cons a r =>
        rw [join_cons2 47 [] (by simp)] at hj
        exact h.fs (by rw [← hj]; rfl)
    | cons a r =>
      refine ⟨by simp, fun z => h.fc ?_⟩
      rw [← hj]
      cases tl with
      | nil => exact z
      | cons a2 r2 => rw [join_cons2 47 _ (by simp)]; exact z
  obtain ⟨hd2, tl2, g1, g2⟩ := sp_cons (c := 44) (x := 48) (w := hd) (by decide)
  have hd2n : hd2 ≠ [] := fun z => by
    have hj := join_sp 44 hd
    rw [g1, z] at hj
    cases tl2 with
    | nil => exact hd0.1 hj.symm
    | cons a r =>
      rw [join_cons2 44 [] (by simp)] at hj
      exact hd0.2 (by rw [← hj]; rfl)
  refine mkBad hne (rc_zero h.ne) ?_ ?_ ?_ ?_
  · refine rlots_piece (hne wNone (by simp [kws])) (q := 48 :: hd) (by rw [e2]; simp) ?_
    exact rlot_piece (by simp) (q := 48 :: hd2) (by rw [g2]; simp) (rc_zero hd2n)
  · unfold rn
    rw [if_neg (by simp), rc_zero h.ne]
    rfl
  · intro z
    rcases List.mem_cons.mp z with z | z
    · cases z
    · exact h.sp z
  · intro z
    rcases List.mem_cons.mp z with z | z
    · cases z
    · exact h.nl z
end K82
set_option Elab.async false
set_option linter.all false
set_option maxRecDepth 100000
namespace K82
open PySem PySem.Spec PyProof.Rows L2 SX
theorem kws_last {x : Nat} (h : x = 120 ∨ x = 44 ∨ x = 45) {w : Wd} : ∀ k ∈ kws, (w ++ [x]) ≠ k := fun k hk e => by
  have h1 : k.getLast? = some x := by rw [← e]; simp
  have : ∀ k ∈ kws, k.getLast? ≠ some 120 ∧ k.getLast? ≠ some 44 ∧ k.getLast? ≠ some 45 := by decide
  have := this k hk
  rcases h with rfl | rfl | rfl
  · exact this.1 h1
  · exact this.2.1 h1
  · exact this.2.2 h1
theorem not_snoc {c x : Nat} {w : Wd} (h : c ∉ w) (h2 : c ≠ x) : c ∉ w ++ [x] := by
  intro z
  rcases List.mem_append.mp z with z | z
  · exact h z
  · exact h2 (List.mem_singleton.mp z)
theorem rn_snoc {w : Wd} {x : Nat} (hx : digB x = false) : rn (w ++ [x]) = none := by
  refine rn_none (rc_char (c := x) (by simp) hx) ?_
  cases w with
  | nil => rfl
  | cons a r => exact rc_char (c := x) (by simp) hx
theorem bad_x {w : Wd} (h : Nice w) : BadW (w ++ [120]) := by
  obtain ⟨ini, l, e1, e2⟩ := sp_snoc (c := 47) (x := 120) (w := w) (by decide)
  obtain ⟨ini2, l2, g1, g2⟩ := sp_snoc (c := 44) (x := 120) (w := l) (by decide)
  refine mkBad (kws_last (.inl rfl)) (rc_char (c := 120) (by simp) rfl) ?_ (rn_snoc rfl) (not_snoc h.sp (by decide)) (not_snoc h.nl (by decide))
  refine rlots_piece (kws_last (.inl rfl) wNone (by simp [kws])) (q := l ++ [120]) (by rw [e2]; simp) ?_
  refine rlot_piece (fun z => ?_) (q := l2 ++ [120]) (by rw [g2]; simp) (rc_char (c := 120) (by simp) rfl)
  have := congrArg List.getLast? z
  simp at this
theorem bad_comma {w : Wd} (h : Nice w) : BadW (w ++ [44]) := by
  obtain ⟨ini, l, e1, e2⟩ := sp_snoc (c := 47) (x := 44) (w := w) (by decide)
  refine mkBad (kws_last (.inr (.inl rfl))) (rc_char (c := 44) (by simp) rfl) ?_ (rn_snoc rfl) (not_snoc h.sp (by decide)) (not_snoc h.nl (by decide))
  refine rlots_piece (kws_last (.inr (.inl rfl)) wNone (by simp [kws])) (q := l ++ [44]) (by rw [e2]; simp) ?_
  refine rlot_piece (fun z => ?_) (q := []) (by rw [sp_snoc_sep]; simp) rc_nil
  have := congrArg List.getLast? z
  simp at this
theorem bad_dash {w : Wd} (h : Nice w) : BadW ((49 :: w) ++ [45]) := by
  obtain ⟨ini, l, e1, e2⟩ := sp_snoc (c := 47) (x := 45) (w := 49 :: w) (by decide)
  obtain ⟨ini2, l2, g1, g2⟩ := sp_snoc (c := 44) (x := 45) (w := l) (by decide)
  have hl : l ≠ [] := fun z => by
    subst z
    have hj := join_sp 47 (49 :: w)
    rw [e1] at hj
    cases ini with
    | nil => cases hj
    | cons a r =>
      rw [join_snoc 47 _ _ (by simp)] at hj
      have h1 : (49 :: w).getLast? = some 47 := by rw [← hj]; simp
      have h2 : (49 :: w).getLast? = w.getLast? := by
        cases q : w with
        | nil => exact absurd q h.ne
        | cons a r => simp [List.getLast?_cons_cons]
      rw [h2] at h1
      exact h.ls h1
  refine mkBad (kws_last (.inr (.inr rfl))) (rc_char (c := 45) (by simp) rfl) ?_ (rn_snoc rfl) (not_snoc (fun z => ?_) (by decide)) (not_snoc (fun z => ?_) (by decide))
  · refine rlots_piece (kws_last (.inr (.inr rfl)) wNone (by simp [kws])) (q := l ++ [45]) (by rw [e2]; simp) ?_
    refine rlot_piece (fun z => ?_) (q := l2 ++ [45]) (by rw [g2]; simp) (rc_char (c := 45) (by simp) rfl)
    have := congrArg List.length z
    simp at this
    exact hl this
  · rcases List.mem_cons.mp z with z | z
    · cases z
    · exact h.sp z
  · rcases List.mem_cons.mp z with z | z
    · cases z
    · exact h.nl z
theorem bad_plus {w : Wd} (h : Nice w) : BadW (43 :: w) := by
  have hne : ∀ k ∈ kws, (43 :: w) ≠ k := fun k hk e => by
    have h1 : k.head? = some 43 := by rw [← e]; rfl
    have : ∀ k ∈ kws, k.head? ≠ some 43 := by decide
    exact this k hk h1
  obtain ⟨hd, tl, e1, e2⟩ := sp_cons (c := 47) (x := 43) (w := w) (by decide)
  obtain ⟨hd2, tl2, g1, g2⟩ := sp_cons (c := 44) (x := 43) (w := hd) (by decide)
  have hp : ∀ v, rc (43 :: v) = none := fun v => rc_char (c := 43) (by simp) rfl
  refine mkBad hne (hp w) ?_ ?_ (fun z => ?_) (fun z => ?_)
  · refine rlots_piece (hne wNone (by simp [kws])) (q := 43 :: hd) (by rw [e2]; simp) ?_
    exact rlot_piece (by simp) (q := 43 :: hd2) (by rw [g2]; simp) (hp _)
  · unfold rn
    rw [if_neg (by simp), hp w]
    rfl
  · rcases List.mem_cons.mp z with z | z
    · cases z
    · exact h.sp z
  · rcases List.mem_cons.mp z with z | z
    · cases z
    · exact h.nl z
/-- the words that are always bad -/
def badWs : List Wd := [[45, 48], [45, 48, 53], [48, 49], [49, 48, 48, 48, 48, 48, 48, 48, 48, 48, 48, 48, 48], [45, 49, 48, 48, 48, 48, 48, 48, 48, 48, 48, 48, 48, 48], [49, 95, 48], [49, 46, 48], [49, 101, 51], [48, 120, 49], [43, 53], [], [45, 45], [49, 44, 48]]
theorem bad_ws : ∀ b ∈ badWs, BadW b := fun b hb => by
  have h : ∀ b ∈ badWs, (∀ k ∈ kws, b ≠ k) ∧ rc b = none ∧ rlots b = none ∧ rn b = none ∧ 32 ∉ b ∧ 10 ∉ b := by decide +kernel
  obtain ⟨h1, h2, h3, h4, h5, h6⟩ := h b hb
  exact mkBad h1 h2 h3 h4 h5 h6
end K82
set_option Elab.async false
set_option linter.all false
set_option maxRecDepth 100000
namespace K82
open PySem PySem.Spec PyProof.Rows L2 SX
structure Badw (ws : List Wd) : Prop where
  t : ws.headD [] = kTell → rtell ws = none
  r : ws.headD [] = kRecount → rrecount ws = none
  c : ws.headD [] = kCorrect → rcorrect ws = none
  w : ws.headD [] = kWithdraw → rwithdraw ws = none
  d : ws.headD [] = kDoubt → rdbt ws.tail = none
theorem words_join {ws : List Wd} (hne : ws ≠ []) (hs : ∀ w ∈ ws, 32 ∉ w) : words (TL.joinL [32] ws) = ws := sp_join hne hs
theorem rdeed_bad {ws : List Wd} (hne : ws ≠ []) (hs : ∀ w ∈ ws, 32 ∉ w) (h : Badw ws) : rdeed (TL.joinL [32] ws) = none := by
  unfold rdeed
  rw [words_join hne hs]
  simp only
  by_cases c1 : ws.headD [] = kTell
  · rw [if_pos c1]; exact h.t c1
  rw [if_neg c1]
  by_cases c2 : ws.headD [] = kRecount
  · rw [if_pos c2]; exact h.r c2
  rw [if_neg c2]
  by_cases c3 : ws.headD [] = kCorrect
  · rw [if_pos c3]; exact h.c c3
  rw [if_neg c3]
  by_cases c4 : ws.headD [] = kWithdraw
  · rw [if_pos c4]; exact h.w c4
  rw [if_neg c4]
  by_cases c5 : ws.headD [] = kDoubt
  · rw [if_pos c5]
    refine if_neg ?_
    have hd := h.d c5
    match ws, c5 with
    | [k], c5 =>
      have e : k = kDoubt := c5
      subst e
      decide
    | k :: a :: r, c5 =>
      have e : k = kDoubt := c5
      subst e
      have e1 : (TL.joinL [32] (kDoubt :: a :: r)).drop 6 = TL.joinL [32] (a :: r) := by
        rw [join_cons2 32 kDoubt (by simp)]
        rfl
      have e2 : words (TL.joinL [32] (a :: r)) = a :: r := words_join (by simp) fun w hw => hs w (List.mem_cons_of_mem _ hw)
      have hd' : rdbt (a :: r) = none := hd
      rw [e1]
      unfold dbtOk
      rw [e2, hd']
      exact Bool.false_ne_true
  · rw [if_neg c5]
/-- no keyword ahead -/
theorem badw_head {k : Wd} {r : List Wd} (h : k ≠ kTell ∧ k ≠ kRecount ∧ k ≠ kCorrect ∧ k ≠ kWithdraw ∧ k ≠ kDoubt) : Badw (k :: r) := ⟨fun z => absurd z h.1, fun z => absurd z h.2.1, fun z => absurd z h.2.2.1, fun z => absurd z h.2.2.2.1, fun z => absurd z h.2.2.2.2⟩
end K82
set_option Elab.async false
set_option linter.all false
set_option maxRecDepth 100000
namespace K82
open PySem PySem.Spec PyProof.Rows L2 SX
theorem free_n {s : Nat} (n : Nat) (h : s < 48 ∨ 57 < s) (h2 : s ≠ 45) : s ∉ wn n := by
  have := itx_free (n : Int) h h2
  rw [itx_nat] at this
  exact this
theorem free_b {s : Nat} (o : Option Int) (h : s < 48 ∨ 57 < s) (h2 : s ≠ 45) (h3 : s ∉ wAny) : s ∉ wb o := by
  cases o with
  | none => exact h3
  | some i => exact itx_free i h h2
theorem dwords_free {s : Nat} (hs : s = 32 ∨ s = 10) {d : Deed} (hd : ∀ t, d = .doubt t → s = 32 ∨ 10 ∉ t) : ∀ w ∈ dwords d, s ∉ w := by
  have hr : s < 48 ∨ 57 < s := by omega
  have h45 : s ≠ 45 := by omega
  have hA : s ∉ wAny := by rcases hs with rfl | rfl <;> decide
  have hk : ∀ k ∈ kws, s ∉ k := by rcases hs with rfl | rfl <;> decide
  intro w hw
  cases d with
  | tell a b lo hi m =>
    simp only [dwords, List.mem_cons, List.not_mem_nil, or_false] at hw
    rcases hw with rfl | rfl | rfl | rfl | rfl | rfl | rfl
    · exact hk _ (by simp [kws])
    · exact free_n _ hr h45
    · exact free_n _ hr h45
    · exact free_b _ hr h45 hA
    · exact free_b _ hr h45 hA
    · exact hk _ (by simp [kws])
    · exact free_n _ hr h45
  | recount a b v =>
    simp only [dwords, List.mem_cons, List.not_mem_nil, or_false] at hw
    rcases hw with rfl | rfl | rfl | rfl
    · exact hk _ (by simp [kws])
    · exact free_n _ hr h45
    · exact free_n _ hr h45
    · exact itx_free _ hr h45
  | correct n lo hi =>
    simp only [dwords, List.mem_cons, List.not_mem_nil, or_false] at hw
    rcases hw with rfl | rfl | rfl | rfl
    · exact hk _ (by simp [kws])
    · exact free_n _ hr h45
    · exact free_b _ hr h45 hA
    · exact free_b _ hr h45 hA
  | withdraw n =>
    simp only [dwords, List.mem_cons, List.not_mem_nil, or_false] at hw
    rcases hw with rfl | rfl
    · exact hk _ (by simp [kws])
    · exact free_n _ hr h45
  | doubt t =>
    rcases List.mem_cons.mp hw with rfl | hw
    · exact hk _ (by simp [kws])
    · rcases hs with rfl | rfl
      · exact sp_free 32 t w hw
      · rcases hd t rfl with z | z
        · cases z
        · intro g
          apply z
          have hj := join_sp 32 t
          rw [← hj]
          exact mem_join hw g
where
  mem_join {s c : Nat} : ∀ {ps : List Wd} {w : Wd}, w ∈ ps → c ∈ w → c ∈ TL.joinL [s] ps
    | [p], w, h, g => by rw [List.mem_singleton.mp h] at g; exact g
    | p :: q :: r, w, h, g => by
      rw [join_cons2 s p (by simp)]
      rcases List.mem_cons.mp h with rfl | h
      · exact List.mem_append_left _ g
      · exact List.mem_append_right _ (List.mem_cons_of_mem _ (mem_join h g))
theorem line_join (d : Deed) : line d = TL.joinL [32] (dwords d) := by
  cases d with
  | doubt t =>
    show kDoubt ++ 32 :: t = TL.joinL [32] (kDoubt :: sp 32 t)
    rw [join_cons2 32 kDoubt (sp_ne 32 t), join_sp]
  | _ => rfl
theorem dwords_ne (d : Deed) : dwords d ≠ [] := by cases d <;> simp [dwords]
theorem words_line (d : Deed) : words (line d) = dwords d := by
  rw [line_join]
  exact words_join (dwords_ne d) (dwords_free (.inl rfl) fun _ _ => .inl rfl)
end K82
set_option Elab.async false
set_option linter.all false
set_option maxRecDepth 100000
namespace K82
open PySem PySem.Spec PyProof.Rows L2 SX
theorem doubt_read {t : Wd} (h : rdeed (line (.doubt t)) = some (.doubt t)) : ∃ p, rdbt (words t) = some p := by
  unfold rdeed at h
  rw [words_line] at h
  have e1 : (dwords (.doubt t)).headD [] = kDoubt := rfl
  have e2 : (line (.doubt t)).drop 6 = t := rfl
  simp only [e1, e2] at h
  rw [if_neg (by decide), if_neg (by decide), if_neg (by decide), if_neg (by decide), if_pos trivial] at h
  cases q : rdbt (words t) with
  | none =>
    unfold dbtOk at h
    rw [q] at h
    cases h
  | some p => exact ⟨p, rfl⟩
/-- a word that reads as no count -/
theorem badw_set {d : Deed} {i : Nat} {b : Wd} (hg : rdeed (line d) = some d) (hi : i < (dwords d).length) (B : BadW b) : Badw ((dwords d).set i b) := by
  have hb := B.p.rc
  have hn := B.rn
  have hbb := B.rb
  cases i with
  | zero =>
    have e : ∃ r, (dwords d).set 0 b = b :: r := by
      cases q : dwords d with
      | nil => exact absurd q (dwords_ne d)
      | cons a r => exact ⟨r, rfl⟩
    obtain ⟨r, e⟩ := e
    rw [e]
    exact badw_head ⟨B.kw.1, B.kw.2.1, B.kw.2.2.1, B.kw.2.2.2.1, B.kw.2.2.2.2.1⟩
  | succ i =>
    cases d with
    | tell a b' lo hi m =>
      refine ⟨fun _ => ?_, fun z => ?_, fun z => ?_, fun z => ?_, fun z => ?_⟩
      · have hi' : i < 6 := by simp [dwords] at hi; omega
        match i, hi' with
        | 0, _ => simp [dwords, rtell, hb]
        | 1, _ => simp [dwords, rtell, hb]
        | 2, _ => simp [dwords, rtell, hbb]
        | 3, _ => simp [dwords, rtell, hbb]
        | 4, _ => simp [dwords, rtell, B.kw.2.2.2.2.2]
        | 5, _ => simp [dwords, rtell, hb]
      all_goals exact absurd (show kTell = _ from z) (by decide)
    | recount a b' v =>
      refine ⟨fun z => ?_, fun _ => ?_, fun z => ?_, fun z => ?_, fun z => ?_⟩
      · exact absurd (show kRecount = _ from z) (by decide)
      · have hi' : i < 3 := by simp [dwords] at hi; omega
        match i, hi' with
        | 0, _ => simp [dwords, rrecount, hb]
        | 1, _ => simp [dwords, rrecount, hb]
        | 2, _ => simp [dwords, rrecount, hn]
      all_goals exact absurd (show kRecount = _ from z) (by decide)
    | correct n lo hi =>
      refine ⟨fun z => ?_, fun z => ?_, fun _ => ?_, fun z => ?_, fun z => ?_⟩
      · exact absurd (show kCorrect = _ from z) (by decide)
      · exact absurd (show kCorrect = _ from z) (by decide)
      · have hi' : i < 3 := by simp [dwords] at hi; omega
        match i, hi' with
        | 0, _ => simp [dwords, rcorrect, hb]
        | 1, _ => simp [dwords, rcorrect, hbb]
        | 2, _ => simp [dwords, rcorrect, hbb]
      all_goals exact absurd (show kCorrect = _ from z) (by decide)
    | withdraw n =>
      refine ⟨fun z => ?_, fun z => ?_, fun z => ?_, fun _ => ?_, fun z => ?_⟩
      · exact absurd (show kWithdraw = _ from z) (by decide)
      · exact absurd (show kWithdraw = _ from z) (by decide)
      · exact absurd (show kWithdraw = _ from z) (by decide)
      · have hi' : i < 1 := by simp [dwords] at hi; omega
        match i, hi' with
        | 0, _ => simp [dwords, rwithdraw, hb]
      · exact absurd (show kWithdraw = _ from z) (by decide)
    | doubt t =>
      refine ⟨fun z => ?_, fun z => ?_, fun z => ?_, fun z => ?_, fun _ => ?_⟩
      · exact absurd (show kDoubt = _ from z) (by decide)
      · exact absurd (show kDoubt = _ from z) (by decide)
      · exact absurd (show kDoubt = _ from z) (by decide)
      · exact absurd (show kDoubt = _ from z) (by decide)
      · obtain ⟨p, hp⟩ := doubt_read hg
        have hi' : i < (words t).length := by
          have : i + 1 < (words t).length + 1 := hi
          omega
        exact rdbt_bad hp (ws' := (words t).set i b) hi' (by rw [List.take_set_of_le (Nat.le_refl _)]) (by simp [hi']) B.p
end K82
set_option Elab.async false
set_option linter.all false
set_option maxRecDepth 100000
namespace K82
open PySem PySem.Spec PyProof.Rows L2 SX
theorem badP_nil : BadP [] := (bad_ws [] (by decide)).p
/-- one word more, at the end -/
theorem badw_more {d : Deed} {x : Wd} (hg : rdeed (line d) = some d) : Badw (dwords d ++ [x]) := by
  cases d with
  | tell a b' lo hi m => exact ⟨fun _ => rfl, fun z => absurd (show kTell = _ from z) (by decide), fun z => absurd (show kTell = _ from z) (by decide), fun z => absurd (show kTell = _ from z) (by decide), fun z => absurd (show kTell = _ from z) (by decide)⟩
  | recount a b' v => exact ⟨fun z => absurd (show kRecount = _ from z) (by decide), fun _ => rfl, fun z => absurd (show kRecount = _ from z) (by decide), fun z => absurd (show kRecount = _ from z) (by decide), fun z => absurd (show kRecount = _ from z) (by decide)⟩
  | correct n lo hi => exact ⟨fun z => absurd (show kCorrect = _ from z) (by decide), fun z => absurd (show kCorrect = _ from z) (by decide), fun _ => rfl, fun z => absurd (show kCorrect = _ from z) (by decide), fun z => absurd (show kCorrect = _ from z) (by decide)⟩
  | withdraw n => exact ⟨fun z => absurd (show kWithdraw = _ from z) (by decide), fun z => absurd (show kWithdraw = _ from z) (by decide), fun z => absurd (show kWithdraw = _ from z) (by decide), fun _ => rfl, fun z => absurd (show kWithdraw = _ from z) (by decide)⟩
  | doubt t =>
    refine ⟨fun z => absurd (show kDoubt = _ from z) (by decide), fun z => absurd (show kDoubt = _ from z) (by decide), fun z => absurd (show kDoubt = _ from z) (by decide), fun z => absurd (show kDoubt = _ from z) (by decide), fun _ => ?_⟩
    obtain ⟨p, hp⟩ := doubt_read hg
    exact rdbt_long (ws := words t) (r := [x]) hp (by simp)
/-- one word less, at the end -/
theorem badw_less {d : Deed} (hg : rdeed (line d) = some d) : Badw (dwords d).dropLast := by
  cases d with
  | tell a b' lo hi m => exact ⟨fun _ => rfl, fun z => absurd (show kTell = _ from z) (by decide), fun z => absurd (show kTell = _ from z) (by decide), fun z => absurd (show kTell = _ from z) (by decide), fun z => absurd (show kTell = _ from z) (by decide)⟩
  | recount a b' v => exact ⟨fun z => absurd (show kRecount = _ from z) (by decide), fun _ => rfl, fun z => absurd (show kRecount = _ from z) (by decide), fun z => absurd (show kRecount = _ from z) (by decide), fun z => absurd (show kRecount = _ from z) (by decide)⟩
  | correct n lo hi => exact ⟨fun z => absurd (show kCorrect = _ from z) (by decide), fun z => absurd (show kCorrect = _ from z) (by decide), fun _ => rfl, fun z => absurd (show kCorrect = _ from z) (by decide), fun z => absurd (show kCorrect = _ from z) (by decide)⟩
  | withdraw n => exact ⟨fun z => absurd (show kWithdraw = _ from z) (by decide), fun z => absurd (show kWithdraw = _ from z) (by decide), fun z => absurd (show kWithdraw = _ from z) (by decide), fun _ => rfl, fun z => absurd (show kWithdraw = _ from z) (by decide)⟩
  | doubt t =>
    obtain ⟨p, hp⟩ := doubt_read hg
    have hne := sp_ne 32 t
    have e : (dwords (.doubt t)).dropLast = kDoubt :: (words t).dropLast := List.dropLast_cons_of_ne_nil hne
    rw [e]
    refine ⟨fun z => absurd (show kDoubt = _ from z) (by decide), fun z => absurd (show kDoubt = _ from z) (by decide), fun z => absurd (show kDoubt = _ from z) (by decide), fun z => absurd (show kDoubt = _ from z) (by decide), fun _ => ?_⟩
    show rdbt (words t).dropLast = none
    rw [List.dropLast_eq_take]
    refine rdbt_short hp ?_
    have : 0 < (words t).length := List.length_pos_iff.mpr hne
    omega
/-- an empty word put between -/
theorem badw_ins {d : Deed} {i : Nat} (hg : rdeed (line d) = some d) (hi : i < (dwords d).length) : Badw ((dwords d).take i ++ [[]] ++ (dwords d).drop i) := by
  cases i with
  | zero => exact badw_head (by decide)
  | succ i =>
    have hl : ((dwords d).take (i + 1) ++ [[]] ++ (dwords d).drop (i + 1)).length = (dwords d).length + 1 := by
      simp; omega
    have hh : ((dwords d).take (i + 1) ++ [[]] ++ (dwords d).drop (i + 1)).headD [] = (dwords d).headD [] := by
      cases q : dwords d with
      | nil => exact absurd q (dwords_ne d)
      | cons a r => simp
    have ht : ((dwords d).take (i + 1) ++ [[]] ++ (dwords d).drop (i + 1)).tail = (dwords d).tail.take i ++ [[]] ++ (dwords d).tail.drop i := by
      cases q : dwords d with
      | nil => exact absurd q (dwords_ne d)
      | cons a r => simp
    generalize hw : (dwords d).take (i + 1) ++ [[]] ++ (dwords d).drop (i + 1) = ws at hl hh ht
    refine ⟨fun z => ?_, fun z => ?_, fun z => ?_, fun z => ?_, fun z => ?_⟩
    all_goals rw [hh] at z
    · cases d with
      | tell => exact rtell_len (by rw [hl]; simp [dwords])
      | _ => exact absurd z (by simp [dwords]; decide)
    · cases d with
      | recount => exact rrecount_len (by rw [hl]; simp [dwords])
      | _ => exact absurd z (by simp [dwords]; decide)
    · cases d with
      | correct => exact rcorrect_len (by rw [hl]; simp [dwords])
      | _ => exact absurd z (by simp [dwords]; decide)
    · cases d with
      | withdraw => exact rwithdraw_len (by rw [hl]; simp [dwords])
      | _ => exact absurd z (by simp [dwords]; decide)
    · cases d with
      | doubt t =>
        obtain ⟨p, hp⟩ := doubt_read hg
        have hi' : i < (words t).length := by
          have : i + 1 < (words t).length + 1 := hi
          omega
        rw [ht]
        have e : (dwords (.doubt t)).tail = words t := rfl
        rw [e]
        have l1 : ((words t).take i).length = i := by rw [List.length_take]; omega
        refine rdbt_bad hp (i := i) (b := []) hi' ?_ ?_ badP_nil
        · rw [List.append_assoc, List.take_append_of_le_length (by omega), List.take_take, Nat.min_self]
        · rw [List.append_assoc, List.getElem?_append_right (by omega), l1, Nat.sub_self]
          rfl
      | _ => exact absurd z (by simp [dwords]; decide)
where
  rtell_len {ws : List Wd} (h : ws.length ≠ 7) : rtell ws = none := by
    unfold rtell
    split
    · exact absurd rfl h
    · rfl
  rrecount_len {ws : List Wd} (h : ws.length ≠ 4) : rrecount ws = none := by
    unfold rrecount
    split
    · exact absurd rfl h
    · rfl
  rcorrect_len {ws : List Wd} (h : ws.length ≠ 4) : rcorrect ws = none := by
    unfold rcorrect
    split
    · exact absurd rfl h
    · rfl
  rwithdraw_len {ws : List Wd} (h : ws.length ≠ 2) : rwithdraw ws = none := by
    unfold rwithdraw
    split
    · exact absurd rfl h
    · rfl
end K82
set_option Elab.async false
set_option linter.all false
set_option maxRecDepth 100000
namespace K82
open PySem PySem.Spec PyProof.Rows L2 SX
theorem head_mem {w : Wd} {c : Nat} (h : w.head? = some c) : c ∈ w := by
  cases w with
  | nil => cases h
  | cons a r => cases h; simp
theorem last_mem {w : Wd} {c : Nat} (h : w.getLast? = some c) : c ∈ w := List.mem_of_getLast? h
/-- figures, and perhaps a sign -/
theorem nice_of {w : Wd} (hne : w ≠ []) (h : ∀ c ∈ w, c ≠ 44 ∧ c ≠ 47 ∧ c ≠ 32 ∧ c ≠ 10) : Nice w :=
  ⟨hne, fun z => (h _ (head_mem z)).1 rfl, fun z => (h _ (head_mem z)).2.1 rfl, fun z => (h _ (last_mem z)).2.1 rfl, fun z => (h _ z).2.2.1 rfl, fun z => (h _ z).2.2.2 rfl⟩
theorem nice_k : ∀ k ∈ kws, Nice k := fun k hk => by
  have : ∀ k ∈ kws, k ≠ [] ∧ ∀ c ∈ k, c ≠ 44 ∧ c ≠ 47 ∧ c ≠ 32 ∧ c ≠ 10 := by decide
  exact nice_of (this k hk).1 (this k hk).2
theorem nice_rc {w : Wd} {n : Nat} (h : rc w = some n) : Nice w := by
  refine nice_of (fun z => by subst z; cases h) fun c hc => ?_
  have hd : digB c = true := by
    cases q : digB c with
    | true => rfl
    | false => rw [rc_char hc q] at h; cases h
  simp [digB] at hd
  omega
theorem nice_itx (i : Int) : Nice (itx i) := by
  have hf := fun s h h2 => itx_free (s := s) i h h2
  refine nice_of ?_ fun c hc => ⟨fun z => hf 44 (by omega) (by omega) (z ▸ hc), fun z => hf 47 (by omega) (by omega) (z ▸ hc), fun z => hf 32 (by omega) (by omega) (z ▸ hc), fun z => hf 10 (by omega) (by omega) (z ▸ hc)⟩
  unfold itx
  split
  · exact fun z => nomatch z
  · exact TL.numL_ne _
theorem nice_n (n : Nat) : Nice (wn n) := by
  have := nice_itx (n : Int)
  rw [itx_nat] at this
  exact this
theorem nice_b (o : Option Int) : Nice (wb o) := by
  cases o with
  | none => exact nice_k wAny (by simp [kws])
  | some i => exact nice_itx i
/-- the chars of what reads as lots -/
theorem rlot_chars {p : Wd} (h : rlot p ≠ none) : ∀ c ∈ p, c ≠ 32 ∧ c ≠ 10 := by
  by_cases e : p = [45]
  · subst e; decide
  · intro c hc
    have hcc : ∀ q ∈ sp 44 p, ∀ c ∈ q, c ≠ 32 ∧ c ≠ 10 := fun q hq c hc => by
      have hr : rc q ≠ none := fun z => h (rlot_piece e hq z)
      have hd : digB c = true := by
        cases g : digB c with
        | true => rfl
        | false => exact absurd (rc_char hc g) hr
      simp [digB] at hd
      omega
    have hj := join_sp 44 p
    rw [← hj] at hc
    rcases join_mem hc with ⟨q, hq, g⟩ | g
    · exact hcc q hq c g
    · omega
where
  join_mem {s c : Nat} : ∀ {ps : List Wd}, c ∈ TL.joinL [s] ps → (∃ q ∈ ps, c ∈ q) ∨ c = s
    | [], h => nomatch h
    | [p], h => .inl ⟨p, by simp, h⟩
    | p :: q :: r, h => by
      rw [join_cons2 s p (by simp)] at h
      rcases List.mem_append.mp h with h | h
      · exact .inl ⟨p, by simp, h⟩
      rcases List.mem_cons.mp h with h | h
      · exact .inr h
      · rcases join_mem h with ⟨q', hq, g⟩ | g
        · exact .inl ⟨q', List.mem_cons_of_mem _ hq, g⟩
        · exact .inr g
theorem rlot_nil : rlot [] = none := by decide
theorem nice_rlots {w : Wd} (h : rlots w ≠ none) : Nice w := by
  by_cases e : w = wNone
  · subst e; exact nice_k _ (by simp [kws])
  have hp : ∀ p ∈ sp 47 w, rlot p ≠ none := fun p hp z => h (rlots_piece e hp z)
  have hch : ∀ c ∈ w, c ≠ 32 ∧ c ≠ 10 := fun c hc => by
    have hj := join_sp 47 w
    rw [← hj] at hc
    rcases rlot_chars.join_mem hc with ⟨q, hq, g⟩ | g
    · exact rlot_chars (hp q hq) c g
    · omega
  refine ⟨fun z => ?_, fun z => ?_, fun z => ?_, fun z => ?_, fun z => (hch _ z).1 rfl, fun z => (hch _ z).2 rfl⟩
  · subst z
    exact hp [] (by decide) rlot_nil
  · cases w with
    | nil => cases z
    | cons a r =>
      cases z
      obtain ⟨hd, tl, e1, e2⟩ := sp_cons (c := 47) (x := 44) (w := r) (by decide)
      refine hp (44 :: hd) (by rw [e2]; simp) ?_
      refine rlot_piece (by simp) (q := []) ?_ rc_nil
      rw [sp_sep]
      simp
  · cases w with
    | nil => cases z
    | cons a r =>
      cases z
      exact hp [] (by rw [sp_sep]; simp) rlot_nil
  · obtain ⟨u, rfl⟩ : ∃ u, w = u ++ [47] := by
      rcases List.eq_nil_or_concat w with q | ⟨u, b, q⟩
      · subst q; cases z
      · refine ⟨u, ?_⟩
        rw [List.concat_eq_append] at q
        subst q
        simp at z
        rw [z]
    exact hp [] (by rw [sp_snoc_sep]; simp) rlot_nil
theorem nice_plan {ws : List Wd} {p : Pl} (h : rdbt ws = some p) : ∀ w ∈ ws, Nice w := fun w hw => by
  obtain ⟨i, hi, e⟩ := List.getElem_of_mem hw
  by_cases c1 : rc w = none
  · by_cases c2 : rlots w = none
    · by_cases c3 : w ≠ kMost ∧ w ≠ kWithin ∧ w ≠ kLots ∧ w ≠ kBoth ∧ w ≠ kEither
      · have := rdbt_bad h hi (ws' := ws) rfl (b := w) (by rw [List.getElem?_eq_getElem hi, e]) ⟨c3, c1, c2⟩
        rw [h] at this
        cases this
      · refine nice_k w ?_
        by_cases g1 : w = kMost
        · simp [kws, g1]
        by_cases g2 : w = kWithin
        · simp [kws, g2]
        by_cases g3 : w = kLots
        · simp [kws, g3]
        by_cases g4 : w = kBoth
        · simp [kws, g4]
        by_cases g5 : w = kEither
        · simp [kws, g5]
        exact absurd ⟨g1, g2, g3, g4, g5⟩ c3
    · exact nice_rlots c2
  · cases q : rc w with
    | none => exact absurd q c1
    | some n => exact nice_rc q
theorem nice_words {d : Deed} (hg : rdeed (line d) = some d) : ∀ w ∈ dwords d, Nice w := fun w hw => by
  cases d with
  | tell a b lo hi m =>
    simp only [dwords, List.mem_cons, List.not_mem_nil, or_false] at hw
    rcases hw with rfl | rfl | rfl | rfl | rfl | rfl | rfl
    · exact nice_k _ (by simp [kws])
    · exact nice_n _
    · exact nice_n _
    · exact nice_b _
    · exact nice_b _
    · exact nice_k _ (by simp [kws])
    · exact nice_n _
  | recount a b v =>
    simp only [dwords, List.mem_cons, List.not_mem_nil, or_false] at hw
    rcases hw with rfl | rfl | rfl | rfl
    · exact nice_k _ (by simp [kws])
    · exact nice_n _
    · exact nice_n _
    · exact nice_itx _
  | correct n lo hi =>
    simp only [dwords, List.mem_cons, List.not_mem_nil, or_false] at hw
    rcases hw with rfl | rfl | rfl | rfl
    · exact nice_k _ (by simp [kws])
    · exact nice_n _
    · exact nice_b _
    · exact nice_b _
  | withdraw n =>
    simp only [dwords, List.mem_cons, List.not_mem_nil, or_false] at hw
    rcases hw with rfl | rfl
    · exact nice_k _ (by simp [kws])
    · exact nice_n _
  | doubt t =>
    obtain ⟨p, hp⟩ := doubt_read hg
    rcases List.mem_cons.mp hw with rfl | hw
    · exact nice_k _ (by simp [kws])
    · exact nice_plan hp w hw
end K82
set_option Elab.async false
set_option linter.all false
set_option maxRecDepth 100000
namespace K82
open PySem PySem.Spec PyProof.Rows L2 SX
theorem rlotGo_back : ∀ (l acc : List Int), (acc ++ l).Pairwise (· < ·) → (∀ n ∈ l, 0 ≤ n ∧ n ≤ 39) → rlotGo (l.map itx) acc = some (acc ++ l)
  | [], acc, _, _ => by simp [rlotGo]
  | n :: l, acc, hp, hb => by
    have h0 := hb n List.mem_cons_self
    obtain ⟨m, rfl⟩ := Int.eq_ofNat_of_zero_le h0.1
    have hr : rc (itx (m : Int)) = some m := by rw [itx_nat]; exact rc_num (by omega)
    have hg : geLast acc (m : Nat) = false := by
      rcases last_cases acc with rfl | ⟨ini, k, rfl⟩
      · rfl
      · have e : geLast (ini ++ [k]) (m : Nat) = decide ((m : Int) ≤ k) := by simp [geLast]
        rw [e]
        have := (List.pairwise_append.mp hp).2.2 k (by simp) (m : Int) (by simp)
        exact decide_eq_false (by omega)
    have ih := rlotGo_back l (acc ++ [(m : Int)]) (by simpa using hp) fun n hn => hb n (List.mem_cons_of_mem _ hn)
    show rlotGo (itx (m : Int) :: l.map itx) acc = _
    rw [rlot_go hr hg, ih]
    simp
theorem itx_free44 (i : Int) : 44 ∉ itx i := itx_free i (by omega) (by omega)
theorem rlot_lotW {l : List Int} (h : LotG l) : rlot (lotW l) = some l := by
  unfold lotW rlot
  by_cases c : l = []
  · subst c; rfl
  rw [if_neg c]
  have hne : l.map itx ≠ [] := by simpa using c
  have hs : sp 44 (TL.joinL [44] (l.map itx)) = l.map itx := sp_join hne fun p hp => by
    obtain ⟨i, _, rfl⟩ := List.mem_map.mp hp
    exact itx_free44 i
  have hn : TL.joinL [44] (l.map itx) ≠ [45] := fun z => by
    rw [z] at hs
    have h1 : sp 44 [45] = [[45]] := by decide
    rw [h1] at hs
    cases l with
    | nil => exact c rfl
    | cons n l =>
      have h0 := h.2 n List.mem_cons_self
      obtain ⟨m, rfl⟩ := Int.eq_ofNat_of_zero_le h0.1
      have e : [45] = itx (m : Int) := by
        have := hs
        simp only [List.map_cons] at this
        exact (List.cons.inj this).1
      have hr : rc (itx (m : Int)) = some m := by rw [itx_nat]; exact rc_num (by omega)
      rw [← e] at hr
      cases hr
  rw [if_neg hn]
  show rlotGo (sp 44 _) [] = _
  rw [hs]
  exact rlotGo_back l [] h.1 h.2
theorem rlotsGo_back : ∀ (ls acc : List (List Int)), (acc ++ ls).Pairwise (· < ·) → (∀ l ∈ ls, LotG l) → rlotsGo (ls.map lotW) acc = some (acc ++ ls)
  | [], acc, _, _ => by simp [rlotsGo]
  | l :: ls, acc, hp, hb => by
    have hr := rlot_lotW (hb l List.mem_cons_self)
    have hg : geLastL acc l = false := by
      rcases last_cases acc with rfl | ⟨ini, k, rfl⟩
      · rfl
      · have e : geLastL (ini ++ [k]) l = !decide (k < l) := by simp [geLastL]
        rw [e]
        have := (List.pairwise_append.mp hp).2.2 k (by simp) l (by simp)
        rw [decide_eq_true this]
        rfl
    have ih := rlotsGo_back ls (acc ++ [l]) (by simpa using hp) fun n hn => hb n (List.mem_cons_of_mem _ hn)
    show rlotsGo (lotW l :: ls.map lotW) acc = _
    rw [rlots_go hr hg, ih]
    simp
theorem lotW_free {s : Nat} (h : s < 44 ∨ 57 < s ∨ s = 47) (l : List Int) : s ∉ lotW l := by
  unfold lotW
  split
  · simp; omega
  · intro z
    rcases rlot_chars.join_mem z with ⟨q, hq, g⟩ | g
    · obtain ⟨i, _, rfl⟩ := List.mem_map.mp hq
      exact itx_free i (by omega) (by omega) g
    · omega
theorem rlots_lotsW {ls : List (List Int)} (hp : ls.Pairwise (· < ·)) (h : ∀ l ∈ ls, LotG l) : rlots (lotsW ls) = some ls := by
  unfold lotsW rlots
  by_cases c : ls = []
  · subst c; rfl
  rw [if_neg c]
  have hne : ls.map lotW ≠ [] := by simpa using c
  have hs : sp 47 (TL.joinL [47] (ls.map lotW)) = ls.map lotW := sp_join hne fun p hp => by
    obtain ⟨i, _, rfl⟩ := List.mem_map.mp hp
    exact lotW_free (.inr (.inr rfl)) i
  have hn : TL.joinL [47] (ls.map lotW) ≠ wNone := fun z => by
    have hm : (110 : Nat) ∈ TL.joinL [47] (ls.map lotW) := by rw [z]; decide
    rcases rlot_chars.join_mem hm with ⟨q, hq, g⟩ | g
    · obtain ⟨i, _, rfl⟩ := List.mem_map.mp hq
      exact lotW_free (by omega) i g
    · cases g
  rw [if_neg hn]
  show rlotsGo (sp 47 _) [] = _
  rw [hs]
  exact rlotsGo_back ls [] hp h
/-- the words of a plan -/
def pw : Pl → List Wd
  | .most n => [kMost, wn n]
  | .within n => [kWithin, wn n]
  | .lots ls => [kLots, lotsW ls]
  | .both a b => kBoth :: (pw a ++ pw b)
  | .either a b => kEither :: (pw a ++ pw b)
end K82
set_option Elab.async false
set_option linter.all false
set_option maxRecDepth 100000
namespace K82
open PySem PySem.Spec PyProof.Rows L2 SX
theorem join_app (c : Nat) : ∀ (a b : List Wd), a ≠ [] → b ≠ [] → TL.joinL [c] (a ++ b) = TL.joinL [c] a ++ c :: TL.joinL [c] b
  | [], _, h, _ => absurd rfl h
  | [p], b, _, hb => join_cons2 c p hb
  | p :: q :: r, b, _, hb => by
    have ih := join_app c (q :: r) b (by simp) hb
    have e : (p :: q :: r) ++ b = p :: ((q :: r) ++ b) := rfl
    rw [e, join_cons2 c p (by simp), ih, join_cons2 c p (by simp)]
    simp
theorem pw_ne (q : Pl) : pw q ≠ [] := by cases q <;> simp [pw]
theorem dtx_join : ∀ q : Pl, dtx q = TL.joinL [32] (pw q)
  | .most n => rfl
  | .within n => rfl
  | .lots ls => rfl
  | .both a b => by
    rw [pw, join_cons2 32 _ (by simp [pw_ne]), join_app 32 _ _ (pw_ne a) (pw_ne b), ← dtx_join a, ← dtx_join b]
    rfl
  | .either a b => by
    rw [pw, join_cons2 32 _ (by simp [pw_ne]), join_app 32 _ _ (pw_ne a) (pw_ne b), ← dtx_join a, ← dtx_join b]
    rfl
theorem lotsW_free {s : Nat} (h : s = 32 ∨ s = 10) (ls : List (List Int)) : s ∉ lotsW ls := by
  unfold lotsW
  split
  · rcases h with rfl | rfl <;> decide
  · intro z
    rcases rlot_chars.join_mem z with ⟨q, hq, g⟩ | g
    · obtain ⟨i, _, rfl⟩ := List.mem_map.mp hq
      exact lotW_free (by omega) i g
    · omega
theorem pw_free {s : Nat} (h : s = 32 ∨ s = 10) : ∀ (q : Pl), ∀ w ∈ pw q, s ∉ w := by
  have hk : ∀ k ∈ kws, s ∉ k := by rcases h with rfl | rfl <;> decide
  intro q
  induction q with
  | most n =>
    intro w hw
    simp only [pw, List.mem_cons, List.not_mem_nil, or_false] at hw
    rcases hw with rfl | rfl
    · exact hk _ (by simp [kws])
    · exact free_n _ (by omega) (by omega)
  | within n =>
    intro w hw
    simp only [pw, List.mem_cons, List.not_mem_nil, or_false] at hw
    rcases hw with rfl | rfl
    · exact hk _ (by simp [kws])
    · exact free_n _ (by omega) (by omega)
  | lots ls =>
    intro w hw
    simp only [pw, List.mem_cons, List.not_mem_nil, or_false] at hw
    rcases hw with rfl | rfl
    · exact hk _ (by simp [kws])
    · exact lotsW_free h ls
  | both a b iha ihb =>
    intro w hw
    simp only [pw, List.mem_cons, List.mem_append] at hw
    rcases hw with rfl | hw | hw
    · exact hk _ (by simp [kws])
    · exact iha w hw
    · exact ihb w hw
  | either a b iha ihb =>
    intro w hw
    simp only [pw, List.mem_cons, List.mem_append] at hw
    rcases hw with rfl | hw | hw
    · exact hk _ (by simp [kws])
    · exact iha w hw
    · exact ihb w hw
theorem words_dtx (q : Pl) : words (dtx q) = pw q := by
  rw [dtx_join]
  exact words_join (pw_ne q) (pw_free (.inl rfl) q)
theorem dtx_free10 (q : Pl) : 10 ∉ dtx q := by
  rw [dtx_join]
  intro z
  rcases rlot_chars.join_mem z with ⟨w, hw, g⟩ | g
  · exact pw_free (.inr rfl) q w hw g
  · cases g
theorem pw_two (q : Pl) : ∃ k w r, pw q = k :: w :: r := by
  cases q with
  | most n => exact ⟨_, _, _, rfl⟩
  | within n => exact ⟨_, _, _, rfl⟩
  | lots ls => exact ⟨_, _, _, rfl⟩
  | both a b =>
    cases h : pw a with
    | nil => exact absurd h (pw_ne a)
    | cons x r => exact ⟨kBoth, x, r ++ pw b, by rw [pw, h]; rfl⟩
  | either a b =>
    cases h : pw a with
    | nil => exact absurd h (pw_ne a)
    | cons x r => exact ⟨kEither, x, r ++ pw b, by rw [pw, h]; rfl⟩
/-- a plan reads back where it is not too deep -/
theorem rp_pw : ∀ (q : Pl) (d : Nat) (r : List Wd), PlG q → rp d (pw q ++ r) = if plDp q ≤ d then some (q, (pw q).length) else none
  | .most n, d, r, h => by
    have h' : n ≤ 99 := h
    have hr : rc (wn n) = some n := rc_num (by omega)
    rw [if_pos (by simp [plDp])]
    show rp d (kMost :: wn n :: r) = _
    unfold rp
    rw [if_pos rfl, hr]
    rfl
  | .within n, d, r, h => by
    have h' : n ≤ 1000000 := h
    have hr : rc (wn n) = some n := rc_num (by omega)
    rw [if_pos (by simp [plDp])]
    show rp d (kWithin :: wn n :: r) = _
    unfold rp
    rw [if_neg (by decide), if_pos rfl, hr]
    rfl
  | .lots ls, d, r, h => by
    have hr := rlots_lotsW h.2.1 h.2.2.1
    rw [if_pos (by simp [plDp])]
    show rp d (kLots :: lotsW ls :: r) = _
    unfold rp
    rw [if_neg (by decide), if_neg (by decide), if_pos rfl, hr]
    rfl
  | .both a b, d, r, h => by
    obtain ⟨x, y, r', e⟩ := pw_two a
    have iha := fun d => rp_pw a d (pw b ++ r) h.1
    have ihb := fun d => rp_pw b d r h.2
    have es : pw (.both a b) ++ r = kBoth :: (pw a ++ (pw b ++ r)) := by simp [pw]
    have ex : pw a ++ (pw b ++ r) = x :: (y :: r' ++ (pw b ++ r)) := by rw [e]; rfl
    cases d with
    | zero =>
      rw [if_neg (by simp [plDp]), es, ex]
      unfold rp
      rw [if_neg (by decide), if_neg (by decide), if_neg (by decide), if_neg (by decide)]
    | succ d =>
      rw [es, ex, rp_two (.inl rfl), ← ex, iha]
      by_cases ca : plDp a ≤ d
      · rw [if_pos ca]
        simp only [List.drop_left, ihb]
        by_cases cb : plDp b ≤ d
        · rw [if_pos cb, if_pos (by show max _ _ + 1 ≤ _; omega)]
          simp [pw]
          omega
        · rw [if_neg cb, if_neg (by show ¬ max _ _ + 1 ≤ _; omega)]
      · rw [if_neg ca, if_neg (by show ¬ max _ _ + 1 ≤ _; omega)]
  | .either a b, d, r, h => by
    obtain ⟨x, y, r', e⟩ := pw_two a
    have iha := fun d => rp_pw a d (pw b ++ r) h.1
    have ihb := fun d => rp_pw b d r h.2
    have es : pw (.either a b) ++ r = kEither :: (pw a ++ (pw b ++ r)) := by simp [pw]
    have ex : pw a ++ (pw b ++ r) = x :: (y :: r' ++ (pw b ++ r)) := by rw [e]; rfl
    cases d with
    | zero =>
      rw [if_neg (by simp [plDp]), es, ex]
      unfold rp
      rw [if_neg (by decide), if_neg (by decide), if_neg (by decide), if_neg (by decide)]
    | succ d =>
      rw [es, ex, rp_two (.inr rfl), ← ex, iha]
      by_cases ca : plDp a ≤ d
      · rw [if_pos ca]
        simp only [List.drop_left, ihb]
        by_cases cb : plDp b ≤ d
        · rw [if_pos cb, if_pos (by show max _ _ + 1 ≤ _; omega)]
          have : ¬ kEither = kBoth := by decide
          simp [pw, this]
          omega
        · rw [if_neg cb, if_neg (by show ¬ max _ _ + 1 ≤ _; omega)]
      · rw [if_neg ca, if_neg (by show ¬ max _ _ + 1 ≤ _; omega)]
theorem rdbt_pw {q : Pl} (h : PlG q) : rdbt (pw q) = if plDp q ≤ 3 then some q else none := by
  have := rp_pw q 3 [] h
  rw [List.append_nil] at this
  unfold rdbt
  rw [this]
  by_cases c : plDp q ≤ 3
  · rw [if_pos c, if_pos c]; simp
  · rw [if_neg c, if_neg c]
theorem plOk_G : ∀ {q : Pl}, PlG q → plOk q = true
  | .most n, h => decide_eq_true (show n ≤ 99 from h)
  | .within n, h => decide_eq_true (show n ≤ 1000000 from h)
  | .lots ls, h => by
    obtain ⟨h1, _, h2, _⟩ := h
    simp only [plOk, Bool.and_eq_true, decide_eq_true_eq, List.all_eq_true]
    exact ⟨h1, fun l hl n hn => (h2 l hl).2 n hn |>.2⟩
  | .both a b, h => by simp only [plOk, plOk_G h.1, plOk_G h.2]; rfl
  | .either a b, h => by simp only [plOk, plOk_G h.1, plOk_G h.2]; rfl
theorem dbt_dtx {q : Pl} (h : PlG q) (hd : plDp q ≤ 3) : dbtOk (dtx q) = true := by
  unfold dbtOk
  rw [words_dtx, rdbt_pw h, if_pos hd]
  exact plOk_G h
theorem dbt_deep {q : Pl} (h : PlG q) (hd : 3 < plDp q) : rdbt (words (dtx q)) = none := by
  rw [words_dtx, rdbt_pw h, if_neg (by omega)]
end K82
set_option Elab.async false
set_option linter.all false
set_option maxRecDepth 100000
namespace K82
open PySem PySem.Spec PyProof.Rows L2 SX
/-- a drawn deed -/
structure DeedG (d : Deed) : Prop where
  b : DeedB d
  t : ∀ t, d = .doubt t → ∃ q, PlG q ∧ plDp q ≤ 3 ∧ t = dtx q
theorem line_read {d : Deed} (h : DeedG d) : rdeed (line d) = some d := by
  unfold rdeed
  rw [words_line]
  cases d with
  | tell a b lo hi w =>
    obtain ⟨h1, h2, h3, h4, h5⟩ := h.b
    have e : (dwords (.tell a b lo hi w)).headD [] = kTell := rfl
    simp only [e]
    rw [if_pos trivial]
    simp only [dwords, rtell, if_pos, rc_num h1, rc_num h2, rc_num h5, rb_wb h3, rb_wb h4, wn]
  | recount a b v =>
    obtain ⟨h1, h2, h3, h4⟩ := h.b
    have e : (dwords (.recount a b v)).headD [] = kRecount := rfl
    simp only [e]
    rw [if_neg (by decide), if_pos trivial]
    simp only [dwords, rrecount, rc_num h1, rc_num h2, rn_itx h3 h4, wn]
  | correct n lo hi =>
    obtain ⟨h1, h3, h4⟩ := h.b
    have e : (dwords (.correct n lo hi)).headD [] = kCorrect := rfl
    simp only [e]
    rw [if_neg (by decide), if_neg (by decide), if_pos trivial]
    simp only [dwords, rcorrect, rc_num h1, rb_wb h3, rb_wb h4, wn]
  | withdraw n =>
    have h1 : n < 10 ^ 12 := h.b
    have e : (dwords (.withdraw n)).headD [] = kWithdraw := rfl
    simp only [e]
    rw [if_neg (by decide), if_neg (by decide), if_neg (by decide), if_pos trivial]
    simp only [dwords, rwithdraw, rc_num h1, wn]
    rfl
  | doubt t =>
    obtain ⟨q, h1, h2, rfl⟩ := h.t t rfl
    have e : (dwords (.doubt (dtx q))).headD [] = kDoubt := rfl
    have e2 : (line (.doubt (dtx q))).drop 6 = dtx q := rfl
    simp only [e, e2]
    rw [if_neg (by decide), if_neg (by decide), if_neg (by decide), if_neg (by decide), if_pos trivial, dbt_dtx h1 h2, if_pos rfl]
theorem line_nl {d : Deed} (h : DeedG d) : 10 ∉ line d := by
  rw [line_join]
  intro z
  rcases rlot_chars.join_mem z with ⟨w, hw, g⟩ | g
  · refine dwords_free (.inr rfl) (fun t e => ?_) w hw g
    obtain ⟨q, _, _, rfl⟩ := h.t t e
    exact .inr (dtx_free10 q)
  · cases g
theorem line_len {d : Deed} (h : DeedG d) : (line d).length ≤ 2000 := by
  have kl : ∀ k ∈ kws, k.length ≤ 8 := by decide
  have kk : ∀ k, k ∈ kws → k.length ≤ 8 := kl
  have gen : ∀ ws : List Wd, ws.length ≤ 7 → (∀ w ∈ ws, w.length ≤ 13) → (TL.joinL [32] ws).length ≤ 2000 := fun ws h1 h2 => by
    have g1 := joinL_len [32] ws
    have g2 := sum_le (f := List.length) (k := 13) ws h2
    simp only [List.length_cons, List.length_nil] at g1
    omega
  cases d with
  | tell a b lo hi w =>
    obtain ⟨h1, h2, h3, h4, h5⟩ := h.b
    refine gen (dwords (.tell a b lo hi w)) (by simp [dwords]) fun x hx => ?_
    simp only [dwords, List.mem_cons, List.not_mem_nil, or_false] at hx
    rcases hx with rfl | rfl | rfl | rfl | rfl | rfl | rfl
    · decide
    · exact Nat.le_trans (wn_len h1) (by decide)
    · exact Nat.le_trans (wn_len h2) (by decide)
    · exact wb_len h3
    · exact wb_len h4
    · decide
    · exact Nat.le_trans (wn_len h5) (by decide)
  | recount a b v =>
    obtain ⟨h1, h2, h3, h4⟩ := h.b
    refine gen (dwords (.recount a b v)) (by simp [dwords]) fun x hx => ?_
    simp only [dwords, List.mem_cons, List.not_mem_nil, or_false] at hx
    rcases hx with rfl | rfl | rfl | rfl
    · decide
    · exact Nat.le_trans (wn_len h1) (by decide)
    · exact Nat.le_trans (wn_len h2) (by decide)
    · exact itx_len h3 h4
  | correct n lo hi =>
    obtain ⟨h1, h3, h4⟩ := h.b
    refine gen (dwords (.correct n lo hi)) (by simp [dwords]) fun x hx => ?_
    simp only [dwords, List.mem_cons, List.not_mem_nil, or_false] at hx
    rcases hx with rfl | rfl | rfl | rfl
    · decide
    · exact Nat.le_trans (wn_len h1) (by decide)
    · exact wb_len h3
    · exact wb_len h4
  | withdraw n =>
    have h1 : n < 10 ^ 12 := h.b
    refine gen (dwords (.withdraw n)) (by simp [dwords]) fun x hx => ?_
    simp only [dwords, List.mem_cons, List.not_mem_nil, or_false] at hx
    rcases hx with rfl | rfl
    · decide
    · exact Nat.le_trans (wn_len h1) (by decide)
  | doubt t =>
    obtain ⟨q, h1, h2, rfl⟩ := h.t t rfl
    have := dtx_len h1
    have h3 : 2 ^ plDp q ≤ 8 := Nat.le_trans (Nat.pow_le_pow_right (by decide) h2) (by decide)
    have e : (line (.doubt (dtx q))).length = 5 + (1 + (dtx q).length) := by
      show (kDoubt ++ 32 :: dtx q).length = _
      rw [List.length_append, List.length_cons]
      show 5 + _ = _
      omega
    rw [e]
    omega
/-- a sign where a count is due -/
def sgn (s : Wd) : Prop := s = [45, 49] ∨ s = wAny
theorem sgn_p {s : Wd} (h : sgn s) : BadP s := by
  rcases h with rfl | rfl
  · exact ⟨by decide, by decide, by decide⟩
  · exact ⟨by decide, by decide, by decide⟩
def spotOk (d : Deed) (s : Wd) (i : Nat) : Prop := match d with
  | .tell .. => i = 1 ∨ i = 2 ∨ i = 6
  | .recount .. => i = 1 ∨ i = 2 ∨ (i = 3 ∧ s = wAny)
  | .doubt _ => 2 ≤ i ∧ i < (dwords d).length
  | _ => i = 1
theorem spot_lt {d : Deed} {s : Wd} {i : Nat} (h : spotOk d s i) : i < (dwords d).length := by
  cases d with
  | tell => simp only [spotOk, dwords, List.length_cons, List.length_nil] at h ⊢; omega
  | recount => simp only [spotOk, dwords, List.length_cons, List.length_nil] at h ⊢; omega
  | correct => simp only [spotOk, dwords, List.length_cons, List.length_nil] at h ⊢; omega
  | withdraw => simp only [spotOk, dwords, List.length_cons, List.length_nil] at h ⊢; omega
  | doubt t => exact h.2
theorem badw_sign {d : Deed} {i : Nat} {s : Wd} (hg : rdeed (line d) = some d) (hs : sgn s) (hi : spotOk d s i) : Badw ((dwords d).set i s) := by
  have B := sgn_p hs
  have hb := B.rc
  cases d with
  | tell a b' lo hi m =>
    refine ⟨fun _ => ?_, fun z => ?_, fun z => ?_, fun z => ?_, fun z => ?_⟩
    · rcases hi with rfl | rfl | rfl
      · simp [dwords, rtell, hb]
      · simp [dwords, rtell, hb]
      · simp [dwords, rtell, hb]
    all_goals
      rcases hi with rfl | rfl | rfl <;> exact absurd (show kTell = _ from z) (by decide)
  | recount a b' v =>
    have hw : rn wAny = none := by decide
    refine ⟨fun z => ?_, fun _ => ?_, fun z => ?_, fun z => ?_, fun z => ?_⟩
    · rcases hi with rfl | rfl | ⟨rfl, _⟩ <;> exact absurd (show kRecount = _ from z) (by decide)
    · rcases hi with rfl | rfl | ⟨rfl, rfl⟩
      · simp [dwords, rrecount, hb]
      · simp [dwords, rrecount, hb]
      · simp [dwords, rrecount, hw]
    all_goals
      rcases hi with rfl | rfl | ⟨rfl, _⟩ <;> exact absurd (show kRecount = _ from z) (by decide)
  | correct n lo hi' =>
    have hi2 : i = 1 := hi
    subst hi2
    refine ⟨fun z => ?_, fun z => ?_, fun _ => ?_, fun z => ?_, fun z => ?_⟩
    · exact absurd (show kCorrect = _ from z) (by decide)
    · exact absurd (show kCorrect = _ from z) (by decide)
    · simp [dwords, rcorrect, hb]
    all_goals exact absurd (show kCorrect = _ from z) (by decide)
  | withdraw n =>
    have hi2 : i = 1 := hi
    subst hi2
    refine ⟨fun z => ?_, fun z => ?_, fun z => ?_, fun _ => ?_, fun z => ?_⟩
    · exact absurd (show kWithdraw = _ from z) (by decide)
    · exact absurd (show kWithdraw = _ from z) (by decide)
    · exact absurd (show kWithdraw = _ from z) (by decide)
    · simp [dwords, rwithdraw, hb]
    · exact absurd (show kWithdraw = _ from z) (by decide)
  | doubt t =>
    obtain ⟨h1, h2⟩ := hi
    obtain ⟨j, rfl⟩ : ∃ j, i = j + 1 := ⟨i - 1, by omega⟩
    refine ⟨fun z => ?_, fun z => ?_, fun z => ?_, fun z => ?_, fun _ => ?_⟩
    · exact absurd (show kDoubt = _ from z) (by decide)
    · exact absurd (show kDoubt = _ from z) (by decide)
    · exact absurd (show kDoubt = _ from z) (by decide)
    · exact absurd (show kDoubt = _ from z) (by decide)
    · obtain ⟨p, hp⟩ := doubt_read hg
      have hi' : j < (words t).length := by
        have : j + 1 < (words t).length + 1 := h2
        omega
      exact rdbt_bad hp (ws' := (words t).set j s) hi' (by rw [List.take_set_of_le (Nat.le_refl _)]) (by simp [hi']) B
/-- some word of a plan is followed by its figures -/
def isK3 (w : Wd) : Bool := decide (w = kMost) || (decide (w = kWithin) || decide (w = kLots))
theorem pw_leaf : ∀ q : Pl, ∃ j w, (pw q)[j]? = some w ∧ isK3 w = true ∧ j + 1 < (pw q).length
  | .most n => ⟨0, kMost, rfl, rfl, by simp [pw]⟩
  | .within n => ⟨0, kWithin, rfl, rfl, by simp [pw]⟩
  | .lots ls => ⟨0, kLots, rfl, rfl, by simp [pw]⟩
  | .both a b => by
    obtain ⟨j, w, h1, h2, h3⟩ := pw_leaf a
    refine ⟨j + 1, w, ?_, h2, ?_⟩
    · show (pw a ++ pw b)[j]? = some w
      rw [List.getElem?_append_left (by omega)]
      exact h1
    · simp [pw]; omega
  | .either a b => by
    obtain ⟨j, w, h1, h2, h3⟩ := pw_leaf a
    refine ⟨j + 1, w, ?_, h2, ?_⟩
    · show (pw a ++ pw b)[j]? = some w
      rw [List.getElem?_append_left (by omega)]
      exact h1
    · simp [pw]; omega
end K82
set_option Elab.async false
set_option linter.all false
set_option maxRecDepth 100000
set_option maxHeartbeats 4000000
namespace K82
open PySem PySem.Spec PyProof.Rows L2 Ly SX
theorem cutD_to (a : List PyData) (k : Nat) : Ly.cutD a none (some (k : Int)) = a.take k := by
  unfold Ly.cutD
  rw [HT.sIx_none, HT.sIx_nat, List.drop_zero, Nat.sub_zero]
  by_cases h : k ≤ a.length
  · rw [Nat.min_eq_left h]
  · rw [Nat.min_eq_right (by omega), List.take_length, List.take_of_length_le (by omega)]
theorem cutD_from (a : List PyData) (k : Nat) : Ly.cutD a (some (k : Int)) none = a.drop k := by
  unfold Ly.cutD
  rw [HT.sIx_nat, HT.sIx_none]
  by_cases h : k ≤ a.length
  · rw [Nat.min_eq_left h, List.take_of_length_le (by simp)]
  · rw [Nat.min_eq_right (by omega), Nat.sub_self, List.take_zero, List.drop_eq_nil_of_le (by omega)]
theorem wsD_app (a b : List Wd) : wsD (a ++ b) = wsD a ++ wsD b := by simp [wsD]
theorem wsD_take (a : List Wd) (k : Nat) : (wsD a).take k = wsD (a.take k) := by simp [wsD]
theorem wsD_drop (a : List Wd) (k : Nat) : (wsD a).drop k = wsD (a.drop k) := by simp [wsD]
theorem wsD_len (a : List Wd) : (wsD a).length = a.length := by simp [wsD]
theorem set_cut {α : Type} {ws : List α} {i : Nat} (h : i < ws.length) (s : α) : ws.take i ++ [s] ++ ws.drop (i + 1) = ws.set i s := by
  rw [List.set_eq_take_append_cons_drop, if_pos h]
  simp
theorem in_three {a b c k : Wd} {Q : PyData → Prop} (h : Q (.bool (decide (k = a) || (decide (k = b) || decide (k = c))))) : inD (.str (S k)) (.tuple [.str (S a), .str (S b), .str (S c)]) Q := by
  refine ⟨S k, [S a, S b, S c], rfl, rfl, ?_⟩
  have e : ([S a, S b, S c].any fun z => z == S k) = (decide (k = a) || (decide (k = b) || decide (k = c))) := by
    simp only [List.any_cons, List.any_nil, Bool.or_false, S_beq_eq]
    congr 1
    · rw [decide_eq_decide]; exact eq_comm
    · congr 1 <;> (rw [decide_eq_decide]; exact eq_comm)
  rw [e]
  exact h
theorem lit_m1 : Str.ofString "-1" = S [45, 49] := lit _
def F_wrong_sign : FD := fun ds P => ∃ d, ds = [.list (wsD (dwords d))] ∧ DeedG d ∧ ∀ s i, sgn s → spotOk d s i → P (.list (wsD ((dwords d).set i s)))
def wsFin : DS := (dSeq (dSet 4 (dOp ixD (dVar 2) (dCallS 0 2 F_law_draw (dCons (dCB lenD (dCons (dVar 2) dNil)) dNil))))
  (dRet (dOp addD (dOp addD (dSl (dVar 1) dNoPart (dPart (dVar 4))) (dFzL (dLst (dCons (dVar 3) dNil)))) (dSl (dVar 1) (dPart (dOp addD (dVar 4) (dC (.int 1)))) dNoPart))))
def wsMid : DS := (dSeq (dIfS (dTst (dOp eqD (dOp ixD (dVar 1) (dC (.int 0))) (dC (.str "tell"))))
    (dSet 2 (dFzL (dLst (dCons (dC (.int 1)) (dCons (dC (.int 2)) (dCons (dC (.int 6)) dNil))))))
    dNext)
  (dSeq (dIfS (dTst (dOp eqD (dOp ixD (dVar 1) (dC (.int 0))) (dC (.str "recount"))))
    (dSet 2 (dOp ixD (dFzL (dLst (dCons (dFzL (dLst (dCons (dC (.int 1)) (dCons (dC (.int 2)) dNil)))) (dCons (dFzL (dLst (dCons (dC (.int 1)) (dCons (dC (.int 2)) (dCons (dC (.int 3)) dNil))))) dNil)))) (dCB toIntD (dCons (dOp eqD (dVar 3) (dC (.str "any"))) dNil))))
    dNext)
  (dSeq (dIfS (dTst (dOp eqD (dOp ixD (dVar 1) (dC (.int 0))) (dC (.str "doubt"))))
    (dSetL 2 (dLc 4 (diR2 (dCons (dC (.int 2)) (dCons (dCB lenD (dCons (dVar 1) dNil)) dNil))) (dTst (dOp inD (dOp ixD (dVar 1) (dOp subD (dVar 4) (dC (.int 1)))) (dTup (dCons (dC (.str "most")) (dCons (dC (.str "within")) (dCons (dC (.str "lots")) dNil)))))) (dVar 4)))
    dNext) wsFin)))
def ksD (sp : List Nat) : List PyData := sp.map fun i : Nat => PyData.int (i : Nat)
theorem ws_fin {d : Deed} {s : Wd} {P : PyData → Prop} {sp : List Nat} (hne : sp ≠ []) (hl : sp.length < 1000000) (h : ∀ i ∈ sp, i < (dwords d).length ∧ P (.list (wsD ((dwords d).set i s)))) (hw : (dwords d).length ≤ 900000) (z : Option Ent) :
    wsFin (endsP P) [some .src, some (.d (.list (wsD (dwords d)))), some (.d (.list (ksD sp))), some (.d (.str (S s))), z] := by
  have hp : 0 < sp.length := List.length_pos_iff.mpr hne
  have hkl : (ksD sp).length = sp.length := by simp [ksD]
  unfold wsFin
  simp only [dSeq, dIfS, dOr, dAnd, dNot, dTst, dOp, dVar, dC, dCB, dCons, dNil, dRet, dFor, dIfE, dTup, dLst, dFzL, dSl, dNoPart, dPart, dSplit, dJoin, dUpper, dCall, dCallS, dIs, dNeg, dFmt, dJd, dJs, diLT, diL, diT, diS, diR1, diR2, diE, dgN, dgT2, dYes, dLc, dSet, dSetF, dSetZ, dSetL, dSetLZ, dNew, dApp, dAppF, dPut, dPar, dPar3, dAug, dNext, dAndV, dNotV, dOrT, hide, frz, hd1, fz1, D0, endsP, retP, intDI, isND, ntND, eqSS, eqII, neSS, neII, addII, addSS, addLL, ixLI, ixTI, ixSI, slLL, slSS, lenL, lenT, lenS, strI, strS, intI, intB, intS, tupL, tupT, lstL, lstT, minI, flat, List.map_cons, List.map_nil, List.replicate, List.append_eq, List.nil_append, List.cons_append, List.length_cons, List.length_nil, List.getElem?_cons_zero, List.getElem?_cons_succ, List.set_cons_zero, List.set_cons_succ, Option.some.injEq, Ent.d.injEq, Ent.own.injEq, exists_eq_left', exists_eq_left, exists_eq_right, PyData.bool.injEq, PyData.int.injEq, PyData.str.injEq, PyData.list.injEq, PyData.tuple.injEq, true_and, and_true, Nat.zero_add, Nat.add_zero, Nat.sub_self, Nat.reduceAdd, Nat.reduceSub, List.append_nil, Bool.false_eq_true, if_true, if_false, reduceIte, reduceCtorEq, false_and, exists_false, or_false, false_or, Option.map_some, Option.map_none]
  refine fi_draw (by omega) (by omega) fun r r0 r1 => ix_mem r0 r1 fun v hv => ?_
  obtain ⟨i, hi, rfl⟩ := List.mem_map.mp hv
  obtain ⟨h1, h2⟩ := h i hi
  refine ⟨_, rfl, lsm (by decide), ?_⟩
  rw [cutD_to, wsD_take]
  refine ⟨lsm (by simp [wsD_len]; omega), _, rfl, ?_⟩
  have e : ((i : Nat) : Int) + 1 = ((i + 1 : Nat) : Int) := by omega
  rw [e, cutD_from, wsD_drop]
  refine ⟨lsm (by simp [wsD_len]; omega), ?_⟩
  have e2 : wsD ((dwords d).take i) ++ [PyData.str (S s)] ++ wsD ((dwords d).drop (i + 1)) = wsD ((dwords d).set i s) := by
    rw [← set_cut h1 s, wsD_app, wsD_app]
    rfl
  rw [e2]
  exact h2
theorem ws_mid {d : Deed} {s : Wd} {P : PyData → Prop} (hd : DeedG d) (hs : sgn s) (hP : ∀ i, spotOk d s i → P (.list (wsD ((dwords d).set i s)))) :
    wsMid (endsP P) [some .src, some (.d (.list (wsD (dwords d)))), some (.d (.list (ksD [1]))), some (.d (.str (S s))), none] := by
  have key : ∀ sp : List Nat, sp ≠ [] → sp.length < 1000000 → (dwords d).length ≤ 900000 → (∀ i ∈ sp, spotOk d s i) → wsFin (endsP P) [some .src, some (.d (.list (wsD (dwords d)))), some (.d (.list (ksD sp))), some (.d (.str (S s))), none] := fun sp h1 h2 h3 h4 =>
    ws_fin h1 h2 (fun i hi => ⟨spot_lt (h4 i hi), hP i (h4 i hi)⟩) h3 none
  unfold wsMid
  simp only [dSeq, dIfS, dOr, dAnd, dNot, dTst, dOp, dVar, dC, dCB, dCons, dNil, dRet, dFor, dIfE, dTup, dLst, dFzL, dSl, dNoPart, dPart, dSplit, dJoin, dUpper, dCall, dCallS, dIs, dNeg, dFmt, dJd, dJs, diLT, diL, diT, diS, diR1, diR2, diE, dgN, dgT2, dYes, dLc, dSet, dSetF, dSetZ, dSetL, dSetLZ, dNew, dApp, dAppF, dPut, dPar, dPar3, dAug, dNext, dAndV, dNotV, dOrT, hide, frz, hd1, fz1, D0, endsP, retP, intDI, isND, ntND, eqSS, eqII, neSS, neII, addII, addSS, addLL, ixLI, ixTI, ixSI, slLL, slSS, lenL, lenT, lenS, strI, strS, intI, intB, intS, tupL, tupT, lstL, lstT, minI, flat, List.map_cons, List.map_nil, List.replicate, List.append_eq, List.nil_append, List.cons_append, List.length_cons, List.length_nil, List.getElem?_cons_zero, List.getElem?_cons_succ, List.set_cons_zero, List.set_cons_succ, Option.some.injEq, Ent.d.injEq, Ent.own.injEq, exists_eq_left', exists_eq_left, exists_eq_right, PyData.bool.injEq, PyData.int.injEq, PyData.str.injEq, PyData.list.injEq, PyData.tuple.injEq, true_and, and_true, Nat.zero_add, Nat.add_zero, Nat.sub_self, Nat.reduceAdd, Nat.reduceSub, List.append_nil, Bool.false_eq_true, if_true, if_false, reduceIte, reduceCtorEq, false_and, exists_false, or_false, false_or, Option.map_some, Option.map_none, lit_tell, lit_recount, lit_doubt, lit_any, lit_most, lit_within, lit_lots]
  cases d with
  | tell a b lo hi m =>
    refine ⟨_, at0, eq_w (bT rfl ⟨lsm (by decide), ?_⟩)⟩
    refine ⟨_, at0, eq_w (bF (by decide) ⟨_, at0, eq_w (bF (by decide) ?_)⟩)⟩
    refine key [1, 2, 6] (by decide) (by decide) (by simp [dwords]) fun i hi => ?_
    simpa [spotOk] using hi
  | recount a b v =>
    refine ⟨_, at0, eq_w (bF (by decide) ⟨_, at0, eq_w (bT rfl ⟨lsm (by decide), lsm (by decide), lsm (by decide), ?_⟩)⟩)⟩
    rw [show decide (S s = S wAny) = decide (s = wAny) by simp only [S_eq]]
    rcases hs with rfl | rfl
    · rw [show decide (([45, 49] : Wd) = wAny) = false by decide]
      refine ⟨_, at0, _, at0, eq_w (bF (by decide) ?_)⟩
      refine key [1, 2] (by decide) (by decide) (by simp [dwords]) fun i hi => ?_
      simp only [List.mem_cons, List.not_mem_nil, or_false] at hi
      rcases hi with rfl | rfl
      · exact .inl rfl
      · exact .inr (.inl rfl)
    · rw [show decide ((wAny : Wd) = wAny) = true by decide]
      refine ⟨_, at1, _, at0, eq_w (bF (by decide) ?_)⟩
      refine key [1, 2, 3] (by decide) (by decide) (by simp [dwords]) fun i hi => ?_
      simp only [List.mem_cons, List.not_mem_nil, or_false] at hi
      rcases hi with rfl | rfl | rfl
      · exact .inl rfl
      · exact .inr (.inl rfl)
      · exact .inr (.inr ⟨rfl, rfl⟩)
  | correct n lo hi =>
    refine ⟨_, at0, eq_w (bF (by decide) ⟨_, at0, eq_w (bF (by decide) ⟨_, at0, eq_w (bF (by decide) ?_)⟩)⟩)⟩
    refine key [1] (by decide) (by decide) (by simp [dwords]) fun i hi => ?_
    exact List.mem_singleton.mp hi
  | withdraw n =>
    refine ⟨_, at0, eq_w (bF (by decide) ⟨_, at0, eq_w (bF (by decide) ⟨_, at0, eq_w (bF (by decide) ?_)⟩)⟩)⟩
    refine key [1] (by decide) (by decide) (by simp [dwords]) fun i hi => ?_
    exact List.mem_singleton.mp hi
  | doubt t =>
    obtain ⟨q, g1, g2, rfl⟩ := hd.t t rfl
    have ew : dwords (.doubt (dtx q)) = kDoubt :: pw q := by
      show kDoubt :: words (dtx q) = _
      rw [words_dtx]
    have hlen : (dwords (.doubt (dtx q))).length ≤ 900000 := by
      have h1 : (words (dtx q)).length ≤ (dtx q).length + 1 := spl_len 32 (dtx q)
      have h2 : (dtx q).length ≤ 100000 := hd.b
      show (words (dtx q)).length + 1 ≤ _
      omega
    generalize hw : dwords (.doubt (dtx q)) = ws at *
    obtain ⟨j, w, j1, j2, j3⟩ := pw_leaf q
    have h0 : ws[0]? = some kDoubt := by rw [ew]; rfl
    refine ⟨_, wsD_at h0, eq_w (bF (by decide) ⟨_, wsD_at h0, eq_w (bF (by decide) ⟨_, wsD_at h0, eq_w (bT rfl ?_)⟩)⟩)⟩
    refine ⟨2, _, rfl, ⟨(r62 (by decide) (by decide)).1, (r62 (by decide) (by decide)).2, (r62 (by omega) (by simp [wsD_len]; omega)).1, (r62 (by omega) (by simp [wsD_len]; omega)).2⟩, ?_⟩
    have en : (((wsD ws).length : Int) - 2).toNat = ws.length - 2 := by rw [wsD_len]; omega
    rw [en]
    refine lc_filter (f := fun i : Nat => PyData.int (2 + (i : Nat))) (g := fun i : Nat => PyData.int (2 + (i : Nat))) (p := fun i => isK3 (ws.getD (i + 1) [])) (List.range (ws.length - 2)) [] (fun i hi R hR => ?_) (fun i hi _ R hR => ?_) (by simp; omega) ?_
    · have hi' := List.mem_range.mp hi
      obtain ⟨x, hx⟩ : ∃ x, ws[i + 1]? = some x := ⟨ws[i + 1], by simp⟩
      have ei : (2 : Int) + (i : Nat) - 1 = ((i + 1 : Nat) : Int) := by omega
      have ex : ws.getD (i + 1) [] = x := by simp [List.getD_eq_getElem?_getD, hx]
      simp only [dSeq, dIfS, dOr, dAnd, dNot, dTst, dOp, dVar, dC, dCB, dCons, dNil, dRet, dFor, dIfE, dTup, dLst, dFzL, dSl, dNoPart, dPart, dSplit, dJoin, dUpper, dCall, dCallS, dIs, dNeg, dFmt, dJd, dJs, diLT, diL, diT, diS, diR1, diR2, diE, dgN, dgT2, dYes, dLc, dSet, dSetF, dSetZ, dSetL, dSetLZ, dNew, dApp, dAppF, dPut, dPar, dPar3, dAug, dNext, dAndV, dNotV, dOrT, hide, frz, hd1, fz1, D0, endsP, retP, intDI, isND, ntND, eqSS, eqII, neSS, neII, addII, addSS, addLL, ixLI, ixTI, ixSI, slLL, slSS, lenL, lenT, lenS, strI, strS, intI, intB, intS, tupL, tupT, lstL, lstT, minI, flat, List.map_cons, List.map_nil, List.replicate, List.append_eq, List.nil_append, List.cons_append, List.length_cons, List.length_nil, List.getElem?_cons_zero, List.getElem?_cons_succ, List.set_cons_zero, List.set_cons_succ, Option.some.injEq, Ent.d.injEq, Ent.own.injEq, exists_eq_left', exists_eq_left, exists_eq_right, PyData.bool.injEq, PyData.int.injEq, PyData.str.injEq, PyData.list.injEq, PyData.tuple.injEq, true_and, and_true, Nat.zero_add, Nat.add_zero, Nat.sub_self, Nat.reduceAdd, Nat.reduceSub, List.append_nil, Bool.false_eq_true, if_true, if_false, reduceIte, reduceCtorEq, false_and, exists_false, or_false, false_or, Option.map_some, Option.map_none, lit_most, lit_within, lit_lots, ei]
      refine ⟨_, wsD_at hx, z3, in_three ⟨_, rfl, ?_⟩⟩
      rw [ex] at hR
      exact hR
    · simp only [dSeq, dIfS, dOr, dAnd, dNot, dTst, dOp, dVar, dC, dCB, dCons, dNil, dRet, dFor, dIfE, dTup, dLst, dFzL, dSl, dNoPart, dPart, dSplit, dJoin, dUpper, dCall, dCallS, dIs, dNeg, dFmt, dJd, dJs, diLT, diL, diT, diS, diR1, diR2, diE, dgN, dgT2, dYes, dLc, dSet, dSetF, dSetZ, dSetL, dSetLZ, dNew, dApp, dAppF, dPut, dPar, dPar3, dAug, dNext, dAndV, dNotV, dOrT, hide, frz, hd1, fz1, D0, endsP, retP, intDI, isND, ntND, eqSS, eqII, neSS, neII, addII, addSS, addLL, ixLI, ixTI, ixSI, slLL, slSS, lenL, lenT, lenS, strI, strS, intI, intB, intS, tupL, tupT, lstL, lstT, minI, flat, List.map_cons, List.map_nil, List.replicate, List.append_eq, List.nil_append, List.cons_append, List.length_cons, List.length_nil, List.getElem?_cons_zero, List.getElem?_cons_succ, List.set_cons_zero, List.set_cons_succ, Option.some.injEq, Ent.d.injEq, Ent.own.injEq, exists_eq_left', exists_eq_left, exists_eq_right, PyData.bool.injEq, PyData.int.injEq, PyData.str.injEq, PyData.list.injEq, PyData.tuple.injEq, true_and, and_true, Nat.zero_add, Nat.add_zero, Nat.sub_self, Nat.reduceAdd, Nat.reduceSub, List.append_nil, Bool.false_eq_true, if_true, if_false, reduceIte, reduceCtorEq, false_and, exists_false, or_false, false_or, Option.map_some, Option.map_none]
      exact hR
    · have e2 : [] ++ ((List.range (ws.length - 2)).filter fun i => isK3 (ws.getD (i + 1) [])).map (fun i : Nat => PyData.int (2 + (i : Nat))) = ksD ((((List.range (ws.length - 2)).filter fun i => isK3 (ws.getD (i + 1) []))).map (2 + ·)) := by
        simp [ksD, Function.comp_def]
      rw [e2]
      subst hw
      refine key _ (fun z => ?_) ?_ hlen fun i hi => ?_
      · have hm : j ∈ (List.range ((dwords (.doubt (dtx q))).length - 2)).filter fun i => isK3 ((dwords (.doubt (dtx q))).getD (i + 1) []) := by
          refine List.mem_filter.mpr ⟨List.mem_range.mpr ?_, ?_⟩
          · rw [ew, List.length_cons]; omega
          · rw [ew]
            simp [List.getD_eq_getElem?_getD, j1, j2]
        have := List.map_eq_nil_iff.mp z
        rw [this] at hm
        cases hm
      · rw [List.length_map]
        have := List.length_filter_le (fun i => isK3 ((dwords (.doubt (dtx q))).getD (i + 1) [])) (List.range ((dwords (.doubt (dtx q))).length - 2))
        rw [List.length_range] at this
        omega
      · obtain ⟨i', hi', rfl⟩ := List.mem_map.mp hi
        have := List.mem_range.mp (List.mem_filter.mp hi').1
        exact ⟨by omega, by omega⟩
theorem pr_wrong_sign (ds : List PyData) (P : PyData → Prop) (h : F_wrong_sign ds P) : rd_law_wrong_sign F_law_draw (endsP P) (D0 1 ["_law_source_here", "_law_words", "_law_spots", "_law_sign", "_law_spot"] ds) := by
  obtain ⟨d, rfl, hd, hP⟩ := h
  show dSeq (dSet 2 (dFzL (dLst (dCons (dC (.int 1)) dNil)))) (dSeq (dSet 3 (dOp ixD (dFzL (dLst (dCons (dC (.str "-1")) (dCons (dC (.str "any")) dNil)))) (dCallS 0 2 F_law_draw (dCons (dC (.int 2)) dNil)))) wsMid) (endsP P) _
  simp only [dSeq, dIfS, dOr, dAnd, dNot, dTst, dOp, dVar, dC, dCB, dCons, dNil, dRet, dFor, dIfE, dTup, dLst, dFzL, dSl, dNoPart, dPart, dSplit, dJoin, dUpper, dCall, dCallS, dIs, dNeg, dFmt, dJd, dJs, diLT, diL, diT, diS, diR1, diR2, diE, dgN, dgT2, dYes, dLc, dSet, dSetF, dSetZ, dSetL, dSetLZ, dNew, dApp, dAppF, dPut, dPar, dPar3, dAug, dNext, dAndV, dNotV, dOrT, hide, frz, hd1, fz1, D0, endsP, retP, intDI, isND, ntND, eqSS, eqII, neSS, neII, addII, addSS, addLL, ixLI, ixTI, ixSI, slLL, slSS, lenL, lenT, lenS, strI, strS, intI, intB, intS, tupL, tupT, lstL, lstT, minI, flat, List.map_cons, List.map_nil, List.replicate, List.append_eq, List.nil_append, List.cons_append, List.length_cons, List.length_nil, List.getElem?_cons_zero, List.getElem?_cons_succ, List.set_cons_zero, List.set_cons_succ, Option.some.injEq, Ent.d.injEq, Ent.own.injEq, exists_eq_left', exists_eq_left, exists_eq_right, PyData.bool.injEq, PyData.int.injEq, PyData.str.injEq, PyData.list.injEq, PyData.tuple.injEq, true_and, and_true, Nat.zero_add, Nat.add_zero, Nat.sub_self, Nat.reduceAdd, Nat.reduceSub, List.append_nil, Bool.false_eq_true, if_true, if_false, reduceIte, reduceCtorEq, false_and, exists_false, or_false, false_or, Option.map_some, Option.map_none, lit_m1, lit_any]
  exact ⟨lsm (by decide), z2, fi_draw (by decide) (by decide) fun r r0 r1 => ix2 r0 r1 (fun _ => ws_mid hd (.inl rfl) fun i hi => hP _ i (.inl rfl) hi) fun _ => ws_mid hd (.inr rfl) fun i hi => hP _ i (.inr rfl) hi⟩
end K82
set_option Elab.async false
set_option linter.all false
set_option maxRecDepth 100000
namespace K82
open PySem PySem.Spec PyProof.Rows L2 SX
/-- the width of a row of words, a blank behind each -/
def Wt (ws : List Wd) : Nat := (ws.map fun w => w.length + 1).sum
theorem wt_cons (w : Wd) (ws : List Wd) : Wt (w :: ws) = w.length + 1 + Wt ws := by simp [Wt]
theorem wt_app (a b : List Wd) : Wt (a ++ b) = Wt a + Wt b := by simp [Wt]
theorem wt_join : ∀ {ws : List Wd}, ws ≠ [] → (TL.joinL [32] ws).length + 1 = Wt ws
  | [], h => absurd rfl h
  | [p], _ => by simp [Wt, TL.joinL]
  | p :: q :: r, _ => by
    have ih := wt_join (ws := q :: r) (by simp)
    rw [join_cons2 32 p (by simp), List.length_append, List.length_cons, wt_cons]
    omega
theorem wt_line {d : Deed} (h : DeedG d) : Wt (dwords d) ≤ 2001 := by
  have := wt_join (dwords_ne d)
  rw [← line_join] at this
  have := line_len h
  omega
theorem wt_set : ∀ (ws : List Wd) (i : Nat) (b : Wd), Wt (ws.set i b) ≤ Wt ws + (b.length + 1)
  | [], i, b => by simp [Wt]
  | w :: ws, 0, b => by simp only [List.set_cons_zero, wt_cons]; omega
  | w :: ws, i + 1, b => by
    have := wt_set ws i b
    simp only [List.set_cons_succ, wt_cons]
    omega
theorem wt_take (ws : List Wd) (i : Nat) : Wt (ws.take i) + Wt (ws.drop i) = Wt ws := by
  rw [← wt_app, List.take_append_drop]
theorem wt_mem : ∀ {ws : List Wd} {w : Wd}, w ∈ ws → w.length + 1 ≤ Wt ws
  | w' :: ws, w, h => by
    rw [wt_cons]
    rcases List.mem_cons.mp h with rfl | h
    · omega
    · have := wt_mem h; omega
theorem mem_set {α : Type} {l : List α} {i : Nat} {b x : α} (h : x ∈ l.set i b) : x ∈ l ∨ x = b := by
  rcases List.mem_or_eq_of_mem_set h with h | h
  · exact .inl h
  · exact .inr h
/-- a word without blank and line feed -/
def Fr (w : Wd) : Prop := 32 ∉ w ∧ 10 ∉ w
theorem fr_words {d : Deed} (h : DeedG d) : ∀ w ∈ dwords d, Fr w := fun w hw => by
  have := nice_words (line_read h) w hw
  exact ⟨this.sp, this.nl⟩
theorem join_nl {ws : List Wd} (h : ∀ w ∈ ws, Fr w) : 10 ∉ TL.joinL [32] ws := by
  intro z
  rcases rlot_chars.join_mem z with ⟨w, hw, g⟩ | g
  · exact (h w hw).2 g
  · cases g
/-- a line that is the line of no deed -/
structure BadL (w : Wd) : Prop where
  rd : rdeed w = none
  nl : 10 ∉ w
  len : w.length ≤ 8000
theorem badL_of {ws : List Wd} (hb : Badw ws) (hne : ws ≠ []) (hw : ∀ w ∈ ws, Fr w) (hl : Wt ws ≤ 8000) : BadL (TL.joinL [32] ws) := by
  refine ⟨rdeed_bad hne (fun w h => (hw w h).1) hb, join_nl hw, ?_⟩
  have := wt_join hne
  omega
theorem badL_nil : BadL [] := ⟨by decide, by decide, by decide⟩
theorem dwords_two (d : Deed) : 2 ≤ (dwords d).length := by
  cases d with
  | doubt t =>
    have := List.length_pos_iff.mpr (sp_ne 32 t)
    show 2 ≤ (sp 32 t).length + 1
    omega
  | _ => simp [dwords]
theorem badL_more {d : Deed} {x : Wd} (h : DeedG d) (hx : Fr x) (hl : x.length ≤ 100) : BadL (TL.joinL [32] (dwords d ++ [x])) := by
  refine badL_of (badw_more (line_read h)) (by simp) (fun w hw => ?_) ?_
  · rcases List.mem_append.mp hw with z | z
    · exact fr_words h w z
    · rw [List.mem_singleton.mp z]; exact hx
  · have := wt_line h
    rw [wt_app, wt_cons]
    simp [Wt] at this ⊢
    omega
theorem badL_less {d : Deed} (h : DeedG d) : BadL (TL.joinL [32] (dwords d).dropLast) := by
  refine badL_of (badw_less (line_read h)) (fun z => ?_) (fun w hw => fr_words h w ((List.dropLast_subset _) hw)) ?_
  · have := dwords_two d
    have e := congrArg List.length z
    rw [List.length_dropLast] at e
    simp at e
    omega
  · have := wt_line h
    have e := wt_take (dwords d) ((dwords d).length - 1)
    rw [List.dropLast_eq_take]
    omega
theorem badL_ins {d : Deed} {i : Nat} (h : DeedG d) (hi : i < (dwords d).length) : BadL (TL.joinL [32] ((dwords d).take i ++ [[]] ++ (dwords d).drop i)) := by
  refine badL_of (badw_ins (line_read h) hi) (by simp) (fun w hw => ?_) ?_
  · simp only [List.mem_append, List.mem_singleton] at hw
    rcases hw with (hw | rfl) | hw
    · exact fr_words h w (List.mem_of_mem_take hw)
    · exact ⟨by decide, by decide⟩
    · exact fr_words h w (List.mem_of_mem_drop hw)
  · have := wt_line h
    have e := wt_take (dwords d) i
    rw [wt_app, wt_app, wt_cons]
    simp [Wt] at this e ⊢
    omega
theorem badL_set {d : Deed} {i : Nat} {b : Wd} (h : DeedG d) (hi : i < (dwords d).length) (B : BadW b) (hl : b.length ≤ 4000) : BadL (TL.joinL [32] ((dwords d).set i b)) := by
  refine badL_of (badw_set (line_read h) hi B) (fun z => ?_) (fun w hw => ?_) ?_
  · rw [List.set_eq_nil_iff] at z
    exact dwords_ne d z
  · rcases mem_set hw with z | rfl
    · exact fr_words h w z
    · exact ⟨B.sp, B.nl⟩
  · have := wt_line h
    have := wt_set (dwords d) i b
    omega
theorem badL_sign {d : Deed} {i : Nat} {s : Wd} (h : DeedG d) (hs : sgn s) (hi : spotOk d s i) : BadL (TL.joinL [32] ((dwords d).set i s)) := by
  have hf : Fr s ∧ s.length ≤ 3 := by rcases hs with rfl | rfl <;> exact ⟨⟨by decide, by decide⟩, by decide⟩
  refine badL_of (badw_sign (line_read h) hs hi) (fun z => ?_) (fun w hw => ?_) ?_
  · rw [List.set_eq_nil_iff] at z
    exact dwords_ne d z
  · rcases mem_set hw with z | rfl
    · exact fr_words h w z
    · exact hf.1
  · have := wt_line h
    have := wt_set (dwords d) i s
    omega
/-- another first word -/
def NoK (k : Wd) : Prop := k ≠ kTell ∧ k ≠ kRecount ∧ k ≠ kCorrect ∧ k ≠ kWithdraw ∧ k ≠ kDoubt
theorem badL_head {d : Deed} {k : Wd} (h : DeedG d) (hk : NoK k) (hf : Fr k) (hl : k.length ≤ 100) : BadL (TL.joinL [32] ((dwords d).set 0 k)) := by
  refine badL_of ?_ (fun z => ?_) (fun w hw => ?_) ?_
  · cases q : dwords d with
    | nil => exact absurd q (dwords_ne d)
    | cons a r => exact badw_head hk
  · rw [List.set_eq_nil_iff] at z
    exact dwords_ne d z
  · rcases mem_set hw with z | rfl
    · exact fr_words h w z
    · exact hf
  · have := wt_line h
    have := wt_set (dwords d) 0 k
    omega
def kFirst : List Wd := [kTell, kRecount, kCorrect, kWithdraw, kDoubt]
theorem dwords_first (d : Deed) : ∃ k r, dwords d = k :: r ∧ k ∈ kFirst := by
  cases d <;> exact ⟨_, _, rfl, by decide⟩
end K82
set_option Elab.async false
set_option linter.all false
set_option maxRecDepth 100000
set_option maxHeartbeats 4000000
namespace K82
open PySem PySem.Spec PyProof.Rows L2 Ly SX
theorem if_skip {i : Nat} {k r : Int} {X Y : DS} {DD : DEnds} {Δ : DSt} (h : r ≠ k) (hΔ : (frz Δ)[i]? = some (some (.d (.int r)))) (q : Y DD Δ) : dSeq (dIfS (dTst (dOp eqD (dVar i) (dC (.int k)))) X dNext) Y DD Δ := by
  refine ⟨_, hΔ, ?_⟩
  change ∃ k', PyData.bool (decide (r = k)) = PyData.bool k' ∧ if k' = true then X { DD with nx := Y DD } Δ else Y DD Δ
  exact bF (decide_eq_false h) q
theorem if_take {i : Nat} {k : Int} {X Y : DS} {DD : DEnds} {Δ : DSt} (hΔ : (frz Δ)[i]? = some (some (.d (.int k)))) (q : X { DD with nx := Y DD } Δ) : dSeq (dIfS (dTst (dOp eqD (dVar i) (dC (.int k)))) X dNext) Y DD Δ := by
  refine ⟨_, hΔ, ?_⟩
  change ∃ k', PyData.bool (decide (k = k)) = PyData.bool k' ∧ if k' = true then X { DD with nx := Y DD } Δ else Y DD Δ
  exact bT (decide_eq_true rfl) q
def blRet : DS := dRet (dJoin (dC (.str " ")) (dVar 2))
theorem bl_ret {P : PyData → Prop} {ws : List Wd} {o : Ent} {L p w bs k : PyData} (ho : o = .own (wsD ws) ∨ o = .d (.list (wsD ws))) (hB : BadL (TL.joinL [32] ws)) (hl : Wt ws ≤ 10000) (hP : ∀ w, BadL w → P (.str (S w))) :
    blRet (endsP P) [some .src, some (.d L), some o, some (.d p), some (.d w), some (.d bs), some (.d k)] := by
  have fin : ∃ ys : List Str, strsOf (.list (wsD ws)) = some (ys.map PyData.str) ∧ (ys.map (·.length)).sum + ys.length * (S [32]).length ≤ 16777216 ∧ P (.str (Txt.join (S [32]) ys)) := by
    refine ⟨_, js1 ws, js2 ?_, by rw [join_S]; exact hP _ hB⟩
    have h1 : ∀ ws : List Wd, (ws.map List.length).sum + ws.length = Wt ws := fun ws => by
      induction ws with
      | nil => rfl
      | cons a r ih => simp only [List.map_cons, List.sum_cons, List.length_cons, wt_cons] at ih ⊢; omega
    have := h1 ws
    simp only [List.length_cons, List.length_nil]
    omega
  unfold blRet
  rcases ho with rfl | rfl
  · simp only [dSeq, dIfS, dOr, dAnd, dNot, dTst, dOp, dVar, dC, dCB, dCons, dNil, dRet, dFor, dIfE, dTup, dLst, dFzL, dSl, dNoPart, dPart, dSplit, dJoin, dUpper, dCall, dCallS, dIs, dNeg, dFmt, dJd, dJs, diLT, diL, diT, diS, diR1, diR2, diE, dgN, dgT2, dYes, dLc, dSet, dSetF, dSetZ, dSetL, dSetLZ, dNew, dApp, dAppF, dPut, dPar, dPar3, dAug, dNext, dAndV, dNotV, dOrT, hide, frz, hd1, fz1, D0, endsP, retP, intDI, isND, ntND, eqSS, eqII, neSS, neII, addII, addSS, addLL, ixLI, ixTI, ixSI, slLL, slSS, lenL, lenT, lenS, strI, strS, intI, intB, intS, tupL, tupT, lstL, lstT, minI, flat, List.map_cons, List.map_nil, List.replicate, List.append_eq, List.nil_append, List.cons_append, List.length_cons, List.length_nil, List.getElem?_cons_zero, List.getElem?_cons_succ, List.set_cons_zero, List.set_cons_succ, Option.some.injEq, Ent.d.injEq, Ent.own.injEq, exists_eq_left', exists_eq_left, exists_eq_right, PyData.bool.injEq, PyData.int.injEq, PyData.str.injEq, PyData.list.injEq, PyData.tuple.injEq, true_and, and_true, Nat.zero_add, Nat.add_zero, Nat.sub_self, Nat.reduceAdd, Nat.reduceSub, List.append_nil, Bool.false_eq_true, if_true, if_false, reduceIte, reduceCtorEq, false_and, exists_false, or_false, false_or, Option.map_some, Option.map_none, lit_sp]
    exact fin
  · simp only [dSeq, dIfS, dOr, dAnd, dNot, dTst, dOp, dVar, dC, dCB, dCons, dNil, dRet, dFor, dIfE, dTup, dLst, dFzL, dSl, dNoPart, dPart, dSplit, dJoin, dUpper, dCall, dCallS, dIs, dNeg, dFmt, dJd, dJs, diLT, diL, diT, diS, diR1, diR2, diE, dgN, dgT2, dYes, dLc, dSet, dSetF, dSetZ, dSetL, dSetLZ, dNew, dApp, dAppF, dPut, dPar, dPar3, dAug, dNext, dAndV, dNotV, dOrT, hide, frz, hd1, fz1, D0, endsP, retP, intDI, isND, ntND, eqSS, eqII, neSS, neII, addII, addSS, addLL, ixLI, ixTI, ixSI, slLL, slSS, lenL, lenT, lenS, strI, strS, intI, intB, intS, tupL, tupT, lstL, lstT, minI, flat, List.map_cons, List.map_nil, List.replicate, List.append_eq, List.nil_append, List.cons_append, List.length_cons, List.length_nil, List.getElem?_cons_zero, List.getElem?_cons_succ, List.set_cons_zero, List.set_cons_succ, Option.some.injEq, Ent.d.injEq, Ent.own.injEq, exists_eq_left', exists_eq_left, exists_eq_right, PyData.bool.injEq, PyData.int.injEq, PyData.str.injEq, PyData.list.injEq, PyData.tuple.injEq, true_and, and_true, Nat.zero_add, Nat.add_zero, Nat.sub_self, Nat.reduceAdd, Nat.reduceSub, List.append_nil, Bool.false_eq_true, if_true, if_false, reduceIte, reduceCtorEq, false_and, exists_false, or_false, false_or, Option.map_some, Option.map_none, lit_sp]
    exact fin
def bl6 : DS := dSeq (dIfS (dTst (dOp gtD (dVar 6) (dC (.int 5))))
    (dPut 2 (dVar 3) (dOp ixD (dVar 5) (dCallS 0 2 F_law_draw (dCons (dCB lenD (dCons (dVar 5) dNil)) dNil))))
    dNext) blRet
def bl5 : DS := dSeq (dIfS (dTst (dOp eqD (dVar 6) (dC (.int 5))))
    (dPut 2 (dC (.int 0)) (dOp ixD (dFzL (dLst (dCons (dC (.str "undo")) (dCons (dC (.str "claim")) (dCons (dC (.str "rule")) (dCons (dC (.str "nodes")) (dCons (dC (.str "recounts")) (dCons (dC (.str "doubts")) (dCons (dC (.str "tel")) (dCons (dC (.str "set_doubt")) dNil)))))))))) (dCallS 0 2 F_law_draw (dCons (dC (.int 8)) dNil))))
    dNext) bl6
def bl4 : DS := dSeq (dIfS (dTst (dOp eqD (dVar 6) (dC (.int 4))))
    (dSetZ 2 (dCallS 0 2 F_wrong_sign (dCons (dVar 2) dNil)))
    dNext) bl5
def bl3 : DS := dSeq (dIfS (dTst (dOp eqD (dVar 6) (dC (.int 3))))
    (dPut 2 (dC (.int 0)) (dOp addD (dUpper (dSl (dOp ixD (dVar 2) (dC (.int 0))) dNoPart (dPart (dC (.int 1))))) (dSl (dOp ixD (dVar 2) (dC (.int 0))) (dPart (dC (.int 1))) dNoPart)))
    dNext) bl4
def bl2 : DS := dSeq (dIfS (dTst (dOp eqD (dVar 6) (dC (.int 2))))
    (dSetZ 2 (dOp addD (dOp addD (dSl (dVar 2) dNoPart (dPart (dVar 3))) (dFzL (dLst (dCons (dC (.str "")) dNil)))) (dSl (dVar 2) (dPart (dVar 3)) dNoPart)))
    dNext) bl3
def bl1 : DS := dSeq (dIfS (dTst (dOp eqD (dVar 6) (dC (.int 1))))
    (dSetZ 2 (dSl (dVar 2) dNoPart (dPart (dNeg (dC (.int 1))))))
    dNext) bl2
def bl0 : DS := dSeq (dIfS (dTst (dOp eqD (dVar 6) (dC (.int 0))))
    (dApp 2 (dOp ixD (dFzL (dLst (dCons (dC (.str "1")) (dCons (dC (.str "")) (dCons (dC (.str "any")) (dCons (dC (.str "most")) dNil)))))) (dCallS 0 2 F_law_draw (dCons (dC (.int 4)) dNil))))
    dNext) bl1
theorem bl6_skip {P : PyData → Prop} {ws : List Wd} {o : Ent} {L p w bs : PyData} {k : Int} (hk : k ≤ 5) (ho : o = .own (wsD ws) ∨ o = .d (.list (wsD ws))) (hB : BadL (TL.joinL [32] ws)) (hl : Wt ws ≤ 10000) (hP : ∀ w, BadL w → P (.str (S w))) :
    bl6 (endsP P) [some .src, some (.d L), some o, some (.d p), some (.d w), some (.d bs), some (.d (.int k))] := by
  have h : ∀ Δ : DSt, (frz Δ)[6]? = some (some (.d (.int k))) → blRet (endsP P) Δ → bl6 (endsP P) Δ := fun Δ h1 h2 => ⟨_, h1, ⟨trivial, _, rfl, iteF' hk h2⟩⟩
  exact h _ (by rcases ho with rfl | rfl <;> rfl) (bl_ret ho hB hl hP)
where
  iteF' {k : Int} {A B : Prop} (hk : k ≤ 5) (h : B) : if (decide ((5 : Int) < k)) = true then A else B := by
    rw [if_neg]
    · exact h
    · simp; exact hk
theorem cutD_back (a : List PyData) (h : a ≠ []) : Ly.cutD a none (some (-1)) = a.dropLast := by
  have hl := List.length_pos_iff.mpr h
  unfold Ly.cutD
  have e : HT.sIx a.length a.length (some (-1)) = a.length - 1 := by
    show (if (-1 : Int) < 0 then ((-1 : Int) + (a.length : Int)).toNat else min (-1 : Int).toNat a.length) = _
    rw [if_pos (by decide)]
    omega
  rw [HT.sIx_none, e, List.drop_zero, Nat.sub_zero, List.dropLast_eq_take]
theorem ixN_nat {n i : Nat} (h : i < n) : ixN n (i : Int) = some i := by
  unfold ixN
  rw [if_pos (by omega), if_pos (by omega), Int.toNat_natCast]
theorem wsD_snoc (a : List Wd) (x : Wd) : wsD a ++ [.str (S x)] = wsD (a ++ [x]) := by simp [wsD]
theorem wsD_set (a : List Wd) (i : Nat) (x : Wd) : (wsD a).set i (.str (S x)) = wsD (a.set i x) := by
  unfold wsD
  rw [List.map_set]
theorem wsD_dl (a : List Wd) : (wsD a).dropLast = wsD a.dropLast := by
  unfold wsD
  rw [List.map_dropLast]
theorem lit_1 : Str.ofString "1" = S [49] := lit _
def undoW : List Wd := ["undo", "claim", "rule", "nodes", "recounts", "doubts", "tel", "set_doubt"].map fun s : String => s.toList.map Char.toNat
theorem undo_ok : ∀ k ∈ undoW, (k ≠ kTell ∧ k ≠ kRecount ∧ k ≠ kCorrect ∧ k ≠ kWithdraw ∧ k ≠ kDoubt) ∧ (32 ∉ k ∧ 10 ∉ k) ∧ k.length ≤ 100 := by decide
def upW (k : Wd) : Wd := (k.take 1).map up1 ++ k.drop 1
theorem up_ok : ∀ k ∈ kFirst, ((upW k ≠ kTell ∧ upW k ≠ kRecount ∧ upW k ≠ kCorrect ∧ upW k ≠ kWithdraw ∧ upW k ≠ kDoubt) ∧ (32 ∉ upW k ∧ 10 ∉ upW k) ∧ (upW k).length ≤ 100) ∧ (k.take 1).all (· < 128) = true ∧ k.length ≤ 100 := by decide
theorem more_ok : ∀ x ∈ ([[49], [], wAny, kMost] : List Wd), (32 ∉ x ∧ 10 ∉ x) ∧ x.length ≤ 100 := by decide
theorem bl_run {P : PyData → Prop} {d : Deed} (hd : DeedG d) {L : PyData} {p : Nat} (hp : p < (dwords d).length) {w : Wd} {bs : List Wd} (hbs : ∀ b ∈ bs, BadW b ∧ b.length ≤ 4000) (hne : bs ≠ []) (hl : bs.length ≤ 1000) (hP : ∀ w, BadL w → P (.str (S w))) {r : Int} (r0 : 0 ≤ r) (r1 : r < 8) :
    bl0 (endsP P) [some .src, some (.d L), some (.own (wsD (dwords d))), some (.d (.int (p : Nat))), some (.d (.str (S w))), some (.d (.list (wsD bs))), some (.d (.int r))] := by
  have hwt := wt_line hd
  have hwl : (wsD (dwords d)).length < 10000 := by
    have : ∀ ws : List Wd, ws.length ≤ Wt ws := fun ws => by
      induction ws with
      | nil => simp
      | cons a r ih => rw [wt_cons, List.length_cons]; omega
    have := this (dwords d)
    rw [wsD_len]
    omega
  have h2 := dwords_two d
  have wtl : ∀ {ws : List Wd}, ws ≠ [] → BadL (TL.joinL [32] ws) → Wt ws ≤ 10000 := fun {ws} h h' => by
    have := wt_join h
    have := h'.len
    omega
  have setne : ∀ {i : Nat} {b : Wd}, (dwords d).set i b ≠ [] := fun {i b} z => by
    rw [List.set_eq_nil_iff] at z
    exact dwords_ne d z
  have hr : r = 0 ∨ r = 1 ∨ r = 2 ∨ r = 3 ∨ r = 4 ∨ r = 5 ∨ (5 < r) := by omega
  rcases hr with rfl | rfl | rfl | rfl | rfl | rfl | hr
  · refine if_take rfl ?_
    simp only [dSeq, dIfS, dOr, dAnd, dNot, dTst, dOp, dVar, dC, dCB, dCons, dNil, dRet, dFor, dIfE, dTup, dLst, dFzL, dSl, dNoPart, dPart, dSplit, dJoin, dUpper, dCall, dCallS, dIs, dNeg, dFmt, dJd, dJs, diLT, diL, diT, diS, diR1, diR2, diE, dgN, dgT2, dYes, dLc, dSet, dSetF, dSetZ, dSetL, dSetLZ, dNew, dApp, dAppF, dPut, dPar, dPar3, dAug, dNext, dAndV, dNotV, dOrT, hide, frz, hd1, fz1, D0, endsP, retP, intDI, isND, ntND, eqSS, eqII, neSS, neII, addII, addSS, addLL, ixLI, ixTI, ixSI, slLL, slSS, lenL, lenT, lenS, strI, strS, intI, intB, intS, tupL, tupT, lstL, lstT, minI, flat, List.map_cons, List.map_nil, List.replicate, List.append_eq, List.nil_append, List.cons_append, List.length_cons, List.length_nil, List.getElem?_cons_zero, List.getElem?_cons_succ, List.set_cons_zero, List.set_cons_succ, Option.some.injEq, Ent.d.injEq, Ent.own.injEq, exists_eq_left', exists_eq_left, exists_eq_right, PyData.bool.injEq, PyData.int.injEq, PyData.str.injEq, PyData.list.injEq, PyData.tuple.injEq, true_and, and_true, Nat.zero_add, Nat.add_zero, Nat.sub_self, Nat.reduceAdd, Nat.reduceSub, List.append_nil, Bool.false_eq_true, if_true, if_false, reduceIte, reduceCtorEq, false_and, exists_false, or_false, false_or, Option.map_some, Option.map_none, lit_1, lit_e, lit_any, lit_most]
    refine ⟨z4, fi_draw (by decide) (by decide) fun q q0 q1 => ix_mem q0 q1 fun v hv => ?_⟩
    obtain ⟨x, hx, rfl⟩ : ∃ x ∈ ([[49], [], wAny, kMost] : List Wd), v = .str (S x) := by
      simp only [List.mem_cons, List.not_mem_nil, or_false] at hv
      rcases hv with rfl | rfl | rfl | rfl <;> exact ⟨_, by simp, rfl⟩
    refine ⟨lsm (n := (wsD (dwords d)).length + 1) (by omega), ?_⟩
    rw [wsD_snoc]
    have hB := badL_more hd (more_ok x hx).1 (more_ok x hx).2
    exact if_skip (by decide) rfl (if_skip (by decide) rfl (if_skip (by decide) rfl (if_skip (by decide) rfl (if_skip (by decide) rfl (bl6_skip (by decide) (.inl rfl) hB (wtl (by simp) hB) hP)))))
  · refine if_skip (by decide) rfl (if_take rfl ?_)
    simp only [dSeq, dIfS, dOr, dAnd, dNot, dTst, dOp, dVar, dC, dCB, dCons, dNil, dRet, dFor, dIfE, dTup, dLst, dFzL, dSl, dNoPart, dPart, dSplit, dJoin, dUpper, dCall, dCallS, dIs, dNeg, dFmt, dJd, dJs, diLT, diL, diT, diS, diR1, diR2, diE, dgN, dgT2, dYes, dLc, dSet, dSetF, dSetZ, dSetL, dSetLZ, dNew, dApp, dAppF, dPut, dPar, dPar3, dAug, dNext, dAndV, dNotV, dOrT, hide, frz, hd1, fz1, D0, endsP, retP, intDI, isND, ntND, eqSS, eqII, neSS, neII, addII, addSS, addLL, ixLI, ixTI, ixSI, slLL, slSS, lenL, lenT, lenS, strI, strS, intI, intB, intS, tupL, tupT, lstL, lstT, minI, flat, List.map_cons, List.map_nil, List.replicate, List.append_eq, List.nil_append, List.cons_append, List.length_cons, List.length_nil, List.getElem?_cons_zero, List.getElem?_cons_succ, List.set_cons_zero, List.set_cons_succ, Option.some.injEq, Ent.d.injEq, Ent.own.injEq, exists_eq_left', exists_eq_left, exists_eq_right, PyData.bool.injEq, PyData.int.injEq, PyData.str.injEq, PyData.list.injEq, PyData.tuple.injEq, true_and, and_true, Nat.zero_add, Nat.add_zero, Nat.sub_self, Nat.reduceAdd, Nat.reduceSub, List.append_nil, Bool.false_eq_true, if_true, if_false, reduceIte, reduceCtorEq, false_and, exists_false, or_false, false_or, Option.map_some, Option.map_none]
    rw [cutD_back _ (fun z => by rw [wsD, List.map_eq_nil_iff] at z; exact dwords_ne d z), wsD_dl]
    have hB := badL_less hd
    refine if_skip (by decide) rfl (if_skip (by decide) rfl (if_skip (by decide) rfl (if_skip (by decide) rfl (bl6_skip (by decide) (.inr rfl) hB (wtl (fun z => ?_) hB) hP))))
    have e := congrArg List.length z
    rw [List.length_dropLast] at e
    simp at e
    omega
  · refine if_skip (by decide) rfl (if_skip (by decide) rfl (if_take rfl ?_))
    simp only [dSeq, dIfS, dOr, dAnd, dNot, dTst, dOp, dVar, dC, dCB, dCons, dNil, dRet, dFor, dIfE, dTup, dLst, dFzL, dSl, dNoPart, dPart, dSplit, dJoin, dUpper, dCall, dCallS, dIs, dNeg, dFmt, dJd, dJs, diLT, diL, diT, diS, diR1, diR2, diE, dgN, dgT2, dYes, dLc, dSet, dSetF, dSetZ, dSetL, dSetLZ, dNew, dApp, dAppF, dPut, dPar, dPar3, dAug, dNext, dAndV, dNotV, dOrT, hide, frz, hd1, fz1, D0, endsP, retP, intDI, isND, ntND, eqSS, eqII, neSS, neII, addII, addSS, addLL, ixLI, ixTI, ixSI, slLL, slSS, lenL, lenT, lenS, strI, strS, intI, intB, intS, tupL, tupT, lstL, lstT, minI, flat, List.map_cons, List.map_nil, List.replicate, List.append_eq, List.nil_append, List.cons_append, List.length_cons, List.length_nil, List.getElem?_cons_zero, List.getElem?_cons_succ, List.set_cons_zero, List.set_cons_succ, Option.some.injEq, Ent.d.injEq, Ent.own.injEq, exists_eq_left', exists_eq_left, exists_eq_right, PyData.bool.injEq, PyData.int.injEq, PyData.str.injEq, PyData.list.injEq, PyData.tuple.injEq, true_and, and_true, Nat.zero_add, Nat.add_zero, Nat.sub_self, Nat.reduceAdd, Nat.reduceSub, List.append_nil, Bool.false_eq_true, if_true, if_false, reduceIte, reduceCtorEq, false_and, exists_false, or_false, false_or, Option.map_some, Option.map_none, lit_e]
    rw [cutD_to, cutD_from, wsD_take, wsD_drop]
    have e2 : wsD ((dwords d).take p) ++ [PyData.str (S [])] ++ wsD ((dwords d).drop p) = wsD ((dwords d).take p ++ [[]] ++ (dwords d).drop p) := by
      rw [wsD_app, wsD_app]
      rfl
    rw [e2]
    have hB := badL_ins hd hp
    rw [wsD_len] at hwl
    exact ⟨lsm (by decide), lsm (by simp [wsD_len]; omega), lsm (by simp [wsD_len]; omega), if_skip (by decide) rfl (if_skip (by decide) rfl (if_skip (by decide) rfl (bl6_skip (by decide) (.inr rfl) hB (wtl (by simp) hB) hP)))⟩
  · refine if_skip (by decide) rfl (if_skip (by decide) rfl (if_skip (by decide) rfl (if_take rfl ?_)))
    obtain ⟨k, r, ek, hk⟩ := dwords_first d
    have h0 : (dwords d)[0]? = some k := by rw [ek]; rfl
    obtain ⟨⟨u1, u2, u3⟩, u4, u5⟩ := up_ok k hk
    have hB := badL_head hd u1 u2 u3
    simp only [dSeq, dIfS, dOr, dAnd, dNot, dTst, dOp, dVar, dC, dCB, dCons, dNil, dRet, dFor, dIfE, dTup, dLst, dFzL, dSl, dNoPart, dPart, dSplit, dJoin, dUpper, dCall, dCallS, dIs, dNeg, dFmt, dJd, dJs, diLT, diL, diT, diS, diR1, diR2, diE, dgN, dgT2, dYes, dLc, dSet, dSetF, dSetZ, dSetL, dSetLZ, dNew, dApp, dAppF, dPut, dPar, dPar3, dAug, dNext, dAndV, dNotV, dOrT, hide, frz, hd1, fz1, D0, endsP, retP, intDI, isND, ntND, eqSS, eqII, neSS, neII, addII, addSS, addLL, ixLI, ixTI, ixSI, slLL, slSS, lenL, lenT, lenS, strI, strS, intI, intB, intS, tupL, tupT, lstL, lstT, minI, flat, List.map_cons, List.map_nil, List.replicate, List.append_eq, List.nil_append, List.cons_append, List.length_cons, List.length_nil, List.getElem?_cons_zero, List.getElem?_cons_succ, List.set_cons_zero, List.set_cons_succ, Option.some.injEq, Ent.d.injEq, Ent.own.injEq, exists_eq_left', exists_eq_left, exists_eq_right, PyData.bool.injEq, PyData.int.injEq, PyData.str.injEq, PyData.list.injEq, PyData.tuple.injEq, true_and, and_true, Nat.zero_add, Nat.add_zero, Nat.sub_self, Nat.reduceAdd, Nat.reduceSub, List.append_nil, Bool.false_eq_true, if_true, if_false, reduceIte, reduceCtorEq, false_and, exists_false, or_false, false_or, Option.map_some, Option.map_none]
    refine ⟨_, wsD_at h0, lsm (by rw [S_len]; omega), ?_⟩
    rw [cutS_S, cut_to1]
    refine ⟨_, rfl, by rw [S_len, List.length_take]; omega, ?_⟩
    rw [upper_S u4]
    refine ⟨_, wsD_at h0, lsm (by rw [S_len]; omega), ?_⟩
    rw [cutS_S, cut_from1]
    refine fi_add (by simp; omega) ⟨rfl, 0, 0, rfl, ixN_nat (i := 0) (by rw [wsD_len]; omega), ?_⟩
    rw [wsD_set]
    exact if_skip (by decide) rfl (if_skip (by decide) rfl (bl6_skip (by decide) (.inl rfl) hB (wtl setne hB) hP))
  · refine if_skip (by decide) rfl (if_skip (by decide) rfl (if_skip (by decide) rfl (if_skip (by decide) rfl (if_take rfl ?_))))
    simp only [dSeq, dIfS, dOr, dAnd, dNot, dTst, dOp, dVar, dC, dCB, dCons, dNil, dRet, dFor, dIfE, dTup, dLst, dFzL, dSl, dNoPart, dPart, dSplit, dJoin, dUpper, dCall, dCallS, dIs, dNeg, dFmt, dJd, dJs, diLT, diL, diT, diS, diR1, diR2, diE, dgN, dgT2, dYes, dLc, dSet, dSetF, dSetZ, dSetL, dSetLZ, dNew, dApp, dAppF, dPut, dPar, dPar3, dAug, dNext, dAndV, dNotV, dOrT, hide, frz, hd1, fz1, D0, endsP, retP, intDI, isND, ntND, eqSS, eqII, neSS, neII, addII, addSS, addLL, ixLI, ixTI, ixSI, slLL, slSS, lenL, lenT, lenS, strI, strS, intI, intB, intS, tupL, tupT, lstL, lstT, minI, flat, List.map_cons, List.map_nil, List.replicate, List.append_eq, List.nil_append, List.cons_append, List.length_cons, List.length_nil, List.getElem?_cons_zero, List.getElem?_cons_succ, List.set_cons_zero, List.set_cons_succ, Option.some.injEq, Ent.d.injEq, Ent.own.injEq, exists_eq_left', exists_eq_left, exists_eq_right, PyData.bool.injEq, PyData.int.injEq, PyData.str.injEq, PyData.list.injEq, PyData.tuple.injEq, true_and, and_true, Nat.zero_add, Nat.add_zero, Nat.sub_self, Nat.reduceAdd, Nat.reduceSub, List.append_nil, Bool.false_eq_true, if_true, if_false, reduceIte, reduceCtorEq, false_and, exists_false, or_false, false_or, Option.map_some, Option.map_none]
    refine ⟨d, rfl, hd, fun s i hs hi => ?_⟩
    have hB := badL_sign hd hs hi
    exact if_skip (by decide) rfl (bl6_skip (by decide) (.inr rfl) hB (wtl setne hB) hP)
  · refine if_skip (by decide) rfl (if_skip (by decide) rfl (if_skip (by decide) rfl (if_skip (by decide) rfl (if_skip (by decide) rfl (if_take rfl ?_)))))
    simp only [dSeq, dIfS, dOr, dAnd, dNot, dTst, dOp, dVar, dC, dCB, dCons, dNil, dRet, dFor, dIfE, dTup, dLst, dFzL, dSl, dNoPart, dPart, dSplit, dJoin, dUpper, dCall, dCallS, dIs, dNeg, dFmt, dJd, dJs, diLT, diL, diT, diS, diR1, diR2, diE, dgN, dgT2, dYes, dLc, dSet, dSetF, dSetZ, dSetL, dSetLZ, dNew, dApp, dAppF, dPut, dPar, dPar3, dAug, dNext, dAndV, dNotV, dOrT, hide, frz, hd1, fz1, D0, endsP, retP, intDI, isND, ntND, eqSS, eqII, neSS, neII, addII, addSS, addLL, ixLI, ixTI, ixSI, slLL, slSS, lenL, lenT, lenS, strI, strS, intI, intB, intS, tupL, tupT, lstL, lstT, minI, flat, List.map_cons, List.map_nil, List.replicate, List.append_eq, List.nil_append, List.cons_append, List.length_cons, List.length_nil, List.getElem?_cons_zero, List.getElem?_cons_succ, List.set_cons_zero, List.set_cons_succ, Option.some.injEq, Ent.d.injEq, Ent.own.injEq, exists_eq_left', exists_eq_left, exists_eq_right, PyData.bool.injEq, PyData.int.injEq, PyData.str.injEq, PyData.list.injEq, PyData.tuple.injEq, true_and, and_true, Nat.zero_add, Nat.add_zero, Nat.sub_self, Nat.reduceAdd, Nat.reduceSub, List.append_nil, Bool.false_eq_true, if_true, if_false, reduceIte, reduceCtorEq, false_and, exists_false, or_false, false_or, Option.map_some, Option.map_none]
    refine ⟨lsm (by decide), fi_draw (by decide) (by decide) fun q q0 q1 => ix_mem q0 q1 fun v hv => ?_⟩
    obtain ⟨x, hx, rfl⟩ : ∃ x ∈ undoW, v = .str (S x) := by
      simp only [List.mem_cons, List.not_mem_nil, or_false] at hv
      rcases hv with rfl | rfl | rfl | rfl | rfl | rfl | rfl | rfl <;> exact ⟨_, by simp [undoW], congrArg PyData.str (lit _)⟩
    obtain ⟨u1, u2, u3⟩ := undo_ok x hx
    have hB := badL_head hd u1 u2 u3
    refine ⟨rfl, 0, 0, rfl, ixN_nat (i := 0) (by rw [wsD_len]; omega), ?_⟩
    rw [wsD_set]
    exact bl6_skip (by decide) (.inl rfl) hB (wtl setne hB) hP
  · refine if_skip (by omega) rfl (if_skip (by omega) rfl (if_skip (by omega) rfl (if_skip (by omega) rfl (if_skip (by omega) rfl (if_skip (by omega) rfl ?_)))))
    unfold bl6
    simp only [dSeq, dIfS, dOr, dAnd, dNot, dTst, dOp, dVar, dC, dCB, dCons, dNil, dRet, dFor, dIfE, dTup, dLst, dFzL, dSl, dNoPart, dPart, dSplit, dJoin, dUpper, dCall, dCallS, dIs, dNeg, dFmt, dJd, dJs, diLT, diL, diT, diS, diR1, diR2, diE, dgN, dgT2, dYes, dLc, dSet, dSetF, dSetZ, dSetL, dSetLZ, dNew, dApp, dAppF, dPut, dPar, dPar3, dAug, dNext, dAndV, dNotV, dOrT, hide, frz, hd1, fz1, D0, endsP, retP, intDI, isND, ntND, eqSS, eqII, neSS, neII, addII, addSS, addLL, ixLI, ixTI, ixSI, slLL, slSS, lenL, lenT, lenS, strI, strS, intI, intB, intS, tupL, tupT, lstL, lstT, minI, flat, List.map_cons, List.map_nil, List.replicate, List.append_eq, List.nil_append, List.cons_append, List.length_cons, List.length_nil, List.getElem?_cons_zero, List.getElem?_cons_succ, List.set_cons_zero, List.set_cons_succ, Option.some.injEq, Ent.d.injEq, Ent.own.injEq, exists_eq_left', exists_eq_left, exists_eq_right, PyData.bool.injEq, PyData.int.injEq, PyData.str.injEq, PyData.list.injEq, PyData.tuple.injEq, true_and, and_true, Nat.zero_add, Nat.add_zero, Nat.sub_self, Nat.reduceAdd, Nat.reduceSub, List.append_nil, Bool.false_eq_true, if_true, if_false, reduceIte, reduceCtorEq, false_and, exists_false, or_false, false_or, Option.map_some, Option.map_none]
    refine iteT' hr ?_
    have hbl : (wsD bs).length = bs.length := wsD_len bs
    have hb0 : 0 < bs.length := List.length_pos_iff.mpr hne
    refine fi_draw (by omega) (by omega) fun q q0 q1 => ix_mem q0 q1 fun v hv => ?_
    obtain ⟨b, hb, rfl⟩ := List.mem_map.mp hv
    obtain ⟨u1, u2⟩ := hbs b hb
    have hB := badL_set hd hp u1 u2
    refine ⟨rfl, _, p, rfl, ixN_nat (by rw [wsD_len]; exact hp), ?_⟩
    rw [wsD_set]
    exact bl_ret (.inl rfl) hB (wtl setne hB) hP
where
  iteT' {k : Int} {A B : Prop} (hk : 5 < k) (h : A) : if (decide ((5 : Int) < k)) = true then A else B := by
    rw [if_pos]
    · exact h
    · simp; exact hk
def badL1 : List String := ["-0", "-05", "01", "1000000000000", "-1000000000000", "1_0", "1.0", "1e3", "0x1", "+5", "", "--", "1,0"]
theorem badL1_eq : badL1.map (fun s => PyData.str (Str.ofString s)) = wsD badWs := by
  unfold badL1 wsD
  simp only [List.map_cons, List.map_nil, lit]
  rfl
def badOf (w : Wd) : List Wd := badWs ++ [48 :: w, w ++ [120], 43 :: w, w ++ [44], (49 :: w) ++ [45]]
theorem badOf_ok {w : Wd} (h : Nice w) (hl : w.length ≤ 3000) : ∀ b ∈ badOf w, BadW b ∧ b.length ≤ 4000 := fun b hb => by
  rcases List.mem_append.mp hb with z | z
  · have : ∀ b ∈ badWs, b.length ≤ 4000 := by decide
    exact ⟨bad_ws b z, this b z⟩
  · simp only [List.mem_cons, List.not_mem_nil, or_false] at z
    rcases z with rfl | rfl | rfl | rfl | rfl
    · exact ⟨bad_zero h, by simp; omega⟩
    · exact ⟨bad_x h, by simp; omega⟩
    · exact ⟨bad_plus h, by simp; omega⟩
    · exact ⟨bad_comma h, by simp; omega⟩
    · exact ⟨bad_dash h, by simp; omega⟩
theorem lit_x : Str.ofString "x" = S [120] := lit _
theorem lit_p : Str.ofString "+" = S [43] := lit _
def F_bad_line : FD := fun ds P => ∃ d, ds = [.str (S (line d))] ∧ DeedG d ∧ ∀ w, BadL w → P (.str (S w))
theorem pr_bad_line (ds : List PyData) (P : PyData → Prop) (h : F_bad_line ds P) : rd_law_bad_line F_law_draw F_wrong_sign (endsP P) (D0 1 ["_law_source_here", "_law_line_here", "_law_words", "_law_place", "_law_word", "_law_bad", "_law_kind"] ds) := by
  obtain ⟨d, rfl, hd, hP⟩ := h
  have hll := line_len hd
  have ew : TL.spl [32] 0 [] (line d) = dwords d := words_line d
  have h2 := dwords_two d
  have hwl : (wsD (dwords d)).length = (dwords d).length := wsD_len _
  have hdl : (dwords d).length ≤ 3000 := by
    have := spl_len 32 (line d)
    rw [ew] at this
    omega
  show dSeq (dNew 2 (dSplit (dVar 1) (dC (.str " ")))) (dSeq (dSetF 3 (dCallS 0 2 F_law_draw (dCons (dCB lenD (dCons (dVar 2) dNil)) dNil))) (dSeq (dSetF 4 (dOp ixD (dVar 2) (dVar 3))) (dSeq _ (dSeq _ (dSeq (dSet 6 (dCallS 0 2 F_law_draw (dCons (dC (.int 8)) dNil))) bl0))))) (endsP P) _
  simp only [dSeq, dIfS, dOr, dAnd, dNot, dTst, dOp, dVar, dC, dCB, dCons, dNil, dRet, dFor, dIfE, dTup, dLst, dFzL, dSl, dNoPart, dPart, dSplit, dJoin, dUpper, dCall, dCallS, dIs, dNeg, dFmt, dJd, dJs, diLT, diL, diT, diS, diR1, diR2, diE, dgN, dgT2, dYes, dLc, dSet, dSetF, dSetZ, dSetL, dSetLZ, dNew, dApp, dAppF, dPut, dPar, dPar3, dAug, dNext, dAndV, dNotV, dOrT, hide, frz, hd1, fz1, D0, endsP, retP, intDI, isND, ntND, eqSS, eqII, neSS, neII, addII, addSS, addLL, ixLI, ixTI, ixSI, slLL, slSS, lenL, lenT, lenS, strI, strS, intI, intB, intS, tupL, tupT, lstL, lstT, minI, flat, List.map_cons, List.map_nil, List.replicate, List.append_eq, List.nil_append, List.cons_append, List.length_cons, List.length_nil, List.getElem?_cons_zero, List.getElem?_cons_succ, List.set_cons_zero, List.set_cons_succ, Option.some.injEq, Ent.d.injEq, Ent.own.injEq, exists_eq_left', exists_eq_left, exists_eq_right, PyData.bool.injEq, PyData.int.injEq, PyData.str.injEq, PyData.list.injEq, PyData.tuple.injEq, true_and, and_true, Nat.zero_add, Nat.add_zero, Nat.sub_self, Nat.reduceAdd, Nat.reduceSub, List.append_nil, Bool.false_eq_true, if_true, if_false, reduceIte, reduceCtorEq, false_and, exists_false, or_false, false_or, Option.map_some, Option.map_none, lit_sp, split_lit (line d) 32 (by decide), ew]
  refine ⟨rfl, lsm (by rw [S_len]; omega), ?_⟩
  refine fi_draw (by omega) (by omega) fun p p0 p1 => ⟨rfl, ?_⟩
  obtain ⟨p, rfl⟩ := Int.eq_ofNat_of_zero_le p0
  have hp : p < (dwords d).length := by omega
  obtain ⟨w, hw⟩ : ∃ w, (dwords d)[p]? = some w := ⟨(dwords d)[p], by simp⟩
  have hwm : w ∈ dwords d := List.mem_of_getElem? hw
  have hn := nice_words (line_read hd) w hwm
  have hwlen : w.length ≤ 3000 := by
    have := wt_mem hwm
    have := wt_line hd
    omega
  refine ⟨_, wsD_at hw, rfl, lsm (by decide), ?_⟩
  have e3 : badL1.map (fun s => PyData.str (Str.ofString s)) ++ [PyData.str (S ([48] ++ w)), .str (S (w ++ [120])), .str (S ([43] ++ w)), .str (S (w ++ [44])), .str (S ([49] ++ w ++ [45]))] = wsD (badOf w) := by
    rw [badL1_eq]
    unfold badOf
    rw [wsD_app]
    rfl
  simp only [badL1, List.map_cons, List.map_nil, List.cons_append, List.nil_append] at e3
  rw [lit_0, lit_x, lit_p, lit_c, lit_1, lit_m]
  refine fi_add (by simp; omega) (fi_add (by simp; omega) (fi_add (by simp; omega) (fi_add (by simp; omega) (fi_add (by simp; omega) (fi_add (by simp; omega) ⟨lsm (by decide), lsm (by decide), ?_⟩)))))
  simp only [List.cons_append, List.nil_append]
  rw [e3]
  refine fi_draw (by decide) (by decide) fun r r0 r1 => ?_
  exact bl_run hd hp (badOf_ok hn hwlen) (by simp [badOf]) (by simp [badOf, badWs]) hP r0 r1
end K82
set_option Elab.async false
set_option linter.all false
set_option maxRecDepth 100000
set_option maxHeartbeats 4000000
namespace K82
open PySem PySem.Spec PyProof.Rows L2 Ly SX
def w25 : Wd := TL.joinL [47] ((List.range 25).map fun i : Nat => itx (10 + (i : Nat)))
def sw (s : String) : Wd := s.toList.map Char.toNat
def strange1 : List String := ["doubt", "doubt ", "doubt most", "doubt lots", "doubt most 100", "doubt within 1000001", "doubt lots 40"]
def strange2 : List String := ["doubt both most 1 most 100", "doubt lots 0,0", "doubt either lots 40 most 1", "doubt lots 1/0", "doubt lots 0/0", "doubt lots -/-",
  "doubt lots 0/none", "doubt most 1 most 1", "doubt both most 1", "undo", "redo", "tell",
  "withdraw", "tell 0 1 0 5 1", "tell 0 1 0 5 weight", "tell 0 1 0 5 Weight 1", "correct 0 5",
  "tell 0 1 weight 1", "recount 0 1", "recount 0 1 2 3", "withdraw 0 1", "correct 0 1 2 weight 3",
  " ", "  ", "any", "-", "0", "withdraw any", "lots none", "tell 0 1 0 5 weight any", "most 1",
  "correct any 0 1", "recount any 1 0", "recount 0 1 any"]
def strangeW : List Wd := strange1.map sw ++ (sw "doubt lots " ++ w25) :: strange2.map sw
theorem strange_ok : ∀ w ∈ strangeW, (rdeed w).isNone = true ∧ 10 ∉ w ∧ w.length ≤ 8000 := by decide +kernel
def F_strange : FD := fun ds P => ds = [] ∧ ∀ w, BadL w → P (.str (S w))
theorem strange_eq : strange1.map (fun s => PyData.str (Str.ofString s)) ++ .str (S (sw "doubt lots " ++ w25)) :: strange2.map (fun s => PyData.str (Str.ofString s)) = wsD strangeW := by
  unfold strangeW wsD
  rw [List.map_append, List.map_cons, List.map_map, List.map_map]
  simp only [lit, Function.comp_def, sw]
theorem pr_strange (ds : List PyData) (P : PyData → Prop) (h : F_strange ds P) : rd_law_strange_line F_law_draw (endsP P) (D0 1 ["_law_source_here", "_law_lots", "_law_lines", "_law_index"] ds) := by
  obtain ⟨rfl, hP⟩ := h
  unfold rd_law_strange_line
  simp only [dSeq, dIfS, dOr, dAnd, dNot, dTst, dOp, dVar, dC, dCB, dCons, dNil, dRet, dFor, dIfE, dTup, dLst, dFzL, dSl, dNoPart, dPart, dSplit, dJoin, dUpper, dCall, dCallS, dIs, dNeg, dFmt, dJd, dJs, diLT, diL, diT, diS, diR1, diR2, diE, dgN, dgT2, dYes, dLc, dSet, dSetF, dSetZ, dSetL, dSetLZ, dNew, dApp, dAppF, dPut, dPar, dPar3, dAug, dNext, dAndV, dNotV, dOrT, hide, frz, hd1, fz1, D0, endsP, retP, intDI, isND, ntND, eqSS, eqII, neSS, neII, addII, addSS, addLL, ixLI, ixTI, ixSI, slLL, slSS, lenL, lenT, lenS, strI, strS, intI, intB, intS, tupL, tupT, lstL, lstT, minI, flat, List.map_cons, List.map_nil, List.replicate, List.append_eq, List.nil_append, List.cons_append, List.length_cons, List.length_nil, List.getElem?_cons_zero, List.getElem?_cons_succ, List.set_cons_zero, List.set_cons_succ, Option.some.injEq, Ent.d.injEq, Ent.own.injEq, exists_eq_left', exists_eq_left, exists_eq_right, PyData.bool.injEq, PyData.int.injEq, PyData.str.injEq, PyData.list.injEq, PyData.tuple.injEq, true_and, and_true, Nat.zero_add, Nat.add_zero, Nat.sub_self, Nat.reduceAdd, Nat.reduceSub, List.append_nil, Bool.false_eq_true, if_true, if_false, reduceIte, reduceCtorEq, false_and, exists_false, or_false, false_or, Option.map_some, Option.map_none, lit_s]
  refine ⟨10, 35, rfl, ⟨by decide, by decide, by decide, by decide⟩, ?_⟩
  refine lc_map (f := fun i : Nat => PyData.int (10 + (i : Nat))) (g := fun i : Nat => PyData.str (S (itx (10 + (i : Nat))))) (List.range 25) [] (fun i hi R hR => ?_) (by decide) ?_
  · have := List.mem_range.mp hi
    simp only [dSeq, dIfS, dOr, dAnd, dNot, dTst, dOp, dVar, dC, dCB, dCons, dNil, dRet, dFor, dIfE, dTup, dLst, dFzL, dSl, dNoPart, dPart, dSplit, dJoin, dUpper, dCall, dCallS, dIs, dNeg, dFmt, dJd, dJs, diLT, diL, diT, diS, diR1, diR2, diE, dgN, dgT2, dYes, dLc, dSet, dSetF, dSetZ, dSetL, dSetLZ, dNew, dApp, dAppF, dPut, dPar, dPar3, dAug, dNext, dAndV, dNotV, dOrT, hide, frz, hd1, fz1, D0, endsP, retP, intDI, isND, ntND, eqSS, eqII, neSS, neII, addII, addSS, addLL, ixLI, ixTI, ixSI, slLL, slSS, lenL, lenT, lenS, strI, strS, intI, intB, intS, tupL, tupT, lstL, lstT, minI, flat, List.map_cons, List.map_nil, List.replicate, List.append_eq, List.nil_append, List.cons_append, List.length_cons, List.length_nil, List.getElem?_cons_zero, List.getElem?_cons_succ, List.set_cons_zero, List.set_cons_succ, Option.some.injEq, Ent.d.injEq, Ent.own.injEq, exists_eq_left', exists_eq_left, exists_eq_right, PyData.bool.injEq, PyData.int.injEq, PyData.str.injEq, PyData.list.injEq, PyData.tuple.injEq, true_and, and_true, Nat.zero_add, Nat.add_zero, Nat.sub_self, Nat.reduceAdd, Nat.reduceSub, List.append_nil, Bool.false_eq_true, if_true, if_false, reduceIte, reduceCtorEq, false_and, exists_false, or_false, false_or, Option.map_some, Option.map_none]
    exact fi_str (by omega) (by omega) hR
  have e1 : [] ++ (List.range 25).map (fun i : Nat => PyData.str (S (itx (10 + (i : Nat))))) = wsD ((List.range 25).map fun i : Nat => itx (10 + (i : Nat))) := by simp [wsD]
  rw [e1]
  refine ⟨_, js1 _, js2 (by decide +kernel), ?_⟩
  rw [join_S]
  have hw : (TL.joinL [47] ((List.range 25).map fun i : Nat => itx (10 + (i : Nat)))).length ≤ 900000 := by decide +kernel
  have hsw : Str.ofString "doubt lots " = S (sw "doubt lots ") := lit _
  have e3 := strange_eq
  simp only [strange1, strange2, List.map_cons, List.map_nil, List.cons_append, List.nil_append] at e3
  rw [hsw, S_cat]
  refine ⟨lsm (by decide), lsm ?_, lsm (by decide), lsm (by decide), lsm (by decide), lsm (by decide), lsm (by decide), lsm (by decide), lsm (by decide), lsm (by decide), lsm (by decide), lsm (by decide), lsm (by decide), lsm (by decide), lsm (by decide), lsm (by decide), fi_draw (by decide) (by decide) fun q q0 q1 => ?_⟩
  · rw [S_len, S_len]
    have : (sw "doubt lots ").length = 11 := by decide
    omega
  rw [show TL.joinL [47] ((List.range 25).map fun i : Nat => itx (10 + (i : Nat))) = w25 from rfl, e3, ixLI]
  refine ix_mem q0 ?_ fun v hv => ?_
  · rw [wsD_len]
    exact q1
  · obtain ⟨w, hw, rfl⟩ := List.mem_map.mp hv
    obtain ⟨h1, h2, h3⟩ := strange_ok w hw
    exact hP w ⟨Option.isNone_iff_eq_none.mp h1, h2, h3⟩
end K82
set_option Elab.async false
set_option linter.all false
set_option maxRecDepth 100000
set_option maxHeartbeats 4000000
namespace K82
open PySem PySem.Spec PyProof.Rows L2 Ly SX
/-- a record of the law: a good line with its deed, or a bad one -/
def RecG (r : Rec) : Prop := (∃ d, DeedG d ∧ r = (line d, some d)) ∨ ∃ w, BadL w ∧ r = (w, none)
theorem RecG.ok {r : Rec} (h : RecG r) : RecOk r := by
  rcases h with ⟨d, hd, rfl⟩ | ⟨w, hw, rfl⟩
  · refine ⟨line_nl hd, ?_, line_read hd, fun d' e => ?_⟩
    · have := line_len hd
      show (line d).length ≤ 8000
      omega
    · cases e
      exact ⟨hd.b, rfl⟩
  · exact ⟨hw.nl, hw.len, hw.rd, fun d' e => nomatch e⟩
theorem badL_deep {q : Pl} (h : PlG q) (hd : 3 < plDp q) (h5 : plDp q ≤ 5) : BadL (kDoubt ++ 32 :: dtx q) := by
  refine ⟨?_, ?_, ?_⟩
  · show rdeed (line (.doubt (dtx q))) = none
    unfold rdeed
    rw [words_line]
    have e : (dwords (.doubt (dtx q))).headD [] = kDoubt := rfl
    have e2 : (line (.doubt (dtx q))).drop 6 = dtx q := rfl
    simp only [e, e2]
    rw [if_neg (by decide), if_neg (by decide), if_neg (by decide), if_neg (by decide), if_pos trivial]
    have : dbtOk (dtx q) = false := by
      unfold dbtOk
      rw [dbt_deep h hd]
    rw [this]
    exact if_neg Bool.false_ne_true
  · intro z
    rcases List.mem_append.mp z with z | z
    · exact absurd z (by decide)
    · rcases List.mem_cons.mp z with z | z
      · cases z
      · exact dtx_free10 q z
  · have := dtx_len h
    have h2 : 2 ^ plDp q ≤ 32 := Nat.le_trans (Nat.pow_le_pow_right (by decide) h5) (by decide)
    rw [List.length_append, List.length_cons]
    show 5 + _ ≤ _
    omega
theorem lit_doubt_ : Str.ofString "doubt " = S (kDoubt ++ [32]) := lit _
def F_wrong_line : FD := fun ds P => ∃ r, ds = [recD r] ∧ RecG r ∧ ∀ w, BadL w → P (.str (S w))
theorem pr_wrong_line (ds : List PyData) (P : PyData → Prop) (h : F_wrong_line ds P) : rd_law_wrong_line F_law_draw F_strange (F_doubt_text 5) F_law_chain F_bad_line (endsP P) (D0 1 ["_law_source_here", "_law_record", "_law_kind"] ds) := by
  obtain ⟨r, rfl, hr, hP⟩ := h
  unfold rd_law_wrong_line
  simp only [dSeq, dIfS, dOr, dAnd, dNot, dTst, dOp, dVar, dC, dCB, dCons, dNil, dRet, dFor, dIfE, dTup, dLst, dFzL, dSl, dNoPart, dPart, dSplit, dJoin, dUpper, dCall, dCallS, dIs, dNeg, dFmt, dJd, dJs, diLT, diL, diT, diS, diR1, diR2, diE, dgN, dgT2, dYes, dLc, dSet, dSetF, dSetZ, dSetL, dSetLZ, dNew, dApp, dAppF, dPut, dPar, dPar3, dAug, dNext, dAndV, dNotV, dOrT, hide, frz, hd1, fz1, D0, endsP, retP, intDI, isND, ntND, eqSS, eqII, neSS, neII, addII, addSS, addLL, ixLI, ixTI, ixSI, slLL, slSS, lenL, lenT, lenS, strI, strS, intI, intB, intS, tupL, tupT, lstL, lstT, minI, flat, List.map_cons, List.map_nil, List.replicate, List.append_eq, List.nil_append, List.cons_append, List.length_cons, List.length_nil, List.getElem?_cons_zero, List.getElem?_cons_succ, List.set_cons_zero, List.set_cons_succ, Option.some.injEq, Ent.d.injEq, Ent.own.injEq, exists_eq_left', exists_eq_left, exists_eq_right, PyData.bool.injEq, PyData.int.injEq, PyData.str.injEq, PyData.list.injEq, PyData.tuple.injEq, true_and, and_true, Nat.zero_add, Nat.add_zero, Nat.sub_self, Nat.reduceAdd, Nat.reduceSub, List.append_nil, Bool.false_eq_true, if_true, if_false, reduceIte, reduceCtorEq, false_and, exists_false, or_false, false_or, Option.map_some, Option.map_none, recD, lit_doubt_, lit_e]
  refine fi_draw (by decide) (by decide) fun k k0 k1 => eq_i ?_
  by_cases c0 : k = 0
  · exact bT (decide_eq_true c0) ⟨rfl, hP⟩
  refine bF (decide_eq_false c0) (eq_i ?_)
  by_cases c1 : k = 1
  · refine bT (decide_eq_true c1) (fi_draw (by decide) (by decide) fun a a0 a1 => ?_)
    obtain ⟨a, rfl⟩ := Int.eq_ofNat_of_zero_le a0
    refine ⟨4 + a, by simp, by omega, fun p hp hd => ⟨p, rfl, hp, by omega, by decide, fun q hq hdq => ?_⟩⟩
    have hB := badL_deep hq (by omega) (by omega)
    have hl := hB.len
    rw [List.length_append, List.length_cons] at hl
    refine fi_add (by simp at hl ⊢; omega) ?_
    have e : (kDoubt ++ [32]) ++ dtx q = kDoubt ++ 32 :: dtx q := by simp
    rw [e]
    exact hP _ hB
  refine bF (decide_eq_false c1) (eq_i ?_)
  by_cases c2 : k = 2
  · exact bT (decide_eq_true c2) (hP _ badL_nil)
  refine bF (decide_eq_false c2) ⟨_, at1, ?_⟩
  rcases hr with ⟨d, hd, rfl⟩ | ⟨w, hw, rfl⟩
  · refine ifF (isN_deed d) ⟨_, at0, d, rfl, hd, hP⟩
  · exact iteT (hP _ badL_nil)
def F_spoilt : FD := fun ds P => ∃ rs : List Rec, ds = [.list (rs.map recD)] ∧ (∀ r ∈ rs, RecG r) ∧ rs.length ≤ 33 ∧ ∀ rs' : List Rec, (∀ r ∈ rs', RecG r) → rs'.length ≤ rs.length + 1 → P (.list (rs'.map recD))
theorem rec_take (rs : List Rec) (k : Nat) : (rs.map recD).take k = (rs.take k).map recD := by simp
theorem rec_drop (rs : List Rec) (k : Nat) : (rs.map recD).drop k = (rs.drop k).map recD := by simp
theorem rec_mid (a b : List Rec) (r : Rec) : a.map recD ++ [recD r] ++ b.map recD = (a ++ [r] ++ b).map recD := by simp
def spTail : DS := (dSeq (dIfS (dTst (dOp eqD (dVar 2) (dC (.int 0))))
    (dRet (dOp addD (dVar 1) (dFzL (dLst (dCons (dFzL (dLst (dCons (dC (.str "")) (dCons (dC .none) dNil)))) dNil)))))
    dNext)
  (dSeq (dSet 5 (dFzL (dLst (dCons (dCallS 0 2 F_wrong_line (dCons (dVar 4) dNil)) (dCons (dC .none) dNil)))))
  (dSeq (dIfS (dTst (dOp ltD (dVar 2) (dC (.int 4))))
    (dRet (dOp addD (dOp addD (dSl (dVar 1) dNoPart (dPart (dVar 3))) (dFzL (dLst (dCons (dVar 5) dNil)))) (dSl (dVar 1) (dPart (dVar 3)) dNoPart)))
    dNext)
  (dRet (dOp addD (dOp addD (dSl (dVar 1) dNoPart (dPart (dVar 3))) (dFzL (dLst (dCons (dVar 5) dNil)))) (dSl (dVar 1) (dPart (dOp addD (dVar 3) (dC (.int 1)))) dNoPart))))))
theorem sp_tail {P : PyData → Prop} {rs : List Rec} {k : Int} {p : Nat} {near : Rec} (hg : ∀ r ∈ rs, RecG r) (hl : rs.length ≤ 33) (hn : RecG near) (hP : ∀ rs' : List Rec, (∀ r ∈ rs', RecG r) → rs'.length ≤ rs.length + 1 → P (.list (rs'.map recD))) :
    spTail (endsP P) [some .src, some (.d (.list (rs.map recD))), some (.d (.int k)), some (.d (.int (p : Nat))), some (.d (recD near)), none] := by
  have hrl : (rs.map recD).length = rs.length := List.length_map ..
  have e1 : ((p : Nat) : Int) + 1 = ((p + 1 : Nat) : Int) := by omega
  unfold spTail
  simp only [dSeq, dIfS, dOr, dAnd, dNot, dTst, dOp, dVar, dC, dCB, dCons, dNil, dRet, dFor, dIfE, dTup, dLst, dFzL, dSl, dNoPart, dPart, dSplit, dJoin, dUpper, dCall, dCallS, dIs, dNeg, dFmt, dJd, dJs, diLT, diL, diT, diS, diR1, diR2, diE, dgN, dgT2, dYes, dLc, dSet, dSetF, dSetZ, dSetL, dSetLZ, dNew, dApp, dAppF, dPut, dPar, dPar3, dAug, dNext, dAndV, dNotV, dOrT, hide, frz, hd1, fz1, D0, endsP, retP, intDI, isND, ntND, eqSS, eqII, neSS, neII, addII, addSS, addLL, ixLI, ixTI, ixSI, slLL, slSS, lenL, lenT, lenS, strI, strS, intI, intB, intS, tupL, tupT, lstL, lstT, minI, flat, List.map_cons, List.map_nil, List.replicate, List.append_eq, List.nil_append, List.cons_append, List.length_cons, List.length_nil, List.getElem?_cons_zero, List.getElem?_cons_succ, List.set_cons_zero, List.set_cons_succ, Option.some.injEq, Ent.d.injEq, Ent.own.injEq, exists_eq_left', exists_eq_left, exists_eq_right, PyData.bool.injEq, PyData.int.injEq, PyData.str.injEq, PyData.list.injEq, PyData.tuple.injEq, true_and, and_true, Nat.zero_add, Nat.add_zero, Nat.sub_self, Nat.reduceAdd, Nat.reduceSub, List.append_nil, Bool.false_eq_true, if_true, if_false, reduceIte, reduceCtorEq, false_and, exists_false, or_false, false_or, Option.map_some, Option.map_none, lit_e]
  by_cases c0 : k = 0
  · refine ifT (decide_eq_true c0) ⟨z2, lsm (by decide), lsm (by omega), ?_⟩
    have := hP (rs ++ [([], none)]) (fun r hr => ?_) (by simp)
    · simpa [recD, oD] using this
    · rcases List.mem_append.mp hr with z | z
      · exact hg r z
      · rw [List.mem_singleton.mp z]; exact .inr ⟨_, badL_nil, rfl⟩
  refine ifF (decide_eq_false c0) ⟨near, rfl, hn, fun w hw => ⟨z2, ?_⟩⟩
  have hw' : RecG (w, none) := .inr ⟨w, hw, rfl⟩
  have mid : ∀ a b : List Rec, (∀ r ∈ a, r ∈ rs) → (∀ r ∈ b, r ∈ rs) → (a ++ [(w, none)] ++ b).length ≤ rs.length + 1 → P (.list (a.map recD ++ [recD (w, none)] ++ b.map recD)) := fun a b h1 h2 h3 => by
    rw [rec_mid]
    refine hP _ (fun r hr => ?_) h3
    simp only [List.mem_append, List.mem_singleton] at hr
    rcases hr with (hr | rfl) | hr
    · exact hg r (h1 r hr)
    · exact hw'
    · exact hg r (h2 r hr)
  by_cases c1 : k < 4
  · refine ifT (decide_eq_true c1) ?_
    rw [cutD_to, cutD_from, rec_take, rec_drop]
    refine ⟨lsm (by decide), lsm (by simp; omega), lsm (by simp; omega), ?_⟩
    refine mid _ _ (fun r hr => List.mem_of_mem_take hr) (fun r hr => List.mem_of_mem_drop hr) (by simp; omega)
  · refine ifF (decide_eq_false c1) ?_
    rw [cutD_to, e1, cutD_from, rec_take, rec_drop]
    refine ⟨lsm (by decide), lsm (by simp; omega), lsm (by simp; omega), ?_⟩
    refine mid _ _ (fun r hr => List.mem_of_mem_take hr) (fun r hr => List.mem_of_mem_drop hr) (by simp; omega)
theorem lit_w0 : Str.ofString "withdraw 0" = S (line (.withdraw 0)) := lit _
theorem pr_spoilt (ds : List PyData) (P : PyData → Prop) (h : F_spoilt ds P) : rd_law_spoilt F_law_draw F_wrong_line (endsP P) (D0 1 ["_law_source_here", "_law_records", "_law_kind", "_law_place", "_law_near", "_law_wrong"] ds) := by
  obtain ⟨rs, rfl, hg, hl, hP⟩ := h
  have hrl : (rs.map recD).length = rs.length := List.length_map ..
  have w0 : DeedG (.withdraw 0) := ⟨by show 0 < 10 ^ 12; decide, fun t z => nomatch z⟩
  show dSeq (dSet 2 (dCallS 0 2 F_law_draw (dCons (dC (.int 8)) dNil))) (dSeq (dSet 3 (dCallS 0 2 F_law_draw (dCons (dOp addD (dCB lenD (dCons (dVar 1) dNil)) (dC (.int 1))) dNil)))
    (dSeq (dSet 4 (dFzL (dLst (dCons (dC (.str "withdraw 0")) (dCons (dTup (dCons (dC (.str "withdraw")) (dCons (dC (.int 0)) dNil))) dNil)))))
    (dSeq (dIfS (dTst (dOp ltD (dVar 3) (dCB lenD (dCons (dVar 1) dNil)))) (dSet 4 (dOp ixD (dVar 1) (dVar 3))) dNext) spTail))) (endsP P) _
  simp only [dSeq, dIfS, dOr, dAnd, dNot, dTst, dOp, dVar, dC, dCB, dCons, dNil, dRet, dFor, dIfE, dTup, dLst, dFzL, dSl, dNoPart, dPart, dSplit, dJoin, dUpper, dCall, dCallS, dIs, dNeg, dFmt, dJd, dJs, diLT, diL, diT, diS, diR1, diR2, diE, dgN, dgT2, dYes, dLc, dSet, dSetF, dSetZ, dSetL, dSetLZ, dNew, dApp, dAppF, dPut, dPar, dPar3, dAug, dNext, dAndV, dNotV, dOrT, hide, frz, hd1, fz1, D0, endsP, retP, intDI, isND, ntND, eqSS, eqII, neSS, neII, addII, addSS, addLL, ixLI, ixTI, ixSI, slLL, slSS, lenL, lenT, lenS, strI, strS, intI, intB, intS, tupL, tupT, lstL, lstT, minI, flat, List.map_cons, List.map_nil, List.replicate, List.append_eq, List.nil_append, List.cons_append, List.length_cons, List.length_nil, List.getElem?_cons_zero, List.getElem?_cons_succ, List.set_cons_zero, List.set_cons_succ, Option.some.injEq, Ent.d.injEq, Ent.own.injEq, exists_eq_left', exists_eq_left, exists_eq_right, PyData.bool.injEq, PyData.int.injEq, PyData.str.injEq, PyData.list.injEq, PyData.tuple.injEq, true_and, and_true, Nat.zero_add, Nat.add_zero, Nat.sub_self, Nat.reduceAdd, Nat.reduceSub, List.append_nil, Bool.false_eq_true, if_true, if_false, reduceIte, reduceCtorEq, false_and, exists_false, or_false, false_or, Option.map_some, Option.map_none, lit_w0, lit_withdraw]
  refine fi_draw (by decide) (by decide) fun k k0 k1 => fi_draw (by omega) (by omega) fun p p0 p1 => ⟨z2, z2, ?_⟩
  obtain ⟨p, rfl⟩ := Int.eq_ofNat_of_zero_le p0
  refine ⟨trivial, _, rfl, ?_⟩
  by_cases c : p < rs.length
  · obtain ⟨r, hr⟩ : ∃ r, rs[p]? = some r := ⟨rs[p], by simp⟩
    refine ifT (decide_eq_true (by omega)) ⟨recD r, at_n _ p _ (by rw [List.getElem?_map, hr]; rfl), ?_⟩
    exact sp_tail hg hl (hg r (List.mem_of_getElem? hr)) hP
  · refine ifF (decide_eq_false (by omega)) ?_
    exact sp_tail (near := (line (.withdraw 0), some (.withdraw 0))) hg hl (.inl ⟨_, w0, rfl⟩) hP
end K82
set_option Elab.async false
set_option linter.all false
set_option maxRecDepth 100000
set_option maxHeartbeats 4000000
namespace K82
open PySem PySem.Spec PyProof.Rows L2 Ly SX
def gr (d : Deed) : Rec := (line d, some d)
def grD (d : Deed) : PyData := recD (gr d)
def lwB2 : DS := (dSeq (dSet 7 (dCallS 6 2 F_law_deed (dCons (dOp gtD (dVar 5) (dC (.int 5))) dNil)))
  (dApp 4 (dFzL (dLst (dCons (dCall 1 F_law_line (dCons (dVar 7) dNil)) (dCons (dVar 7) dNil))))))
def lwB : DS := (dSeq (dAlias 6 1)
  (dSeq (dIfS (dTst (dOp ltD (dVar 5) (dC (.int 20))))
    (dNewS 6 0 (dOp addD (dC (.int 1)) (dVar 5)))
    dNext) lwB2))
def lwC : DS := (dSeq (dSet 13 (dCallS 11 2 F_spoilt (dCons (dVar 4) dNil)))
  (dIfS (dOr (dNot (dTst (dCall 1 F_law_asked (dCons (dVar 13) dNil)))) (dNot (dTst (dCall 1 F_law_asked (dCons (dCallS 11 2 F_spoilt (dCons (dVar 13) dNil)) dNil)))))
    (dRet (dC (.bool false)))
    dNext))
def lwR3 : DS := (dSeq (dNewS 11 0 (dC (.int 21)))
  (dSeq (dFor (diR1 (dCons (dC (.int 3)) dNil)) (dgN 12) lwC)
  (dRet (dCall 1 F_law_asked (dCons (dVar 4) dNil)))))
def lwR2 : DS := (dSeq (dSet 10 (dCall 1 F_format_deeds (dCons (dVar 9) dNil)))
  (dSeq (dIfS (dOr (dNot (dTst (dIs "str" (dVar 10)))) (dOr (dTst (dOp neD (dVar 10) (dCall 1 F_law_text (dCons (dVar 4) dNil)))) (dTst (dOp neD (dCB toLstD (dCons (dVar 9) dNil)) (dVar 8)))))
    (dRet (dC (.bool false)))
    dNext)
  (dSeq (dIfS (dOr (dNot (dTst (dCall 1 F_law_asked (dCons (dVar 4) dNil)))) (dNot (dTst (dCall 1 F_law_asked (dCons (dFzL (dLst dNil)) dNil)))))
    (dRet (dC (.bool false)))
    dNext) lwR3)))
def lwR : DS := (dSeq (dSetLZ 8 (dLc 14 (diL (dVar 4)) dYes (dOp ixD (dVar 14) (dC (.int 1)))))
  (dSeq (dSet 9 (dCB toLstD (dCons (dVar 8) dNil)))
  (dSeq (dIfS (dTst (dOp eqD (dVar 3) (dC (.int 1))))
    (dSet 9 (dCB toTupD (dCons (dVar 8) dNil)))
    dNext) lwR2)))
theorem gr_ok {dl : List Deed} (h : ∀ d ∈ dl, DeedG d) : ∀ r ∈ dl.map gr, RecG r := fun r hr => by
  obtain ⟨d, hd, rfl⟩ := List.mem_map.mp hr
  exact .inl ⟨d, h d hd, rfl⟩
theorem recs_ok {rs : List Rec} (h : ∀ r ∈ rs, RecG r) (hl : rs.length ≤ 34) : RecsOk rs := ⟨fun r hr => (h r hr).ok, hl⟩
theorem fi_asked {rs : List Rec} {Q : PyData → Prop} (h : ∀ r ∈ rs, RecG r) (hl : rs.length ≤ 34) (q : Q (.bool true)) : F_law_asked [.list (rs.map recD)] Q := ⟨rs, rfl, recs_ok h hl, q⟩
section
variable {ns : List Int} {P : PyData → Prop} {dl : List Deed} {a2 a3 a5 a6 a7 a8 a9 a10 : Option Ent}
theorem law_c (hP : P (.bool true)) (h : ∀ d ∈ dl, DeedG d) (hl : dl.length ≤ 30) : ∀ (k : Nat) (lo : Int) (a12 a13 : Option Ent),
    dLoop (dgN 12) lwC { nx := dRet (dCall 1 F_law_asked (dCons (dVar 4) dNil)) (endsP P), rt := retP P } (rngD lo k) [some (.scr ns), some .src, a2, a3, some (.d (.list ((dl.map gr).map recD))), a5, a6, a7, a8, a9, a10, some .src, a12, a13, none]
  | 0, lo, a12, a13 => by
    simp only [rngD, List.range_zero, List.map_nil, dLoop, dSeq, dIfS, dOr, dAnd, dNot, dTst, dOp, dVar, dC, dCB, dCons, dNil, dRet, dFor, dIfE, dTup, dLst, dFzL, dSl, dNoPart, dPart, dSplit, dJoin, dUpper, dCall, dCallS, dIs, dNeg, dFmt, dJd, dJs, diLT, diL, diT, diS, diR1, diR2, diE, dgN, dgT2, dYes, dLc, dSet, dSetF, dSetZ, dSetL, dSetLZ, dNew, dApp, dAppF, dPut, dPar, dPar3, dAug, dNext, dAndV, dNotV, dOrT, hide, frz, hd1, fz1, D0, endsP, retP, intDI, isND, ntND, eqSS, eqII, neSS, neII, addII, addSS, addLL, ixLI, ixTI, ixSI, slLL, slSS, lenL, lenT, lenS, strI, strS, intI, intB, intS, tupL, tupT, lstL, lstT, minI, flat, List.map_cons, List.map_nil, List.replicate, List.append_eq, List.nil_append, List.cons_append, List.length_cons, List.length_nil, List.getElem?_cons_zero, List.getElem?_cons_succ, List.set_cons_zero, List.set_cons_succ, Option.some.injEq, Ent.d.injEq, Ent.own.injEq, exists_eq_left', exists_eq_left, exists_eq_right, PyData.bool.injEq, PyData.int.injEq, PyData.str.injEq, PyData.list.injEq, PyData.tuple.injEq, true_and, and_true, Nat.zero_add, Nat.add_zero, Nat.sub_self, Nat.reduceAdd, Nat.reduceSub, List.append_nil, Bool.false_eq_true, if_true, if_false, reduceIte, reduceCtorEq, false_and, exists_false, or_false, false_or, Option.map_some, Option.map_none]
    exact fi_asked (gr_ok h) (by simp; omega) hP
  | k + 1, lo, a12, a13 => by
    have ih := law_c hP h hl k (lo + 1)
    rw [rng_cons]
    unfold lwC
    simp only [dLoop, dSeq, dIfS, dOr, dAnd, dNot, dTst, dOp, dVar, dC, dCB, dCons, dNil, dRet, dFor, dIfE, dTup, dLst, dFzL, dSl, dNoPart, dPart, dSplit, dJoin, dUpper, dCall, dCallS, dIs, dNeg, dFmt, dJd, dJs, diLT, diL, diT, diS, diR1, diR2, diE, dgN, dgT2, dYes, dLc, dSet, dSetF, dSetZ, dSetL, dSetLZ, dNew, dApp, dAppF, dPut, dPar, dPar3, dAug, dNext, dAndV, dNotV, dOrT, hide, frz, hd1, fz1, D0, endsP, retP, intDI, isND, ntND, eqSS, eqII, neSS, neII, addII, addSS, addLL, ixLI, ixTI, ixSI, slLL, slSS, lenL, lenT, lenS, strI, strS, intI, intB, intS, tupL, tupT, lstL, lstT, minI, flat, List.map_cons, List.map_nil, List.replicate, List.append_eq, List.nil_append, List.cons_append, List.length_cons, List.length_nil, List.getElem?_cons_zero, List.getElem?_cons_succ, List.set_cons_zero, List.set_cons_succ, Option.some.injEq, Ent.d.injEq, Ent.own.injEq, exists_eq_left', exists_eq_left, exists_eq_right, PyData.bool.injEq, PyData.int.injEq, PyData.str.injEq, PyData.list.injEq, PyData.tuple.injEq, true_and, and_true, Nat.zero_add, Nat.add_zero, Nat.sub_self, Nat.reduceAdd, Nat.reduceSub, List.append_nil, Bool.false_eq_true, if_true, if_false, reduceIte, reduceCtorEq, false_and, exists_false, or_false, false_or, Option.map_some, Option.map_none]
    refine ⟨_, rfl, gr_ok h, by simp; omega, fun rs' h1 h2 => ?_⟩
    simp only [List.length_map] at h2
    refine fi_asked h1 (by omega) ⟨_, rfl, iteF ⟨_, rfl, h1, by omega, fun rs2 h3 h4 => fi_asked h3 (by omega) ⟨_, rfl, iteF ?_⟩⟩⟩
    exact ih _ _
theorem big_free {s : Nat} (h : 128 ≤ s) : ∀ (q : Pl), ∀ w ∈ pw q, s ∉ w := by
  have hk : ∀ k ∈ kws, s ∉ k := fun k hk z => by
    have : ∀ k ∈ kws, ∀ c ∈ k, c < 128 := by decide
    have := this k hk s z
    omega
  intro q
  induction q with
  | most n =>
    intro w hw
    simp only [pw, List.mem_cons, List.not_mem_nil, or_false] at hw
    rcases hw with rfl | rfl
    · exact hk _ (by simp [kws])
    · exact free_n _ (by omega) (by omega)
  | within n =>
    intro w hw
    simp only [pw, List.mem_cons, List.not_mem_nil, or_false] at hw
    rcases hw with rfl | rfl
    · exact hk _ (by simp [kws])
    · exact free_n _ (by omega) (by omega)
  | lots ls =>
    intro w hw
    simp only [pw, List.mem_cons, List.not_mem_nil, or_false] at hw
    rcases hw with rfl | rfl
    · exact hk _ (by simp [kws])
    · unfold lotsW
      split
      · exact hk _ (by simp [kws])
      · intro z
        rcases rlot_chars.join_mem z with ⟨q, hq, g⟩ | g
        · obtain ⟨i, _, rfl⟩ := List.mem_map.mp hq
          exact lotW_free (by omega) i g
        · omega
  | both a b iha ihb =>
    intro w hw
    simp only [pw, List.mem_cons, List.mem_append] at hw
    rcases hw with rfl | hw | hw
    · exact hk _ (by simp [kws])
    · exact iha w hw
    · exact ihb w hw
  | either a b iha ihb =>
    intro w hw
    simp only [pw, List.mem_cons, List.mem_append] at hw
    rcases hw with rfl | hw | hw
    · exact hk _ (by simp [kws])
    · exact iha w hw
    · exact ihb w hw
theorem strOk_S {a : Wd} (h : ∀ c ∈ a, c < 128) : PyData.strOk (S a) = true := by
  unfold PyData.strOk
  rw [← Array.all_toList, S_list, List.all_eq_true]
  intro c hc
  have := h c hc
  exact decide_eq_true (by omega)
theorem strOk_k : PyData.strOk (S kTell) = true ∧ PyData.strOk (S kRecount) = true ∧ PyData.strOk (S kCorrect) = true ∧ PyData.strOk (S kWithdraw) = true ∧ PyData.strOk (S kDoubt) = true :=
  ⟨strOk_S (by decide), strOk_S (by decide), strOk_S (by decide), strOk_S (by decide), strOk_S (by decide)⟩
theorem strOk_dtx (q : Pl) : PyData.strOk (S (dtx q)) = true := strOk_S fun c hc => by
  refine Decidable.byContradiction fun z => ?_
  rw [dtx_join] at hc
  rcases rlot_chars.join_mem hc with ⟨w, hw, g⟩ | g
  · exact big_free (by omega) q w hw g
  · omega
theorem lay_deed {d : Deed} (h : DeedG d) : (deedD d).canLay0 = true := by
  obtain ⟨k1, k2, k3, k4, k5⟩ := strOk_k
  cases d with
  | tell a b lo hi w => cases lo <;> cases hi <;> simp [deedD, bD, PyData.canLay0, PyData.canLayAll0, k1]
  | correct n lo hi => cases lo <;> cases hi <;> simp [deedD, bD, PyData.canLay0, PyData.canLayAll0, k3]
  | recount => simp [deedD, PyData.canLay0, PyData.canLayAll0, k2]
  | withdraw => simp [deedD, PyData.canLay0, PyData.canLayAll0, k4]
  | doubt t =>
    obtain ⟨q, _, _, rfl⟩ := h.t t rfl
    simp [deedD, PyData.canLay0, PyData.canLayAll0, k5, strOk_dtx]
theorem dp_deed (d : Deed) : (deedD d).depth ≤ 1 := by
  cases d with
  | tell a b lo hi w => cases lo <;> cases hi <;> simp [deedD, bD, PyData.depth, PyData.depthAll]
  | correct n lo hi => cases lo <;> cases hi <;> simp [deedD, bD, PyData.depth, PyData.depthAll]
  | _ => simp [deedD, PyData.depth, PyData.depthAll]
theorem lay_deeds : ∀ {dl : List Deed}, (∀ d ∈ dl, DeedG d) → PyData.canLayAll0 (dl.map deedD) = true
  | [], _ => by simp [PyData.canLayAll0]
  | d :: dl, h => by
    have ih := lay_deeds (dl := dl) fun x hx => h x (List.mem_cons_of_mem _ hx)
    simp only [List.map_cons, PyData.canLayAll0] at ih ⊢
    simp [ih, lay_deed (h d List.mem_cons_self)]
theorem dpa_deeds : ∀ dl : List Deed, PyData.depthAll (dl.map deedD) ≤ 1
  | [] => by simp [PyData.depthAll]
  | d :: dl => by
    have ih := dpa_deeds dl
    have := dp_deed d
    simp only [List.map_cons, PyData.depthAll] at ih ⊢
    omega
theorem sh_deeds {dl : List Deed} (h : ∀ d ∈ dl, DeedG d) : SeqAt.shaped (.list (dl.map deedD)) = true := by
  have := dpa_deeds dl
  simp [SeqAt.shaped, PyData.canLay0, lay_deeds h, PyData.depth]
  omega
theorem ne_deeds {dl : List Deed} (h : ∀ d ∈ dl, DeedG d) {Q : PyData → Prop} (q : Q (.bool false)) : neD (.list (dl.map deedD)) (.list (dl.map deedD)) Q := by
  refine ⟨sh_deeds h, sh_deeds h, ?_⟩
  have e : PyData.eqv (.list (dl.map deedD)) (.list (dl.map deedD)) = true := SeqAt.eqv_refl _ (by simp [PyData.canLay0, lay_deeds h])
  rw [e]
  exact q
theorem txt_gr (dl : List Deed) : txt (dl.map gr) = TL.joinL [10] (dl.map line) := by
  unfold txt
  rw [List.map_map]
  rfl
theorem law_r3 (hns : ns.length ≤ 63) (hP : P (.bool true)) (h : ∀ d ∈ dl, DeedG d) (hl : dl.length ≤ 30) :
    lwR3 (endsP P) [some (.scr ns), some .src, a2, a3, some (.d (.list ((dl.map gr).map recD))), a5, a6, a7, a8, a9, a10, none, none, none, none] := by
  unfold lwR3
  simp only [dSeq, dIfS, dOr, dAnd, dNot, dTst, dOp, dVar, dC, dCB, dCons, dNil, dRet, dFor, dIfE, dTup, dLst, dFzL, dSl, dNoPart, dPart, dSplit, dJoin, dUpper, dCall, dCallS, dIs, dNeg, dFmt, dJd, dJs, diLT, diL, diT, diS, diR1, diR2, diE, dgN, dgT2, dYes, dLc, dSet, dSetF, dSetZ, dSetL, dSetLZ, dNew, dApp, dAppF, dPut, dPar, dPar3, dAug, dNext, dAndV, dNotV, dOrT, hide, frz, hd1, fz1, D0, endsP, retP, intDI, isND, ntND, eqSS, eqII, neSS, neII, addII, addSS, addLL, ixLI, ixTI, ixSI, slLL, slSS, lenL, lenT, lenS, strI, strS, intI, intB, intS, tupL, tupT, lstL, lstT, minI, flat, List.map_cons, List.map_nil, List.replicate, List.append_eq, List.nil_append, List.cons_append, List.length_cons, List.length_nil, List.getElem?_cons_zero, List.getElem?_cons_succ, List.set_cons_zero, List.set_cons_succ, Option.some.injEq, Ent.d.injEq, Ent.own.injEq, exists_eq_left', exists_eq_left, exists_eq_right, PyData.bool.injEq, PyData.int.injEq, PyData.str.injEq, PyData.list.injEq, PyData.tuple.injEq, true_and, and_true, Nat.zero_add, Nat.add_zero, Nat.sub_self, Nat.reduceAdd, Nat.reduceSub, List.append_nil, Bool.false_eq_true, if_true, if_false, reduceIte, reduceCtorEq, false_and, exists_false, or_false, false_or, Option.map_some, Option.map_none, dRaise, dSetX, dRetX, dDropX, dCX, dMk, dMk2, endsX, okE_d, okE_own, okE_any, dPutF, dGetF, endsI, D0I, putD, dTry, hNone, dAlias, dNewS, dCallX, frzQ, dRetO, dRetL]
  refine ⟨ns, rfl, hns, by decide, by decide, ?_⟩
  refine ⟨3, rfl, by decide, by decide, ?_⟩
  exact law_c hP h hl 3 0 none none
theorem law_r2 {o : PyData} (ho : o = .list (dl.map deedD) ∨ o = .tuple (dl.map deedD)) (hns : ns.length ≤ 63) (hP : P (.bool true)) (h : ∀ d ∈ dl, DeedG d) (hl : dl.length ≤ 30) :
    lwR2 (endsP P) [some (.scr ns), some .src, a2, a3, some (.d (.list ((dl.map gr).map recD))), a5, a6, a7, some (.d (.list (dl.map deedD))), some (.d o), none, none, none, none, none] := by
  have R := recs_ok (gr_ok h) (by simp; omega)
  have hs : ((dl.map line).map List.length).sum ≤ 10000000 := by
    have := txt_sum R
    have e : (dl.map gr).map (·.1) = dl.map line := by rw [List.map_map]; rfl
    rw [e] at this
    omega
  have k1 := fun (Q : PyData → Prop) (q : Q (.bool true)) => fi_asked (Q := Q) (gr_ok h) (by simp; omega) q
  have k0 := fun (Q : PyData → Prop) (q : Q (.bool true)) => fi_asked (rs := []) (Q := Q) (fun _ z => nomatch z) (by decide) q
  have k3 := law_r3 (ns := ns) (P := P) (dl := dl) (a2 := a2) (a3 := a3) (a5 := a5) (a6 := a6) (a7 := a7) (a8 := some (.d (.list (dl.map deedD)))) (a9 := some (.d o)) (a10 := some (.d (.str (S (TL.joinL [10] (dl.map line)))))) hns hP h hl
  unfold lwR2
  simp only [dSeq, dIfS, dOr, dAnd, dNot, dTst, dOp, dVar, dC, dCB, dCons, dNil, dRet, dFor, dIfE, dTup, dLst, dFzL, dSl, dNoPart, dPart, dSplit, dJoin, dUpper, dCall, dCallS, dIs, dNeg, dFmt, dJd, dJs, diLT, diL, diT, diS, diR1, diR2, diE, dgN, dgT2, dYes, dLc, dSet, dSetF, dSetZ, dSetL, dSetLZ, dNew, dApp, dAppF, dPut, dPar, dPar3, dAug, dNext, dAndV, dNotV, dOrT, hide, frz, hd1, fz1, D0, endsP, retP, intDI, isND, ntND, eqSS, eqII, neSS, neII, addII, addSS, addLL, ixLI, ixTI, ixSI, slLL, slSS, lenL, lenT, lenS, strI, strS, intI, intB, intS, tupL, tupT, lstL, lstT, minI, flat, List.map_cons, List.map_nil, List.replicate, List.append_eq, List.nil_append, List.cons_append, List.length_cons, List.length_nil, List.getElem?_cons_zero, List.getElem?_cons_succ, List.set_cons_zero, List.set_cons_succ, Option.some.injEq, Ent.d.injEq, Ent.own.injEq, exists_eq_left', exists_eq_left, exists_eq_right, PyData.bool.injEq, PyData.int.injEq, PyData.str.injEq, PyData.list.injEq, PyData.tuple.injEq, true_and, and_true, Nat.zero_add, Nat.add_zero, Nat.sub_self, Nat.reduceAdd, Nat.reduceSub, List.append_nil, Bool.false_eq_true, if_true, if_false, reduceIte, reduceCtorEq, false_and, exists_false, or_false, false_or, Option.map_some, Option.map_none, dRaise, dSetX, dRetX, dDropX, dCX, dMk, dMk2, endsX, okE_d, okE_own, okE_any, dPutF, dGetF, endsI, D0I, putD, dTry, hNone, dAlias, dNewS, dCallX, frzQ, dRetO, dRetL]
  refine ⟨dl, ?_, fun d hd => (h d hd).b, by omega, hs, ?_⟩
  · rcases ho with rfl | rfl
    · exact .inl rfl
    · exact .inr rfl
  refine iteF ⟨_, rfl, R, ne_w ?_⟩
  rw [txt_gr]
  refine bF (by simp) ?_
  have tl : ∀ Q : PyData → Prop, Q (.list (dl.map deedD)) → toLstD [o] Q := fun Q q => by
    rcases ho with rfl | rfl
    · exact q
    · exact q
  exact tl _ (ne_deeds h (bF rfl (k1 _ (nT rfl ⟨z0, k0 _ (nT rfl k3)⟩))))
theorem law_r (hns : ns.length ≤ 63) (hP : P (.bool true)) (h : ∀ d ∈ dl, DeedG d) (hl : dl.length ≤ 30) {f : Int} :
    lwR (endsP P) [some (.scr ns), some .src, a2, some (.d (.int f)), some (.own ((dl.map gr).map recD)), a5, a6, a7, none, none, none, none, none, none, none] := by
  have k2 : ∀ (o : PyData), o = .list (dl.map deedD) ∨ o = .tuple (dl.map deedD) → ∀ (b2 b5 b6 b7 : Option Ent), lwR2 (endsP P) [some (.scr ns), some .src, b2, some (.d (.int f)), some (.d (.list ((dl.map gr).map recD))), b5, b6, b7, some (.d (.list (dl.map deedD))), some (.d o), none, none, none, none, none] := fun o ho b2 b5 b6 b7 =>
    law_r2 ho hns hP h hl
  unfold lwR
  simp only [dSeq, dIfS, dOr, dAnd, dNot, dTst, dOp, dVar, dC, dCB, dCons, dNil, dRet, dFor, dIfE, dTup, dLst, dFzL, dSl, dNoPart, dPart, dSplit, dJoin, dUpper, dCall, dCallS, dIs, dNeg, dFmt, dJd, dJs, diLT, diL, diT, diS, diR1, diR2, diE, dgN, dgT2, dYes, dLc, dSet, dSetF, dSetZ, dSetL, dSetLZ, dNew, dApp, dAppF, dPut, dPar, dPar3, dAug, dNext, dAndV, dNotV, dOrT, hide, frz, hd1, fz1, D0, endsP, retP, intDI, isND, ntND, eqSS, eqII, neSS, neII, addII, addSS, addLL, ixLI, ixTI, ixSI, slLL, slSS, lenL, lenT, lenS, strI, strS, intI, intB, intS, tupL, tupT, lstL, lstT, minI, flat, List.map_cons, List.map_nil, List.replicate, List.append_eq, List.nil_append, List.cons_append, List.length_cons, List.length_nil, List.getElem?_cons_zero, List.getElem?_cons_succ, List.set_cons_zero, List.set_cons_succ, Option.some.injEq, Ent.d.injEq, Ent.own.injEq, exists_eq_left', exists_eq_left, exists_eq_right, PyData.bool.injEq, PyData.int.injEq, PyData.str.injEq, PyData.list.injEq, PyData.tuple.injEq, true_and, and_true, Nat.zero_add, Nat.add_zero, Nat.sub_self, Nat.reduceAdd, Nat.reduceSub, List.append_nil, Bool.false_eq_true, if_true, if_false, reduceIte, reduceCtorEq, false_and, exists_false, or_false, false_or, Option.map_some, Option.map_none, dRaise, dSetX, dRetX, dDropX, dCX, dMk, dMk2, endsX, okE_d, okE_own, okE_any, dPutF, dGetF, endsI, D0I, putD, dTry, hNone, dAlias, dNewS, dCallX, frzQ, dRetO, dRetL]
  have e : (dl.map gr).map recD = dl.map grD := by rw [List.map_map]; rfl
  rw [e] at k2 ⊢
  refine lc_map (f := grD) (g := deedD) dl [] (fun d hd R hR => ?_) (by simp; omega) ?_
  · simp only [dSeq, dIfS, dOr, dAnd, dNot, dTst, dOp, dVar, dC, dCB, dCons, dNil, dRet, dFor, dIfE, dTup, dLst, dFzL, dSl, dNoPart, dPart, dSplit, dJoin, dUpper, dCall, dCallS, dIs, dNeg, dFmt, dJd, dJs, diLT, diL, diT, diS, diR1, diR2, diE, dgN, dgT2, dYes, dLc, dSet, dSetF, dSetZ, dSetL, dSetLZ, dNew, dApp, dAppF, dPut, dPar, dPar3, dAug, dNext, dAndV, dNotV, dOrT, hide, frz, hd1, fz1, D0, endsP, retP, intDI, isND, ntND, eqSS, eqII, neSS, neII, addII, addSS, addLL, ixLI, ixTI, ixSI, slLL, slSS, lenL, lenT, lenS, strI, strS, intI, intB, intS, tupL, tupT, lstL, lstT, minI, flat, List.map_cons, List.map_nil, List.replicate, List.append_eq, List.nil_append, List.cons_append, List.length_cons, List.length_nil, List.getElem?_cons_zero, List.getElem?_cons_succ, List.set_cons_zero, List.set_cons_succ, Option.some.injEq, Ent.d.injEq, Ent.own.injEq, exists_eq_left', exists_eq_left, exists_eq_right, PyData.bool.injEq, PyData.int.injEq, PyData.str.injEq, PyData.list.injEq, PyData.tuple.injEq, true_and, and_true, Nat.zero_add, Nat.add_zero, Nat.sub_self, Nat.reduceAdd, Nat.reduceSub, List.append_nil, Bool.false_eq_true, if_true, if_false, reduceIte, reduceCtorEq, false_and, exists_false, or_false, false_or, Option.map_some, Option.map_none, grD, gr, recD]
    exact ⟨_, at1, hR⟩
  rw [List.nil_append]
  by_cases c : f = 1
  · refine ifT (decide_eq_true c) ?_
    exact k2 _ (.inr rfl) _ _ _ _
  · refine ifF (decide_eq_false c) ?_
    exact k2 _ (.inl rfl) _ _ _ _
theorem law_b (hns : ns.length ≤ 63) (hP : P (.bool true)) {f : Int} : ∀ (k lo : Nat) (dl : List Deed) (a5 a6 a7 : Option Ent), (∀ d ∈ dl, DeedG d) → dl.length + k ≤ 30 → lo + k ≤ 30 →
    dLoop (dgN 5) lwB { nx := lwR (endsP P), rt := retP P } (rngD (lo : Nat) k) [some (.scr ns), some .src, a2, some (.d (.int f)), some (.own ((dl.map gr).map recD)), a5, a6, a7, none, none, none, none, none, none, none]
  | 0, lo, dl, a5, a6, a7, h, hl, hlo => by
    simp only [rngD, List.range_zero, List.map_nil, dLoop]
    exact law_r hns hP h (by omega)
  | k + 1, lo, dl, a5, a6, a7, h, hl, hlo => by
    have ih := law_b (f := f) hns hP k (lo + 1)
    have fin : ∀ (DD : DEnds), DD.nx = dLoop (dgN 5) lwB { nx := lwR (endsP P), rt := retP P } (rngD ((lo + 1 : Nat) : Int) k) → lwB2 DD [some (.scr ns), some .src, a2, some (.d (.int f)), some (.own ((dl.map gr).map recD)), some (.d (.int (lo : Nat))), some .src, a7, none, none, none, none, none, none, none] := fun DD hD => by
      unfold lwB2
      simp only [dSeq, dIfS, dOr, dAnd, dNot, dTst, dOp, dVar, dC, dCB, dCons, dNil, dRet, dFor, dIfE, dTup, dLst, dFzL, dSl, dNoPart, dPart, dSplit, dJoin, dUpper, dCall, dCallS, dIs, dNeg, dFmt, dJd, dJs, diLT, diL, diT, diS, diR1, diR2, diE, dgN, dgT2, dYes, dLc, dSet, dSetF, dSetZ, dSetL, dSetLZ, dNew, dApp, dAppF, dPut, dPar, dPar3, dAug, dNext, dAndV, dNotV, dOrT, hide, frz, hd1, fz1, D0, endsP, retP, intDI, isND, ntND, eqSS, eqII, neSS, neII, addII, addSS, addLL, ixLI, ixTI, ixSI, slLL, slSS, lenL, lenT, lenS, strI, strS, intI, intB, intS, tupL, tupT, lstL, lstT, minI, flat, List.map_cons, List.map_nil, List.replicate, List.append_eq, List.nil_append, List.cons_append, List.length_cons, List.length_nil, List.getElem?_cons_zero, List.getElem?_cons_succ, List.set_cons_zero, List.set_cons_succ, Option.some.injEq, Ent.d.injEq, Ent.own.injEq, exists_eq_left', exists_eq_left, exists_eq_right, PyData.bool.injEq, PyData.int.injEq, PyData.str.injEq, PyData.list.injEq, PyData.tuple.injEq, true_and, and_true, Nat.zero_add, Nat.add_zero, Nat.sub_self, Nat.reduceAdd, Nat.reduceSub, List.append_nil, Bool.false_eq_true, if_true, if_false, reduceIte, reduceCtorEq, false_and, exists_false, or_false, false_or, Option.map_some, Option.map_none, dRaise, dSetX, dRetX, dDropX, dCX, dMk, dMk2, endsX, okE_d, okE_own, okE_any, dPutF, dGetF, endsI, D0I, putD, dTry, hNone, dAlias, dNewS, dCallX, frzQ, dRetO, dRetL]
      refine ⟨_, rfl, fun d hd ht => ⟨d, rfl, hd, z2, lsm (n := ((dl.map gr).map recD).length + 1) (by simp; omega), ?_⟩⟩
      rw [hD]
      have e : (dl.map gr).map recD ++ [.list [.str (S (line d)), deedD d]] = ((dl ++ [d]).map gr).map recD := by simp [gr, recD, oD]
      rw [e]
      refine ih (dl ++ [d]) _ _ _ (fun x hx => ?_) (by simp; omega) (by omega)
      rcases List.mem_append.mp hx with z | z
      · exact h x z
      · rw [List.mem_singleton.mp z]; exact ⟨hd, ht⟩
    have e1 : ((lo : Nat) : Int) + 1 = ((lo + 1 : Nat) : Int) := by omega
    rw [rng_cons, e1]
    unfold lwB
    simp only [dLoop, dSeq, dIfS, dOr, dAnd, dNot, dTst, dOp, dVar, dC, dCB, dCons, dNil, dRet, dFor, dIfE, dTup, dLst, dFzL, dSl, dNoPart, dPart, dSplit, dJoin, dUpper, dCall, dCallS, dIs, dNeg, dFmt, dJd, dJs, diLT, diL, diT, diS, diR1, diR2, diE, dgN, dgT2, dYes, dLc, dSet, dSetF, dSetZ, dSetL, dSetLZ, dNew, dApp, dAppF, dPut, dPar, dPar3, dAug, dNext, dAndV, dNotV, dOrT, hide, frz, hd1, fz1, D0, endsP, retP, intDI, isND, ntND, eqSS, eqII, neSS, neII, addII, addSS, addLL, ixLI, ixTI, ixSI, slLL, slSS, lenL, lenT, lenS, strI, strS, intI, intB, intS, tupL, tupT, lstL, lstT, minI, flat, List.map_cons, List.map_nil, List.replicate, List.append_eq, List.nil_append, List.cons_append, List.length_cons, List.length_nil, List.getElem?_cons_zero, List.getElem?_cons_succ, List.set_cons_zero, List.set_cons_succ, Option.some.injEq, Ent.d.injEq, Ent.own.injEq, exists_eq_left', exists_eq_left, exists_eq_right, PyData.bool.injEq, PyData.int.injEq, PyData.str.injEq, PyData.list.injEq, PyData.tuple.injEq, true_and, and_true, Nat.zero_add, Nat.add_zero, Nat.sub_self, Nat.reduceAdd, Nat.reduceSub, List.append_nil, Bool.false_eq_true, if_true, if_false, reduceIte, reduceCtorEq, false_and, exists_false, or_false, false_or, Option.map_some, Option.map_none, dRaise, dSetX, dRetX, dDropX, dCX, dMk, dMk2, endsX, okE_d, okE_own, okE_any, dPutF, dGetF, endsI, D0I, putD, dTry, hNone, dAlias, dNewS, dCallX, frzQ, dRetO, dRetL]
    by_cases c : (lo : Int) < 20
    · refine ifT (decide_eq_true c) ⟨ns, rfl, hns, by omega, by omega, ?_⟩
      exact fin _ rfl
    · refine ifF (decide_eq_false c) ?_
      exact fin _ rfl
theorem pr_law (hns : ns.length ≤ 63) (hP : P (.bool true)) : rd_law F_law_draw F_law_deed F_law_line F_format_deeds F_law_text F_law_asked F_spoilt (endsP P) [some (.scr ns), none, none, none, none, none, none, none, none, none, none, none, none, none, none] := by
  show dSeq (dNewS 1 0 (dC (.int 0))) (dSeq (dSet 2 (dCallS 1 2 F_law_draw (dCons (dC (.int 7)) dNil)))
    (dSeq (dIfS (dTst (dOp eqD (dCallS 1 2 F_law_draw (dCons (dC (.int 8)) dNil)) (dC (.int 0)))) (dSet 2 (dCallS 1 2 F_law_draw (dCons (dC (.int 31)) dNil))) dNext)
    (dSeq (dSet 3 (dCallS 1 2 F_law_draw (dCons (dC (.int 2)) dNil))) (dSeq (dNew 4 (dLst dNil)) (dSeq (dFor (diR1 (dCons (dVar 2) dNil)) (dgN 5) lwB) lwR))))) (endsP P) _
  have fin : ∀ (n : Int), 0 ≤ n → n < 31 → dSeq (dSet 3 (dCallS 1 2 F_law_draw (dCons (dC (.int 2)) dNil))) (dSeq (dNew 4 (dLst dNil)) (dSeq (dFor (diR1 (dCons (dVar 2) dNil)) (dgN 5) lwB) lwR)) (endsP P) [some (.scr ns), some .src, some (.d (.int n)), none, none, none, none, none, none, none, none, none, none, none, none] := fun n n0 n1 => by
    obtain ⟨n, rfl⟩ := Int.eq_ofNat_of_zero_le n0
    simp only [dSeq, dIfS, dOr, dAnd, dNot, dTst, dOp, dVar, dC, dCB, dCons, dNil, dRet, dFor, dIfE, dTup, dLst, dFzL, dSl, dNoPart, dPart, dSplit, dJoin, dUpper, dCall, dCallS, dIs, dNeg, dFmt, dJd, dJs, diLT, diL, diT, diS, diR1, diR2, diE, dgN, dgT2, dYes, dLc, dSet, dSetF, dSetZ, dSetL, dSetLZ, dNew, dApp, dAppF, dPut, dPar, dPar3, dAug, dNext, dAndV, dNotV, dOrT, hide, frz, hd1, fz1, D0, endsP, retP, intDI, isND, ntND, eqSS, eqII, neSS, neII, addII, addSS, addLL, ixLI, ixTI, ixSI, slLL, slSS, lenL, lenT, lenS, strI, strS, intI, intB, intS, tupL, tupT, lstL, lstT, minI, flat, List.map_cons, List.map_nil, List.replicate, List.append_eq, List.nil_append, List.cons_append, List.length_cons, List.length_nil, List.getElem?_cons_zero, List.getElem?_cons_succ, List.set_cons_zero, List.set_cons_succ, Option.some.injEq, Ent.d.injEq, Ent.own.injEq, exists_eq_left', exists_eq_left, exists_eq_right, PyData.bool.injEq, PyData.int.injEq, PyData.str.injEq, PyData.list.injEq, PyData.tuple.injEq, true_and, and_true, Nat.zero_add, Nat.add_zero, Nat.sub_self, Nat.reduceAdd, Nat.reduceSub, List.append_nil, Bool.false_eq_true, if_true, if_false, reduceIte, reduceCtorEq, false_and, exists_false, or_false, false_or, Option.map_some, Option.map_none, dRaise, dSetX, dRetX, dDropX, dCX, dMk, dMk2, endsX, okE_d, okE_own, okE_any, dPutF, dGetF, endsI, D0I, putD, dTry, hNone, dAlias, dNewS, dCallX, frzQ, dRetO, dRetL]
    refine fi_draw (by decide) (by decide) fun f f0 f1 => ⟨z0, _, rfl, (r62 (by omega) (by omega)).1, (r62 (by omega) (by omega)).2, ?_⟩
    rw [Int.toNat_natCast]
    exact law_b (f := f) hns hP n 0 [] none none none (fun _ z => nomatch z) (by simp; omega) (by omega)
  refine ⟨ns, rfl, hns, 0, rfl, by decide, by decide, ?_⟩
  refine ⟨rfl, rfl, fi_draw (by decide) (by decide) fun a a0 a1 => ?_⟩
  refine ⟨rfl, rfl, fi_draw (by decide) (by decide) fun b b0 b1 => ?_⟩
  by_cases c : b = 0
  · change ∃ k', PyData.bool (decide (b = 0)) = PyData.bool k' ∧ if k' = true then _ else _
    refine bT (decide_eq_true c) ?_
    exact ⟨rfl, rfl, fi_draw (by decide) (by decide) fun n n0 n1 => fin n n0 n1⟩
  · change ∃ k', PyData.bool (decide (b = 0)) = PyData.bool k' ∧ if k' = true then _ else _
    refine bF (decide_eq_false c) ?_
    exact fin a a0 (by omega)
end
end K82
set_option Elab.async false
set_option linter.all false
set_option maxRecDepth 100000
set_option maxHeartbeats 4000000
namespace SupX
open PySem PySem.Spec PyProof.Rows L2 NdefX PySem.W
section
variable {prog : Program} {w : World} {A : Around} {E : Value → Shared → Prop} {h : Heap} {g : Array GenState} {d : Drawn} {t : Nat} {os : OsState}
variable {nm q : Str} {C N : Addr} {bs bm : List Value} {hdct : Bool} {sn : List Str} {sub : List Value} {ab : Bool} {col : Option Bool} {dd : Option Addr} {k0 k1 k2 k3 k5 : Option Value}
/-- the wrapper of ValueError.__init__ bound to e, called: the args are laid anew -/
theorem call_wrap {u e t0 : Addr} {rest : List Value} {Q : Value → Shared → Prop}
    (hC : h.get? C = some (excClassObj nm q C N bs bm hdct sn sub ab col dd k0 k1 k2 k3 k5 "ValueError.__new__")) (he : h.get? e = some (HandSPX.excO C t0)) (hu : h.get? u = some (kxs_mw "ValueError.__init__" e)) (hrest : rest.length ≤ sizeLine)
    (hq : ∀ h' t1, (∀ b o, b ≠ e → h.get? b = some o → h'.get? b = some o) → h'.get? e = some (HandSPX.excO C t1) → Q .none ⟨h', g, d, t, os⟩) :
    wpAny (model prog w) A (call (.ref u) rest) Q E ⟨h, g, d, t, os⟩ := by
  refine wpAny_call (codeAny_of_tree ?_)
  show wpAny _ A.in1 (callAny (.ref u) ⟨rest, []⟩) _ _ _
  simp only [callAny]
  refine wpAny_bind (wpAny_load hu ?_)
  simp only [kxs_mw, show (Value.type "method-wrapper" == Value.type "method" || Value.type "method-wrapper" == Value.type "builtin_function_or_method" || Value.type "method-wrapper" == Value.type "method-wrapper") = true by decide, if_true]
  refine W.KFB.if_so (by decide) ?_
  refine wpAny_bind (ESX.check_bound F.excBase_ValueError hC he rfl ?_)
  refine wpAny_bind (wpAny_pure (wpAny_pure ?_))
  refine ⟨Code.quiet_builtin _ (by decide +kernel), codeAny_builtin F.excBase_ValueError.initEntry ?_⟩
  rw [Around.under_plainId F.excBase_ValueError.init.plain _]
  wp_walk
  refine hq _ h.objs.size (fun b o hb ho => ?_) ?_
  · rw [Heap.get?_update_other _ _ (Ne.symm hb)]
    exact Heap.get?_push_of_some _ ho
  · rw [Heap.get?_update_self _ (Heap.get?_push_of_some _ he) rfl]
    rfl
end
end SupX
set_option Elab.async false
set_option linter.all false
set_option maxRecDepth 100000
set_option maxHeartbeats 4000000
namespace SupX
open PySem PySem.Spec PyProof.Rows L2 NdefX PySem.W
/-- what the written part says of the maker at f, its code object, the class D that it stands in -/
structure SupOk (X : Cx) (f cda C : Addr) (sf : Str) : Prop where
  kS : X.env.kindOf "super" = some .globalImplicit
  kC : X.env.kindOf "__class__" = some .free
  fn : X.env.func = some f
  fd : ∃ oc od fd osl ar, X.K.lookup f = some ⟨oc, od, .func fd, osl⟩ ∧ (fd.params.posonlyargs ++ fd.params.args).head? = some ar ∧ ar.arg = sf
  co : X.env.code = .ref cda
  cd : ∃ ccl cdd vs ccs file tf, X.K.lookup cda = some ⟨ccl, cdd, .fields vs, ccs⟩ ∧ vs[2]? = some (.str file tf) ∧ ((X.prog.main.file : Str) == file) = true
  top : (X.prog.main.scope.names.lookup ("super" : Str)).isSome = false
  mgS : X.mg "super" = none
  no : PySem.W.nsIn X.K cStatics "thirdparty.any" = some none
  mro : ∃ cd, PySem.W.clsIn X.K C = some cd ∧ PySem.W.alongIn X.K "__init__" ((cd.mro.dropWhile (· != .ref C)).drop 1) = some (some (.builtin "ValueError.__init__"))
  sub : PySem.W.mroIn X.K C (.ref C) = some true
  vE : PySem.W.subIn X.K (.ref C) (.type "ValueError") = some true
theorem callWith_w {M : Model} {A : Around} {E : Value → Shared → Prop} {s : Shared} {i : String} {u x : Addr} {pos : Pos} {env : Env} {e : Expr} {Q : Value → Shared → Prop}
    (h : wpAny M A (spliced (backTo pos (starEach [e] env))) (fun vs s1 => s1.heap.get? u = some (kxs_mw i x) ∧ wpAny M A (call (.ref u) vs) Q E s1) E s)
    (he : starEach [e] env = [(false, eval e env)]) : wpAny M A (callWith pos (.ref u) [] (backTo pos (starEach [e] env)) []) Q E s := by
  rw [he] at h ⊢
  refine kxs_callWith (i := i) (x := x) rfl ?_
  exact Calls.evalArgs_plain h
theorem super_init {X : Cx} {f cda C a : Addr} {sf : Str} {body : List Stmt} {e : Expr} {te : TE} {p0 p1 p2 p3 p4 : Pos} {pins : List (Addr × Obj)} {σ : L2.St} {H : Hp} {s : Shared} {Q : Flow → Shared → Prop} {j : Nat}
    (T : SupOk X f cda C sf) (O : OexC X.K C) (I : Inv X pins σ H s) (n0 : X.N[0]? = some sf) (v0 : Vis X.env.scope sf) (l0 : X.env.kindOf sf = some .local) (s0 : σ[0]? = some (some (.ref a)))
    (nj : X.N[j]? = some ("__class__" : Str)) (sj : σ[j]? = some (some (.ref C)))
    (ha : H a = some (exo a C none)) (he : PE X e te) (hpe : starEach [e] X.env = [(false, eval e X.env)])
    (q : te σ H fun v H1 => H1 a = some (exo a C none) ∧ ∀ s', Inv X pins σ H1 s' → Q .next s')
    {pl : Sem Bool} (hev : eval (.Call (.Attribute (.Call (.Name "super" p0) [] [] p1) "__init__" p2) [e] [] p3) X.env = (do
      let ov ← attributeBase (.Call (.Name "super" p0) [] [] p1) "__init__" X.env (eval (.Call (.Name "super" p0) [] [] p1) X.env)
      standAt p2.atName
      let (f, first) ← holding [ov] (getMethod ov "__init__" pl)
      callWith p3 f first (backTo p3 (starEach [e] X.env)) []))
    (hi : interactive X.env = false) (hsw : swapsWith (.Call (.Attribute (.Call (.Name "super" p0) [] [] p1) "__init__" p2) [e] [] p3) none p4.line X.env = pure false) :
    _root_.PySem.wpAt (model X.prog X.w) X.A (.func body X.env) (exec (.Expr (.Call (.Attribute (.Call (.Name "super" p0) [] [] p1) "__init__" p2) [e] [] p3) p4) X.env) Q X.xe s := by
  obtain ⟨oc, od, fd, osl, ar, hf, hp, har⟩ := T.fd
  obtain ⟨ccl, cdd, vs, ccs, file, tf, hcode, hvs, hfile⟩ := T.cd
  obtain ⟨cd, hcd, halong⟩ := T.mro
  obtain ⟨m, hn, hl⟩ := id I.loc
  obtain ⟨uj, rj, lj⟩ := hl j "__class__" (.ref C) nj sj (.inr (.inr T.kC))
  obtain ⟨u0, r0, lk0⟩ := hl 0 sf (.ref a) n0 s0 v0
  obtain rfl : uj = Value.ref C := rj
  obtain rfl : u0 = Value.ref a := r0
  have hv : m sf = some (.ref a) := by
    rcases lk0 with ⟨_, z⟩ | ⟨z, _⟩
    · exact z
    · rw [l0] at z
      rcases z with z | z <;> cases z
  obtain ⟨cc, hcc, hcell⟩ : ∃ c, X.env.cells.lookup ("__class__" : Str) = some c ∧ s.heap.IsCell c (some (.ref C)) := by
    rcases lj with ⟨z, _⟩ | ⟨_, c, z1, z2⟩
    · rw [T.kC] at z
      cases z
    · exact ⟨c, z1, z2⟩
  obtain ⟨nm, qn, N, bs, bm, sn, sub, ab, col, dd, k0, k1, k2, k3, k5, hC, hbm⟩ := O.cls
  obtain ⟨t1, ho⟩ := exo_at I.hok ha
  obtain ⟨mb, hb1, hb2⟩ := I.mod.blt
  refine ks_wpAt_Expr_any ?_ hi hsw
  refine ks_wpAt_MethodCall ?_ hev
  refine ks_wpAt_super_base T.kS T.kC (by decide) T.fn (I.kIn _ _ hf) rfl hp T.co (I.kIn _ _ hcode) rfl hvs hfile T.top ?_
  refine ks_loadName_global I.ok.kind T.kS (Calls.loadGlobal_builtin (by rw [I.ok.glob]; exact I.mod.glob.keeps I.bk) T.mgS (by rw [I.ok.blt]; exact hb1.keeps I.bk) ((hb2 "super" (by decide)).trans PyProof.Rows.Boot.«super») ⟨rfl, ?_⟩)
  refine wpAny_loadName_free I.ok.kind T.kC hcc hcell ?_
  rw [har]
  refine wpAny_loadName_local I.ok.kind l0 hn hv ?_
  obtain hD2 : ∃ oD, s.heap.get? C = some oD ∧ oD.data = .cls cd := by
    unfold PySem.W.clsIn at hcd
    split at hcd
    · rename_i c' d' cd' sl' ho'
      cases hcd
      exact ⟨_, I.kIn _ _ ho', rfl⟩
    · cases hcd
  obtain ⟨oD, hD1, hD3⟩ := hD2
  obtain ⟨hp_, g, d, t, os⟩ := s
  refine ks_wpAny_isType_cls hD1 hD3 ⟨rfl, ?_⟩
  refine ks_wpAny_call_super hD1 hD3 ho rfl (fun c z => by cases z) (looks_mroIn I.kIn T.sub) (fun h' e1 k1 => ?_)
  have I1 : Inv X pins σ H ⟨h', g, d, t, os⟩ := I.kept (t' := t) k1
  have ne : a ≠ C := fun z => by
    rw [z, I.kIn _ _ hC] at ho
    cases ho
  refine kxs_getMethod kxs_ValueError e1 (looks_opaque I1.kIn T.no) (l₀ := cd.mro) ?_ rfl I1.kIn halong ?_ ne (by decide) ?_
  · exact fun A Q E s k q => wpAny_bind ((looks_clsIn I1.kIn hcd) A _ E s k (wpAny_pure q))
  · have I0 : PySem.W.InstAt h' a ({ cls := .ref C, dict := none, data := .fields #[.ref t1, .none, .none, .none, .bool false, .none] } : Obj) C none := ⟨k1 _ _ ho, rfl, rfl, True.intro⟩
    exact I0.type.andThen (looks_subIn I1.kIn T.vE)
  · have hsz : ∀ b o, h'.get? b = some o → (h'.push (kxs_mw "ValueError.__init__" a)).get? b = some o := fun b o z => Heap.get?_push_of_some _ z
    have I2 : Inv X pins σ H ⟨h'.push (kxs_mw "ValueError.__init__" a), g, d, t + 1, os⟩ := I1.kept (t' := t + 1) hsz
    have hu : (h'.push (kxs_mw "ValueError.__init__" a)).get? h'.objs.size = some (kxs_mw "ValueError.__init__" a) := Heap.get?_push_at rfl rfl
    have hun : H h'.objs.size = none := I1.hok.fresh (Nat.le_refl _)
    have hul : h'.objs.size ≠ X.env.locals := fun z => absurd I1.lt (by rw [← z]; exact Nat.lt_irrefl _)
    have huf : h'.objs.size ∉ X.fs := I1.nofs (Nat.le_refl _)
    have I3 : Inv X ((h'.objs.size, kxs_mw "ValueError.__init__" a) :: pins) σ H ⟨h'.push (kxs_mw "ValueError.__init__" a), g, d, t + 1, os⟩ := I2.pins_of fun p hp => by
      rcases List.mem_cons.mp hp with z | z
      · rw [z]
        exact ⟨hu, hun, hul, huf, fun v w => by cases w⟩
      · exact I2.pin p (List.mem_append_right _ z)
    refine callWith_w (i := "ValueError.__init__") (x := a) ?_ hpe
    refine thn ((pa_cons he pa_nil (hs := by rw [hpe] <;> rfl)).run p3 _ _ σ H (fun vs H1 => match vs with
      | [_] => H1 a = some (exo a C none) ∧ ∀ s', Inv X pins σ H1 s' → Q .next s'
      | _ => False) I3 q) ?_
    rintro us s4 ⟨vs, H1, I4, r, qa⟩
    cases r with
    | nil => exact qa.elim
    | @cons v u0 vr ur r0 rr =>
      cases rr with
      | cons _ _ => exact qa.elim
      | nil =>
        obtain ⟨ha1, qn⟩ := qa
        obtain ⟨t4, ho4⟩ := exo_at I4.hok ha1
        obtain ⟨hu4, _⟩ := I4.pin _ (List.mem_append_right _ List.mem_cons_self)
        refine ⟨hu4, ?_⟩
        have I5 : Inv X pins σ H1 s4 := I4.pins_of fun p hp => I4.pin p (List.mem_append_right _ (List.mem_cons_of_mem _ hp))
        obtain ⟨h5, g5, d5, t5, os5⟩ := s4
        refine call_wrap (I5.kIn _ _ hC) ho4 hu4 (by rw [sizeLine_eq]; show 1 ≤ 16777216; decide) fun h6 t6 k6 e6 => ?_
        have J := I5.write (t' := t5) (x := a) (e := a) (o := exo a C none) (by rw [ha1]; exact True.intro) (.inl rfl) k6 ⟨_, e6⟩ (exo_ok e6)
        have eu : upd H1 a (exo a C none) = H1 := by
          funext b
          by_cases hb : b = a
          · rw [hb, upd_same, ha1]
          · rw [upd_ne hb]
        rw [eu] at J
        exact qn _ J

/-- the maker: super().__init__(e), then self.f = x -/
theorem fn_sup {P : Program} {w : World} {K : PySem.W.Frag} {mg : Str → Option Value} {base : Heap} {CX : CXT} {k : Nat} {f cda cc C : Addr} {oc : Value} {od : Option Addr} {osl : Array (Option Value)} {qual px fd1 : Str} {params : Arguments} {scope : Scope}
    {kV doc pm ct : Value} {an : Option Addr} {e : Expr} {p0 p1 p2 p3 p4 p5 p6 p7 p8 : Pos} {te : TE} {Ok : V → Prop}
    (lk : K.lookup f = some ⟨oc, od, .func (PySem.W.fnX "__init__" qual params [.Expr (.Call (.Attribute (.Call (.Name "super" p0) [] [] p1) "__init__" p2) [e] [] p3) p4, .Assign [.Attribute (.Name "self" p5) fd1 p6] (.Name px p7) p8] scope [("__class__", cc)] .none kV doc pm an (.ref cda) ct), osl⟩)
    (hcd : PySem.W.codeIn K (.ref cda) qual = true) (hcell : ∃ cl cld csl, K.lookup cc = some ⟨cl, cld, .cell (some (.ref C)), csl⟩)
    (S : NScope [("self" : Str), px, "__class__"] [("self" : Str), px] ["__class__"] scope) (O : OexC K C) (hfd : PySem.W.findIn K (.ref C) fd1 = some none)
    (T : ∀ (A : Around) (outer : List Env) (s : Shared) (H : Hp) (E : XK), SupOk (ncx CX P w K mg base [("self" : Str), px, "__class__"] ⟨"__init__", qual, params, [], scope, [("__class__", cc)], cda⟩ f A outer s H E) f cda C "self")
    (he : ∀ (A : Around) (outer : List Env) (s : Shared) (H : Hp) (E : XK), PE (ncx CX P w K mg base [("self" : Str), px, "__class__"] ⟨"__init__", qual, params, [], scope, [("__class__", cc)], cda⟩ f A outer s H E) e te)
    (hpx1 : (px == ("__debug__" : Str)) = false) (hpx2 : (px == ("__classdict__" : Str)) = false) (hpe : ∀ env, starEach [e] env = [(false, eval e env)])
    (hev : ∀ env : Env, ∃ pl : Sem Bool, eval (.Call (.Attribute (.Call (.Name "super" p0) [] [] p1) "__init__" p2) [e] [] p3) env = (do
      let ov ← attributeBase (.Call (.Name "super" p0) [] [] p1) "__init__" env (eval (.Call (.Name "super" p0) [] [] p1) env)
      standAt p2.atName
      let (f, first) ← holding [ov] (getMethod ov "__init__" pl)
      callWith p3 f first (backTo p3 (starEach [e] env)) []))
    (hte : ∀ (a : Addr) (x : V) (H : Hp) (Q : VK), Ok x → (∀ v, Q v H) → te [some (.ref a), some x, some (.ref C)] H Q) :
    FnOk P w K mg base CX (k + 1) f (PySem.W.fnX "__init__" qual params [.Expr (.Call (.Attribute (.Call (.Name "super" p0) [] [] p1) "__init__" p2) [e] [] p3) p4, .Assign [.Attribute (.Name "self" p5) fd1 p6] (.Name px p7) p8] scope [("__class__", cc)] .none kV doc pm an (.ref cda) ct) [("self" : Str), px]
      (fun vs H Q _ => ∃ (a : Addr) (x : V), vs = [.ref a, x] ∧ Ok x ∧ H a = some (exo a C none) ∧ ∀ dx, H dx = none → dx ≠ a → Q .non (upd (upd H dx (exd dx [(fd1, x)])) a (exo a C (some dx)))) := by
  refine ⟨fun vs H Q E h => ?_, fun A outer s H args us vs Q E hr e0 hb hb2 hsp => ?_⟩
  · obtain ⟨a, x, rfl, _⟩ := h
    rfl
  obtain ⟨a, x, rfl, hx, ha, q⟩ := hsp
  have KX : K.In s.heap := e0.mod.kin.keeps fun b o e => (e0.bs b o e).1
  have lim : s.heap.NoLimit := e0.mod.nolimit.keeps fun b o e => (e0.bs b o e).1
  obtain ⟨cl, cld, csl, hcc⟩ := hcell
  refine ks_codeAny_call_defAt (binds := [("self" : Str), px].zip us) hr.depth (KX _ _ lk) rfl lim (PySem.W.codeRec_of KX hcd) rfl hb S.nocell (fun y hy => S.par y.1 (List.of_mem_zip hy).1) (fun h1 hns kp => ?_) S.co S.gen S.kind
  have C0 : CellsAt [(("__class__" : Str), cc)] ["__class__"] [some (.ref C)] s.heap H := by
    have hcc0 : H cc = none := (e0.bs cc _ (e0.mod.kin _ _ hcc)).2
    have look : ∀ (y : Str) (c : Addr), List.lookup y [(("__class__" : Str), cc)] = some c → c = cc := fun y c z => by
      simp only [List.lookup] at z
      split at z
      · exact (Option.some.inj z).symm
      · cases z
    have same : ∀ (y : Str) (c : Addr), List.lookup y [(("__class__" : Str), cc)] = some c → y = "__class__" := fun y c z => by
      simp only [List.lookup] at z
      split at z
      · rename_i q
        exact beq_iff_eq.mp q
      · cases z
    refine ⟨rfl, fun y c z => ?_, fun x y c z1 z2 => (same x c z1).trans (same y c z2).symm, fun i y z => ?_⟩
    · rw [look y c z]
      exact ⟨hcc0, _, _, KX _ _ hcc, rfl⟩
    · match i, z with
      | 0, z =>
        obtain rfl : ("__class__" : Str) = y := Option.some.inj z
        refine ⟨cc, by simp [List.lookup], fun v hv => ?_⟩
        obtain rfl : V.ref C = v := Option.some.inj (Option.some.inj hv)
        exact ⟨.ref C, rfl, _, KX _ _ hcc, rfl⟩
      | i + 1, z => cases z
  have hT := T A outer s H E
  have I : Inv (ncx CX P w K mg base [("self" : Str), px, "__class__"] ⟨"__init__", qual, params, [], scope, [("__class__", cc)], cda⟩ f A outer s H E) [] [some (.ref a), some x, some (.ref C)] H { s with heap := h1, toks := s.toks + ([("self" : Str), px].zip us).length } :=
    inv_startN (vs := [.ref a, x]) (ws := [some (.ref C)]) S hr.hd e0 rfl hb2 C0 hns kp
  let X : Cx := ncx CX P w K mg base [("self" : Str), px, "__class__"] ⟨"__init__", qual, params, [], scope, [("__class__", cc)], cda⟩ f A outer s H E
  have kself : scope.names.lookup ("self" : Str) = some .local := S.par "self" List.mem_cons_self
  have kpx : scope.names.lookup px = some .local := S.par px (List.mem_cons_of_mem _ List.mem_cons_self)
  refine ks_wpAt_execs_cons ?_
  obtain ⟨pl, hpl⟩ := hev X.env
  refine super_init (X := X) (j := 2) (te := te) hT O I rfl (.inl kself) kself rfl rfl rfl ha (he A outer s H E) (hpe _) (hte a x H _ hx fun v => ⟨ha, fun s' J => ?_⟩) hpl (by unfold interactive; rw [show X.env.scope.kind = ScopeKind.function from S.kind] <;> rfl) rfl
  refine wpAt_of_wpAny (wpAny_execs_cons ?_)
  refine thn ((ps_ost (X := X) (te := tVar 1) (to := tVar 0) (pe_var (i := 0) rfl (.inl kself)) (pe_var (i := 1) rfl (.inl kpx) hpx1 hpx2)).run [] s' _ H ⟨fun _ H' => Q .non H', Q, fun _ _ => False, fun _ _ => False⟩ J ⟨x, rfl, .ref a, rfl, a, C, rfl, O, hfd, .inl ⟨ha, fun dx n ne => q dx n ne⟩⟩) ?_
  rintro fl s2 hs
  have fin : ∀ {σ' : L2.St} {H' : Hp} {v : V} {u : Value}, Inv X [] σ' H' s2 → L2.RelV v u → Q v H' → CE outer P w H s Q u s2 :=
    fun {σ' H' v u} J rv q => ⟨v, H', J.os, J.bare, J.base, J.hok, rv, q⟩
  cases fl with
  | ret u =>
    obtain ⟨v, σ', H', J2, rv, q2⟩ := hs
    exact fin J2 rv q2
  | next =>
    obtain ⟨σ', H', J2, q2⟩ := hs
    exact wpAny_execs_nil (fin (v := V.non) (u := Value.none) J2 rfl q2)
  | brk =>
    obtain ⟨_, _, _, q2⟩ := hs
    exact False.elim q2
  | cont =>
    obtain ⟨_, _, _, q2⟩ := hs
    exact False.elim q2
end SupX
set_option Elab.async false
set_option linter.all false
set_option maxRecDepth 100000
set_option maxHeartbeats 4000000
namespace SupX
open PySem PySem.Spec PyProof.Rows L2 NdefX PySem.W
abbrev FnS : Type := Option (Str × Str × Arguments × FuncBody × Scope × Addr × List Str × Addr)
def fnS (K : PySem.W.Frag) (p : Str × Option Str) : FnS := match K.lookup (He.fAd K p) with
  | some ⟨_, _, .func fd, _⟩ => some (fd.name, fd.qualname, fd.params, fd.body, fd.scope, fd.globals, fd.closure.map (·.1), fd.builtins)
  | _ => none
def valS (name qual : Str) (params : Arguments) (body : List Stmt) (scope : Scope) : FnS := some (name, qual, params, FuncBody.stmts body, scope, mainGlobals, [("__class__" : Str)], builtinsNs)
/-- the code object's file -/
def fileB (K : PySem.W.Frag) (c : Addr) (file : Str) : Bool := match K.lookup c with
  | some ⟨_, _, .fields vs, _⟩ => (match vs[2]? with
    | some (Value.str f _) => decide (file = f)
    | _ => false)
  | _ => false
def cellB (K : PySem.W.Frag) (c C : Addr) : Bool := match K.lookup c with
  | some ⟨_, _, .cell (some (.ref a)), _⟩ => decide (a = C)
  | _ => false
def oexB (K : PySem.W.Frag) (C : Addr) : Bool := match K.lookup C with
  | some ⟨.type "type", _, .cls cd, sl⟩ => (match cd.mro, sl.toList with
    | .ref C' :: bm, [_, _, _, _, some (.builtin n), _] => decide (C' = C) && (decide (n = "ValueError.__new__") && (!cd.hasDel && (cd.hasDict && PySem.HandSPX.refsVE bm)))
    | _, _ => false)
  | _ => false
def mroB (K : PySem.W.Frag) (C : Addr) : Bool := match PySem.W.clsIn K C with
  | some cd => decide (PySem.W.alongIn K "__init__" ((cd.mro.dropWhile (· != .ref C)).drop 1) = some (some (.builtin "ValueError.__init__")))
  | _ => false
def mkB (K : PySem.W.Frag) (p : Str × Option Str) (qual file : Str) (C : Addr) : Bool := match K.lookup (He.fAd K p) with
  | some ⟨_, _, .func fd, _⟩ => (match fd.closure, fd.defaults, fd.code with
    | [(_, cc)], .none, .ref cda => PySem.W.codeIn K (.ref cda) qual && (cellB K cc C && fileB K cda file)
    | _, _, _ => false)
  | _ => false
/-- all that the maker of the class C with the field fld asks -/
def supB (K : PySem.W.Frag) (C : Addr) (p : Str × Option Str) (qual file fld : Str) : Bool := mkB K p qual file C && (oexB K C && (mroB K C && (decide (PySem.W.findIn K (.ref C) "__setattr__" = some (some (.builtin "object.__setattr__"))) && (decide (PySem.W.subIn K (.ref C) (.type "BaseException") = some true) &&
  (decide (PySem.W.typeIn K (.ref C) = some (.type "type")) && (PySem.W.keepIn K (.ref C) && (decide (PySem.W.findIn K (.ref C) fld = some none) && (decide (PySem.W.nsIn K cStatics "thirdparty.any" = some none) && (decide (PySem.W.mroIn K C (.ref C) = some true) && (decide (PySem.W.subIn K (.ref C) (.type "ValueError") = some true) &&
  (decide (PySem.W.findIn K (.ref C) "__init__" = some (some (.ref (He.fAd K p)))) && decide (PySem.W.typeIn K (.ref (He.fAd K p)) = some (.type "function")))))))))))))
theorem oexB_ok {K : PySem.W.Frag} {C : Addr} (q : oexB K C = true) : ∃ nm q N bs bm sn sub ab col dd k0 k1 k2 k3 k5, K.lookup C = some (excClassObj nm q C N bs bm true sn sub ab col dd k0 k1 k2 k3 k5 "ValueError.__new__") ∧ PySem.HandSPX.refsVE bm = true := by
  unfold oexB at q
  split at q
  · rename_i dd cd sl ho
    split at q
    · rename_i C' bm k0 k1 k2 k3 n k5 hm hs
      simp only [Bool.and_eq_true, decide_eq_true_eq, Bool.not_eq_true'] at q
      obtain ⟨rfl, rfl, hdel, hdct, hr⟩ := q
      obtain ⟨nm, bs, mro, ns, qn, hd, sn, sub, ab, col, del⟩ := cd
      dsimp only at hm hdel hdct
      subst hm hdel hdct
      have hsl : sl = #[k0, k1, k2, k3, some (.builtin "ValueError.__new__"), k5] := by
        obtain ⟨l⟩ := sl
        simp only at hs
        rw [hs]
      subst hsl
      exact ⟨nm, qn, ns, bs, bm, sn, sub, ab, col, dd, k0, k1, k2, k3, k5, ho, hr⟩
    · cases q
  · cases q
theorem cellB_ok {K : PySem.W.Frag} {c C : Addr} (q : cellB K c C = true) : ∃ cl cld csl, K.lookup c = some ⟨cl, cld, .cell (some (.ref C)), csl⟩ := by
  unfold cellB at q
  split at q
  · rename_i h
    rw [of_decide_eq_true q] at h
    exact ⟨_, _, _, h⟩
  · cases q
theorem fileB_ok {K : PySem.W.Frag} {c : Addr} {file : Str} (q : fileB K c file = true) : ∃ ccl cdd vs ccs tf, K.lookup c = some ⟨ccl, cdd, .fields vs, ccs⟩ ∧ vs[2]? = some (.str file tf) := by
  unfold fileB at q
  split at q
  · rename_i h
    split at q
    · rename_i f t e
      rw [of_decide_eq_true q]
      exact ⟨_, _, _, _, _, h, e⟩
    · cases q
  · cases q
theorem mroB_ok {K : PySem.W.Frag} {C : Addr} (q : mroB K C = true) : ∃ cd, PySem.W.clsIn K C = some cd ∧ PySem.W.alongIn K "__init__" ((cd.mro.dropWhile (· != .ref C)).drop 1) = some (some (.builtin "ValueError.__init__")) := by
  unfold mroB at q
  split at q
  · rename_i cd h
    exact ⟨cd, h, of_decide_eq_true q⟩
  · cases q
theorem mkB_ok {K : PySem.W.Frag} {p : Str × Option Str} {name qual file : Str} {C : Addr} {params : Arguments} {body : List Stmt} {scope : Scope} (e : fnS K p = valS name qual params body scope) (q : mkB K p qual file C = true) :
    ∃ oc od osl kV doc pm an cda ct cc, K.lookup (He.fAd K p) = some ⟨oc, od, .func (PySem.W.fnX name qual params body scope [("__class__", cc)] .none kV doc pm an (.ref cda) ct), osl⟩ ∧ PySem.W.codeIn K (.ref cda) qual = true ∧ cellB K cc C = true ∧ fileB K cda file = true := by
  unfold mkB at q
  unfold fnS at e
  cases lk : K.lookup (He.fAd K p) with
  | none => rw [lk] at q; cases q
  | some o =>
    obtain ⟨oc, od, dt, osl⟩ := o
    rw [lk] at q e
    cases dt with
    | func fd =>
      obtain ⟨n1, n2, n3, n4, n5, n6, n7, n8, n9, n10, n11, n12, n13, n14, n15⟩ := fd
      have e2 : (some (n1, n2, n3, n4, n5, n6, n7.map (·.1), n15) : FnS) = some (name, qual, params, FuncBody.stmts body, scope, mainGlobals, [("__class__" : Str)], builtinsNs) := e
      simp only [Option.some.injEq, Prod.mk.injEq] at e2
      obtain ⟨h1, h2, h3, h4, h5, h6, h7, h8⟩ := e2
      subst h1 h2 h3 h4 h5 h6 h8
      match n7, h7 with
      | [(x, cc)], h7 =>
        have h10 : x = "__class__" := (List.cons.inj h7).1
        subst h10
        cases n8 with
        | none =>
          cases n13 with
          | ref cda =>
            have q2 : (PySem.W.codeIn K (.ref cda) n2 && (cellB K cc C && fileB K cda file)) = true := q
            simp only [Bool.and_eq_true] at q2
            exact ⟨oc, od, osl, n9, n10, n11, n12, _, n14, cc, rfl, q2.1, q2.2.1, q2.2.2⟩
          | _ => cases q
        | _ => cases q
    | _ => cases q
/-- the maker, by the facts -/
theorem mkr_of {P : Program} {w : World} {K : PySem.W.Frag} {mg : Str → Option Value} {base : Heap} {nm qual px fd1 file : Str} {C : Addr} {p : Str × Option Str} {params : Arguments} {scope : Scope} {e : Expr} {p0 p1 p2 p3 p4 p5 p6 p7 p8 : Pos} {te : TE} {Ok : V → Prop}
    (efn : fnS K p = valS "__init__" qual params [.Expr (.Call (.Attribute (.Call (.Name "super" p0) [] [] p1) "__init__" p2) [e] [] p3) p4, .Assign [.Attribute (.Name "self" p5) fd1 p6] (.Name px p7) p8] scope)
    (q : supB K C p qual file fd1 = true) (hm : mg nm = some (.ref C)) (hfile : P.main.file = file) (htop : (P.main.scope.names.lookup ("super" : Str)).isSome = false) (mS : mg "super" = none)
    (S : NScope [("self" : Str), px, "__class__"] [("self" : Str), px] ["__class__"] scope) (har : ∃ ar, (params.posonlyargs ++ params.args).head? = some ar ∧ ar.arg = "self")
    (kS : scope.names.lookup ("super" : Str) = some .globalImplicit) (kC : scope.names.lookup ("__class__" : Str) = some .free)
    (hb : ∀ (cc : Addr) (kV doc pm : Value) (an : Option Addr) (cdv ct : Value) (us : List Value), us.length = 2 → bindArgs (PySem.W.fnX "__init__" qual params [.Expr (.Call (.Attribute (.Call (.Name "super" p0) [] [] p1) "__init__" p2) [e] [] p3) p4, .Assign [.Attribute (.Name "self" p5) fd1 p6] (.Name px p7) p8] scope [("__class__", cc)] .none kV doc pm an cdv ct) ⟨us, []⟩ = pure ([("self" : Str), px].zip us))
    (he : ∀ (F : NF) (f : Addr) (A : Around) (outer : List Env) (s : Shared) (H : Hp) (E : XK), F.scope = scope → PE (ncx CX0 P w K mg base [("self" : Str), px, "__class__"] F f A outer s H E) e te)
    (hpx1 : (px == ("__debug__" : Str)) = false) (hpx2 : (px == ("__classdict__" : Str)) = false) (hpe : ∀ env, starEach [e] env = [(false, eval e env)])
    (hev : ∀ env : Env, ∃ pl : Sem Bool, eval (.Call (.Attribute (.Call (.Name "super" p0) [] [] p1) "__init__" p2) [e] [] p3) env = (do
      let ov ← attributeBase (.Call (.Name "super" p0) [] [] p1) "__init__" env (eval (.Call (.Name "super" p0) [] [] p1) env)
      standAt p2.atName
      let (f, first) ← holding [ov] (getMethod ov "__init__" pl)
      callWith p3 f first (backTo p3 (starEach [e] env)) []))
    (hte : ∀ (a : Addr) (x : V) (H : Hp) (Q : VK), Ok x → (∀ v, Q v H) → te [some (.ref a), some x, some (.ref C)] H Q) :
    Ly.Mkr P w K mg base 1 nm fd1 C Ok := by
  unfold supB at q
  simp only [Bool.and_eq_true, decide_eq_true_eq] at q
  obtain ⟨q1, q2, q3, q4, q5, q6, q7, q8, q9, q10, q11, q12, q13⟩ := q
  obtain ⟨oc, od, osl, kV, doc, pm, an, cda, ct, cc, lk, hcd, hcell, hfl⟩ := mkB_ok efn q1
  have O : OexC K C := ⟨oexB_ok q2, q4, q5, q6, q7⟩
  obtain ⟨ar, ha1, ha2⟩ := har
  obtain ⟨ccl, cdd, vs, ccs, tf, hc1, hc2⟩ := fileB_ok hfl
  refine ⟨_, _, _, O, q12, q13, fn_sup (CX := CX0) (k := 0) (te := te) (Ok := Ok) lk hcd (cellB_ok hcell) S O q8 (fun A outer s H E => ?_) (fun A outer s H E => he _ _ A outer s H E rfl) hpx1 hpx2 hpe hev hte, Binds.all fun us hl => hb cc kV doc pm an (.ref cda) ct us hl, hm⟩
  exact ⟨kS, kC, rfl, ⟨oc, od, _, osl, ar, lk, ha1, ha2⟩, rfl, ⟨ccl, cdd, vs, ccs, file, tf, hc1, hc2, by rw [show (ncx CX0 P w K mg base [("self" : Str), px, "__class__"] ⟨"__init__", qual, params, [], scope, [("__class__", cc)], cda⟩ (He.fAd K p) A outer s H E).prog = P from rfl, hfile]; exact beq_self_eq_true file⟩, htop, mS, q9, mroB_ok q3, q10, q11⟩
end SupX
set_option Elab.async false
set_option linter.all false
set_option maxRecDepth 100000
set_option maxHeartbeats 4000000
namespace K82
open PySem PySem.Spec PyProof.Rows L2 Ly SX
section
variable {P : Program} {w : World} {K : PySem.W.Frag} {mg : Str → Option Value} {base : Heap} {k j : Nat} {x : Str} {sp : Sp}
theorem _root_.C8.Cal.up (c : C8.Cal P w K mg base k x sp []) (h : k ≤ j) : C8.Cal P w K mg base j x sp [] := by
  obtain ⟨f, fd, ps, ds, F, r⟩ := c.ex
  exact ⟨f, fd, ps, ds, F.mono h, r⟩
theorem _root_.Ly.CalX.up (c : CalX P w K mg base k x sp) (h : k ≤ j) : CalX P w K mg base j x sp := by
  obtain ⟨f, fd, ps, F, r⟩ := c.ex
  exact ⟨f, fd, ps, F.mono h, r⟩
theorem _root_.Ly.MakX.up {C : Addr} (c : MakX P w K mg base k x C sp) (h : k ≤ j) : MakX P w K mg base j x C sp := by
  obtain ⟨f, fd, ps, M, F, r⟩ := c.ex
  exact ⟨f, fd, ps, M, F.mono h, r⟩
theorem _root_.C8.Mak.up {C : Addr} (c : C8.Mak P w K mg base k x C sp []) (h : k ≤ j) : C8.Mak P w K mg base j x C sp [] := by
  obtain ⟨f, fd, ps, ds, M, F, r⟩ := c.ex
  exact ⟨f, fd, ps, ds, M, F.mono h, r⟩
theorem _root_.Ly.Mkr.up {nm fld : Str} {C : Addr} {Ok : V → Prop} (c : Mkr P w K mg base k nm fld C Ok) (h : k ≤ j) : Mkr P w K mg base j nm fld C Ok := by
  obtain ⟨f, fd, ps, h1, h2, h3, F, r⟩ := c.ex
  exact ⟨f, fd, ps, h1, h2, h3, F.mono h, r⟩
/-- a def of the module under its name -/
structure Df (K : PySem.W.Frag) (mg : Str → Option Value) (x : Str) (st : Stmt) : Prop where
  ex : ∃ (f : Addr) (fd : FuncData), Fun K x x st f fd ∧ mg x = some (.ref f)
variable {st : Stmt} {N ps : List Str} {m n : Nat} {F : FD} {FF : FX}
/-- how the arguments of a def bind -/
def Bd (x : Str) (st : Stmt) (ps : List Str) : Prop := ∀ (kV doc pm : Value) (an : Option Addr) (cdv ct : Value) (us : List Value), us.length = ps.length → bindArgs (PySem.W.fnOf x x (defArgs st) (defBody st) (defScope st) .none kV doc pm an cdv ct) ⟨us, []⟩ = pure (ps.zip us)
theorem cal_fn {f : Addr} {fd : FuncData} (Fn : Fun K x x st f fd) (g : mg x = some (.ref f)) (hb : Bd x st ps) (h : FnOk P w K mg base CX0 k f fd ps sp) : C8.Cal P w K mg base k x sp [] :=
  ⟨f, fd, ps, [], h, g, Fn.kp, Fn.binds hb, .nil⟩
theorem calX_fn {f : Addr} {fd : FuncData} (Fn : Fun K x x st f fd) (g : mg x = some (.ref f)) (hb : Bd x st ps) (h : FnOk P w K mg base (L2.CX P w) k f fd ps sp) : CalX P w K mg base k x sp :=
  ⟨f, fd, ps, h, g, Fn.kp, Fn.binds hb⟩
theorem cal_ly (D : Df K mg x st) (S : FnScope N ps (defScope st)) (hn : ps.length = n) (hb : Bd x st ps)
    (hbody : ∀ (f : Addr) (X : Cx) (cdv : Value) (A : Around) (outer : List Env) (s : Shared) (H : Hp) (E : XK), X = (cxOf CX0 P w K mg base N x (defScope st) f cdv A outer s H E).nox → Room k X.A →
      ∃ d U, XB X ⟨fun _ _ _ _ => False, U⟩ (defBody st) d ∧ ∀ ds P, ds.length + m = n → F ds P → d (endsP P) (D0 m N ds)) : C8.Cal P w K mg base (k + 1) x (spG m n F) [] := by
  obtain ⟨f, fd, Fn, g⟩ := D
  exact cal_fn Fn g hb (fn_ly Fn S hn (hbody f))
theorem cal_lyX (D : Df K mg x st) {U : PyData → Value → Option Addr → Hp → Prop} (S : FnScope N ps (defScope st)) (hn : ps.length = n) (hb : Bd x st ps)
    (hbody : ∀ (f : Addr) (X : Cx) (cdv : Value) (A : Around) (outer : List Env) (s : Shared) (H : Hp) (E : XK), X = cxOf (L2.CX P w) P w K mg base N x (defScope st) f cdv A outer s H E → Takes X (ErF E U).W → PassesOwn (model X.prog X.w) X.A X.env X.xe → Room k X.A →
      ∃ d, XB X (ErF E U) (defBody st) d ∧ ∀ ds P Px, ds.length = n → FF ds P Px → d (endsX P Px) (D0 0 N ds)) : CalX P w K mg base (k + 1) x (spX n U FF) := by
  obtain ⟨f, fd, Fn, g⟩ := D
  exact calX_fn Fn g hb (fn_lyX Fn S hn (hbody f))
/-- a def that is never called -/
theorem fn_vac {f : Addr} {fd : FuncData} (hn : ps.length = n) : FnOk P w K mg base CX0 k f fd ps (spG m n fun _ _ => False) := by
  refine ⟨fun vs H Q E h => ?_, fun A outer s H args us vs Q E hr e0 hb hv h => ?_⟩
  · obtain ⟨ss, ws, B, ds, P, _, _, e, _⟩ := h
    rw [e, hn]
  · obtain ⟨ss, ws, B, ds, P, _, _, _, _, _, _, z, _⟩ := h
    exact z.elim
theorem fn_vacX {f : Addr} {fd : FuncData} {U : PyData → Value → Option Addr → Hp → Prop} (hn : ps.length = n) : FnOk P w K mg base (L2.CX P w) k f fd ps (spX n U fun _ _ _ => False) := by
  refine ⟨fun vs H Q E h => ?_, fun A outer s H args us vs Q E hr e0 hb hv h => ?_⟩
  · obtain ⟨B, ds, P, Px, e, _⟩ := h
    rw [e, hn]
  · obtain ⟨B, ds, P, Px, _, _, _, z, _⟩ := h
    exact z.elim
/-- a union of promises -/
theorem fn_some {f : Addr} {fd : FuncData} {G : Nat → FD} {b : Nat} (h : ∀ e, e ≤ b → FnOk P w K mg base CX0 k f fd ps (spG m n (G e))) : FnOk P w K mg base CX0 k f fd ps (spG m n fun ds P => ∃ e, e ≤ b ∧ G e ds P) := by
  refine ⟨fun vs H Q E hs => ?_, fun A outer s H args us vs Q E hr e0 hb hv hs => ?_⟩
  · obtain ⟨ss, ws, B, ds, P, h1, h2, h3, h4, h5, h6, ⟨e, he, z⟩, h7⟩ := hs
    exact (h e he).len vs H Q E ⟨ss, ws, B, ds, P, h1, h2, h3, h4, h5, h6, z, h7⟩
  · obtain ⟨ss, ws, B, ds, P, h1, h2, h3, h4, h5, h6, ⟨e, he, z⟩, h7⟩ := hs
    exact (h e he).run A outer s H args us vs Q E hr e0 hb hv ⟨ss, ws, B, ds, P, h1, h2, h3, h4, h5, h6, z, h7⟩
/-- a promise with a weaker reading -/
theorem cal_imp {F' : FD} (c : C8.Cal P w K mg base k x (spG m n F) []) (h : ∀ ds P, F' ds P → F ds P) : C8.Cal P w K mg base k x (spG m n F') [] := by
  obtain ⟨f, fd, ps, ds, F0, r⟩ := c.ex
  refine ⟨f, fd, ps, ds, F0.imp fun vs H Q E hs => ?_, r⟩
  obtain ⟨ss, ws, B, ds, P, h1, h2, h3, h4, h5, h6, z, h7⟩ := hs
  exact ⟨ss, ws, B, ds, P, h1, h2, h3, h4, h5, h6, h _ _ z, h7⟩
end
end K82
set_option Elab.async false
set_option linter.all false
set_option maxRecDepth 100000
set_option maxHeartbeats 0
namespace K82
open PySem PySem.Spec PyProof.Rows L2
def fn : List He.DefD := [
  ⟨("mask_of", none), "mask_of", "mask_of", defArgs s_mask_of, defBody s_mask_of, defScope s_mask_of, [], []⟩,
  ⟨("split_words", none), "split_words", "split_words", defArgs s_split_words, defBody s_split_words, defScope s_split_words, [], []⟩,
  ⟨("written", none), "written", "written", defArgs s_written, defBody s_written, defScope s_written, [], []⟩,
  ⟨("read_count", none), "read_count", "read_count", defArgs s_read_count, defBody s_read_count, defScope s_read_count, [], []⟩,
  ⟨("read_number", none), "read_number", "read_number", defArgs s_read_number, defBody s_read_number, defScope s_read_number, [], []⟩,
  ⟨("read_bound", none), "read_bound", "read_bound", defArgs s_read_bound, defBody s_read_bound, defScope s_read_bound, [], []⟩,
  ⟨("AtMost", some "__init__"), "__init__", "AtMost.__init__", defArgs s_AtMost_init, defBody s_AtMost_init, defScope s_AtMost_init, [], []⟩,
  ⟨("Within", some "__init__"), "__init__", "Within.__init__", defArgs s_Within_init, defBody s_Within_init, defScope s_Within_init, [], []⟩,
  ⟨("known_lot", none), "known_lot", "known_lot", defArgs s_known_lot, defBody s_known_lot, defScope s_known_lot, [], []⟩,
  ⟨("Lots", some "__init__"), "__init__", "Lots.__init__", defArgs s_Lots_init, defBody s_Lots_init, defScope s_Lots_init, [], []⟩,
  ⟨("Both", some "__init__"), "__init__", "Both.__init__", defArgs s_Both_init, defBody s_Both_init, defScope s_Both_init, [], []⟩,
  ⟨("Either", some "__init__"), "__init__", "Either.__init__", defArgs s_Either_init, defBody s_Either_init, defScope s_Either_init, [], []⟩,
  ⟨("read_lot", none), "read_lot", "read_lot", defArgs s_read_lot, defBody s_read_lot, defScope s_read_lot, [], []⟩,
  ⟨("read_lots", none), "read_lots", "read_lots", defArgs s_read_lots, defBody s_read_lots, defScope s_read_lots, [], []⟩,
  ⟨("read_part", none), "read_part", "read_part", defArgs s_read_part, defBody s_read_part, defScope s_read_part, [], []⟩,
  ⟨("read_doubt", none), "read_doubt", "read_doubt", defArgs s_read_doubt, defBody s_read_doubt, defScope s_read_doubt, [], []⟩,
  ⟨("build_doubt", none), "build_doubt", "build_doubt", defArgs s_build_doubt, defBody s_build_doubt, defScope s_build_doubt, [], []⟩,
  ⟨("parse_doubt", none), "parse_doubt", "parse_doubt", defArgs s_parse_doubt, defBody s_parse_doubt, defScope s_parse_doubt, [], []⟩,
  ⟨("format_deed", none), "format_deed", "format_deed", defArgs s_format_deed, defBody s_format_deed, defScope s_format_deed, [], []⟩,
  ⟨("format_deeds", none), "format_deeds", "format_deeds", defArgs s_format_deeds, defBody s_format_deeds, defScope s_format_deeds, [], []⟩,
  ⟨("read_tell", none), "read_tell", "read_tell", defArgs s_read_tell, defBody s_read_tell, defScope s_read_tell, [], []⟩,
  ⟨("read_recount", none), "read_recount", "read_recount", defArgs s_read_recount, defBody s_read_recount, defScope s_read_recount, [], []⟩,
  ⟨("read_correct", none), "read_correct", "read_correct", defArgs s_read_correct, defBody s_read_correct, defScope s_read_correct, [], []⟩,
  ⟨("read_withdraw", none), "read_withdraw", "read_withdraw", defArgs s_read_withdraw, defBody s_read_withdraw, defScope s_read_withdraw, [], []⟩,
  ⟨("read_doubt_deed", none), "read_doubt_deed", "read_doubt_deed", defArgs s_read_doubt_deed, defBody s_read_doubt_deed, defScope s_read_doubt_deed, [], []⟩,
  ⟨("read_deed", none), "read_deed", "read_deed", defArgs s_read_deed, defBody s_read_deed, defScope s_read_deed, [], []⟩,
  ⟨("parse_deeds", none), "parse_deeds", "parse_deeds", defArgs s_parse_deeds, defBody s_parse_deeds, defScope s_parse_deeds, [], []⟩,
  ⟨("_law_source", none), "_law_source", "_law_source", defArgs s_law_source, defBody s_law_source, defScope s_law_source, [], []⟩,
  ⟨("_law_draw", none), "_law_draw", "_law_draw", defArgs s_law_draw, defBody s_law_draw, defScope s_law_draw, [], []⟩,
  ⟨("_law_group", none), "_law_group", "_law_group", defArgs s_law_group, defBody s_law_group, defScope s_law_group, [], []⟩,
  ⟨("_law_plan", none), "_law_plan", "_law_plan", defArgs s_law_plan, defBody s_law_plan, defScope s_law_plan, [], []⟩,
  ⟨("_law_whole", none), "_law_whole", "_law_whole", defArgs s_law_whole, defBody s_law_whole, defScope s_law_whole, [], []⟩,
  ⟨("_law_lots_once", none), "_law_lots_once", "_law_lots_once", defArgs s_law_lots_once, defBody s_law_lots_once, defScope s_law_lots_once, [], []⟩,
  ⟨("_law_doubt_text", none), "_law_doubt_text", "_law_doubt_text", defArgs s_law_doubt_text, defBody s_law_doubt_text, defScope s_law_doubt_text, [], []⟩,
  ⟨("_law_chain", none), "_law_chain", "_law_chain", defArgs s_law_chain, defBody s_law_chain, defScope s_law_chain, [], []⟩,
  ⟨("_law_line", none), "_law_line", "_law_line", defArgs s_law_line, defBody s_law_line, defScope s_law_line, [], []⟩,
  ⟨("_law_row", none), "_law_row", "_law_row", defArgs s_law_row, defBody s_law_row, defScope s_law_row, [], []⟩,
  ⟨("_law_number", none), "_law_number", "_law_number", defArgs s_law_number, defBody s_law_number, defScope s_law_number, [], []⟩,
  ⟨("_law_signed", none), "_law_signed", "_law_signed", defArgs s_law_signed, defBody s_law_signed, defScope s_law_signed, [], []⟩,
  ⟨("_law_bound", none), "_law_bound", "_law_bound", defArgs s_law_bound, defBody s_law_bound, defScope s_law_bound, [], []⟩,
  ⟨("_law_drawn_doubt", none), "_law_drawn_doubt", "_law_drawn_doubt", defArgs s_law_drawn_doubt, defBody s_law_drawn_doubt, defScope s_law_drawn_doubt, [], []⟩,
  ⟨("_law_deed", none), "_law_deed", "_law_deed", defArgs s_law_deed, defBody s_law_deed, defScope s_law_deed, [], []⟩,
  ⟨("_law_wrong_sign", none), "_law_wrong_sign", "_law_wrong_sign", defArgs s_law_wrong_sign, defBody s_law_wrong_sign, defScope s_law_wrong_sign, [], []⟩,
  ⟨("_law_bad_line", none), "_law_bad_line", "_law_bad_line", defArgs s_law_bad_line, defBody s_law_bad_line, defScope s_law_bad_line, [], []⟩,
  ⟨("_law_strange_line", none), "_law_strange_line", "_law_strange_line", defArgs s_law_strange_line, defBody s_law_strange_line, defScope s_law_strange_line, [], []⟩,
  ⟨("_law_wrong_line", none), "_law_wrong_line", "_law_wrong_line", defArgs s_law_wrong_line, defBody s_law_wrong_line, defScope s_law_wrong_line, [], []⟩,
  ⟨("_law_spoilt", none), "_law_spoilt", "_law_spoilt", defArgs s_law_spoilt, defBody s_law_spoilt, defScope s_law_spoilt, [], []⟩,
  ⟨("_law_text", none), "_law_text", "_law_text", defArgs s_law_text, defBody s_law_text, defScope s_law_text, [], []⟩,
  ⟨("_law_first_bad", none), "_law_first_bad", "_law_first_bad", defArgs s_law_first_bad, defBody s_law_first_bad, defScope s_law_first_bad, [], []⟩,
  ⟨("_law_rows", none), "_law_rows", "_law_rows", defArgs s_law_rows, defBody s_law_rows, defScope s_law_rows, [], []⟩,
  ⟨("_law_asked", none), "_law_asked", "_law_asked", defArgs s_law_asked, defBody s_law_asked, defScope s_law_asked, [], []⟩,
  ⟨("law", none), "law", "law", defArgs s_law, defBody s_law, defScope s_law, [], []⟩
]
def fa : List He.Fa := [.glo "mask_of",
  .glo "split_words",
  .glo "written",
  .glo "read_count",
  .glo "read_number",
  .glo "read_bound",
  .glo "known_lot",
  .glo "read_lot",
  .glo "read_lots",
  .glo "read_part",
  .glo "read_doubt",
  .glo "build_doubt",
  .glo "parse_doubt",
  .glo "format_deed",
  .glo "format_deeds",
  .glo "read_tell",
  .glo "read_recount",
  .glo "read_correct",
  .glo "read_withdraw",
  .glo "read_doubt_deed",
  .glo "read_deed",
  .glo "parse_deeds",
  .glo "_law_source",
  .glo "_law_draw",
  .glo "_law_group",
  .glo "_law_plan",
  .glo "_law_whole",
  .glo "_law_lots_once",
  .glo "_law_doubt_text",
  .glo "_law_chain",
  .glo "_law_line",
  .glo "_law_row",
  .glo "_law_number",
  .glo "_law_signed",
  .glo "_law_bound",
  .glo "_law_drawn_doubt",
  .glo "_law_deed",
  .glo "_law_wrong_sign",
  .glo "_law_bad_line",
  .glo "_law_strange_line",
  .glo "_law_wrong_line",
  .glo "_law_spoilt",
  .glo "_law_text",
  .glo "_law_first_bad",
  .glo "_law_rows",
  .glo "_law_asked",
  .glo "law",
  .free "ValueError",
  .free "abs",
  .free "bool",
  .free "enumerate",
  .free "int",
  .free "isinstance",
  .free "len",
  .free "list",
  .free "min",
  .free "range",
  .free "sorted",
  .free "str",
  .free "super",
  .free "tuple",
  .str "DIGITS" "0123456789",
  .int "MOST_FIGURES" 12,
  .int "MOST_COUNT" 99,
  .int "MOST_LIMIT" 1000000,
  .int "MOST_LOTS" 24,
  .int "MOST_NUMBER" 39,
  .int "MOST_DEEP" 3,
  .glo "HallError",
  .glo "InvalidDoubt",
  .glo "BadText",
  .glo "Doubt",
  .glo "AtMost",
  .glo "Within",
  .glo "Lots",
  .glo "Both",
  .glo "Either",
  .cls "AtMost",
  .mkr "AtMost",
  .noat "AtMost" "count",
  .cls "Within",
  .mkr "Within",
  .noat "Within" "limit",
  .cls "Lots",
  .mkr "Lots",
  .noat "Lots" "lots",
  .noat "Lots" "masks",
  .cls "Both",
  .mkr "Both",
  .noat "Both" "first",
  .noat "Both" "second",
  .cls "Either",
  .mkr "Either",
  .noat "Either" "first",
  .noat "Either" "second"]
def fl : Str := PySem.Challenge.pw_counthall_k82_deeds_text_reads_back.main.file
def aCB (K : PySem.W.Frag) : Addr := He.ga K "BadText"
def aCI (K : PySem.W.Frag) : Addr := He.ga K "InvalidDoubt"
def aCH (K : PySem.W.Frag) : Addr := He.ga K "HallError"
/-- what else is looked at: the two error classes -/
def xtra (K : PySem.W.Frag) : Bool := SupX.supB K (aCB K) ("BadText", some "__init__") "BadText.__init__" fl "line" && (SupX.supB K (aCI K) ("InvalidDoubt", some "__init__") "InvalidDoubt.__init__" fl "part" &&
  (SupX.isCB K (aCB K) && (xfB K (aCB K) && (decide (PySem.W.kitOne K (.ref (aCB K)) (.ref (aCB K)) = some true) && (decide (PySem.W.kitOne K (.ref (aCB K)) (.type "ValueError") = some true) && (decide (PySem.W.kitOne K (.ref (aCB K)) (.ref (aCI K)) = some false) &&
  (decide (PySem.W.exmOne K (.ref (aCB K)) (.ref (aCH K)) = some true) && (decide (PySem.W.exmOne K (.ref (aCI K)) (.ref (aCH K)) = some true) &&
  (decide (PySem.W.exmAny K (.ref (aCB K)) [.ref (aCB K), .ref (aCI K)] = some true) && decide (PySem.W.exmAny K (.ref (aCI K)) [.ref (aCB K), .ref (aCI K)] = some true))))))))))
abbrev AlK : Type := He.AlD × (Bool × List SupX.FnS)
def sps : List (Str × Option Str) := [("BadText", some "__init__"), ("InvalidDoubt", some "__init__")]
def obsK (K : PySem.W.Frag) : AlK := (He.obsD fa fn K, xtra K, sps.map (SupX.fnS K))
def valK : AlK := (He.valD fn, true, [SupX.valS "__init__" "BadText.__init__" (defArgs s_BadText_init) (defBody s_BadText_init) (defScope s_BadText_init), SupX.valS "__init__" "InvalidDoubt.__init__" (defArgs s_InvalidDoubt_init) (defBody s_InvalidDoubt_init) (defScope s_InvalidDoubt_init)])
def SaysK (K : PySem.W.Frag) : Prop := obsK K = valK
def asK (g : Addr → Option Obj) : Nat → List Addr
  | 0 => [mainGlobals, cStatics]
  | n + 1 => He.growD g (asK g n)
def obsKG (n : Nat) (g : Addr → Option Obj) : AlK := obsK (He.frG g (asK g n))
def hk : PySem.W.Hook where
  α := AlK
  obs := fun s => obsKG 5 s.heap.get?
  val := fun _ => valK
  says := fun _ h => ∃ K : PySem.W.Frag, K.In h ∧ SaysK K
  of := fun _ _ e => ⟨_, He.frG_in, e⟩
  keeps := fun _ _ _ ⟨K, hK, c⟩ k => ⟨K, PySem.W.Frag.In.keeps hK k, c⟩
abbrev R : PySem.W.OpenRow := PySem.W.OpenLaw.row PySem.Challenge.rw_counthall_k82_deeds_text_reads_back
def ob (s : PySem.W.SharedT) : AlK := obsKG 5 (HandSHeadRun.getT s)
theorem ob_eq (s : PySem.W.SharedT) : ob s = hk.obs s.abs := by
  have e : HandSHeadRun.getT s = s.abs.heap.get? := funext (HandSHeadRun.getT_eq s)
  show obsKG 5 (HandSHeadRun.getT s) = obsKG 5 s.abs.heap.get?
  rw [e]
def loose0 : List Str := ["HallError", "InvalidDoubt", "BadText", "DIGITS", "MOST_FIGURES", "mask_of", "split_words", "written", "read_count", "read_number", "read_bound", "MOST_COUNT", "MOST_LIMIT", "MOST_LOTS", "MOST_NUMBER", "Doubt", "AtMost", "Within", "known_lot", "Lots", "Both", "Either", "MOST_DEEP", "read_lot", "read_lots", "read_part", "read_doubt", "build_doubt", "parse_doubt", "format_deed"]
def loose1 : List Str := ["format_deeds", "read_tell", "read_recount", "read_correct", "read_withdraw", "read_doubt_deed", "read_deed", "parse_deeds", "_law_source", "_law_draw", "_law_group", "_law_plan", "_law_whole", "_law_lots_once", "_law_doubt_text", "_law_chain", "_law_line", "_law_row", "_law_number", "_law_signed", "_law_bound", "_law_drawn_doubt", "_law_deed", "_law_wrong_sign", "_law_bad_line", "_law_strange_line", "_law_wrong_line", "_law_spoilt", "_law_text", "_law_first_bad"]
def loose2 : List Str := ["_law_rows", "_law_asked"]
def loose : List Str := loose0 ++ loose1 ++ loose2
set_option maxRecDepth 1000000 in
theorem run (w : World) : HandSHeadRun.RunEq R (PySem.W.view R.prog [68]) hk ob 30000 loose w := by
  intro os
  kernel_rfl
end K82
set_option Elab.async false
set_option linter.all false
set_option maxRecDepth 100000
set_option maxHeartbeats 4000000
namespace K82
open PySem PySem.Spec PyProof.Rows L2 Ly SX
abbrev PP : Program := PySem.Challenge.pw_counthall_k82_deeds_text_reads_back
abbrev Bz : Hp := fun _ => none
theorem sc_Both_init : FnScope ["self", "first", "second"] ["self", "first", "second"] (defScope s_Both_init) := ⟨rfl, rfl, rfl, by decide +kernel, rfl, by decide +kernel, by decide +kernel⟩
theorem sc_Either_init : FnScope ["self", "first", "second"] ["self", "first", "second"] (defScope s_Either_init) := ⟨rfl, rfl, rfl, by decide +kernel, rfl, by decide +kernel, by decide +kernel⟩
section
variable {P : Program} {w : World} {K : PySem.W.Frag} {mg : Str → Option Value} {base : Heap} {C f : Addr} {fd : FuncData} {qual : Str} {st : Stmt}
theorem two_end (c : Cls K C) (n1 : NoAttr K C "first") (n2 : NoAttr K C "second") {vs : List V} {H : Hp} {Q : VK} {E : XK} (h : spP C vs H Q E) : ∃ x dx u v, vs = [.ref x, u, v] ∧ H x = some (.ins C dx []) ∧ ∀ fs, Q .non (upd H x (.ins C dx fs)) := by
  obtain ⟨x, dx, u, v, e, hx, q⟩ := h
  exact ⟨x, dx, u, v, e, hx, q⟩
theorem ok_two (c : Cls K C) (n1 : NoAttr K C "first") (n2 : NoAttr K C "second") (Fn : Fun K "__init__" qual st f fd) (hst : st = s_Both_init ∨ st = s_Either_init) : FnOk P w K mg base CX0 1 f fd ["self", "first", "second"] (spP C) := by
  rcases hst with rfl | rfl
  · refine Fn.ok sc_Both_init (fun vs H Q E h => ?_) (fun cdv A outer s H vs Q E hr h => ⟨_, pss_cons (ps_fld (pv 0) (pv 1) (by rfl)) (pss_one (ps_fld (pv 0) (pv 2) (by rfl))), ?_⟩)
    · obtain ⟨x, dx, u, v, rfl, _⟩ := h
      rfl
    · obtain ⟨x, dx, u, v, rfl, hx, q⟩ := h
      refine ⟨u, rfl, .ref x, rfl, x, C, dx, [], rfl, hx, c, n1, by decide, v, rfl, .ref x, rfl, x, C, dx, _, rfl, upd_same, c, n2, by simp [putF], ?_⟩
      rw [upd_upd]
      exact q _
  · refine Fn.ok sc_Either_init (fun vs H Q E h => ?_) (fun cdv A outer s H vs Q E hr h => ⟨_, pss_cons (ps_fld (pv 0) (pv 1) (by rfl)) (pss_one (ps_fld (pv 0) (pv 2) (by rfl))), ?_⟩)
    · obtain ⟨x, dx, u, v, rfl, _⟩ := h
      rfl
    · obtain ⟨x, dx, u, v, rfl, hx, q⟩ := h
      refine ⟨u, rfl, .ref x, rfl, x, C, dx, [], rfl, hx, c, n1, by decide, v, rfl, .ref x, rfl, x, C, dx, _, rfl, upd_same, c, n2, by simp [putF], ?_⟩
      rw [upd_upd]
      exact q _
/-- the errors' classes -/
theorem hT_of (xt : xtra K = true) (gB : mg "BadText" = some (.ref (aCB K))) (gI : mg "InvalidDoubt" = some (.ref (aCI K))) : ∀ x cls dd H, XV mg x cls dd H → PySem.W.exmAny K cls [.ref (aCB K), .ref (aCI K)] = some true := fun x cls dd H h => by
  unfold xtra at xt
  simp only [Bool.and_eq_true, decide_eq_true_eq] at xt
  obtain ⟨_, _, _, _, _, _, _, _, _, x1, x2⟩ := xt
  obtain ⟨nm, p, C, dx, v, hn, _, hm, rfl, _⟩ := h
  rcases hn with rfl | rfl
  · rw [gB] at hm; cases hm; exact x1
  · rw [gI] at hm; cases hm; exact x2
theorem FnU.up {sp : Sp} {ps : List Str} {j k : Nat} (F : SupX.FnU P w K mg base j f fd ps sp) (h : j ≤ k) : SupX.FnU P w K mg base k f fd ps sp := ⟨F.len, fun A outer s H args us vs Q p hr => F.run A outer s H args us vs Q p (hr.mono h)⟩
theorem en_one {H : Hp} {v : V} {y : PyData} {N : List Str} (r : Dv Bz v y) (hl : 1 ≤ N.length) : En K ⟨[], Bz, H⟩ [] Bz H (L2.start N [v]) (D0 0 N [y]) :=
  en_start (K := K) (ss := []) (ws := [v]) (N := N) (B := Bz) (fun _ _ z => nomatch z) (fun _ z => nomatch z) (.cons r .nil) (by simpa using hl)
theorem ask_of0 {k : Nat} (hk : 1 ≤ k) (xt : xtra K = true) (gB : mg "BadText" = some (.ref (aCB K))) (gI : mg "InvalidDoubt" = some (.ref (aCI K))) (gH : mg "HallError" = some (.ref (aCH K))) (hB : Bl mg) (D : Df K mg "_law_whole" s_law_whole) : AskF P w K mg base k (aCH K) := by
  unfold xtra at xt
  simp only [Bool.and_eq_true, decide_eq_true_eq] at xt
  obtain ⟨x0, x1, x2, x3, x4, x5, x6, x7, x8, x9, x10⟩ := xt
  have nol : PySem.W.findIn K (.ref (aCB K)) "line" = some none := by
    unfold SupX.supB at x0
    simp only [Bool.and_eq_true, decide_eq_true_eq] at x0
    exact x0.2.2.2.2.2.2.2.1
  refine ⟨gH, ⟨_, _, gB, gI, SupX.isCB_ok x2, xfB_ok x3, nol, x4, x5, x6⟩, fun x cls dd H h => ?_, ?_⟩
  · obtain ⟨nm, p, C, dx, v, hn, _, hm, rfl, _⟩ := h
    rcases hn with rfl | rfl
    · rw [gB] at hm; cases hm; exact x7
    · rw [gI] at hm; cases hm; exact x8
  · obtain ⟨f, fd, Fn, g⟩ := D
    have kp := Fn.kp
    have bn : Binds K fd ["_law_actual"] [] := Fn.binds fun _ _ _ _ _ _ us hl => match us, hl with | [_], _ => rfl
    obtain ⟨oc, od, kV, doc, pm, an, cdv, ct, osl, rfl, lk, hcd⟩ := Fn.ex
    refine ⟨f, _, ["_law_actual"], FnU.up (SupX.fnU_of (k := 0) lk hcd sc_law_whole (fun vs H Q E h => ?_) (fun A outer s H vs Q p h => ?_)) hk, g, kp, bn⟩
    · obtain ⟨i, rfl, _⟩ := h
      rfl
    · obtain ⟨i, rfl, q⟩ := h
      have p1 : PE (L2H.cxH CX0 P w K mg base ["_law_actual"] "_law_whole" (defScope s_law_whole) f cdv A outer s H E0 p) (.Name "int" ⟨293, 35, 293, 38⟩) (tC (.ty "int")) := pe_bltn (by rfl) hB.m_int (by rfl) rfl
      have p2 : PE (L2H.cxH CX0 P w K mg base ["_law_actual"] "_law_whole" (defScope s_law_whole) f cdv A outer s H E0 p) (.Name "bool" ⟨293, 73, 293, 77⟩) (tC (.ty "bool")) := pe_bltn (by rfl) hB.m_bool (by rfl) rfl
      refine ⟨_, pss_one (ps_ret (pe_and (pe_callB (id := "isinstance") call_isi (by rfl) hB.m_isinstance (by rfl) (pa_cons (pv 0) (pa_cons p1 pa_nil)))
        (pe_one (pe_not (pe_callB (id := "isinstance") call_isi (by rfl) hB.m_isinstance (by rfl) (pa_cons (pv 0) (pa_cons p2 pa_nil))))))), ?_⟩
      obtain ⟨_, _, k2, _, _, _⟩ := kit_tab "int" (by decide)
      obtain ⟨_, _, k2', _, _, _⟩ := kit_tab "bool" (by decide)
      exact ⟨.int i, rfl, _, _, _, _, _, rfl, .ty "int", .base (.int i), kit_ty k2, true, rfl, .int i, rfl, _, _, _, _, _, rfl, .ty "bool", .base (.int i), kit_ty k2', false, rfl, q⟩
/-- the law -/
def spLaw (K : PySem.W.Frag) : Sp := fun vs H Q _ => ∃ (a : Addr) (ns : List Int), vs = [.ref a] ∧ SqL K H a (ns.map V.int) ∧ ns.length ≤ 63 ∧ ∀ H', Q (.bl true) H'
theorem en_law {H : Hp} {a : Addr} {ns : List Int} {N : List Str} (h : SqL K H a (ns.map V.int)) (hl : N.length = 15) : En K ⟨[], Bz, H⟩ [] Bz H (L2.start N [.ref a]) [some (.scr ns), none, none, none, none, none, none, none, none, none, none, none, none, none, none] := by
  refine ⟨.refl (fun _ _ z => nomatch z) (fun _ z => nomatch z), fun _ z => z, (fun _ z => nomatch z), (fun _ z => nomatch z), by simp [L2.start, hl], fun i en z => ?_, fun i j ds es v hij z1 => ?_⟩
  · match i, z with
    | 0, z =>
      cases z
      refine ⟨.ref a, rfl, a, rfl, ?_⟩
      rcases h with h | h
      · exact .inl ⟨h, (fun z => nomatch z), (fun z => nomatch z)⟩
      · exact .inr fun H' => .inr h
    | i + 1, z =>
      have : (List.replicate 14 (none : Option Ent))[i]? = some (some en) := z
      rw [List.getElem?_replicate] at this
      split at this <;> cases this
  · match i, z1 with
    | 0, z => cases z
    | i + 1, z =>
      have : (List.replicate 14 (none : Option Ent))[i]? = some (some (.own ds)) := z
      rw [List.getElem?_replicate] at this
      split at this <;> cases this
theorem ok_law0 {k : Nat} (Fn : Fun K "law" "law" s_law f fd)
    (hb : ∀ (f : Addr) (X : Cx) (cdv : Value) (A : Around) (outer : List Env) (s : Shared) (H : Hp) (E : XK), X = (cxOf CX0 P w K mg base ["_law_script", "_law_source_here", "_law_count", "_law_form", "_law_records", "_law_place", "_law_drawn", "_law_deed_here", "_law_deeds", "_law_handed", "_law_written", "_law_spoil", "_law_turn", "_law_rows_here", "_law_record"] "law" (defScope s_law) f cdv A outer s H E).nox → Room k X.A →
      XB X ⟨fun _ _ _ _ => False, fun _ _ _ _ => False⟩ (defBody s_law) (rd_law F_law_draw F_law_deed F_law_line F_format_deeds F_law_text F_law_asked F_spoilt)) : FnOk P w K mg base CX0 (k + 1) f fd ["_law_script"] (spLaw K) := by
  refine Fn.ok sc_law (fun vs H Q E h => ?_) (fun cdv A outer s H vs Q E hr h => ?_)
  · obtain ⟨a, ns, rfl, _⟩ := h
    rfl
  · obtain ⟨a, ns, rfl, hS, hl, q⟩ := h
    obtain ⟨t, p, l⟩ := hb _ _ cdv A outer s H E rfl hr
    refine ⟨t, p, ?_⟩
    refine l ⟨[], Bz, H⟩ [] Bz H _ _ _ (endsP fun x => x = .bool true) (en_law hS rfl) (pr_law hl rfl) ⟨fun S' B' H' σ' Δ' _ en q' => ?_, fun S' B' H' v u st vr q' => ?_, fun _ _ _ _ _ _ _ z => z.elim, fun _ _ _ _ _ _ _ z => z.elim, fun _ _ _ _ _ _ _ _ _ _ _ z => z.elim⟩
    · cases q'
    · cases u with
      | d x =>
        have e : x = .bool true := q'
        subst e
        cases (show Dv B' v (.bool true) from vr)
        exact q _
      | own ds' => cases q'
      | src => exact q'.elim
      | scr ns => exact q'.elim
      | any => exact q'.elim
      | obj _ _ _ => exact q'.elim
end
end K82
set_option Elab.async false
set_option linter.all false
set_option maxRecDepth 100000
set_option maxHeartbeats 4000000
namespace K82
open PySem PySem.Spec PyProof.Rows L2 Ly SX NdefX
section
variable {w : World} {K : PySem.W.Frag} {mg : Str → Option Value} {base : Heap}
theorem sn_B : NScope [("self" : Str), "line", "__class__"] [("self" : Str), "line"] ["__class__"] (defScope s_BadText_init) := nscope_by (by decide +kernel)
theorem sn_I : NScope [("self" : Str), "part", "__class__"] [("self" : Str), "part"] ["__class__"] (defScope s_InvalidDoubt_init) := nscope_by (by decide +kernel)
def tBd : TE := tOp rAddA (tC (.str "wrong line ")) (tCB rStrA (tCons (tVar 1) tNil))
def tIv : TE := tOp rAddA (tC (.str "invalid doubt: ")) (tVar 1)
theorem mkr_B0 (xt : xtra K = true) (fB : SupX.fnS K ("BadText", some "__init__") = SupX.valS "__init__" "BadText.__init__" (defArgs s_BadText_init) (defBody s_BadText_init) (defScope s_BadText_init)) (gB : mg "BadText" = some (.ref (aCB K))) (hB : Bl mg) : Mkr PP w K mg base 1 "BadText" "line" (aCB K) OkI := by
  unfold xtra at xt
  simp only [Bool.and_eq_true] at xt
  refine SupX.mkr_of (px := "line") (te := tBd) (Ok := OkI) fB xt.1 gB rfl (by decide +kernel) hB.m_super sn_B ⟨_, rfl, rfl⟩ rfl rfl (fun cc kV doc pm an cdv ct us hl => match us, hl with | [_, _], _ => rfl) ?_ (by decide) (by decide) (fun env => rfl) (fun env => ⟨_, rfl⟩) ?_
  · rintro ⟨nm, q, ps, b, sc, cl, c⟩ f A outer s H E e
    cases e
    exact pe_op op_addA pe_str (pe_callTy call_strA (by rfl) hB.m_str (by rfl) (pa_cons (pv 1) pa_nil))
  · rintro a x H Q ⟨i, rfl, h0, h1⟩ q
    have hl : i.natAbs.log2 < 1920 := log_ok (by omega) (by omega)
    have e : (Str.ofString (toString i)) = S (itx i) := toStr_itx i
    have hlen := itx_len (i := i) (by omega) (by omega)
    refine ⟨.int i, rfl, .inl ⟨i, rfl, hl, .inr (.inl ⟨_, _, rfl, rfl, ?_, q _⟩)⟩⟩
    rw [e, S_len]
    exact lsm (n := 11 + (itx i).length) (by omega)
theorem mkr_I0 (xt : xtra K = true) (fI : SupX.fnS K ("InvalidDoubt", some "__init__") = SupX.valS "__init__" "InvalidDoubt.__init__" (defArgs s_InvalidDoubt_init) (defBody s_InvalidDoubt_init) (defScope s_InvalidDoubt_init)) (gI : mg "InvalidDoubt" = some (.ref (aCI K))) (hB : Bl mg) : Mkr PP w K mg base 1 "InvalidDoubt" "part" (aCI K) OkS := by
  unfold xtra at xt
  simp only [Bool.and_eq_true] at xt
  refine SupX.mkr_of (px := "part") (te := tIv) (Ok := OkS) fI xt.2.1 gI rfl (by decide +kernel) hB.m_super sn_I ⟨_, rfl, rfl⟩ rfl rfl (fun cc kV doc pm an cdv ct us hl => match us, hl with | [_, _], _ => rfl) ?_ (by decide) (by decide) (fun env => rfl) (fun env => ⟨_, rfl⟩) ?_
  · rintro ⟨nm, q, ps, b, sc, cl, c⟩ f A outer s H E e
    cases e
    exact pe_op op_addA pe_str (pv 1)
  · rintro a x H Q ⟨s, rfl, h0⟩ q
    exact ⟨.str s, rfl, .inr (.inl ⟨_, _, rfl, rfl, lsm (n := 15 + s.length) (by omega), q _⟩)⟩
end
end K82
set_option Elab.async false
set_option linter.all false
set_option maxRecDepth 100000
set_option maxHeartbeats 4000000
namespace K82
open PySem PySem.Spec PyProof.Rows L2 Ly SX
/-- all that is known behind the top -/
structure Al (K : PySem.W.Frag) (mg : Str → Option Value) : Prop where
  hB : Bl mg
  xt : xtra K = true
  fB : SupX.fnS K ("BadText", some "__init__") = SupX.valS "__init__" "BadText.__init__" (defArgs s_BadText_init) (defBody s_BadText_init) (defScope s_BadText_init)
  fI : SupX.fnS K ("InvalidDoubt", some "__init__") = SupX.valS "__init__" "InvalidDoubt.__init__" (defArgs s_InvalidDoubt_init) (defBody s_InvalidDoubt_init) (defScope s_InvalidDoubt_init)
  gB : mg "BadText" = some (.ref (aCB K))
  gI : mg "InvalidDoubt" = some (.ref (aCI K))
  gH : mg "HallError" = some (.ref (aCH K))
  d_mask_of : Df K mg "mask_of" s_mask_of
  d_split_words : Df K mg "split_words" s_split_words
  d_written : Df K mg "written" s_written
  d_read_count : Df K mg "read_count" s_read_count
  d_read_number : Df K mg "read_number" s_read_number
  d_read_bound : Df K mg "read_bound" s_read_bound
  d_known_lot : Df K mg "known_lot" s_known_lot
  d_read_lot : Df K mg "read_lot" s_read_lot
  d_read_lots : Df K mg "read_lots" s_read_lots
  d_read_part : Df K mg "read_part" s_read_part
  d_read_doubt : Df K mg "read_doubt" s_read_doubt
  d_build_doubt : Df K mg "build_doubt" s_build_doubt
  d_parse_doubt : Df K mg "parse_doubt" s_parse_doubt
  d_format_deed : Df K mg "format_deed" s_format_deed
  d_format_deeds : Df K mg "format_deeds" s_format_deeds
  d_read_tell : Df K mg "read_tell" s_read_tell
  d_read_recount : Df K mg "read_recount" s_read_recount
  d_read_correct : Df K mg "read_correct" s_read_correct
  d_read_withdraw : Df K mg "read_withdraw" s_read_withdraw
  d_read_doubt_deed : Df K mg "read_doubt_deed" s_read_doubt_deed
  d_read_deed : Df K mg "read_deed" s_read_deed
  d_parse_deeds : Df K mg "parse_deeds" s_parse_deeds
  d_law_source : Df K mg "_law_source" s_law_source
  d_law_draw : Df K mg "_law_draw" s_law_draw
  d_law_group : Df K mg "_law_group" s_law_group
  d_law_plan : Df K mg "_law_plan" s_law_plan
  d_law_whole : Df K mg "_law_whole" s_law_whole
  d_law_lots_once : Df K mg "_law_lots_once" s_law_lots_once
  d_law_doubt_text : Df K mg "_law_doubt_text" s_law_doubt_text
  d_law_chain : Df K mg "_law_chain" s_law_chain
  d_law_line : Df K mg "_law_line" s_law_line
  d_law_row : Df K mg "_law_row" s_law_row
  d_law_number : Df K mg "_law_number" s_law_number
  d_law_signed : Df K mg "_law_signed" s_law_signed
  d_law_bound : Df K mg "_law_bound" s_law_bound
  d_law_drawn_doubt : Df K mg "_law_drawn_doubt" s_law_drawn_doubt
  d_law_deed : Df K mg "_law_deed" s_law_deed
  d_law_wrong_sign : Df K mg "_law_wrong_sign" s_law_wrong_sign
  d_law_bad_line : Df K mg "_law_bad_line" s_law_bad_line
  d_law_strange_line : Df K mg "_law_strange_line" s_law_strange_line
  d_law_wrong_line : Df K mg "_law_wrong_line" s_law_wrong_line
  d_law_spoilt : Df K mg "_law_spoilt" s_law_spoilt
  d_law_text : Df K mg "_law_text" s_law_text
  d_law_first_bad : Df K mg "_law_first_bad" s_law_first_bad
  d_law_rows : Df K mg "_law_rows" s_law_rows
  d_law_asked : Df K mg "_law_asked" s_law_asked
  d_law : Df K mg "law" s_law
  g_AtMost : mg "AtMost" = some (.ref (He.ga K "AtMost"))
  c_AtMost : Cls K (He.ga K "AtMost")
  m_AtMost : Mk K (He.ga K "AtMost") (He.ma K (He.ga K "AtMost") "__init__")
  n_AtMost_count : NoAttr K (He.ga K "AtMost") "count"
  f_AtMost : ∃ fd, Fun K "__init__" "AtMost.__init__" s_AtMost_init (He.ma K (He.ga K "AtMost") "__init__") fd
  g_Within : mg "Within" = some (.ref (He.ga K "Within"))
  c_Within : Cls K (He.ga K "Within")
  m_Within : Mk K (He.ga K "Within") (He.ma K (He.ga K "Within") "__init__")
  n_Within_limit : NoAttr K (He.ga K "Within") "limit"
  f_Within : ∃ fd, Fun K "__init__" "Within.__init__" s_Within_init (He.ma K (He.ga K "Within") "__init__") fd
  g_Lots : mg "Lots" = some (.ref (He.ga K "Lots"))
  c_Lots : Cls K (He.ga K "Lots")
  m_Lots : Mk K (He.ga K "Lots") (He.ma K (He.ga K "Lots") "__init__")
  n_Lots_lots : NoAttr K (He.ga K "Lots") "lots"
  n_Lots_masks : NoAttr K (He.ga K "Lots") "masks"
  f_Lots : ∃ fd, Fun K "__init__" "Lots.__init__" s_Lots_init (He.ma K (He.ga K "Lots") "__init__") fd
  g_Both : mg "Both" = some (.ref (He.ga K "Both"))
  c_Both : Cls K (He.ga K "Both")
  m_Both : Mk K (He.ga K "Both") (He.ma K (He.ga K "Both") "__init__")
  n_Both_first : NoAttr K (He.ga K "Both") "first"
  n_Both_second : NoAttr K (He.ga K "Both") "second"
  f_Both : ∃ fd, Fun K "__init__" "Both.__init__" s_Both_init (He.ma K (He.ga K "Both") "__init__") fd
  g_Either : mg "Either" = some (.ref (He.ga K "Either"))
  c_Either : Cls K (He.ga K "Either")
  m_Either : Mk K (He.ga K "Either") (He.ma K (He.ga K "Either") "__init__")
  n_Either_first : NoAttr K (He.ga K "Either") "first"
  n_Either_second : NoAttr K (He.ga K "Either") "second"
  f_Either : ∃ fd, Fun K "__init__" "Either.__init__" s_Either_init (He.ma K (He.ga K "Either") "__init__") fd
theorem al_of {K : PySem.W.Frag} {h : Heap} {mg : Str → Option Value} (X : K.In h) (G : h.Ns mainGlobals mg) (c : SaysK K) : Al K mg := by
  have c1 : He.SaysD fa fn K := congrArg (fun z : AlK => z.1) c
  have c2 : xtra K = true := congrArg (fun z : AlK => z.2.1) c
  have c3 : sps.map (SupX.fnS K) = [SupX.valS "__init__" "BadText.__init__" (defArgs s_BadText_init) (defBody s_BadText_init) (defScope s_BadText_init), SupX.valS "__init__" "InvalidDoubt.__init__" (defArgs s_InvalidDoubt_init) (defBody s_InvalidDoubt_init) (defScope s_InvalidDoubt_init)] := congrArg (fun z : AlK => z.2.2) c
  exact ⟨⟨He.free_ok X G (c1.fact 53 (f := .free "len") rfl), He.free_ok X G (c1.fact 51 (f := .free "int") rfl), He.free_ok X G (c1.fact 58 (f := .free "str") rfl), He.free_ok X G (c1.fact 60 (f := .free "tuple") rfl), He.free_ok X G (c1.fact 54 (f := .free "list") rfl), He.free_ok X G (c1.fact 49 (f := .free "bool") rfl), He.free_ok X G (c1.fact 55 (f := .free "min") rfl), He.free_ok X G (c1.fact 52 (f := .free "isinstance") rfl), He.free_ok X G (c1.fact 56 (f := .free "range") rfl), He.free_ok X G (c1.fact 50 (f := .free "enumerate") rfl), He.free_ok X G (c1.fact 57 (f := .free "sorted") rfl), He.free_ok X G (c1.fact 48 (f := .free "abs") rfl), He.free_ok X G (c1.fact 59 (f := .free "super") rfl), He.free_ok X G (c1.fact 47 (f := .free "ValueError") rfl), He.str_ok X G (c1.fact 61 (f := .str "DIGITS" "0123456789") rfl), He.int_ok X G (c1.fact 62 (f := .int "MOST_FIGURES" 12) rfl), He.int_ok X G (c1.fact 63 (f := .int "MOST_COUNT" 99) rfl), He.int_ok X G (c1.fact 64 (f := .int "MOST_LIMIT" 1000000) rfl), He.int_ok X G (c1.fact 65 (f := .int "MOST_LOTS" 24) rfl), He.int_ok X G (c1.fact 66 (f := .int "MOST_NUMBER" 39) rfl), He.int_ok X G (c1.fact 67 (f := .int "MOST_DEEP" 3) rfl)⟩,
    c2,
    (List.cons.inj c3).1,
    (List.cons.inj (List.cons.inj c3).2).1,
    He.glo_ok X G (c1.fact 70 (f := .glo "BadText") rfl),
    He.glo_ok X G (c1.fact 69 (f := .glo "InvalidDoubt") rfl),
    He.glo_ok X G (c1.fact 68 (f := .glo "HallError") rfl),
    by
    obtain ⟨fd, F⟩ := c1.def_ 0 rfl
    exact ⟨_, fd, He5.fun_of F, He.glo_ok X G (c1.fact 0 (f := .glo "mask_of") rfl)⟩,
    by
    obtain ⟨fd, F⟩ := c1.def_ 1 rfl
    exact ⟨_, fd, He5.fun_of F, He.glo_ok X G (c1.fact 1 (f := .glo "split_words") rfl)⟩,
    by
    obtain ⟨fd, F⟩ := c1.def_ 2 rfl
    exact ⟨_, fd, He5.fun_of F, He.glo_ok X G (c1.fact 2 (f := .glo "written") rfl)⟩,
    by
    obtain ⟨fd, F⟩ := c1.def_ 3 rfl
    exact ⟨_, fd, He5.fun_of F, He.glo_ok X G (c1.fact 3 (f := .glo "read_count") rfl)⟩,
    by
    obtain ⟨fd, F⟩ := c1.def_ 4 rfl
    exact ⟨_, fd, He5.fun_of F, He.glo_ok X G (c1.fact 4 (f := .glo "read_number") rfl)⟩,
    by
    obtain ⟨fd, F⟩ := c1.def_ 5 rfl
    exact ⟨_, fd, He5.fun_of F, He.glo_ok X G (c1.fact 5 (f := .glo "read_bound") rfl)⟩,
    by
    obtain ⟨fd, F⟩ := c1.def_ 8 rfl
    exact ⟨_, fd, He5.fun_of F, He.glo_ok X G (c1.fact 6 (f := .glo "known_lot") rfl)⟩,
    by
    obtain ⟨fd, F⟩ := c1.def_ 12 rfl
    exact ⟨_, fd, He5.fun_of F, He.glo_ok X G (c1.fact 7 (f := .glo "read_lot") rfl)⟩,
    by
    obtain ⟨fd, F⟩ := c1.def_ 13 rfl
    exact ⟨_, fd, He5.fun_of F, He.glo_ok X G (c1.fact 8 (f := .glo "read_lots") rfl)⟩,
    by
    obtain ⟨fd, F⟩ := c1.def_ 14 rfl
    exact ⟨_, fd, He5.fun_of F, He.glo_ok X G (c1.fact 9 (f := .glo "read_part") rfl)⟩,
    by
    obtain ⟨fd, F⟩ := c1.def_ 15 rfl
    exact ⟨_, fd, He5.fun_of F, He.glo_ok X G (c1.fact 10 (f := .glo "read_doubt") rfl)⟩,
    by
    obtain ⟨fd, F⟩ := c1.def_ 16 rfl
    exact ⟨_, fd, He5.fun_of F, He.glo_ok X G (c1.fact 11 (f := .glo "build_doubt") rfl)⟩,
    by
    obtain ⟨fd, F⟩ := c1.def_ 17 rfl
    exact ⟨_, fd, He5.fun_of F, He.glo_ok X G (c1.fact 12 (f := .glo "parse_doubt") rfl)⟩,
    by
    obtain ⟨fd, F⟩ := c1.def_ 18 rfl
    exact ⟨_, fd, He5.fun_of F, He.glo_ok X G (c1.fact 13 (f := .glo "format_deed") rfl)⟩,
    by
    obtain ⟨fd, F⟩ := c1.def_ 19 rfl
    exact ⟨_, fd, He5.fun_of F, He.glo_ok X G (c1.fact 14 (f := .glo "format_deeds") rfl)⟩,
    by
    obtain ⟨fd, F⟩ := c1.def_ 20 rfl
    exact ⟨_, fd, He5.fun_of F, He.glo_ok X G (c1.fact 15 (f := .glo "read_tell") rfl)⟩,
    by
    obtain ⟨fd, F⟩ := c1.def_ 21 rfl
    exact ⟨_, fd, He5.fun_of F, He.glo_ok X G (c1.fact 16 (f := .glo "read_recount") rfl)⟩,
    by
    obtain ⟨fd, F⟩ := c1.def_ 22 rfl
    exact ⟨_, fd, He5.fun_of F, He.glo_ok X G (c1.fact 17 (f := .glo "read_correct") rfl)⟩,
    by
    obtain ⟨fd, F⟩ := c1.def_ 23 rfl
    exact ⟨_, fd, He5.fun_of F, He.glo_ok X G (c1.fact 18 (f := .glo "read_withdraw") rfl)⟩,
    by
    obtain ⟨fd, F⟩ := c1.def_ 24 rfl
    exact ⟨_, fd, He5.fun_of F, He.glo_ok X G (c1.fact 19 (f := .glo "read_doubt_deed") rfl)⟩,
    by
    obtain ⟨fd, F⟩ := c1.def_ 25 rfl
    exact ⟨_, fd, He5.fun_of F, He.glo_ok X G (c1.fact 20 (f := .glo "read_deed") rfl)⟩,
    by
    obtain ⟨fd, F⟩ := c1.def_ 26 rfl
    exact ⟨_, fd, He5.fun_of F, He.glo_ok X G (c1.fact 21 (f := .glo "parse_deeds") rfl)⟩,
    by
    obtain ⟨fd, F⟩ := c1.def_ 27 rfl
    exact ⟨_, fd, He5.fun_of F, He.glo_ok X G (c1.fact 22 (f := .glo "_law_source") rfl)⟩,
    by
    obtain ⟨fd, F⟩ := c1.def_ 28 rfl
    exact ⟨_, fd, He5.fun_of F, He.glo_ok X G (c1.fact 23 (f := .glo "_law_draw") rfl)⟩,
    by
    obtain ⟨fd, F⟩ := c1.def_ 29 rfl
    exact ⟨_, fd, He5.fun_of F, He.glo_ok X G (c1.fact 24 (f := .glo "_law_group") rfl)⟩,
    by
    obtain ⟨fd, F⟩ := c1.def_ 30 rfl
    exact ⟨_, fd, He5.fun_of F, He.glo_ok X G (c1.fact 25 (f := .glo "_law_plan") rfl)⟩,
    by
    obtain ⟨fd, F⟩ := c1.def_ 31 rfl
    exact ⟨_, fd, He5.fun_of F, He.glo_ok X G (c1.fact 26 (f := .glo "_law_whole") rfl)⟩,
    by
    obtain ⟨fd, F⟩ := c1.def_ 32 rfl
    exact ⟨_, fd, He5.fun_of F, He.glo_ok X G (c1.fact 27 (f := .glo "_law_lots_once") rfl)⟩,
    by
    obtain ⟨fd, F⟩ := c1.def_ 33 rfl
    exact ⟨_, fd, He5.fun_of F, He.glo_ok X G (c1.fact 28 (f := .glo "_law_doubt_text") rfl)⟩,
    by
    obtain ⟨fd, F⟩ := c1.def_ 34 rfl
    exact ⟨_, fd, He5.fun_of F, He.glo_ok X G (c1.fact 29 (f := .glo "_law_chain") rfl)⟩,
    by
    obtain ⟨fd, F⟩ := c1.def_ 35 rfl
    exact ⟨_, fd, He5.fun_of F, He.glo_ok X G (c1.fact 30 (f := .glo "_law_line") rfl)⟩,
    by
    obtain ⟨fd, F⟩ := c1.def_ 36 rfl
    exact ⟨_, fd, He5.fun_of F, He.glo_ok X G (c1.fact 31 (f := .glo "_law_row") rfl)⟩,
    by
    obtain ⟨fd, F⟩ := c1.def_ 37 rfl
    exact ⟨_, fd, He5.fun_of F, He.glo_ok X G (c1.fact 32 (f := .glo "_law_number") rfl)⟩,
    by
    obtain ⟨fd, F⟩ := c1.def_ 38 rfl
    exact ⟨_, fd, He5.fun_of F, He.glo_ok X G (c1.fact 33 (f := .glo "_law_signed") rfl)⟩,
    by
    obtain ⟨fd, F⟩ := c1.def_ 39 rfl
    exact ⟨_, fd, He5.fun_of F, He.glo_ok X G (c1.fact 34 (f := .glo "_law_bound") rfl)⟩,
    by
    obtain ⟨fd, F⟩ := c1.def_ 40 rfl
    exact ⟨_, fd, He5.fun_of F, He.glo_ok X G (c1.fact 35 (f := .glo "_law_drawn_doubt") rfl)⟩,
    by
    obtain ⟨fd, F⟩ := c1.def_ 41 rfl
    exact ⟨_, fd, He5.fun_of F, He.glo_ok X G (c1.fact 36 (f := .glo "_law_deed") rfl)⟩,
    by
    obtain ⟨fd, F⟩ := c1.def_ 42 rfl
    exact ⟨_, fd, He5.fun_of F, He.glo_ok X G (c1.fact 37 (f := .glo "_law_wrong_sign") rfl)⟩,
    by
    obtain ⟨fd, F⟩ := c1.def_ 43 rfl
    exact ⟨_, fd, He5.fun_of F, He.glo_ok X G (c1.fact 38 (f := .glo "_law_bad_line") rfl)⟩,
    by
    obtain ⟨fd, F⟩ := c1.def_ 44 rfl
    exact ⟨_, fd, He5.fun_of F, He.glo_ok X G (c1.fact 39 (f := .glo "_law_strange_line") rfl)⟩,
    by
    obtain ⟨fd, F⟩ := c1.def_ 45 rfl
    exact ⟨_, fd, He5.fun_of F, He.glo_ok X G (c1.fact 40 (f := .glo "_law_wrong_line") rfl)⟩,
    by
    obtain ⟨fd, F⟩ := c1.def_ 46 rfl
    exact ⟨_, fd, He5.fun_of F, He.glo_ok X G (c1.fact 41 (f := .glo "_law_spoilt") rfl)⟩,
    by
    obtain ⟨fd, F⟩ := c1.def_ 47 rfl
    exact ⟨_, fd, He5.fun_of F, He.glo_ok X G (c1.fact 42 (f := .glo "_law_text") rfl)⟩,
    by
    obtain ⟨fd, F⟩ := c1.def_ 48 rfl
    exact ⟨_, fd, He5.fun_of F, He.glo_ok X G (c1.fact 43 (f := .glo "_law_first_bad") rfl)⟩,
    by
    obtain ⟨fd, F⟩ := c1.def_ 49 rfl
    exact ⟨_, fd, He5.fun_of F, He.glo_ok X G (c1.fact 44 (f := .glo "_law_rows") rfl)⟩,
    by
    obtain ⟨fd, F⟩ := c1.def_ 50 rfl
    exact ⟨_, fd, He5.fun_of F, He.glo_ok X G (c1.fact 45 (f := .glo "_law_asked") rfl)⟩,
    by
    obtain ⟨fd, F⟩ := c1.def_ 51 rfl
    exact ⟨_, fd, He5.fun_of F, He.glo_ok X G (c1.fact 46 (f := .glo "law") rfl)⟩,
    He.glo_ok X G (c1.fact 72 (f := .glo "AtMost") rfl),
    He.cls_ok (c1.fact 77 (f := .cls "AtMost") rfl),
    He.mkr_ok (c1.fact 78 (f := .mkr "AtMost") rfl),
    He.noat_ok (c1.fact 79 (f := .noat "AtMost" "count") rfl),
    by
    obtain ⟨fd, F⟩ := c1.def_ 6 rfl
    exact ⟨fd, He5.fun_of F⟩,
    He.glo_ok X G (c1.fact 73 (f := .glo "Within") rfl),
    He.cls_ok (c1.fact 80 (f := .cls "Within") rfl),
    He.mkr_ok (c1.fact 81 (f := .mkr "Within") rfl),
    He.noat_ok (c1.fact 82 (f := .noat "Within" "limit") rfl),
    by
    obtain ⟨fd, F⟩ := c1.def_ 7 rfl
    exact ⟨fd, He5.fun_of F⟩,
    He.glo_ok X G (c1.fact 74 (f := .glo "Lots") rfl),
    He.cls_ok (c1.fact 83 (f := .cls "Lots") rfl),
    He.mkr_ok (c1.fact 84 (f := .mkr "Lots") rfl),
    He.noat_ok (c1.fact 85 (f := .noat "Lots" "lots") rfl),
    He.noat_ok (c1.fact 86 (f := .noat "Lots" "masks") rfl),
    by
    obtain ⟨fd, F⟩ := c1.def_ 9 rfl
    exact ⟨fd, He5.fun_of F⟩,
    He.glo_ok X G (c1.fact 75 (f := .glo "Both") rfl),
    He.cls_ok (c1.fact 87 (f := .cls "Both") rfl),
    He.mkr_ok (c1.fact 88 (f := .mkr "Both") rfl),
    He.noat_ok (c1.fact 89 (f := .noat "Both" "first") rfl),
    He.noat_ok (c1.fact 90 (f := .noat "Both" "second") rfl),
    by
    obtain ⟨fd, F⟩ := c1.def_ 10 rfl
    exact ⟨fd, He5.fun_of F⟩,
    He.glo_ok X G (c1.fact 76 (f := .glo "Either") rfl),
    He.cls_ok (c1.fact 91 (f := .cls "Either") rfl),
    He.mkr_ok (c1.fact 92 (f := .mkr "Either") rfl),
    He.noat_ok (c1.fact 93 (f := .noat "Either" "first") rfl),
    He.noat_ok (c1.fact 94 (f := .noat "Either" "second") rfl),
    by
    obtain ⟨fd, F⟩ := c1.def_ 11 rfl
    exact ⟨fd, He5.fun_of F⟩⟩
section
variable {w : World} {K : PySem.W.Frag} {mg : Str → Option Value} {base : Heap}
theorem cal_law_draw (a : Al K mg) : C8.Cal PP w K mg base 1 "_law_draw" (spG 1 2 F_law_draw) [] := by
  obtain ⟨f, fd, Fn, g⟩ := a.d_law_draw
  exact cal_fn Fn g (ps := ["_law_source_here", "_law_size"]) (fun _ _ _ _ _ _ us hl => match us, hl with | [_, _], _ => rfl) (ok_law_draw a.hB Fn)
theorem cal_law_source (a : Al K mg) : C8.Cal PP w K mg base 1 "_law_source" (spSrc K) [] := by
  obtain ⟨f, fd, Fn, g⟩ := a.d_law_source
  exact cal_fn Fn g (ps := ["_law_script", "_law_place"]) (fun _ _ _ _ _ _ us hl => match us, hl with | [_, _], _ => rfl) (ok_law_source a.hB Fn)
theorem ask_of {k : Nat} (hk : 1 ≤ k) (a : Al K mg) : AskF PP w K mg base k (aCH K) := ask_of0 hk a.xt a.gB a.gI a.gH a.hB a.d_law_whole
theorem mkr_B (a : Al K mg) : Mkr PP w K mg base 1 "BadText" "line" (aCB K) OkI := mkr_B0 a.xt a.fB a.gB a.hB
theorem mkr_I (a : Al K mg) : Mkr PP w K mg base 1 "InvalidDoubt" "part" (aCI K) OkS := mkr_I0 a.xt a.fI a.gI a.hB
theorem cal_mask_of (a : Al K mg) : C8.Cal PP w K mg base 1 "mask_of" (spG 0 1 F_mask_of) [] := cal_ly (k := 0) a.d_mask_of sc_mask_of rfl (fun _ _ _ _ _ _ us hl => match us, hl with | [_], _ => rfl) fun f X cdv A outer s H E hX hr => ⟨_, _, bd_mask_of a.hB hX hr , fun ds P _ h => pr_mask_of ds P h⟩
theorem cal_split_words (a : Al K mg) : C8.Cal PP w K mg base 1 "split_words" (spG 0 1 F_split_words) [] := cal_ly (k := 0) a.d_split_words sc_split_words rfl (fun _ _ _ _ _ _ us hl => match us, hl with | [_], _ => rfl) fun f X cdv A outer s H E hX hr => ⟨_, _, bd_split_words a.hB hX hr , fun ds P _ h => pr_split_words ds P h⟩
theorem cal_written (a : Al K mg) : C8.Cal PP w K mg base 1 "written" (spG 0 1 F_written) [] := cal_ly (k := 0) a.d_written sc_written rfl (fun _ _ _ _ _ _ us hl => match us, hl with | [_], _ => rfl) fun f X cdv A outer s H E hX hr => ⟨_, _, bd_written a.hB hX hr , fun ds P _ h => pr_written ds P h⟩
theorem cal_read_count (a : Al K mg) : C8.Cal PP w K mg base 1 "read_count" (spG 0 1 F_read_count) [] := cal_ly (k := 0) a.d_read_count sc_read_count rfl (fun _ _ _ _ _ _ us hl => match us, hl with | [_], _ => rfl) fun f X cdv A outer s H E hX hr => ⟨_, _, bd_read_count a.hB hX hr , fun ds P _ h => pr_read_count ds P h⟩
theorem cal_read_number (a : Al K mg) : C8.Cal PP w K mg base 2 "read_number" (spG 0 1 F_read_number) [] := cal_ly (k := 1) a.d_read_number sc_read_number rfl (fun _ _ _ _ _ _ us hl => match us, hl with | [_], _ => rfl) fun f X cdv A outer s H E hX hr => ⟨_, _, bd_read_number a.hB hX hr ((cal_read_count a).up (by decide)), fun ds P _ h => pr_read_number ds P h⟩
theorem cal_read_bound (a : Al K mg) : C8.Cal PP w K mg base 3 "read_bound" (spG 0 1 F_read_bound) [] := cal_ly (k := 2) a.d_read_bound sc_read_bound rfl (fun _ _ _ _ _ _ us hl => match us, hl with | [_], _ => rfl) fun f X cdv A outer s H E hX hr => ⟨_, _, bd_read_bound a.hB hX hr ((cal_read_number a).up (by decide)), fun ds P _ h => pr_read_bound ds P h⟩
theorem cal_known_lot (a : Al K mg) : CalX PP w K mg base 3 "known_lot" (spX 1 (XV mg) F_known_lot) := cal_lyX (k := 2) a.d_known_lot sc_known_lot rfl (fun _ _ _ _ _ _ us hl => match us, hl with | [_], _ => rfl) fun f X cdv A outer s H E hX tk hp hr => ⟨_, bd_known_lot (k := 1) a.hB hX tk hp hr ((mkr_I a).up (by decide)) a.gI, fun ds P Px _ h => pr_known_lot ds P Px h⟩
theorem cal_read_lot (a : Al K mg) : C8.Cal PP w K mg base 2 "read_lot" (spG 0 1 F_read_lot) [] := cal_ly (k := 1) a.d_read_lot sc_read_lot rfl (fun _ _ _ _ _ _ us hl => match us, hl with | [_], _ => rfl) fun f X cdv A outer s H E hX hr => ⟨_, _, bd_read_lot a.hB hX hr ((cal_read_count a).up (by decide)), fun ds P _ h => pr_read_lot ds P h⟩
theorem cal_read_lots (a : Al K mg) : C8.Cal PP w K mg base 3 "read_lots" (spG 0 1 F_read_lots) [] := cal_ly (k := 2) a.d_read_lots sc_read_lots rfl (fun _ _ _ _ _ _ us hl => match us, hl with | [_], _ => rfl) fun f X cdv A outer s H E hX hr => ⟨_, _, bd_read_lots a.hB hX hr ((cal_read_lot a).up (by decide)), fun ds P _ h => pr_read_lots ds P h⟩
theorem fn_read_part (a : Al K mg) {f : Addr} {fd : FuncData} (Fn : Fun K "read_part" "read_part" s_read_part f fd) (g : mg "read_part" = some (.ref f)) : ∀ d, FnOk PP w K mg base CX0 (4 + d) f fd ["words", "start", "deep"] (spG 0 3 (F_read_part d))
  | 0 => fn_ly (k := 3) Fn sc_read_part rfl fun X cdv A outer s H E hX hr => ⟨_, _, bd_read_part a.hB hX hr ((cal_read_count a).up (by decide)) ((cal_read_lots a).up (by decide)) (cal_fn Fn g (ps := ["words", "start", "deep"]) (fun _ _ _ _ _ _ us hl => match us, hl with | [_, _, _], _ => rfl) (fn_vac rfl)), fun ds P _ h => pr_read_part 0 _ (fun _ z => nomatch z) ds P h⟩
  | d + 1 => fn_ly (k := 4 + d) Fn sc_read_part rfl fun X cdv A outer s H E hX hr => ⟨_, _, bd_read_part a.hB hX hr ((cal_read_count a).up (by omega)) ((cal_read_lots a).up (by omega)) (cal_fn Fn g (ps := ["words", "start", "deep"]) (fun _ _ _ _ _ _ us hl => match us, hl with | [_, _, _], _ => rfl) (fn_read_part a Fn g d)), fun ds P _ h => pr_read_part (d + 1) _ (fun e z => by cases z; rfl) ds P h⟩
theorem cal_read_part (a : Al K mg) : C8.Cal PP w K mg base 7 "read_part" (spG 0 3 (F_read_part 3)) [] := by
  obtain ⟨f, fd, Fn, g⟩ := a.d_read_part
  exact cal_fn Fn g (ps := ["words", "start", "deep"]) (fun _ _ _ _ _ _ us hl => match us, hl with | [_, _, _], _ => rfl) (fn_read_part a Fn g 3)
theorem cal_read_doubt (a : Al K mg) : C8.Cal PP w K mg base 8 "read_doubt" (spG 0 1 F_read_doubt) [] := cal_ly (k := 7) a.d_read_doubt sc_read_doubt rfl (fun _ _ _ _ _ _ us hl => match us, hl with | [_], _ => rfl) fun f X cdv A outer s H E hX hr => ⟨_, _, bd_read_doubt a.hB hX hr ((cal_read_part a).up (by decide)), fun ds P _ h => pr_read_doubt ds P h⟩
theorem mk_AtMost (a : Al K mg) : MakX PP w K mg base 3 "AtMost" (He.ga K "AtMost") (spI 2 (He.ga K "AtMost") (XV mg) F_AtMost) := by
  obtain ⟨fd, Fn⟩ := a.f_AtMost
  refine ⟨_, fd, ["self", "count"], a.m_AtMost, fn_lyI (k := 2) Fn sc_AtMost_init rfl fun X cdv A outer s H E hX tk hp hr => ⟨_, bd_AtMost_init (k := 1) a.hB hX tk hp hr ((mkr_I a).up (by decide)) a.gI a.c_AtMost a.n_AtMost_count, fun dx ds P Px _ h => pr_AtMost_init _ dx ds P Px h⟩, a.g_AtMost, Fn.binds (fun _ _ _ _ _ _ us hl => match us, hl with | [_, _], _ => rfl)⟩
theorem mk_Within (a : Al K mg) : MakX PP w K mg base 3 "Within" (He.ga K "Within") (spI 2 (He.ga K "Within") (XV mg) F_Within) := by
  obtain ⟨fd, Fn⟩ := a.f_Within
  refine ⟨_, fd, ["self", "limit"], a.m_Within, fn_lyI (k := 2) Fn sc_Within_init rfl fun X cdv A outer s H E hX tk hp hr => ⟨_, bd_Within_init (k := 1) a.hB hX tk hp hr ((mkr_I a).up (by decide)) a.gI a.c_Within a.n_Within_limit, fun dx ds P Px _ h => pr_Within_init _ dx ds P Px h⟩, a.g_Within, Fn.binds (fun _ _ _ _ _ _ us hl => match us, hl with | [_, _], _ => rfl)⟩
theorem mk_Lots (a : Al K mg) : MakX PP w K mg base 5 "Lots" (He.ga K "Lots") (spI 2 (He.ga K "Lots") (XV mg) F_Lots) := by
  obtain ⟨fd, Fn⟩ := a.f_Lots
  refine ⟨_, fd, ["self", "lots"], a.m_Lots, fn_lyI (k := 4) Fn sc_Lots_init rfl fun X cdv A outer s H E hX tk hp hr => ⟨_, bd_Lots_init (k := 3) a.hB hX tk hp hr ((cal_mask_of a).up (by decide)) ((cal_known_lot a).up (by decide)) ((mkr_I a).up (by decide)) a.gI a.c_Lots a.n_Lots_lots a.n_Lots_masks, fun dx ds P Px _ h => pr_Lots_init _ dx ds P Px h⟩, a.g_Lots, Fn.binds (fun _ _ _ _ _ _ us hl => match us, hl with | [_, _], _ => rfl)⟩
theorem mk_Both (a : Al K mg) : C8.Mak PP w K mg base 1 "Both" (He.ga K "Both") (spP (He.ga K "Both")) [] := by
  obtain ⟨fd, Fn⟩ := a.f_Both
  exact ⟨_, fd, ["self", "first", "second"], [], a.m_Both, ok_two a.c_Both a.n_Both_first a.n_Both_second Fn (.inl rfl), a.g_Both, Fn.binds (fun _ _ _ _ _ _ us hl => match us, hl with | [_, _, _], _ => rfl), .nil⟩
theorem mk_Either (a : Al K mg) : C8.Mak PP w K mg base 1 "Either" (He.ga K "Either") (spP (He.ga K "Either")) [] := by
  obtain ⟨fd, Fn⟩ := a.f_Either
  exact ⟨_, fd, ["self", "first", "second"], [], a.m_Either, ok_two a.c_Either a.n_Either_first a.n_Either_second Fn (.inr rfl), a.g_Either, Fn.binds (fun _ _ _ _ _ _ us hl => match us, hl with | [_, _, _], _ => rfl), .nil⟩
theorem fn_build_doubt (a : Al K mg) {f : Addr} {fd : FuncData} (Fn : Fun K "build_doubt" "build_doubt" s_build_doubt f fd) (g : mg "build_doubt" = some (.ref f)) : ∀ d, FnOk PP w K mg base (L2.CX PP w) (7 + 2 * d) f fd ["plain"] (spX 1 (XV mg) (F_build d))
  | 0 => fn_lyX (k := 6) Fn sc_build_doubt rfl fun X cdv A outer s H E hX tk hp hr => ⟨_, bd_build_doubt (k := 5) a.hB hX tk hp hr (calX_fn Fn g (ps := ["plain"]) (fun _ _ _ _ _ _ us hl => match us, hl with | [_], _ => rfl) (fn_vacX rfl)) ((mk_AtMost a).up (by decide)) ((mk_Within a).up (by decide)) ((mk_Lots a).up (by decide)) ((mk_Both a).up (by decide)) ((mk_Either a).up (by decide)), fun ds P Px _ h => pr_build_doubt 0 _ (fun _ z => nomatch z) ds P Px h⟩
  | d + 1 => fn_lyX (k := 7 + 2 * d + 1) Fn sc_build_doubt rfl fun X cdv A outer s H E hX tk hp hr => ⟨_, bd_build_doubt (k := 7 + 2 * d) a.hB hX tk hp hr (calX_fn Fn g (ps := ["plain"]) (fun _ _ _ _ _ _ us hl => match us, hl with | [_], _ => rfl) (fn_build_doubt a Fn g d)) ((mk_AtMost a).up (by omega)) ((mk_Within a).up (by omega)) ((mk_Lots a).up (by omega)) ((mk_Both a).up (by omega)) ((mk_Either a).up (by omega)), fun ds P Px _ h => pr_build_doubt (d + 1) _ (fun e z => by cases z; rfl) ds P Px h⟩
theorem cal_build_doubt (a : Al K mg) : CalX PP w K mg base 13 "build_doubt" (spX 1 (XV mg) (F_build 3)) := by
  obtain ⟨f, fd, Fn, g⟩ := a.d_build_doubt
  exact calX_fn Fn g (ps := ["plain"]) (fun _ _ _ _ _ _ us hl => match us, hl with | [_], _ => rfl) (fn_build_doubt a Fn g 3)
theorem cal_parse_doubt (a : Al K mg) : CalX PP w K mg base 15 "parse_doubt" (spX 1 (XV mg) F_parse_doubt) := cal_lyX (k := 14) a.d_parse_doubt sc_parse_doubt rfl (fun _ _ _ _ _ _ us hl => match us, hl with | [_], _ => rfl) fun f X cdv A outer s H E hX tk hp hr => ⟨_, bd_parse_doubt (k := 13) a.hB hX tk hp hr ((cal_read_doubt a).up (by decide)) ((cal_split_words a).up (by decide)) ((cal_build_doubt a).up (by decide)) ((mkr_B a).up (by decide)) a.gB, fun ds P Px _ h => pr_parse_doubt ds P Px h⟩
theorem cal_format_deed (a : Al K mg) : C8.Cal PP w K mg base 2 "format_deed" (spG 0 1 F_format_deed) [] := cal_ly (k := 1) a.d_format_deed sc_format_deed rfl (fun _ _ _ _ _ _ us hl => match us, hl with | [_], _ => rfl) fun f X cdv A outer s H E hX hr => ⟨_, _, bd_format_deed a.hB hX hr ((cal_written a).up (by decide)), fun ds P _ h => pr_format_deed ds P h⟩
theorem cal_format_deeds (a : Al K mg) : C8.Cal PP w K mg base 3 "format_deeds" (spG 0 1 F_format_deeds) [] := cal_ly (k := 2) a.d_format_deeds sc_format_deeds rfl (fun _ _ _ _ _ _ us hl => match us, hl with | [_], _ => rfl) fun f X cdv A outer s H E hX hr => ⟨_, _, bd_format_deeds a.hB hX hr ((cal_format_deed a).up (by decide)), fun ds P _ h => pr_format_deeds ds P h⟩
theorem cal_read_tell (a : Al K mg) : C8.Cal PP w K mg base 4 "read_tell" (spG 0 1 (F_words rtell)) [] := cal_ly (k := 3) a.d_read_tell sc_read_tell rfl (fun _ _ _ _ _ _ us hl => match us, hl with | [_], _ => rfl) fun f X cdv A outer s H E hX hr => ⟨_, _, bd_read_tell a.hB hX hr ((cal_read_count a).up (by decide)) ((cal_read_bound a).up (by decide)), fun ds P _ h => pr_read_tell ds P h⟩
theorem cal_read_recount (a : Al K mg) : C8.Cal PP w K mg base 3 "read_recount" (spG 0 1 (F_words rrecount)) [] := cal_ly (k := 2) a.d_read_recount sc_read_recount rfl (fun _ _ _ _ _ _ us hl => match us, hl with | [_], _ => rfl) fun f X cdv A outer s H E hX hr => ⟨_, _, bd_read_recount a.hB hX hr ((cal_read_number a).up (by decide)) ((cal_read_count a).up (by decide)), fun ds P _ h => pr_read_recount ds P h⟩
theorem cal_read_correct (a : Al K mg) : C8.Cal PP w K mg base 4 "read_correct" (spG 0 1 (F_words rcorrect)) [] := cal_ly (k := 3) a.d_read_correct sc_read_correct rfl (fun _ _ _ _ _ _ us hl => match us, hl with | [_], _ => rfl) fun f X cdv A outer s H E hX hr => ⟨_, _, bd_read_correct a.hB hX hr ((cal_read_bound a).up (by decide)) ((cal_read_count a).up (by decide)), fun ds P _ h => pr_read_correct ds P h⟩
theorem cal_read_withdraw (a : Al K mg) : C8.Cal PP w K mg base 2 "read_withdraw" (spG 0 1 (F_words rwithdraw)) [] := cal_ly (k := 1) a.d_read_withdraw sc_read_withdraw rfl (fun _ _ _ _ _ _ us hl => match us, hl with | [_], _ => rfl) fun f X cdv A outer s H E hX hr => ⟨_, _, bd_read_withdraw a.hB hX hr ((cal_read_count a).up (by decide)), fun ds P _ h => pr_read_withdraw ds P h⟩
theorem cal_read_doubt_deed (a : Al K mg) : C8.Cal PP w K mg base 16 "read_doubt_deed" (spG 0 1 F_read_doubt_deed) [] := cal_ly (k := 15) a.d_read_doubt_deed sc_read_doubt_deed rfl (fun _ _ _ _ _ _ us hl => match us, hl with | [_], _ => rfl) fun f X cdv A outer s H E hX hr => ⟨_, _, bd_read_doubt_deed a.hB hX hr ((cal_parse_doubt a).up (by decide)) a.gI a.gB (hT_of a.xt a.gB a.gI), fun ds P _ h => pr_read_doubt_deed ds P h⟩
theorem cal_read_deed (a : Al K mg) : C8.Cal PP w K mg base 17 "read_deed" (spG 0 1 F_read_deed) [] := cal_ly (k := 16) a.d_read_deed sc_read_deed rfl (fun _ _ _ _ _ _ us hl => match us, hl with | [_], _ => rfl) fun f X cdv A outer s H E hX hr => ⟨_, _, bd_read_deed a.hB hX hr ((cal_split_words a).up (by decide)) ((cal_read_tell a).up (by decide)) ((cal_read_recount a).up (by decide)) ((cal_read_correct a).up (by decide)) ((cal_read_withdraw a).up (by decide)) ((cal_read_doubt_deed a).up (by decide)), fun ds P _ h => pr_read_deed ds P h⟩
theorem cal_parse_deeds (a : Al K mg) : CalX PP w K mg base 19 "parse_deeds" (spX 1 (XV mg) F_parse_deeds) := cal_lyX (k := 18) a.d_parse_deeds sc_parse_deeds rfl (fun _ _ _ _ _ _ us hl => match us, hl with | [_], _ => rfl) fun f X cdv A outer s H E hX tk hp hr => ⟨_, bd_parse_deeds (k := 17) a.hB hX tk hp hr ((cal_read_deed a).up (by decide)) ((mkr_B a).up (by decide)) a.gB, fun ds P Px _ h => pr_parse_deeds ds P Px h⟩
theorem cal_law_group (a : Al K mg) : C8.Cal PP w K mg base 2 "_law_group" (spG 1 2 F_law_group) [] := cal_ly (k := 1) a.d_law_group sc_law_group rfl (fun _ _ _ _ _ _ us hl => match us, hl with | [_, _], _ => rfl) fun f X cdv A outer s H E hX hr => ⟨_, _, bd_law_group a.hB hX hr ((cal_law_draw a).up (by decide)), fun ds P _ h => pr_law_group ds P h⟩
theorem fn_law_plan (a : Al K mg) {f : Addr} {fd : FuncData} (Fn : Fun K "_law_plan" "_law_plan" s_law_plan f fd) (g : mg "_law_plan" = some (.ref f)) : ∀ d, FnOk PP w K mg base CX0 (3 + d) f fd ["_law_source_here", "_law_count", "_law_deep"] (spG 1 3 (F_law_plan d))
  | 0 => fn_ly (k := 2) Fn sc_law_plan rfl fun X cdv A outer s H E hX hr => ⟨_, _, bd_law_plan a.hB hX hr ((cal_law_draw a).up (by decide)) ((cal_law_group a).up (by decide)) (cal_fn Fn g (ps := ["_law_source_here", "_law_count", "_law_deep"]) (fun _ _ _ _ _ _ us hl => match us, hl with | [_, _, _], _ => rfl) (fn_vac rfl)), fun ds P _ h => pr_law_plan 0 _ (fun _ z => nomatch z) ds P h⟩
  | d + 1 => fn_ly (k := 3 + d) Fn sc_law_plan rfl fun X cdv A outer s H E hX hr => ⟨_, _, bd_law_plan a.hB hX hr ((cal_law_draw a).up (by omega)) ((cal_law_group a).up (by omega)) (cal_fn Fn g (ps := ["_law_source_here", "_law_count", "_law_deep"]) (fun _ _ _ _ _ _ us hl => match us, hl with | [_, _, _], _ => rfl) (fn_law_plan a Fn g d)), fun ds P _ h => pr_law_plan (d + 1) _ (fun e z => by cases z; rfl) ds P h⟩
theorem cal_law_plan (a : Al K mg) : C8.Cal PP w K mg base 5 "_law_plan" (spG 1 3 F_plan) [] := by
  obtain ⟨f, fd, Fn, g⟩ := a.d_law_plan
  exact cal_fn Fn g (ps := ["_law_source_here", "_law_count", "_law_deep"]) (fun _ _ _ _ _ _ us hl => match us, hl with | [_, _, _], _ => rfl) (fn_some fun e he => (fn_law_plan a Fn g e).mono (by omega))
theorem cal_law_whole (a : Al K mg) : C8.Cal PP w K mg base 1 "_law_whole" (spG 0 1 F_law_whole) [] := cal_ly (k := 0) a.d_law_whole sc_law_whole rfl (fun _ _ _ _ _ _ us hl => match us, hl with | [_], _ => rfl) fun f X cdv A outer s H E hX hr => ⟨_, _, bd_law_whole a.hB hX hr , fun ds P _ h => pr_law_whole ds P h⟩
theorem cal_law_lots_once (a : Al K mg) : C8.Cal PP w K mg base 1 "_law_lots_once" (spG 0 1 F_lots_once) [] := cal_ly (k := 0) a.d_law_lots_once sc_law_lots_once rfl (fun _ _ _ _ _ _ us hl => match us, hl with | [_], _ => rfl) fun f X cdv A outer s H E hX hr => ⟨_, _, bd_law_lots_once a.hB hX hr , fun ds P _ h => pr_lots_once ds P h⟩
theorem fn_doubt_text (a : Al K mg) {f : Addr} {fd : FuncData} (Fn : Fun K "_law_doubt_text" "_law_doubt_text" s_law_doubt_text f fd) (g : mg "_law_doubt_text" = some (.ref f)) : ∀ d, FnOk PP w K mg base CX0 (2 + d) f fd ["_law_plan_here"] (spG 0 1 (F_doubt_text d))
  | 0 => fn_ly (k := 1) Fn sc_law_doubt_text rfl fun X cdv A outer s H E hX hr => ⟨_, _, bd_law_doubt_text a.hB hX hr ((cal_law_lots_once a).up (by decide)) (cal_fn Fn g (ps := ["_law_plan_here"]) (fun _ _ _ _ _ _ us hl => match us, hl with | [_], _ => rfl) (fn_vac rfl)), fun ds P _ h => pr_doubt_text 0 _ (fun _ z => nomatch z) ds P h⟩
  | d + 1 => fn_ly (k := 2 + d) Fn sc_law_doubt_text rfl fun X cdv A outer s H E hX hr => ⟨_, _, bd_law_doubt_text a.hB hX hr ((cal_law_lots_once a).up (by omega)) (cal_fn Fn g (ps := ["_law_plan_here"]) (fun _ _ _ _ _ _ us hl => match us, hl with | [_], _ => rfl) (fn_doubt_text a Fn g d)), fun ds P _ h => pr_doubt_text (d + 1) _ (fun e z => by cases z; rfl) ds P h⟩
theorem cal_law_doubt_text (a : Al K mg) : C8.Cal PP w K mg base 7 "_law_doubt_text" (spG 0 1 (F_doubt_text 5)) [] := by
  obtain ⟨f, fd, Fn, g⟩ := a.d_law_doubt_text
  exact cal_fn Fn g (ps := ["_law_plan_here"]) (fun _ _ _ _ _ _ us hl => match us, hl with | [_], _ => rfl) (fn_doubt_text a Fn g 5)
theorem cal_law_chain (a : Al K mg) : C8.Cal PP w K mg base 2 "_law_chain" (spG 1 2 F_law_chain) [] := cal_ly (k := 1) a.d_law_chain sc_law_chain rfl (fun _ _ _ _ _ _ us hl => match us, hl with | [_, _], _ => rfl) fun f X cdv A outer s H E hX hr => ⟨_, _, bd_law_chain a.hB hX hr ((cal_law_draw a).up (by decide)), fun ds P _ h => pr_law_chain ds P h⟩
theorem cal_law_line (a : Al K mg) : C8.Cal PP w K mg base 1 "_law_line" (spG 0 1 F_law_line) [] := cal_ly (k := 0) a.d_law_line sc_law_line rfl (fun _ _ _ _ _ _ us hl => match us, hl with | [_], _ => rfl) fun f X cdv A outer s H E hX hr => ⟨_, _, bd_law_line a.hB hX hr , fun ds P _ h => pr_law_line ds P h⟩
theorem cal_law_row (a : Al K mg) : C8.Cal PP w K mg base 2 "_law_row" (spG 0 2 F_law_row) [] := cal_ly (k := 1) a.d_law_row sc_law_row rfl (fun _ _ _ _ _ _ us hl => match us, hl with | [_, _], _ => rfl) fun f X cdv A outer s H E hX hr => ⟨_, _, bd_law_row a.hB hX hr ((cal_law_whole a).up (by decide)), fun ds P _ h => pr_law_row ds P h⟩
theorem cal_law_number (a : Al K mg) : C8.Cal PP w K mg base 2 "_law_number" (spG 1 1 F_law_number) [] := cal_ly (k := 1) a.d_law_number sc_law_number rfl (fun _ _ _ _ _ _ us hl => match us, hl with | [_], _ => rfl) fun f X cdv A outer s H E hX hr => ⟨_, _, bd_law_number a.hB hX hr ((cal_law_draw a).up (by decide)), fun ds P _ h => pr_law_number ds P h⟩
theorem cal_law_signed (a : Al K mg) : C8.Cal PP w K mg base 3 "_law_signed" (spG 1 1 F_law_signed) [] := cal_ly (k := 2) a.d_law_signed sc_law_signed rfl (fun _ _ _ _ _ _ us hl => match us, hl with | [_], _ => rfl) fun f X cdv A outer s H E hX hr => ⟨_, _, bd_law_signed a.hB hX hr ((cal_law_number a).up (by decide)) ((cal_law_draw a).up (by decide)), fun ds P _ h => pr_law_signed ds P h⟩
theorem cal_law_bound (a : Al K mg) : C8.Cal PP w K mg base 4 "_law_bound" (spG 1 1 F_law_bound) [] := cal_ly (k := 3) a.d_law_bound sc_law_bound rfl (fun _ _ _ _ _ _ us hl => match us, hl with | [_], _ => rfl) fun f X cdv A outer s H E hX hr => ⟨_, _, bd_law_bound a.hB hX hr ((cal_law_signed a).up (by decide)) ((cal_law_draw a).up (by decide)), fun ds P _ h => pr_law_bound ds P h⟩
theorem cal_law_drawn_doubt (a : Al K mg) : C8.Cal PP w K mg base 6 "_law_drawn_doubt" (spG 1 1 F_drawn_doubt) [] := cal_ly (k := 5) a.d_law_drawn_doubt sc_law_drawn_doubt rfl (fun _ _ _ _ _ _ us hl => match us, hl with | [_], _ => rfl) fun f X cdv A outer s H E hX hr => ⟨_, _, bd_law_drawn_doubt a.hB hX hr ((cal_law_draw a).up (by decide)) ((cal_law_chain a).up (by decide)) ((cal_law_group a).up (by decide)) ((cal_law_plan a).up (by decide)), fun ds P _ h => pr_drawn_doubt ds P h⟩
theorem cal_law_deed (a : Al K mg) : C8.Cal PP w K mg base 8 "_law_deed" (spG 1 2 F_law_deed) [] := cal_ly (k := 7) a.d_law_deed sc_law_deed rfl (fun _ _ _ _ _ _ us hl => match us, hl with | [_, _], _ => rfl) fun f X cdv A outer s H E hX hr => ⟨_, _, bd_law_deed a.hB hX hr ((cal_law_draw a).up (by decide)) ((cal_law_number a).up (by decide)) ((cal_law_bound a).up (by decide)) ((cal_law_signed a).up (by decide)) ((cal_law_doubt_text a).up (by decide)) ((cal_law_chain a).up (by decide)) ((cal_law_drawn_doubt a).up (by decide)), fun ds P _ h => pr_law_deed ds P h⟩
theorem cal_law_wrong_sign (a : Al K mg) : C8.Cal PP w K mg base 2 "_law_wrong_sign" (spG 1 2 F_wrong_sign) [] := cal_ly (k := 1) a.d_law_wrong_sign sc_law_wrong_sign rfl (fun _ _ _ _ _ _ us hl => match us, hl with | [_, _], _ => rfl) fun f X cdv A outer s H E hX hr => ⟨_, _, bd_law_wrong_sign a.hB hX hr ((cal_law_draw a).up (by decide)), fun ds P _ h => pr_wrong_sign ds P h⟩
theorem cal_law_bad_line (a : Al K mg) : C8.Cal PP w K mg base 3 "_law_bad_line" (spG 1 2 F_bad_line) [] := cal_ly (k := 2) a.d_law_bad_line sc_law_bad_line rfl (fun _ _ _ _ _ _ us hl => match us, hl with | [_, _], _ => rfl) fun f X cdv A outer s H E hX hr => ⟨_, _, bd_law_bad_line a.hB hX hr ((cal_law_draw a).up (by decide)) ((cal_law_wrong_sign a).up (by decide)), fun ds P _ h => pr_bad_line ds P h⟩
theorem cal_law_strange_line (a : Al K mg) : C8.Cal PP w K mg base 2 "_law_strange_line" (spG 1 1 F_strange) [] := cal_ly (k := 1) a.d_law_strange_line sc_law_strange_line rfl (fun _ _ _ _ _ _ us hl => match us, hl with | [_], _ => rfl) fun f X cdv A outer s H E hX hr => ⟨_, _, bd_law_strange_line a.hB hX hr ((cal_law_draw a).up (by decide)), fun ds P _ h => pr_strange ds P h⟩
theorem cal_law_wrong_line (a : Al K mg) : C8.Cal PP w K mg base 8 "_law_wrong_line" (spG 1 2 F_wrong_line) [] := cal_ly (k := 7) a.d_law_wrong_line sc_law_wrong_line rfl (fun _ _ _ _ _ _ us hl => match us, hl with | [_, _], _ => rfl) fun f X cdv A outer s H E hX hr => ⟨_, _, bd_law_wrong_line a.hB hX hr ((cal_law_draw a).up (by decide)) ((cal_law_strange_line a).up (by decide)) ((cal_law_doubt_text a).up (by decide)) ((cal_law_chain a).up (by decide)) ((cal_law_bad_line a).up (by decide)), fun ds P _ h => pr_wrong_line ds P h⟩
theorem cal_law_spoilt (a : Al K mg) : C8.Cal PP w K mg base 9 "_law_spoilt" (spG 1 2 F_spoilt) [] := cal_ly (k := 8) a.d_law_spoilt sc_law_spoilt rfl (fun _ _ _ _ _ _ us hl => match us, hl with | [_, _], _ => rfl) fun f X cdv A outer s H E hX hr => ⟨_, _, bd_law_spoilt a.hB hX hr ((cal_law_draw a).up (by decide)) ((cal_law_wrong_line a).up (by decide)), fun ds P _ h => pr_spoilt ds P h⟩
theorem cal_law_text (a : Al K mg) : C8.Cal PP w K mg base 1 "_law_text" (spG 0 1 F_law_text) [] := cal_ly (k := 0) a.d_law_text sc_law_text rfl (fun _ _ _ _ _ _ us hl => match us, hl with | [_], _ => rfl) fun f X cdv A outer s H E hX hr => ⟨_, _, bd_law_text a.hB hX hr , fun ds P _ h => pr_law_text ds P h⟩
theorem cal_law_first_bad (a : Al K mg) : C8.Cal PP w K mg base 2 "_law_first_bad" (spG 0 1 F_first_bad) [] := cal_ly (k := 1) a.d_law_first_bad sc_law_first_bad rfl (fun _ _ _ _ _ _ us hl => match us, hl with | [_], _ => rfl) fun f X cdv A outer s H E hX hr => ⟨_, _, bd_law_first_bad a.hB hX hr ((cal_law_text a).up (by decide)), fun ds P _ h => pr_first_bad ds P h⟩
theorem cal_law_rows (a : Al K mg) : C8.Cal PP w K mg base 3 "_law_rows" (spG 0 2 F_law_rows) [] := cal_ly (k := 2) a.d_law_rows sc_law_rows rfl (fun _ _ _ _ _ _ us hl => match us, hl with | [_, _], _ => rfl) fun f X cdv A outer s H E hX hr => ⟨_, _, bd_law_rows a.hB hX hr ((cal_law_row a).up (by decide)), fun ds P _ h => pr_law_rows ds P h⟩
theorem cal_law_asked (a : Al K mg) : C8.Cal PP w K mg base 20 "_law_asked" (spG 0 1 F_law_asked) [] := cal_ly (k := 19) a.d_law_asked sc_law_asked rfl (fun _ _ _ _ _ _ us hl => match us, hl with | [_], _ => rfl) fun f X cdv A outer s H E hX hr => ⟨_, _, bd_law_asked a.hB hX hr ((cal_law_text a).up (by decide)) ((cal_law_first_bad a).up (by decide)) ((cal_law_rows a).up (by decide)) ((cal_format_deeds a).up (by decide)) ((cal_parse_deeds a).up (by decide)) (ask_of (by decide) a), fun ds P _ h => pr_law_asked ds P h⟩
-- law: base level 20
theorem ok_law (a : Al K mg) {f : Addr} {fd : FuncData} (Fn : Fun K "law" "law" s_law f fd) : FnOk PP w K mg base CX0 21 f fd ["_law_script"] (spLaw K) := ok_law0 (k := 20) Fn fun f X cdv A outer s H E hX hr => bd_law a.hB hX hr ((cal_law_draw a).up (by decide)) ((cal_law_deed a).up (by decide)) ((cal_law_line a).up (by decide)) ((cal_format_deeds a).up (by decide)) ((cal_law_text a).up (by decide)) ((cal_law_asked a).up (by decide)) ((cal_law_spoilt a).up (by decide)) ((cal_law_source a).up (by decide))
theorem law_binds {f : Addr} {fd : FuncData} (Fn : Fun K "law" "law" s_law f fd) (s : Shared) (v : Value) : BindsTo s fd ⟨[v], []⟩ [("_law_script", v)] := by
  obtain ⟨oc, od, kV, doc, pm, an, cdv, ct, osl, rfl, _, _⟩ := Fn.ex
  exact .of_eq rfl
end
end K82
set_option Elab.async false
set_option linter.all false
set_option maxRecDepth 100000
set_option maxHeartbeats 0
open PySem PySem.W PySem.Calls PyProof.Rows
theorem PySem.Challenge.cw_counthall_k82_deeds_text_reads_back_holds : PySem.Challenge.rw_counthall_k82_deeds_text_reads_back.Holds := by
  w_on; o_law
  refine HandSHeadRun.head_any (r := OpenLaw.row PySem.Challenge.rw_counthall_k82_deeds_text_reads_back) (q := view (OpenLaw.row PySem.Challenge.rw_counthall_k82_deeds_text_reads_back).prog [68]) (H := K82.hk) (ob := K82.ob) (M := 30000) (loose := K82.loose) (d := HandSHeadRun.topDef (OpenLaw.row PySem.Challenge.rw_counthall_k82_deeds_text_reads_back).prog 68) (kwd := []) K82.ob_eq
    (by kernel_rfl) (fun s => by kernel_rfl) K82.run (by kernel_rfl) (by kernel_rfl) (by kernel_rfl) (by rfl) (by first | assumption | decide +kernel) (by decide +kernel) ⟨rfl, rfl, rfl, rfl, rfl, by decide +kernel⟩ ?hw ?hc
  case hw => w_witness2
  case hc =>
    refine L2.walk_ofE (l := PySem.Challenge.rw_counthall_k82_deeds_text_reads_back) (n := 63) (k := 21) (x := "_law_script") (CX := L2.CX0) rfl (by decide) (by kernel_rfl) ⟨rfl, by decide, by decide⟩ ?F (fun _ _ _ _ z => z)
    intro w mg fa h Y G hmg0
    obtain ⟨K, KX, c⟩ := Y
    have hmg : mg ("law" : PySem.Str) = some (.ref fa) := by
      have e : (HandSHeadRun.topDef (OpenLaw.row PySem.Challenge.rw_counthall_k82_deeds_text_reads_back).prog 68).name = ("law" : PySem.Str) := by kernel_rfl
      rw [← e]
      exact hmg0
    have a := K82.al_of KX G c
    obtain ⟨f, fd, Fn, g⟩ := a.d_law
    have e := hmg.symm.trans g
    cases e
    have b := fun (s : Shared) (v : Value) => K82.law_binds Fn s v
    exact ⟨K, fd, K82.spLaw K, KX, b, fun H a ns hl _ hS => ⟨a, ns, rfl, hS, hl, fun _ => rfl⟩, fun base _ _ => K82.ok_law a Fn⟩
