import PyProof.Rows.All
import Wide.All
import OpenK.AllK
import Wide.FinOn
import HandS.ForMost
import HandS.Evl
import HandS.Wide
import HandS.Gcd
import HandS.IsInst
import HandS.TupAny
import HandS.Style
import HandS.Walk
import HandS.Deep
import HandS.More
import HandS.Conv
import HandS.Flow
import PyProof.ReprRoads
import HandS.RaiseMore
import KE.GoesEnum
import HandS.Defaults
import HandS.SetBool
import HandS.SortInts
import HandS.Strs
import HandS.Ends
import PyProof.P3Eq
import PyProof.FitsInt
import PySem.Challenge.RW_leastfield_k12_whole_inside_and_outside
set_option Elab.async false
set_option linter.all false
set_option maxRecDepth 100000
/-! My layer: data instead of addresses. Da: what a value is; Dt: a value is this data in the still part S of the heap. -/
namespace G
open PySem PySem.Spec L2
open Evl (Ex)

inductive Da where
  | non | bl (b : Bool) | int (i : Int) | str (x : Str) | tup (xs : List Da) | lst (xs : List Da) | plate (o h : Da) | obj (a : Addr) | scr (xs : List Da)

mutual
inductive Dt (K : PySem.W.Frag) (C : Addr) (S : Hp) : V → Da → Prop
  | non : Dt K C S .non .non
  | bl (b : Bool) : Dt K C S (.bl b) (.bl b)
  | int (i : Int) : Dt K C S (.int i) (.int i)
  | str (x : Str) : Dt K C S (.str x) (.str x)
  | tup {a : Addr} {xs : List V} {ds : List Da} : S a = some (.tup xs) → DtAll K C S xs ds → Dt K C S (.ref a) (.tup ds)
  | lst {a : Addr} {xs : List V} {ds : List Da} : S a = some (.lst xs) → DtAll K C S xs ds → Dt K C S (.ref a) (.lst ds)
  | obj (a : Addr) : Dt K C S (.ref a) (.obj a)
  | scr {a : Addr} {xs : List V} {ds : List Da} : (∀ H, Ex S H → SqL K H a xs) → DtAll K C S xs ds → Dt K C S (.ref a) (.scr ds)
  | plate {p dx : Addr} {fs : List (Str × V)} {v w : V} {o h : Da} : S p = some (.ins C dx fs) → fs.lookup ("outer" : Str) = some v → fs.lookup ("holes" : Str) = some w → Dt K C S v o → Dt K C S w h → Dt K C S (.ref p) (.plate o h)
inductive DtAll (K : PySem.W.Frag) (C : Addr) (S : Hp) : List V → List Da → Prop
  | nil : DtAll K C S [] []
  | cons {v : V} {vs : List V} {d : Da} {ds : List Da} : Dt K C S v d → DtAll K C S vs ds → DtAll K C S (v :: vs) (d :: ds)
end

section
variable {K : PySem.W.Frag} {C : Addr} {S S' : Hp}
mutual
theorem Dt.mono (e : Ex S S') : ∀ {d : Da} {v : V}, Dt K C S v d → Dt K C S' v d
  | .non, _, h => by cases h; exact .non
  | .bl b, _, h => by cases h; exact .bl b
  | .int i, _, h => by cases h; exact .int i
  | .str x, _, h => by cases h; exact .str x
  | .obj a, _, h => by cases h; exact .obj a
  | .scr ds, _, h => by
    cases h with
    | scr h1 h2 => exact .scr (fun H e' => h1 H (e.trans e')) (DtAll.mono e h2)
  | .tup ds, _, h => by
    cases h with
    | tup h1 h2 => exact .tup (e _ _ h1) (DtAll.mono e h2)
  | .lst ds, _, h => by
    cases h with
    | lst h1 h2 => exact .lst (e _ _ h1) (DtAll.mono e h2)
  | .plate o q, _, h => by
    cases h with
    | plate h1 h2 h3 h4 h5 => exact .plate (e _ _ h1) h2 h3 (Dt.mono e h4) (Dt.mono e h5)
theorem DtAll.mono (e : Ex S S') : ∀ {ds : List Da} {vs : List V}, DtAll K C S vs ds → DtAll K C S' vs ds
  | [], _, h => by cases h; exact .nil
  | d :: ds, _, h => by
    cases h with
    | cons h1 h2 => exact .cons (Dt.mono e h1) (DtAll.mono e h2)
end
theorem DtAll.len : ∀ {ds : List Da} {vs : List V}, DtAll K C S vs ds → vs.length = ds.length
  | [], _, h => by cases h; rfl
  | d :: ds, _, h => by
    cases h with
    | cons h1 h2 => exact congrArg Nat.succ (DtAll.len h2)
theorem DtAll.get : ∀ {ds : List Da} {vs : List V} {i : Nat} {v : V}, DtAll K C S vs ds → vs[i]? = some v → ∃ d, ds[i]? = some d ∧ Dt K C S v d
  | [], _, i, v, h, e => by cases h; simp at e
  | d :: ds, _, 0, v, h, e => by
    cases h with
    | cons h1 h2 => simp at e; subst e; exact ⟨d, rfl, h1⟩
  | d :: ds, _, i + 1, v, h, e => by
    cases h with
    | cons h1 h2 =>
      obtain ⟨d', e1, e2⟩ := DtAll.get (i := i) h2 (by simpa using e)
      exact ⟨d', by simpa using e1, e2⟩
theorem DtAll.get' : ∀ {ds : List Da} {vs : List V} {i : Nat} {d : Da}, DtAll K C S vs ds → ds[i]? = some d → ∃ v, vs[i]? = some v ∧ Dt K C S v d := fun {ds vs i d} h e => by
  have hl := h.len
  obtain ⟨hi, _⟩ := List.getElem?_eq_some_iff.mp e
  obtain ⟨d', e1, e2⟩ := h.get (i := i) (v := vs[i]'(by omega)) (List.getElem?_eq_getElem _)
  rw [e] at e1
  cases e1
  exact ⟨_, List.getElem?_eq_getElem _, e2⟩
theorem DtAll.app : ∀ {ds es : List Da} {vs ws : List V}, DtAll K C S vs ds → DtAll K C S ws es → DtAll K C S (vs ++ ws) (ds ++ es)
  | [], _, _, _, h, g => by cases h; exact g
  | d :: ds, _, _, _, h, g => by
    cases h with
    | cons h1 h2 => exact .cons h1 (DtAll.app h2 g)
theorem DtAll.take : ∀ {ds : List Da} {vs : List V} (n : Nat), DtAll K C S vs ds → DtAll K C S (vs.take n) (ds.take n)
  | _, _, 0, _ => by simpa using DtAll.nil
  | [], _, n + 1, h => by cases h; exact .nil
  | d :: ds, _, n + 1, h => by
    cases h with
    | cons h1 h2 => exact .cons h1 (DtAll.take n h2)
theorem DtAll.drop : ∀ {ds : List Da} {vs : List V} (n : Nat), DtAll K C S vs ds → DtAll K C S (vs.drop n) (ds.drop n)
  | _, _, 0, h => h
  | [], _, n + 1, h => by cases h; exact .nil
  | d :: ds, _, n + 1, h => by
    cases h with
    | cons h1 h2 => exact DtAll.drop n h2
theorem DtAll.rev : ∀ {ds : List Da} {vs : List V}, DtAll K C S vs ds → DtAll K C S vs.reverse ds.reverse
  | [], _, h => by cases h; exact .nil
  | d :: ds, _, h => by
    cases h with
    | cons h1 h2 =>
      rw [List.reverse_cons, List.reverse_cons]
      exact (DtAll.rev h2).app (.cons h1 .nil)
theorem DtAll.one {v : V} {d : Da} (h : Dt K C S v d) : DtAll K C S [v] [d] := .cons h .nil
theorem DtAll.atI {ds : List Da} {vs : List V} {i : Int} {v : V} (h : DtAll K C S vs ds) (e : L2.atI vs i = some v) : ∃ d, L2.atI ds i = some d ∧ Dt K C S v d := by
  have hl := h.len
  unfold L2.atI at e ⊢
  rw [hl] at e
  cases q : ixN ds.length i with
  | none => rw [q] at e; cases e
  | some j =>
    rw [q] at e
    exact h.get e
theorem DtAll.atI' {ds : List Da} {vs : List V} {i : Int} {d : Da} (h : DtAll K C S vs ds) (e : L2.atI ds i = some d) : ∃ v, L2.atI vs i = some v ∧ Dt K C S v d := by
  have hl := h.len
  unfold L2.atI at e ⊢
  rw [hl]
  cases q : ixN ds.length i with
  | none => rw [q] at e; cases e
  | some j =>
    rw [q] at e
    exact h.get' e
end

/-! ### data as the library's -/
mutual
def Da.py : Da → PyData
  | .non => .none
  | .bl b => .bool b
  | .int i => .int i
  | .str x => .str x
  | .tup xs => .tuple (Da.pys xs)
  | .lst xs => .list (Da.pys xs)
  | .plate _ _ => .none
  | .obj _ => .none
  | .scr _ => .none
def Da.pys : List Da → List PyData
  | [] => []
  | d :: ds => Da.py d :: Da.pys ds
end
mutual
def Da.flat : Da → Bool
  | .tup xs => Da.flats xs
  | .lst xs => Da.flats xs
  | .plate _ _ => false
  | .obj _ => false
  | .scr _ => false
  | _ => true
def Da.flats : List Da → Bool
  | [] => true
  | d :: ds => Da.flat d && Da.flats ds
end
section
variable {K : PySem.W.Frag} {C : Addr} {S : Hp}
mutual
theorem Dt.dp : ∀ {d : Da} {v : V}, d.flat = true → Dt K C S v d → Dp K S v d.py
  | .non, _, _, h => by cases h; exact .non
  | .bl b, _, _, h => by cases h; exact .bl b
  | .int i, _, _, h => by cases h; exact .int i
  | .str x, _, _, h => by cases h; exact .str x
  | .tup ds, _, f, h => by
    cases h with
    | tup h1 h2 => exact .tup (.of h1) (DtAll.dp f h2)
  | .lst ds, _, f, h => by
    cases h with
    | lst h1 h2 => exact .lst (.of h1) (DtAll.dp f h2)
  | .plate o q, _, f, h => by cases f
  | .obj a, _, f, h => by cases f
  | .scr ds, _, f, h => by cases f
theorem DtAll.dp : ∀ {ds : List Da} {vs : List V}, Da.flats ds = true → DtAll K C S vs ds → DpAll K S vs (Da.pys ds)
  | [], _, _, h => by cases h; exact .nil
  | d :: ds, _, f, h => by
    cases h with
    | cons h1 h2 =>
      have f' : (Da.flat d && Da.flats ds) = true := f
      rw [Bool.and_eq_true] at f'
      exact .cons (Dt.dp f'.1 h1) (DtAll.dp f'.2 h2)
end
end

/-! ### states -/
abbrev Dl := Option (Addr × Addr)
def NotD (dl : Dl) (a : Addr) : Prop := ∀ p, dl = some p → a ≠ p.1 ∧ a ≠ p.2
def DealOk (dl : Dl) (S H : Hp) : Prop := ∀ p, dl = some p → p.1 ≠ p.2 ∧ S p.1 = none ∧ S p.2 = none ∧ ∃ (cells : List Int) (mix : Int), cells.length ≤ 63 ∧ H p.1 = some (.lst [.ref p.2, .int mix]) ∧ H p.2 = some (.lst (cells.map .int))
structure Wf (dl : Dl) (S H : Hp) : Prop where
  sh : Ex S H
  dk : DealOk dl S H
structure Ext (dl : Dl) (S H S' H' : Hp) : Prop where
  ss : Ex S S'
  w : Wf dl S' H'
  nw : ∀ a o, H a = some o → S' a = S a
  hh : ∀ a o, H a = some o → NotD dl a → H' a = some o
theorem Ext.refl {dl : Dl} {S H : Hp} (w : Wf dl S H) : Ext dl S H S H := ⟨Ex.refl _, w, fun _ _ _ => rfl, fun _ _ h _ => h⟩
theorem Ext.there {dl : Dl} {S H S' H' : Hp} (e : Ext dl S H S' H') {a : Addr} {o : HO} (h : H a = some o) : ∃ o', H' a = some o' := by
  by_cases n : NotD dl a
  · exact ⟨o, e.hh a o h n⟩
  · unfold NotD at n
    simp only [Classical.not_forall] at n
    obtain ⟨p, hp, hn⟩ := n
    obtain ⟨_, _, _, cells, mix, _, h1, h2⟩ := e.w.dk p hp
    by_cases h3 : a = p.1
    · exact ⟨_, h3 ▸ h1⟩
    · by_cases h4 : a = p.2
      · exact ⟨_, h4 ▸ h2⟩
      · exact absurd ⟨h3, h4⟩ hn
theorem Ext.fresh {dl : Dl} {S H S' H' : Hp} (e : Ext dl S H S' H') {a : Addr} (h : H' a = none) : H a = none := by
  cases q : H a with
  | none => rfl
  | some o =>
    obtain ⟨o', e'⟩ := e.there q
    rw [h] at e'
    cases e'
theorem Ext.trans {dl : Dl} {S H S1 H1 S2 H2 : Hp} (a : Ext dl S H S1 H1) (b : Ext dl S1 H1 S2 H2) : Ext dl S H S2 H2 :=
  ⟨a.ss.trans b.ss, b.w, fun x o h => by
    obtain ⟨o', h'⟩ := a.there h
    rw [b.nw x o' h', a.nw x o h], fun x o h n => b.hh x o (a.hh x o h n) n⟩
/-- a def that is handed no deal -/
theorem Ext.lift {dl : Dl} {S H S' H' : Hp} (e : Ext none S H S' H') (w : Wf dl S H) : Ext dl S H S' H' := by
  refine ⟨e.ss, ⟨e.w.sh, fun p hp => ?_⟩, e.nw, fun x o h _ => e.hh x o h (fun _ z => nomatch z)⟩
  obtain ⟨h0, h1, h2, cells, mix, hl, h3, h4⟩ := w.dk p hp
  exact ⟨h0, (e.nw _ _ h3).trans h1, (e.nw _ _ h4).trans h2, cells, mix, hl, e.hh _ _ h3 (fun _ z => nomatch z), e.hh _ _ h4 (fun _ z => nomatch z)⟩
/-- a new object that stays -/
theorem Ext.new {dl : Dl} {S H : Hp} {p : Addr} {o : HO} (w : Wf dl S H) (h : H p = none) : Ext dl S H (upd S p o) (upd H p o) := by
  have hs : S p = none := Evl.fresh_back w.sh h
  refine ⟨Ex.new hs, ⟨fun a u ha => ?_, fun q hq => ?_⟩, fun a u ha => ?_, fun a u ha _ => Ex.new h a u ha⟩
  · by_cases e : a = p
    · subst e
      rw [upd_same] at ha
      rw [upd_same]
      exact ha
    · rw [upd_ne e] at ha
      rw [upd_ne e]
      exact w.sh a u ha
  · obtain ⟨h0, h1, h2, cells, mix, hl, h3, h4⟩ := w.dk q hq
    have n1 : q.1 ≠ p := ne_of_none h3 h
    have n2 : q.2 ≠ p := ne_of_none h4 h
    exact ⟨h0, by rw [upd_ne n1]; exact h1, by rw [upd_ne n2]; exact h2, cells, mix, hl, by rw [upd_ne n1]; exact h3, by rw [upd_ne n2]; exact h4⟩
  · rw [upd_ne (ne_of_none ha h)]
/-- a new object that may change yet: it does not stand in S -/
theorem Ext.newM {dl : Dl} {S H : Hp} {p : Addr} {o : HO} (w : Wf dl S H) (h : H p = none) : Ext dl S H S (upd H p o) := by
  have hs : S p = none := Evl.fresh_back w.sh h
  refine ⟨Ex.refl _, ⟨fun a u ha => Ex.new h a u (w.sh a u ha), fun q hq => ?_⟩, fun a u ha => rfl, fun a u ha _ => Ex.new h a u ha⟩
  obtain ⟨h0, h1, h2, cells, mix, hl, h3, h4⟩ := w.dk q hq
  have n1 : q.1 ≠ p := ne_of_none h3 h
  have n2 : q.2 ≠ p := ne_of_none h4 h
  exact ⟨h0, h1, h2, cells, mix, hl, by rw [upd_ne n1]; exact h3, by rw [upd_ne n2]; exact h4⟩
end G
set_option Elab.async false
set_option linter.all false
set_option maxRecDepth 100000
namespace G
open PySem PySem.Spec L2
open Evl (Ex)

/-! ### slots, states of a def -/
inductive Sl where | un | dat (d : Da) | acc | deal
structure AS where
  sl : List Sl
  ac : Option (List Da)
/-- what is fixed: the written part, the class Plate, the deal's two lists -/
structure Wd where
  K : PySem.W.Frag
  C : Addr
  dl : Dl
def SlOk (W : Wd) (l : Addr) (S : Hp) : Option V → Sl → Prop
  | _, .un => True
  | some v, .dat d => Dt W.K W.C S v d
  | some v, .acc => v = .ref l
  | some v, .deal => ∃ p, W.dl = some p ∧ v = .ref p.1
  | none, _ => False
structure Env (W : Wd) (S H : Hp) (σ : St) (l : Addr) (A : AS) : Prop where
  w : Wf W.dl S H
  sl : Paired (SlOk W l S) σ A.sl
  ac : ∀ ds, A.ac = some ds → S l = none ∧ NotD W.dl l ∧ ∃ vs, H l = some (.lst vs) ∧ DtAll W.K W.C S vs ds
theorem SlOk.mono {W : Wd} {l : Addr} {S S' : Hp} (e : Ex S S') {v : Option V} {x : Sl} (h : SlOk W l S v x) : SlOk W l S' v x := by
  cases v with
  | none => cases x <;> first | trivial | exact h
  | some v => cases x <;> first | trivial | exact h | exact Dt.mono e h
theorem sd {W : Wd} {l : Addr} {S : Hp} {v : V} {d : Da} (h : Dt W.K W.C S v d) : SlOk W l S (some v) (.dat d) := h
theorem Paired.imp {α β : Type} {F F' : α → β → Prop} (f : ∀ a b, F a b → F' a b) : ∀ {xs : List α} {ys : List β}, Paired F xs ys → Paired F' xs ys
  | _, _, .nil => .nil
  | _, _, .cons r t => .cons (f _ _ r) (Paired.imp f t)
theorem Env.ext {W : Wd} {S H S' H' : Hp} {σ : St} {l : Addr} {A : AS} (E : Env W S H σ l A) (e : Ext W.dl S H S' H') : Env W S' H' σ l A :=
  ⟨e.w, Paired.imp (fun _ _ h => h.mono e.ss) E.sl, fun ds h => by
    obtain ⟨h1, h2, vs, h3, h4⟩ := E.ac ds h
    exact ⟨(e.nw _ _ h3).trans h1, h2, vs, e.hh _ _ h3 h2, h4.mono e.ss⟩⟩
theorem paired_at {α β : Type} {F : α → β → Prop} : ∀ {xs : List α} {ys : List β} {i : Nat} {y : β}, Paired F xs ys → ys[i]? = some y → ∃ x, xs[i]? = some x ∧ F x y
  | _, _, _, _, .nil, e => by simp at e
  | _, _, 0, _, .cons r _, e => by simp at e; subst e; exact ⟨_, rfl, r⟩
  | _, _, i + 1, y, .cons _ t, e => by
    obtain ⟨x, h1, h2⟩ := paired_at (i := i) (y := y) t (by simpa using e)
    exact ⟨x, by simpa using h1, h2⟩
theorem paired_set {α β : Type} {F : α → β → Prop} {x : α} {y : β} (r : F x y) : ∀ {xs : List α} {ys : List β} (i : Nat), Paired F xs ys → Paired F (xs.set i x) (ys.set i y)
  | _, _, _, .nil => .nil
  | _, _, 0, .cons _ t => .cons r t
  | _, _, i + 1, .cons q t => .cons q (paired_set r i t)

/-! ### what is wished of an expression, a test, arguments, a target, a walk, a statement -/
section
variable (W : Wd)
def EW (te : TE) (A : AS) (P : Sl → Prop) : Prop :=
  ∀ S H σ l, Env W S H σ l A → ∀ Q : VK, (∀ S' H' v x, Ext W.dl S H S' H' → SlOk W l S' (some v) x → P x → Q v H') → te σ H Q
def TW (tt : TT) (A : AS) (P : Bool → Prop) : Prop :=
  ∀ S H σ l, Env W S H σ l A → ∀ Q : Bool → Hp → Prop, (∀ S' H' b, Ext W.dl S H S' H' → P b → Q b H') → tt σ H Q
def AW (ta : TA) (A : AS) (P : List Sl → Prop) : Prop :=
  ∀ S H σ l, Env W S H σ l A → ∀ Q : List V → Hp → Prop, (∀ S' H' vs xs, Ext W.dl S H S' H' → Paired (SlOk W l S') (vs.map some) xs → P xs → Q vs H') → ta σ H Q
def OW (to : TO) (A : AS) (P : Option Int → Prop) : Prop :=
  ∀ S H σ l, Env W S H σ l A → ∀ Q : Option Int → Hp → Prop, (∀ S' H' o, Ext W.dl S H S' H' → P o → Q o H') → to σ H Q
/-- an operator by values -/
def RW (r : R2) (A : AS) (R : Sl → Sl → (Sl → Prop) → Prop) : Prop :=
  ∀ S H σ l v u x y, Env W S H σ l A → SlOk W l S (some v) x → SlOk W l S (some u) y → ∀ P, R x y P → ∀ Q : VK, (∀ S' H' z w, Ext W.dl S H S' H' → SlOk W l S' (some z) w → P w → Q z H') → r v u H Q
/-- a built-in by values -/
def CW (r : List V → Hp → VK → Prop) (A : AS) (R : List Sl → (Sl → Prop) → Prop) : Prop :=
  ∀ S H σ l vs xs, Env W S H σ l A → Paired (SlOk W l S) (vs.map some) xs → ∀ P, R xs P → ∀ Q : VK, (∀ S' H' z w, Ext W.dl S H S' H' → SlOk W l S' (some z) w → P w → Q z H') → r vs H Q
/-- a target: only slots of ts are changed -/
def GW (g : TG) (ts : Nat → Prop) (x : Sl) (A : AS) (P : AS → Prop) : Prop :=
  ∀ S H σ l v, Env W S H σ l A → SlOk W l S (some v) x → ∀ Q : St → Hp → Prop, (∀ σ' A', Env W S H σ' l A' → (σ'.length = σ.length ∧ (∀ j, ¬ ts j → σ'[j]? = σ[j]?) ∧ A'.ac = A.ac) → P A' → Q σ' H) → g v σ H Q
def GsW (g : TGs) (ts : Nat → Prop) (xs : List Da) (A : AS) (P : AS → Prop) : Prop :=
  ∀ S H σ l vs, Env W S H σ l A → DtAll W.K W.C S vs xs → ∀ Q : St → Hp → Prop, (∀ σ' A', Env W S H σ' l A' → (σ'.length = σ.length ∧ (∀ j, ¬ ts j → σ'[j]? = σ[j]?) ∧ A'.ac = A.ac) → P A' → Q σ' H) → g vs σ H Q
/-- the walk J yields ds, while the heap holds S -/
structure WlkOk (J : It) (S : Hp) (ds : List Da) : Prop where
  ex : ∃ Y, L2.Walk J ds.length (fun H => Ex S H) Y ∧ ∀ i H x H' d, ds[i]? = some d → Ex S H → Y i H x H' →
    (H' = H ∧ Dt W.K W.C S x d) ∨ ∃ T o, H T = none ∧ H' = upd H T o ∧ Dt W.K W.C (upd S T o) x d
def IW (wi : TI) (A : AS) (P : List Da → Prop) : Prop :=
  ∀ S H σ l, Env W S H σ l A → ∀ R : It → Hp → Prop, (∀ S' H' J ds, Ext W.dl S H S' H' → WlkOk W J S' ds → P ds → R J H') → wi σ H R
structure Ns where
  nx : AS → Prop
  rt : Da → Prop
  bk : AS → Prop := fun _ => False
  ct : AS → Prop := fun _ => False
/-- where a def stands: from the entry (S0, H0) -/
structure At (S0 H0 S H : Hp) (σ : St) (l : Addr) (A : AS) : Prop where
  x : Ext W.dl S0 H0 S H
  e : Env W S H σ l A
  f : A.ac ≠ none → H0 l = none
structure Meets (S0 H0 : Hp) (D : Ends) (N : Ns) : Prop where
  nx : ∀ S H σ l A, At W S0 H0 S H σ l A → N.nx A → D.nx σ H
  rt : ∀ S H v d, Ext W.dl S0 H0 S H → Dt W.K W.C S v d → N.rt d → D.rt v H
  bk : ∀ S H σ l A, At W S0 H0 S H σ l A → N.bk A → D.bk σ H
  ct : ∀ S H σ l A, At W S0 H0 S H σ l A → N.ct A → D.ct σ H
def SW (t : TS) (A : AS) (N : Ns) : Prop := ∀ S0 H0 S H σ l, At W S0 H0 S H σ l A → ∀ D : Ends, Meets W S0 H0 D N → t D σ H
end

section
variable {W : Wd} {A : AS} {S H : Hp} {σ : St} {l : Addr}
theorem EW.mono {te : TE} {P P' : Sl → Prop} (h : EW W te A P) (f : ∀ x, P x → P' x) : EW W te A P' := fun S H σ l E Q q => h S H σ l E Q fun S' H' v x e s p => q S' H' v x e s (f x p)
theorem TW.mono {te : TT} {P P' : Bool → Prop} (h : TW W te A P) (f : ∀ x, P x → P' x) : TW W te A P' := fun S H σ l E Q q => h S H σ l E Q fun S' H' b e p => q S' H' b e (f b p)

/-! ### expressions -/
theorem ew_var {i : Nat} {x : Sl} {P : Sl → Prop} (h : A.sl[i]? = some x) (hx : x ≠ .un) (p : P x) : EW W (tVar i) A P := fun S H σ l E Q q => by
  obtain ⟨v, h1, h2⟩ := paired_at E.sl h
  cases v with
  | none => cases x <;> first | exact absurd rfl hx | exact absurd h2 id
  | some v => exact ⟨v, h1, q S H v x (.refl E.w) h2 p⟩
theorem ew_int {i : Int} {P : Sl → Prop} (p : P (.dat (.int i))) : EW W (tC (.int i)) A P := fun S H σ l E Q q => q S H _ _ (.refl E.w) (sd <| Dt.int i) p
theorem ew_bl {i : Bool} {P : Sl → Prop} (p : P (.dat (.bl i))) : EW W (tC (.bl i)) A P := fun S H σ l E Q q => q S H _ _ (.refl E.w) (sd <| Dt.bl i) p
theorem ew_str {i : Str} {P : Sl → Prop} (p : P (.dat (.str i))) : EW W (tC (.str i)) A P := fun S H σ l E Q q => q S H _ _ (.refl E.w) (sd <| Dt.str i) p
theorem ew_non {P : Sl → Prop} (p : P (.dat .non)) : EW W (tC .non) A P := fun S H σ l E Q q => q S H _ _ (.refl E.w) (sd Dt.non) p
theorem ew_op {r : R2} {R : Sl → Sl → (Sl → Prop) → Prop} {ta tb : TE} {P : Sl → Prop} (hr : RW W r A R) (h : EW W ta A fun x => EW W tb A fun y => R x y P) : EW W (tOp r ta tb) A P := fun S H σ l E Q q =>
  h S H σ l E _ fun S1 H1 v x e1 s1 h1 => h1 S1 H1 σ l (E.ext e1) _ fun S2 H2 u y e2 s2 h2 =>
    hr S2 H2 σ l v u x y (E.ext (e1.trans e2)) (s1.mono e2.ss) s2 P h2 Q fun S3 H3 z w e3 s3 p => q S3 H3 z w ((e1.trans e2).trans e3) s3 p
/-- two ints -/
def onI2 : Sl → Sl → (Int → Int → Prop) → Prop
  | .dat (.int i), .dat (.int j), f => f i j
  | _, _, _ => False
theorem onI2_iff {x y : Sl} {f : Int → Int → Prop} (h : onI2 x y f) : ∃ i j, x = .dat (.int i) ∧ y = .dat (.int j) ∧ f i j := by
  cases x with
  | dat d =>
    cases d with
    | int i =>
      cases y with
      | dat e =>
        cases e with
        | int j => exact ⟨i, j, rfl, rfl, h⟩
        | _ => exact absurd h id
      | _ => exact absurd h id
    | _ => exact absurd h id
  | _ => exact absurd h id
theorem dt_int {K : PySem.W.Frag} {C : Addr} {v : V} {i : Int} (h : Dt K C S v (.int i)) : v = .int i := by cases h; rfl
theorem dt_bl {K : PySem.W.Frag} {C : Addr} {v : V} {i : Bool} (h : Dt K C S v (.bl i)) : v = .bl i := by cases h; rfl
theorem rw_I0 {g : Int → Int → V} {gd : Int → Int → Da} (hg : ∀ K C S i j, Dt K C S (g i j) (gd i j)) : RW W (rI0 g) A fun x y P => onI2 x y fun i j => P (.dat (gd i j)) := fun S H σ l v u x y E hx hy P h Q q => by
  obtain ⟨i, j, rfl, rfl, p⟩ := onI2_iff h
  exact ⟨i, j, dt_int hx, dt_int hy, q S H _ _ (.refl E.w) (sd <| hg _ _ _ i j) p⟩
theorem rw_I {c : Int → Int → Prop} {g : Int → Int → V} {gd : Int → Int → Da} (hg : ∀ K C S i j, Dt K C S (g i j) (gd i j)) : RW W (rI c g) A fun x y P => onI2 x y fun i j => c i j ∧ P (.dat (gd i j)) := fun S H σ l v u x y E hx hy P h Q q => by
  obtain ⟨i, j, rfl, rfl, hc, p⟩ := onI2_iff h
  exact ⟨i, j, dt_int hx, dt_int hy, hc, q S H _ _ (.refl E.w) (sd <| hg _ _ _ i j) p⟩
variable {ta tb tc te : TE} {P : Sl → Prop}
theorem ew_sub (h : EW W ta A fun x => EW W tb A fun y => onI2 x y fun i j => P (.dat (.int (i - j)))) : EW W (tOp (rI0 fun i j => .int (i - j)) ta tb) A P := ew_op (rw_I0 fun _ _ _ i j => .int (i - j)) h
theorem ew_mul (h : EW W ta A fun x => EW W tb A fun y => onI2 x y fun i j => CMul i j ∧ P (.dat (.int (i * j)))) : EW W (tOp (rI CMul fun i j => .int (i * j)) ta tb) A P := ew_op (rw_I fun _ _ _ i j => .int (i * j)) h
theorem ew_mulW (h : EW W ta A fun x => EW W tb A fun y => onI2 x y fun i j => CMulW i j ∧ P (.dat (.int (i * j)))) : EW W (tOp (rI CMulW fun i j => .int (i * j)) ta tb) A P := ew_op (rw_I fun _ _ _ i j => .int (i * j)) h
theorem ew_fdiv (h : EW W ta A fun x => EW W tb A fun y => onI2 x y fun i j => CDiv i j ∧ P (.dat (.int (i / j)))) : EW W (tOp (rI CDiv fun i j => .int (i / j)) ta tb) A P := ew_op (rw_I fun _ _ _ i j => .int (i / j)) h
theorem ew_mod (h : EW W ta A fun x => EW W tb A fun y => onI2 x y fun i j => 0 < j ∧ P (.dat (.int (i % j)))) : EW W (tOp (rI (fun _ j => 0 < j) fun i j => .int (i % j)) ta tb) A P := ew_op (rw_I fun _ _ _ i j => .int (i % j)) h
theorem ew_pow (h : EW W ta A fun x => EW W tb A fun y => onI2 x y fun i j => CPow i j ∧ P (.dat (.int (i ^ j.toNat)))) : EW W (tOp (rI CPow fun i j => .int (i ^ j.toNat)) ta tb) A P := ew_op (rw_I fun _ _ _ i j => .int (i ^ j.toNat)) h
theorem ew_lt (h : EW W ta A fun x => EW W tb A fun y => onI2 x y fun i j => P (.dat (.bl (decide (i < j))))) : EW W (tOp (rI0 fun i j => .bl (decide (i < j))) ta tb) A P := ew_op (rw_I0 fun _ _ _ i j => .bl _) h
theorem ew_le (h : EW W ta A fun x => EW W tb A fun y => onI2 x y fun i j => P (.dat (.bl (decide (i ≤ j))))) : EW W (tOp (rI0 fun i j => .bl (decide (i ≤ j))) ta tb) A P := ew_op (rw_I0 fun _ _ _ i j => .bl _) h
theorem ew_gt (h : EW W ta A fun x => EW W tb A fun y => onI2 x y fun i j => P (.dat (.bl (decide (j < i))))) : EW W (tOp (rI0 fun i j => .bl (decide (j < i))) ta tb) A P := ew_op (rw_I0 fun _ _ _ i j => .bl _) h
theorem ew_ge (h : EW W ta A fun x => EW W tb A fun y => onI2 x y fun i j => P (.dat (.bl (decide (j ≤ i))))) : EW W (tOp (rI0 fun i j => .bl (decide (j ≤ i))) ta tb) A P := ew_op (rw_I0 fun _ _ _ i j => .bl _) h
/-- one int -/
def onI : Sl → (Int → Prop) → Prop
  | .dat (.int i), f => f i
  | _, _ => False
theorem onI_iff {x : Sl} {f : Int → Prop} (h : onI x f) : ∃ i, x = .dat (.int i) ∧ f i := by
  cases x with
  | dat d =>
    cases d with
    | int i => exact ⟨i, rfl, h⟩
    | _ => exact absurd h id
  | _ => exact absurd h id
def onB : Sl → (Bool → Prop) → Prop
  | .dat (.bl i), f => f i
  | _, _ => False
theorem onB_iff {x : Sl} {f : Bool → Prop} (h : onB x f) : ∃ i, x = .dat (.bl i) ∧ f i := by
  cases x with
  | dat d =>
    cases d with
    | bl i => exact ⟨i, rfl, h⟩
    | _ => exact absurd h id
  | _ => exact absurd h id
theorem ew_neg (h : EW W ta A fun x => onI x fun i => P (.dat (.int (-i)))) : EW W (tUn (rU fun i => .int (-i)) ta) A P := fun S H σ l E Q q => h S H σ l E _ fun S1 H1 v x e1 s1 p => by
  obtain ⟨i, rfl, p⟩ := onI_iff p
  exact ⟨i, dt_int s1, q S1 H1 _ _ e1 (sd <| Dt.int _) p⟩
/-- == and != of data -/
def onD2 : Sl → Sl → (Da → Da → Prop) → Prop
  | .dat d, .dat e, f => f d e
  | _, _, _ => False
theorem onD2_iff {x y : Sl} {f : Da → Da → Prop} (h : onD2 x y f) : ∃ i j, x = .dat i ∧ y = .dat j ∧ f i j := by
  cases x with
  | dat d =>
    cases y with
    | dat e => exact ⟨d, e, rfl, rfl, h⟩
    | _ => exact absurd h id
  | _ => exact absurd h id
def fit (d : Da) : Bool := d.flat && SeqAt.shaped d.py
theorem ew_eqD (h : EW W ta A fun x => EW W tb A fun y => onD2 x y fun d e => fit d = true ∧ fit e = true ∧ P (.dat (.bl (PyData.eqv d.py e.py)))) : EW W (tOp (rEqD W.K) ta tb) A P :=
  ew_op (R := fun x y P => onD2 x y fun d e => fit d = true ∧ fit e = true ∧ P (.dat (.bl (PyData.eqv d.py e.py)))) (fun S H σ l v u x y E hx hy P h Q q => by
    obtain ⟨d, e, rfl, rfl, f1, f2, p⟩ := onD2_iff h
    obtain ⟨a1, a2⟩ := (Bool.and_eq_true _ _).mp f1
    obtain ⟨b1, b2⟩ := (Bool.and_eq_true _ _).mp f2
    exact ⟨d.py, e.py, (Dt.mono E.w.sh hx).dp a1, (Dt.mono E.w.sh hy).dp b1, a2, b2, q S H _ _ (.refl E.w) (sd <| Dt.bl _) p⟩) h
theorem ew_neD (h : EW W ta A fun x => EW W tb A fun y => onD2 x y fun d e => fit d = true ∧ fit e = true ∧ P (.dat (.bl (!PyData.eqv d.py e.py)))) : EW W (tOp (rNeD W.K) ta tb) A P :=
  ew_op (R := fun x y P => onD2 x y fun d e => fit d = true ∧ fit e = true ∧ P (.dat (.bl (!PyData.eqv d.py e.py)))) (fun S H σ l v u x y E hx hy P h Q q => by
    obtain ⟨d, e, rfl, rfl, f1, f2, p⟩ := onD2_iff h
    obtain ⟨a1, a2⟩ := (Bool.and_eq_true _ _).mp f1
    obtain ⟨b1, b2⟩ := (Bool.and_eq_true _ _).mp f2
    exact ⟨d.py, e.py, (Dt.mono E.w.sh hx).dp a1, (Dt.mono E.w.sh hy).dp b1, a2, b2, q S H _ _ (.refl E.w) (sd <| Dt.bl _) p⟩) h
end
end G
set_option Elab.async false
set_option linter.all false
set_option maxRecDepth 100000
namespace G
open PySem PySem.Spec L2
open Evl (Ex)
theorem iteT_inv {A B : Prop} (h : if true = true then A else B) : A := by rwa [if_pos rfl] at h
theorem iteF_inv {A B : Prop} (h : if false = true then A else B) : B := by rwa [if_neg Bool.false_ne_true] at h
theorem szk {n : Nat} (h : n ≤ 100000) : n ≤ sizeLine := Nat.le_trans h (by decide)
theorem szl {n : Nat} (h : n ≤ 100000) : n < sizeLine := Nat.lt_of_le_of_lt h (by decide)
section
variable {W : Wd} {A : AS} {S H : Hp} {σ : L2.St} {l : Addr} {ta tb tc te : TE} {P : Sl → Prop}
theorem dt_tup {K : PySem.W.Frag} {C : Addr} {v : V} {ds : List Da} (h : Dt K C S v (.tup ds)) : ∃ a xs, v = .ref a ∧ S a = some (.tup xs) ∧ DtAll K C S xs ds := by
  cases h with
  | tup h1 h2 => exact ⟨_, _, rfl, h1, h2⟩
theorem dt_lst {K : PySem.W.Frag} {C : Addr} {v : V} {ds : List Da} (h : Dt K C S v (.lst ds)) : ∃ a xs, v = .ref a ∧ S a = some (.lst xs) ∧ DtAll K C S xs ds := by
  cases h with
  | lst h1 h2 => exact ⟨_, _, rfl, h1, h2⟩
theorem new_tup {K : PySem.W.Frag} {C p : Addr} {vs : List V} {ds : List Da} (hs : S p = none) (h : DtAll K C S vs ds) : Dt K C (upd S p (.tup vs)) (.ref p) (.tup ds) := .tup upd_same (h.mono (Ex.new hs))
theorem new_lst {K : PySem.W.Frag} {C p : Addr} {vs : List V} {ds : List Da} (hs : S p = none) (h : DtAll K C S vs ds) : Dt K C (upd S p (.lst vs)) (.ref p) (.lst ds) := .lst upd_same (h.mono (Ex.new hs))

/-! ### + of ints, tuples, lists -/
def rPlus (K : PySem.W.Frag) : R2 := fun x y H Q => rI0 (fun i j => .int (i + j)) x y H Q ∨ (rCatA K x y H Q ∨ rCat x y H Q)
theorem op_plus {X : Cx} : OpR X (binaryOp .Add) (rPlus X.K) := op_add.or (op_catA.or op_cat)
def plusP : Sl → Sl → (Sl → Prop) → Prop
  | .dat (.int i), .dat (.int j), P => P (.dat (.int (i + j)))
  | .dat (.tup xs), .dat (.tup ys), P => xs.length + ys.length ≤ 100000 ∧ P (.dat (.tup (xs ++ ys)))
  | .dat (.lst xs), .dat (.lst ys), P => xs.length + ys.length ≤ 100000 ∧ P (.dat (.lst (xs ++ ys)))
  | _, _, _ => False
theorem plusP_iff {x y : Sl} (h : plusP x y P) : (∃ i j, x = .dat (.int i) ∧ y = .dat (.int j) ∧ P (.dat (.int (i + j)))) ∨ (∃ xs ys, x = .dat (.tup xs) ∧ y = .dat (.tup ys) ∧ xs.length + ys.length ≤ 100000 ∧ P (.dat (.tup (xs ++ ys)))) ∨
    (∃ xs ys, x = .dat (.lst xs) ∧ y = .dat (.lst ys) ∧ xs.length + ys.length ≤ 100000 ∧ P (.dat (.lst (xs ++ ys)))) := by
  cases x with
  | dat d =>
    cases y with
    | dat e =>
      cases d with
      | int i => cases e <;> first | exact .inl ⟨_, _, rfl, rfl, h⟩ | exact absurd h id
      | tup i => cases e <;> first | exact .inr (.inl ⟨_, _, rfl, rfl, h⟩) | exact absurd h id
      | lst i => cases e <;> first | exact .inr (.inr ⟨_, _, rfl, rfl, h⟩) | exact absurd h id
      | _ => cases e <;> exact absurd h id
    | _ => cases d <;> exact absurd h id
  | _ => exact absurd h id
theorem ew_plus (h : EW W ta A fun x => EW W tb A fun y => plusP x y P) : EW W (tOp (rPlus W.K) ta tb) A P :=
  ew_op (R := plusP) (fun S H σ l v u x y E hx hy P h Q q => by
    rcases plusP_iff h with ⟨i, j, rfl, rfl, p⟩ | ⟨xs, ys, rfl, rfl, hl, p⟩ | ⟨xs, ys, rfl, rfl, hl, p⟩
    · exact .inl ⟨i, j, dt_int hx, dt_int hy, q S H _ _ (.refl E.w) (sd <| Dt.int _) p⟩
    · obtain ⟨a, vs, rfl, ha, hva⟩ := dt_tup hx
      obtain ⟨b, ws, rfl, hb, hwb⟩ := dt_tup hy
      have l1 := hva.len
      have l2 := hwb.len
      refine .inr (.inl ⟨a, b, vs, ws, rfl, rfl, .of (E.w.sh _ _ ha), .of (E.w.sh _ _ hb), szk (by omega), fun e => ?_, fun _ e => ?_, fun _ _ p' hp => ?_⟩)
      · subst e
        have e : xs = [] := List.length_eq_zero_iff.mp l1.symm
        subst e
        exact q S H _ _ (.refl E.w) hy p
      · subst e
        have e : ys = [] := List.length_eq_zero_iff.mp l2.symm
        subst e
        rw [List.append_nil] at p
        exact q S H _ _ (.refl E.w) hx p
      · exact q _ _ _ _ (.new E.w hp) (sd <| new_tup (Evl.fresh_back E.w.sh hp) (hva.app hwb)) p
    · obtain ⟨a, vs, rfl, ha, hva⟩ := dt_lst hx
      obtain ⟨b, ws, rfl, hb, hwb⟩ := dt_lst hy
      have l1 := hva.len
      have l2 := hwb.len
      exact .inr (.inr ⟨a, b, vs, ws, rfl, rfl, E.w.sh _ _ ha, E.w.sh _ _ hb, szk (by omega), fun p' hp => q _ _ _ _ (.new E.w hp) (sd <| new_lst (Evl.fresh_back E.w.sh hp) (hva.app hwb)) p⟩)) h

/-! ### subscripts -/
def ixP (A : AS) : Sl → Sl → (Sl → Prop) → Prop
  | .dat (.tup ds), .dat (.int i), P => ∃ d, atI ds i = some d ∧ P (.dat d)
  | .dat (.lst ds), .dat (.int i), P => ∃ d, atI ds i = some d ∧ P (.dat d)
  | .acc, .dat (.int i), P => ∃ ds d, A.ac = some ds ∧ atI ds i = some d ∧ P (.dat d)
  | _, _, _ => False
theorem ixP_iff {x y : Sl} (h : ixP A x y P) : ∃ i, y = .dat (.int i) ∧ ((∃ ds d, x = .dat (.tup ds) ∧ atI ds i = some d ∧ P (.dat d)) ∨ (∃ ds d, x = .dat (.lst ds) ∧ atI ds i = some d ∧ P (.dat d)) ∨ (∃ ds d, x = .acc ∧ A.ac = some ds ∧ atI ds i = some d ∧ P (.dat d))) := by
  cases x with
  | dat d =>
    cases y with
    | dat e =>
      cases d with
      | tup i => cases e <;> first | exact ⟨_, rfl, .inl ⟨_, _, rfl, h.choose_spec⟩⟩ | exact absurd h id
      | lst i => cases e <;> first | exact ⟨_, rfl, .inr (.inl ⟨_, _, rfl, h.choose_spec⟩)⟩ | exact absurd h id
      | _ => cases e <;> exact absurd h id
    | _ => cases d <;> exact absurd h id
  | acc =>
    cases y with
    | dat e => cases e <;> first | exact ⟨_, rfl, .inr (.inr ⟨_, _, rfl, h.choose_spec.choose_spec⟩)⟩ | exact absurd h id
    | _ => exact absurd h id
  | _ => exact absurd h id
theorem ew_ix (h : EW W ta A fun x => EW W tb A fun y => ixP A x y P) : EW W (tOp (rIx W.K) ta tb) A P :=
  ew_op (R := ixP A) (fun S H σ l v u x y E hx hy P h Q q => by
    obtain ⟨i, ey0, h2⟩ := ixP_iff h
    subst ey0
    have ey := dt_int hy
    subst ey
    rcases h2 with ⟨ds, d, rfl, e, p⟩ | ⟨ds, d, rfl, e, p⟩ | ⟨ds, d, rfl, ea, e, p⟩
    · obtain ⟨a, vs, rfl, ha, hva⟩ := dt_tup hx
      obtain ⟨z, ez, hz⟩ := hva.atI' e
      exact .inr (.inl ⟨a, vs, i, z, rfl, rfl, .of (E.w.sh _ _ ha), ez, q S H _ _ (.refl E.w) (sd hz) p⟩)
    · obtain ⟨a, vs, rfl, ha, hva⟩ := dt_lst hx
      obtain ⟨z, ez, hz⟩ := hva.atI' e
      exact .inl ⟨a, vs, i, z, rfl, rfl, .of (E.w.sh _ _ ha), ez, q S H _ _ (.refl E.w) (sd hz) p⟩
    · obtain ⟨_, _, vs, ha, hva⟩ := E.ac ds ea
      obtain ⟨z, ez, hz⟩ := hva.atI' e
      have hx' : v = .ref l := hx
      exact .inl ⟨l, vs, i, z, hx', rfl, .of ha, ez, q S H _ _ (.refl E.w) (sd hz) p⟩) h

/-! ### arguments, displays -/
theorem aw_nil {P : List Sl → Prop} (p : P []) : AW W tNil A P := fun S H σ l E Q q => q S H [] [] (.refl E.w) .nil p
theorem aw_cons {tr : TA} {P : List Sl → Prop} (h : EW W te A fun x => AW W tr A fun xs => P (x :: xs)) : AW W (tCons te tr) A P := fun S H σ l E Q q =>
  h S H σ l E _ fun S1 H1 v x e1 s1 h1 => h1 S1 H1 σ l (E.ext e1) _ fun S2 H2 vs xs e2 s2 p => q S2 H2 _ _ (e1.trans e2) (.cons (s1.mono e2.ss) s2) p
def onDs : List Sl → (List Da → Prop) → Prop
  | [], f => f []
  | .dat d :: r, f => onDs r fun ds => f (d :: ds)
  | _ :: _, _ => False
theorem onDs_iff {W : Wd} {l : Addr} {S : Hp} : ∀ {vs : List V} {xs : List Sl} {f : List Da → Prop}, Paired (SlOk W l S) (vs.map some) xs → onDs xs f → ∃ ds, xs = ds.map .dat ∧ DtAll W.K W.C S vs ds ∧ f ds
  | [], _, f, r, h => by
    cases r
    exact ⟨[], rfl, .nil, h⟩
  | v :: vs, _, f, r, h => by
    cases r with
    | @cons _ x _ xs r1 r2 =>
      cases x with
      | dat d =>
        obtain ⟨ds, e, h1, h2⟩ := onDs_iff (f := fun ds => f (d :: ds)) r2 h
        exact ⟨d :: ds, by rw [e]; rfl, .cons r1 h1, h2⟩
      | _ => exact absurd h id
theorem ew_tup {ta : TA} (h : AW W ta A fun xs => onDs xs fun ds => ds.length ≤ 100000 ∧ P (.dat (.tup ds))) : EW W (tTup ta) A P := fun S H σ l E Q q =>
  h S H σ l E _ fun S1 H1 vs xs e1 s1 h1 => by
    obtain ⟨ds, rfl, hd, hl, p⟩ := onDs_iff s1 h1
    have hlen := hd.len
    exact ⟨szk (by omega), fun p' hp => q _ _ _ _ (e1.trans (.new e1.w hp)) (sd <| new_tup (Evl.fresh_back e1.w.sh hp) hd) p⟩
theorem ew_lst {ta : TA} (h : AW W ta A fun xs => onDs xs fun ds => ds.length ≤ 100000 ∧ P (.dat (.lst ds))) : EW W (tLst ta) A P := fun S H σ l E Q q =>
  h S H σ l E _ fun S1 H1 vs xs e1 s1 h1 => by
    obtain ⟨ds, rfl, hd, hl, p⟩ := onDs_iff s1 h1
    have hlen := hd.len
    exact ⟨szk (by omega), fun p' hp => q _ _ _ _ (e1.trans (.new e1.w hp)) (sd <| new_lst (Evl.fresh_back e1.w.sh hp) hd) p⟩

/-! ### built-ins -/
theorem ew_cb {r : List V → Hp → VK → Prop} {R : List Sl → (Sl → Prop) → Prop} {ta : TA} (hr : CW W r A R) (h : AW W ta A fun xs => R xs P) : EW W (tCB r ta) A P := fun S H σ l E Q q =>
  h S H σ l E _ fun S1 H1 vs xs e1 s1 h1 => hr S1 H1 σ l vs xs (E.ext e1) s1 P h1 Q fun S2 H2 z w e2 s2 p => q S2 H2 z w (e1.trans e2) s2 p
/-- a list or a tuple, or the list that grows -/
def seqOf (A : AS) : Sl → Option (List Da)
  | .dat (.tup ds) => some ds
  | .dat (.lst ds) => some ds
  | .acc => A.ac
  | _ => none
theorem seqOf_ok {x : Sl} {v : V} {ds : List Da} (E : Env W S H σ l A) (h : SlOk W l S (some v) x) (e : seqOf A x = some ds) : ∃ a xs, v = .ref a ∧ (SqL W.K H a xs ∨ SqT W.K H a xs) ∧ DtAll W.K W.C S xs ds := by
  cases x with
  | dat d =>
    cases d with
    | tup xs =>
      cases e
      obtain ⟨a, vs, rfl, ha, hva⟩ := dt_tup h
      exact ⟨a, vs, rfl, .inr (.of (E.w.sh _ _ ha)), hva⟩
    | lst xs =>
      cases e
      obtain ⟨a, vs, rfl, ha, hva⟩ := dt_lst h
      exact ⟨a, vs, rfl, .inl (.of (E.w.sh _ _ ha)), hva⟩
    | _ => cases e
  | acc =>
    obtain ⟨_, _, vs, ha, hva⟩ := E.ac ds e
    have h' : v = .ref l := h
    exact ⟨l, vs, h', .inl (.of ha), hva⟩
  | _ => cases e
theorem pair1 {x : Sl} {vs : List V} (r : Paired (SlOk W l S) (vs.map some) [x]) : ∃ v, vs = [v] ∧ SlOk W l S (some v) x := by
  cases vs with
  | nil => cases r
  | cons v vs =>
    cases r with
    | cons r1 r2 =>
      cases vs with
      | nil => exact ⟨v, rfl, r1⟩
      | cons _ _ => cases r2
theorem pair2 {x y : Sl} {vs : List V} (r : Paired (SlOk W l S) (vs.map some) [x, y]) : ∃ v w, vs = [v, w] ∧ SlOk W l S (some v) x ∧ SlOk W l S (some w) y := by
  cases vs with
  | nil => cases r
  | cons v vs =>
    cases r with
    | cons r1 r2 =>
      obtain ⟨w, rfl, h⟩ := pair1 r2
      exact ⟨v, w, rfl, r1, h⟩
def on1 : List Sl → (Sl → Prop) → Prop
  | [x], f => f x
  | _, _ => False
theorem on1_iff {xs : List Sl} {f : Sl → Prop} (h : on1 xs f) : ∃ x, xs = [x] ∧ f x := by
  match xs, h with
  | [x], h => exact ⟨x, rfl, h⟩
def on2 : List Sl → (Sl → Sl → Prop) → Prop
  | [x, y], f => f x y
  | _, _ => False
theorem on2_iff {xs : List Sl} {f : Sl → Sl → Prop} (h : on2 xs f) : ∃ x y, xs = [x, y] ∧ f x y := by
  match xs, h with
  | [x, y], h => exact ⟨x, y, rfl, h⟩
def rLen (K : PySem.W.Frag) : List V → Hp → VK → Prop := fun xs H Q => ∃ p ys, xs = [.ref p] ∧ (SqL K H p ys ∨ SqT K H p ys) ∧ Q (.int ys.length) H
theorem call_lenG {X : Cx} : CallR X (.builtin "len") (rLen X.K) := call_len_seq
def onSq (A : AS) (x : Sl) (f : List Da → Prop) : Prop := match seqOf A x with | some ds => f ds | none => False
theorem onSq_iff {x : Sl} {f : List Da → Prop} (h : onSq A x f) : ∃ ds, seqOf A x = some ds ∧ f ds := by
  unfold onSq at h
  cases e : seqOf A x with
  | none => rw [e] at h; exact absurd h id
  | some ds => rw [e] at h; exact ⟨ds, rfl, h⟩
theorem ew_len {ta : TA} (h : AW W ta A fun xs => on1 xs fun x => onSq A x fun ds => P (.dat (.int (ds.length : Nat)))) : EW W (tCB (rLen W.K) ta) A P :=
  ew_cb (R := fun xs P => on1 xs fun x => onSq A x fun ds => P (.dat (.int (ds.length : Nat)))) (fun S H σ l vs xs E r P h Q q => by
    obtain ⟨x, rfl, h⟩ := on1_iff h
    obtain ⟨ds, e, p⟩ := onSq_iff h
    obtain ⟨v, rfl, hv⟩ := pair1 r
    obtain ⟨a, ys, rfl, hq, hd⟩ := seqOf_ok E hv e
    refine ⟨a, ys, rfl, hq, ?_⟩
    rw [hd.len]
    exact q S H _ _ (.refl E.w) (sd <| Dt.int _) p) h
def rAbs : List V → Hp → VK → Prop := fun xs H Q => ∃ i, xs = [.int i] ∧ Q (.int (if i < 0 then -i else i)) H
theorem call_absG {X : Cx} : CallR X (.builtin "abs") rAbs := call_abs
theorem ew_abs {ta : TA} (h : AW W ta A fun xs => on1 xs fun x => onI x fun i => P (.dat (.int (if i < 0 then -i else i)))) : EW W (tCB rAbs ta) A P :=
  ew_cb (R := fun xs P => on1 xs fun x => onI x fun i => P (.dat (.int (if i < 0 then -i else i)))) (fun S H σ l vs xs E r P h Q q => by
    obtain ⟨x, rfl, h⟩ := on1_iff h
    obtain ⟨i, rfl, p⟩ := onI_iff h
    obtain ⟨v, rfl, hv⟩ := pair1 r
    exact ⟨i, by rw [dt_int hv], q S H _ _ (.refl E.w) (sd <| Dt.int _) p⟩) h
def rInt1 : List V → Hp → VK → Prop := fun xs H Q => (∃ i, xs = [.int i] ∧ Q (.int i) H) ∨ ∃ k, xs = [.bl k] ∧ Q (.int (if k then 1 else 0)) H
theorem call_int1G {X : Cx} : CallR X (.type "int") rInt1 := call_int1
theorem ew_int1 {ta : TA} (h : AW W ta A fun xs => on1 xs fun x => onI x fun i => P (.dat (.int i))) : EW W (tCB rInt1 ta) A P :=
  ew_cb (R := fun xs P => on1 xs fun x => onI x fun i => P (.dat (.int i))) (fun S H σ l vs xs E r P h Q q => by
    obtain ⟨x, rfl, h⟩ := on1_iff h
    obtain ⟨i, rfl, p⟩ := onI_iff h
    obtain ⟨v, rfl, hv⟩ := pair1 r
    exact .inl ⟨i, by rw [dt_int hv], q S H _ _ (.refl E.w) (sd <| Dt.int _) p⟩) h
theorem ew_gcd {ta : TA} (h : AW W ta A fun xs => on2 xs fun x y => onI2 x y fun i j => P (.dat (.int ((Nat.gcd i.natAbs j.natAbs : Nat) : Int)))) : EW W (tCB rGcd ta) A P :=
  ew_cb (R := fun xs P => on2 xs fun x y => onI2 x y fun i j => P (.dat (.int ((Nat.gcd i.natAbs j.natAbs : Nat) : Int)))) (fun S H σ l vs xs E r P h Q q => by
    obtain ⟨x, y, rfl, h⟩ := on2_iff h
    obtain ⟨i, j, rfl, rfl, p⟩ := onI2_iff h
    obtain ⟨v, w, rfl, hv, hw⟩ := pair2 r
    exact ⟨i, j, by rw [dt_int hv, dt_int hw], q S H _ _ (.refl E.w) (sd <| Dt.int _) p⟩) h
/-- min(i, j), max(i, j), or of one list -/
def rMn (K : PySem.W.Frag) : List V → Hp → VK → Prop := fun xs H Q => (∃ i j, xs = [.int i, .int j] ∧ Q (.int (if j < i then j else i)) H) ∨ L2.rMin K xs H Q
def rMx (K : PySem.W.Frag) : List V → Hp → VK → Prop := fun xs H Q => (∃ i j, xs = [.int i, .int j] ∧ Q (.int (if j > i then j else i)) H) ∨ L2.rMax K xs H Q
theorem call_mn {X : Cx} (hc : X.calm = true) : CallR X (.builtin "min") (rMn X.K) := fun pins s σ H vs us Q I r h => h.elim (fun h => call_min2 hc pins s σ H vs us Q I r h) fun h => cr_min hc pins s σ H vs us Q I r h
theorem call_mx {X : Cx} (hc : X.calm = true) : CallR X (.builtin "max") (rMx X.K) := fun pins s σ H vs us Q I r h => h.elim (fun h => call_max2 hc pins s σ H vs us Q I r h) fun h => cr_max hc pins s σ H vs us Q I r h
def isInts : List Da → Option (List Int)
  | [] => some []
  | .int i :: r => (isInts r).map (i :: ·)
  | _ :: _ => none
theorem isInts_ok {K : PySem.W.Frag} {C : Addr} : ∀ {ds : List Da} {vs : List V} {ns : List Int}, DtAll K C S vs ds → isInts ds = some ns → vs = ns.map V.int
  | [], vs, ns, h, e => by cases h; cases e; rfl
  | d :: ds, vs, ns, h, e => by
    cases h with
    | cons h1 h2 =>
      cases d with
      | int i =>
        have e' : (isInts ds).map (i :: ·) = some ns := e
        cases q : isInts ds with
        | none => rw [q] at e'; cases e'
        | some ms =>
          rw [q] at e'
          cases e'
          rw [dt_int h1, isInts_ok h2 q]
          rfl
      | _ => cases e
theorem isInts_map {α : Type} (f : α → Int) : ∀ xs : List α, isInts (xs.map fun x => Da.int (f x)) = some (xs.map f)
  | [] => rfl
  | x :: xs => by
    show (isInts (xs.map fun x => Da.int (f x))).map (f x :: ·) = _
    rw [isInts_map f xs]
    rfl
def isBls : List Da → Option (List Bool)
  | [] => some []
  | .bl i :: r => (isBls r).map (i :: ·)
  | _ :: _ => none
theorem isBls_ok {K : PySem.W.Frag} {C : Addr} : ∀ {ds : List Da} {vs : List V} {ns : List Bool}, DtAll K C S vs ds → isBls ds = some ns → vs = ns.map V.bl
  | [], vs, ns, h, e => by cases h; cases e; rfl
  | d :: ds, vs, ns, h, e => by
    cases h with
    | cons h1 h2 =>
      cases d with
      | bl i =>
        have e' : (isBls ds).map (i :: ·) = some ns := e
        cases q : isBls ds with
        | none => rw [q] at e'; cases e'
        | some ms =>
          rw [q] at e'
          cases e'
          rw [dt_bl h1, isBls_ok h2 q]
          rfl
      | _ => cases e
theorem isBls_map {α : Type} (f : α → Bool) : ∀ xs : List α, isBls (xs.map fun x => Da.bl (f x)) = some (xs.map f)
  | [] => rfl
  | x :: xs => by
    show (isBls (xs.map fun x => Da.bl (f x))).map (f x :: ·) = _
    rw [isBls_map f xs]
    rfl
/-- a list of data, told -/
def onL : Sl → (List Da → Prop) → Prop
  | .dat (.lst ds), f => f ds
  | _, _ => False
theorem onL_iff {x : Sl} {f : List Da → Prop} (h : onL x f) : ∃ ds, x = .dat (.lst ds) ∧ f ds := by
  cases x with
  | dat d =>
    cases d with
    | lst ds => exact ⟨ds, rfl, h⟩
    | _ => exact absurd h id
  | _ => exact absurd h id
theorem ew_min2 {ta : TA} (h : AW W ta A fun xs => on2 xs fun x y => onI2 x y fun i j => P (.dat (.int (if j < i then j else i)))) : EW W (tCB (rMn W.K) ta) A P :=
  ew_cb (R := fun xs P => on2 xs fun x y => onI2 x y fun i j => P (.dat (.int (if j < i then j else i)))) (fun S H σ l vs xs E r P h Q q => by
    obtain ⟨x, y, rfl, h⟩ := on2_iff h
    obtain ⟨i, j, rfl, rfl, p⟩ := onI2_iff h
    obtain ⟨v, w, rfl, hv, hw⟩ := pair2 r
    exact .inl ⟨i, j, by rw [dt_int hv, dt_int hw], q S H _ _ (.refl E.w) (sd <| Dt.int _) p⟩) h
theorem ew_max2 {ta : TA} (h : AW W ta A fun xs => on2 xs fun x y => onI2 x y fun i j => P (.dat (.int (if j > i then j else i)))) : EW W (tCB (rMx W.K) ta) A P :=
  ew_cb (R := fun xs P => on2 xs fun x y => onI2 x y fun i j => P (.dat (.int (if j > i then j else i)))) (fun S H σ l vs xs E r P h Q q => by
    obtain ⟨x, y, rfl, h⟩ := on2_iff h
    obtain ⟨i, j, rfl, rfl, p⟩ := onI2_iff h
    obtain ⟨v, w, rfl, hv, hw⟩ := pair2 r
    exact .inl ⟨i, j, by rw [dt_int hv, dt_int hw], q S H _ _ (.refl E.w) (sd <| Dt.int _) p⟩) h
theorem ew_minL {ta : TA} (h : AW W ta A fun xs => on1 xs fun x => onL x fun ds => ∃ ns, isInts ds = some ns ∧ 0 < ns.length ∧ ∀ m, m ∈ ns → (∀ y ∈ ns, m ≤ y) → P (.dat (.int m))) : EW W (tCB (rMn W.K) ta) A P :=
  ew_cb (R := fun xs P => on1 xs fun x => onL x fun ds => ∃ ns, isInts ds = some ns ∧ 0 < ns.length ∧ ∀ m, m ∈ ns → (∀ y ∈ ns, m ≤ y) → P (.dat (.int m))) (fun S H σ l vs xs E r P h Q q => by
    obtain ⟨x, rfl, h⟩ := on1_iff h
    obtain ⟨ds, rfl, ns, e, hl, p⟩ := onL_iff h
    obtain ⟨v, rfl, hv⟩ := pair1 r
    obtain ⟨a, vs, rfl, ha, hva⟩ := dt_lst hv
    have ev := isInts_ok hva e
    subst ev
    exact .inr ⟨a, ns, rfl, .of (E.w.sh _ _ ha), hl, fun m h1 h2 => q S H _ _ (.refl E.w) (sd <| Dt.int _) (p m h1 h2)⟩) h
theorem ew_maxL {ta : TA} (h : AW W ta A fun xs => on1 xs fun x => onL x fun ds => ∃ ns, isInts ds = some ns ∧ 0 < ns.length ∧ ∀ m, m ∈ ns → (∀ y ∈ ns, y ≤ m) → P (.dat (.int m))) : EW W (tCB (rMx W.K) ta) A P :=
  ew_cb (R := fun xs P => on1 xs fun x => onL x fun ds => ∃ ns, isInts ds = some ns ∧ 0 < ns.length ∧ ∀ m, m ∈ ns → (∀ y ∈ ns, y ≤ m) → P (.dat (.int m))) (fun S H σ l vs xs E r P h Q q => by
    obtain ⟨x, rfl, h⟩ := on1_iff h
    obtain ⟨ds, rfl, ns, e, hl, p⟩ := onL_iff h
    obtain ⟨v, rfl, hv⟩ := pair1 r
    obtain ⟨a, vs, rfl, ha, hva⟩ := dt_lst hv
    have ev := isInts_ok hva e
    subst ev
    exact .inr ⟨a, ns, rfl, .of (E.w.sh _ _ ha), hl, fun m h1 h2 => q S H _ _ (.refl E.w) (sd <| Dt.int _) (p m h1 h2)⟩) h
theorem ew_sum {ta : TA} (h : AW W ta A fun xs => on1 xs fun x => onL x fun ds => ∃ ns, isInts ds = some ns ∧ P (.dat (.int ns.sum))) : EW W (tCB (L2.rSum W.K) ta) A P :=
  ew_cb (R := fun xs P => on1 xs fun x => onL x fun ds => ∃ ns, isInts ds = some ns ∧ P (.dat (.int ns.sum))) (fun S H σ l vs xs E r P h Q q => by
    obtain ⟨x, rfl, h⟩ := on1_iff h
    obtain ⟨ds, rfl, ns, e, p⟩ := onL_iff h
    obtain ⟨v, rfl, hv⟩ := pair1 r
    obtain ⟨a, vs, rfl, ha, hva⟩ := dt_lst hv
    have ev := isInts_ok hva e
    subst ev
    exact ⟨a, ns, rfl, .of (E.w.sh _ _ ha), q S H _ _ (.refl E.w) (sd <| Dt.int _) p⟩) h
theorem ew_any {ta : TA} (h : AW W ta A fun xs => on1 xs fun x => onL x fun ds => ∃ ns, isBls ds = some ns ∧ P (.dat (.bl (ns.any id)))) : EW W (tCB (L2.rAny W.K) ta) A P :=
  ew_cb (R := fun xs P => on1 xs fun x => onL x fun ds => ∃ ns, isBls ds = some ns ∧ P (.dat (.bl (ns.any id)))) (fun S H σ l vs xs E r P h Q q => by
    obtain ⟨x, rfl, h⟩ := on1_iff h
    obtain ⟨ds, rfl, ns, e, p⟩ := onL_iff h
    obtain ⟨v, rfl, hv⟩ := pair1 r
    obtain ⟨a, vs, rfl, ha, hva⟩ := dt_lst hv
    have ev := isBls_ok hva e
    subst ev
    exact ⟨a, ns, rfl, .of (E.w.sh _ _ ha), q S H _ _ (.refl E.w) (sd <| Dt.bl _) p⟩) h
/-- tuple(list) -/
def rTupOf (K : PySem.W.Frag) : List V → Hp → VK → Prop := fun xs H Q => ∃ p ys, xs = [.ref p] ∧ ((SqL K H p ys ∧ ∀ l, H l = none → Q (.ref l) (upd H l (.tup ys))) ∨ (SqT K H p ys ∧ Q (.ref p) H))
theorem call_tupG {X : Cx} : CallR X (.type "tuple") (rTupOf X.K) := call_tuple_of
theorem ew_tupOf {ta : TA} (h : AW W ta A fun xs => on1 xs fun x => onSq A x fun ds => P (.dat (.tup ds))) : EW W (tCB (rTupOf W.K) ta) A P :=
  ew_cb (R := fun xs P => on1 xs fun x => onSq A x fun ds => P (.dat (.tup ds))) (fun S H σ l vs xs E r P h Q q => by
    obtain ⟨x, rfl, h⟩ := on1_iff h
    obtain ⟨ds, e, p⟩ := onSq_iff h
    obtain ⟨v, rfl, hv⟩ := pair1 r
    cases x with
    | dat d =>
      cases d with
      | tup ds' =>
        cases e
        obtain ⟨a, vs, rfl, ha, hva⟩ := dt_tup hv
        exact ⟨a, vs, rfl, .inr ⟨.of (E.w.sh _ _ ha), q S H _ _ (.refl E.w) hv p⟩⟩
      | lst ds' =>
        cases e
        obtain ⟨a, vs, rfl, ha, hva⟩ := dt_lst hv
        exact ⟨a, vs, rfl, .inl ⟨.of (E.w.sh _ _ ha), fun p' hp => q _ _ _ _ (.new E.w hp) (sd <| new_tup (Evl.fresh_back E.w.sh hp) hva) p⟩⟩
      | _ => cases e
    | acc =>
      obtain ⟨_, _, vs, ha, hva⟩ := E.ac ds e
      have h' : v = .ref l := hv
      exact ⟨l, vs, by rw [h'], .inl ⟨.of ha, fun p' hp => q _ _ _ _ (.new E.w hp) (sd <| new_tup (Evl.fresh_back E.w.sh hp) hva) p⟩⟩
    | _ => cases e) h

/-! ### tests -/
theorem tw_tst {P : Bool → Prop} (h : EW W te A fun x => onB x P) : TW W (tTest te) A P := fun S H σ l E Q q => h S H σ l E _ fun S1 H1 v x e1 s1 p => by
  obtain ⟨b, rfl, p⟩ := onB_iff p
  exact ⟨b, dt_bl s1, q S1 H1 b e1 p⟩
theorem tw_b {P : Bool → Prop} (h : EW W te A fun x => onB x P) : TW W (tB te) A P := fun S H σ l E Q q => h S H σ l E _ fun S1 H1 v x e1 s1 p => by
  obtain ⟨b, rfl, p⟩ := onB_iff p
  exact ⟨b, dt_bl s1, q S1 H1 b e1 p⟩
theorem tw_and {t u : TT} {P : Bool → Prop} (h : TW W t A fun b => if b = true then TW W u A P else P false) : TW W (tAnd t u) A P := fun S H σ l E Q q => h S H σ l E _ fun S1 H1 b e1 p => by
  cases b with
  | true => exact iteT (((iteT_inv p)) S1 H1 σ l (E.ext e1) Q fun S2 H2 b e2 p => q S2 H2 b (e1.trans e2) p)
  | false => exact iteF (q S1 H1 false e1 (iteF_inv p))
end
end G
set_option Elab.async false
set_option linter.all false
set_option maxRecDepth 100000
namespace G
open PySem PySem.Spec L2
open Evl (Ex)
section
variable {W : Wd} {A : AS} {S H : Hp} {σ : L2.St} {l : Addr} {ta tb tc te : TE} {t u : TT} {P : Sl → Prop}
/-! ### tests and truth values -/
theorem tw_or {P : Bool → Prop} (h : TW W t A fun b => if b = true then P true else TW W u A P) : TW W (tOr t u) A P := fun S H σ l E Q q => h S H σ l E _ fun S1 H1 b e1 p => by
  cases b with
  | true => exact iteT (q S1 H1 true e1 (iteT_inv p))
  | false => exact iteF ((iteF_inv p) S1 H1 σ l (E.ext e1) Q fun S2 H2 b e2 p => q S2 H2 b (e1.trans e2) p)
theorem tw_not {P : Bool → Prop} (h : TW W t A fun b => P (!b)) : TW W (tNot t) A P := fun S H σ l E Q q => h S H σ l E _ fun S1 H1 b e1 p => q S1 H1 _ e1 p
/-- both parts known -/
theorem tw_and2 {P : Bool → Prop} {b c : Bool} (h : TW W t A (· = b)) (g : b = true → TW W u A (· = c)) (p : P (b && c)) : TW W (tAnd t u) A P := tw_and (h.mono fun x e => by
  subst e
  cases x with
  | true => exact iteT ((g rfl).mono fun y e => by subst e; exact p)
  | false => exact iteF p)
theorem tw_or2 {P : Bool → Prop} {b c : Bool} (h : TW W t A (· = b)) (g : b = false → TW W u A (· = c)) (p : P (b || c)) : TW W (tOr t u) A P := tw_or (h.mono fun x e => by
  subst e
  cases x with
  | true => exact iteT p
  | false => exact iteF ((g rfl).mono fun y e => by subst e; exact p))
theorem ew_andV (h : EW W ta A fun x => onB x fun b => if b = true then EW W tb A P else P (.dat (.bl false))) : EW W (tAndV ta tb) A P := fun S H σ l E Q q => h S H σ l E _ fun S1 H1 v x e1 s1 p0 => by
  obtain ⟨b, rfl, p⟩ := onB_iff p0
  refine ⟨b, dt_bl s1, ?_⟩
  cases b with
  | true => exact iteT ((iteT_inv p) S1 H1 σ l (E.ext e1) Q fun S2 H2 v x e2 s p => q S2 H2 v x (e1.trans e2) s p)
  | false => exact iteF (q S1 H1 _ _ e1 (sd <| Dt.bl _) (iteF_inv p))
theorem ew_orV (h : EW W ta A fun x => onB x fun b => if b = true then P (.dat (.bl true)) else EW W tb A P) : EW W (tOrV ta tb) A P := fun S H σ l E Q q => h S H σ l E _ fun S1 H1 v x e1 s1 p0 => by
  obtain ⟨b, rfl, p⟩ := onB_iff p0
  refine ⟨b, dt_bl s1, ?_⟩
  cases b with
  | true => exact iteT (q S1 H1 _ _ e1 (sd <| Dt.bl _) (iteT_inv p))
  | false => exact iteF ((iteF_inv p) S1 H1 σ l (E.ext e1) Q fun S2 H2 v x e2 s p => q S2 H2 v x (e1.trans e2) s p)
theorem ew_notV (h : EW W ta A fun x => onB x fun b => P (.dat (.bl (!b)))) : EW W (tNotV ta) A P := fun S H σ l E Q q => h S H σ l E _ fun S1 H1 v x e1 s1 p0 => by
  obtain ⟨b, rfl, p⟩ := onB_iff p0
  exact ⟨b, dt_bl s1, q S1 H1 _ _ e1 (sd <| Dt.bl _) p⟩
theorem ew_if (h : TW W t A fun b => if b = true then EW W ta A P else EW W tb A P) : EW W (tIf t ta tb) A P := fun S H σ l E Q q => h S H σ l E _ fun S1 H1 b e1 p => by
  cases b with
  | true => exact iteT ((iteT_inv p) S1 H1 σ l (E.ext e1) Q fun S2 H2 v x e2 s p => q S2 H2 v x (e1.trans e2) s p)
  | false => exact iteF ((iteF_inv p) S1 H1 σ l (E.ext e1) Q fun S2 H2 v x e2 s p => q S2 H2 v x (e1.trans e2) s p)
/-- a < b < c of ints -/
theorem ew_chain {g1 g2 : Int → Int → Bool} (h : EW W ta A fun x => EW W tb A fun y => onI2 x y fun i j => if g1 i j = true then EW W tc A fun z => onI2 y z fun j k => P (.dat (.bl (g2 j k))) else P (.dat (.bl false))) :
    EW W (tChain (rI0 fun i j => .bl (g1 i j)) (rI0 fun i j => .bl (g2 i j)) ta tb tc) A P := fun S H σ l E Q q =>
  h S H σ l E _ fun S1 H1 v x e1 s1 h1 => h1 S1 H1 σ l (E.ext e1) _ fun S2 H2 u y e2 s2 h2 => by
    obtain ⟨i, j, rfl, rfl, p⟩ := onI2_iff h2
    have ev := dt_int s1
    have eu := dt_int s2
    subst ev eu
    refine ⟨i, j, rfl, rfl, g1 i j, rfl, ?_⟩
    cases hb : g1 i j with
    | true =>
      rw [hb] at p
      refine iteT ((iteT_inv p) S2 H2 σ l (E.ext (e1.trans e2)) _ fun S3 H3 w z e3 s3 h3 => ?_)
      obtain ⟨j', k, ej, rfl, p⟩ := onI2_iff h3
      cases ej
      exact ⟨j, k, rfl, dt_int s3, q S3 H3 _ _ ((e1.trans e2).trans e3) (sd <| Dt.bl _) p⟩
    | false =>
      rw [hb] at p
      exact iteF (q S2 H2 _ _ (e1.trans e2) (sd <| Dt.bl _) (iteF_inv p))
/-- is None, is not None -/
def onDat : Sl → (Da → Prop) → Prop
  | .dat d, f => f d
  | _, _ => False
theorem onDat_iff {x : Sl} {f : Da → Prop} (h : onDat x f) : ∃ d, x = .dat d ∧ f d := by
  cases x with
  | dat d => exact ⟨d, rfl, h⟩
  | _ => exact absurd h id
def isNon : Da → Bool
  | .non => true
  | _ => false
theorem dt_isN {K : PySem.W.Frag} {C : Addr} {v : V} {d : Da} (h : Dt K C S v d) : decide (v = .non) = isNon d := by
  cases d <;> cases h <;> rfl
def rIsNn : R2 := fun x y H Q => y = .non ∧ Q (.bl (decide (x = .non))) H
def rNotNn : R2 := fun x y H Q => y = .non ∧ Q (.bl (!decide (x = .non))) H
theorem op_isNn {X : Cx} : OpR X (compareOp .Is) rIsNn := op_isN
theorem op_notNn {X : Cx} : OpR X (compareOp .IsNot) rNotNn := op_notN
theorem ew_isN (h : EW W ta A fun x => onDat x fun d => P (.dat (.bl (isNon d)))) : EW W (tOp rIsNn ta (tC .non)) A P := fun S H σ l E Q q => h S H σ l E _ fun S1 H1 v x e1 s1 p0 => by
  obtain ⟨d, rfl, p⟩ := onDat_iff p0
  refine ⟨rfl, ?_⟩
  rw [dt_isN s1]
  exact q S1 H1 _ _ e1 (sd <| Dt.bl _) p
theorem ew_notN (h : EW W ta A fun x => onDat x fun d => P (.dat (.bl (!isNon d)))) : EW W (tOp rNotNn ta (tC .non)) A P := fun S H σ l E Q q => h S H σ l E _ fun S1 H1 v x e1 s1 p0 => by
  obtain ⟨d, rfl, p⟩ := onDat_iff p0
  refine ⟨rfl, ?_⟩
  rw [dt_isN s1]
  exact q S1 H1 _ _ e1 (sd <| Dt.bl _) p
/-- plate.outer, plate.holes -/
structure PlateCls (K : PySem.W.Frag) (C : Addr) : Prop where
  cl : Cls K C
  no : NoAttr K C "outer"
  nh : NoAttr K C "holes"
theorem ew_outer (T : PlateCls W.K W.C) (h : EW W ta A fun x => onDat x fun d => ∃ o q, d = .plate o q ∧ P (.dat o)) : EW W (tFld W.K ta "outer") A P := fun S H σ l E Q q => h S H σ l E _ fun S1 H1 v x e1 s1 p0 => by
  obtain ⟨d, rfl, o, r, rfl, p⟩ := onDat_iff p0
  cases s1 with
  | @plate pl dx fs v w _ _ h1 h2 h3 h4 h5 => exact ⟨pl, W.C, dx, fs, v, rfl, e1.w.sh _ _ h1, T.cl, T.no, h2, q S1 H1 _ _ e1 (sd h4) p⟩
theorem ew_holes (T : PlateCls W.K W.C) (h : EW W ta A fun x => onDat x fun d => ∃ o q, d = .plate o q ∧ P (.dat q)) : EW W (tFld W.K ta "holes") A P := fun S H σ l E Q q => h S H σ l E _ fun S1 H1 v x e1 s1 p0 => by
  obtain ⟨d, rfl, o, r, rfl, p⟩ := onDat_iff p0
  cases s1 with
  | @plate pl dx fs v w _ _ h1 h2 h3 h4 h5 => exact ⟨pl, W.C, dx, fs, w, rfl, e1.w.sh _ _ h1, T.cl, T.nh, h3, q S1 H1 _ _ e1 (sd h5) p⟩

/-! ### slices -/
theorem ow_no {P : Option Int → Prop} (p : P none) : OW W tNoPart A P := fun S H σ l E Q q => q S H none (.refl E.w) p
theorem ow_some {P : Option Int → Prop} (h : EW W te A fun x => onI x fun i => P (some i)) : OW W (tPart te) A P := fun S H σ l E Q q => h S H σ l E _ fun S1 H1 v x e1 s1 p0 => by
  obtain ⟨i, rfl, p⟩ := onI_iff p0
  exact ⟨i, dt_int s1, q S1 H1 _ e1 p⟩
def rCut (K : PySem.W.Frag) : V → Option Int → Option Int → Hp → VK → Prop := fun x lo hi H Q => rSlL K x lo hi H Q ∨ rSlA K x lo hi H Q
theorem sl_cut {X : Cx} : SlR X (rCut X.K) := sl_list.or sl_tupA
def cutD (ds : List Da) (lo hi : Option Int) : List Da := (ds.drop (HT.sIx ds.length 0 lo)).take (HT.sIx ds.length ds.length hi - HT.sIx ds.length 0 lo)
theorem cut_ok {K : PySem.W.Frag} {C : Addr} {vs : List V} {ds : List Da} (h : DtAll K C S vs ds) (lo hi : Option Int) : DtAll K C S (cutV vs lo hi) (cutD ds lo hi) := by
  unfold cutV cutD
  rw [h.len]
  exact (h.drop _).take _
def cutP : Sl → Option Int → Option Int → (Sl → Prop) → Prop
  | .dat (.tup ds), lo, hi, P => P (.dat (.tup (cutD ds lo hi)))
  | .dat (.lst ds), lo, hi, P => P (.dat (.lst (cutD ds lo hi)))
  | _, _, _, _ => False
theorem cutP_iff {x : Sl} {lo hi : Option Int} (h : cutP x lo hi P) : (∃ ds, x = .dat (.tup ds) ∧ P (.dat (.tup (cutD ds lo hi)))) ∨ ∃ ds, x = .dat (.lst ds) ∧ P (.dat (.lst (cutD ds lo hi))) := by
  cases x with
  | dat d =>
    cases d with
    | tup ds => exact .inl ⟨ds, rfl, h⟩
    | lst ds => exact .inr ⟨ds, rfl, h⟩
    | _ => exact absurd h id
  | _ => exact absurd h id
theorem cutD_whole {ds : List Da} {lo hi : Option Int} (h : HT.sIx ds.length 0 lo = 0 ∧ HT.sIx ds.length ds.length hi = ds.length) : cutD ds lo hi = ds := by
  unfold cutD
  rw [h.1, h.2, List.drop_zero, Nat.sub_zero, List.take_length]
theorem ew_slice {tl th : TO} (h : EW W ta A fun x => OW W tl A fun lo => OW W th A fun hi => cutP x lo hi P) : EW W (tSl (rCut W.K) ta tl th) A P := fun S H σ l E Q q =>
  h S H σ l E _ fun S1 H1 v x e1 s1 h1 => h1 S1 H1 σ l (E.ext e1) _ fun S2 H2 lo e2 h2 => h2 S2 H2 σ l (E.ext (e1.trans e2)) _ fun S3 H3 hi e3 h3 => by
    have e4 := (e1.trans e2).trans e3
    have s3 := s1.mono (e2.trans e3).ss
    rcases cutP_iff h3 with ⟨ds, rfl, p⟩ | ⟨ds, rfl, p⟩
    · obtain ⟨a, vs, rfl, ha, hva⟩ := dt_tup s3
      refine .inr ⟨a, vs, rfl, .of (e4.w.sh _ _ ha), fun hw => ?_, fun _ p' hp => q _ _ _ _ (e4.trans (.new e4.w hp)) (sd <| new_tup (Evl.fresh_back e4.w.sh hp) (cut_ok hva lo hi)) p⟩
      rw [hva.len] at hw
      rw [cutD_whole hw] at p
      exact q _ _ _ _ e4 s3 p
    · obtain ⟨a, vs, rfl, ha, hva⟩ := dt_lst s3
      exact .inl ⟨a, vs, rfl, .of (e4.w.sh _ _ ha), fun p' hp => q _ _ _ _ (e4.trans (.new e4.w hp)) (sd <| new_lst (Evl.fresh_back e4.w.sh hp) (cut_ok hva lo hi)) p⟩
theorem ew_revL (h : EW W ta A fun x => onL x fun ds => P (.dat (.lst ds.reverse))) : EW W (tRevL W.K ta) A P := fun S H σ l E Q q => h S H σ l E _ fun S1 H1 v x e1 s1 p0 => by
  obtain ⟨ds, rfl, p⟩ := onL_iff p0
  obtain ⟨a, vs, rfl, ha, hva⟩ := dt_lst s1
  exact ⟨a, vs, rfl, .of (e1.w.sh _ _ ha), fun p' hp => q _ _ _ _ (e1.trans (.new e1.w hp)) (sd <| new_lst (Evl.fresh_back e1.w.sh hp) hva.rev) p⟩

/-! ### promises and calls -/
/-- a def that is handed data alone -/
def spP (K : PySem.W.Frag) (C : Addr) (R : List Da → (Da → Prop) → Prop) : Sp := fun vs H Q _ => ∃ (S : Hp) (ds : List Da) (P : Da → Prop), Wf none S H ∧ DtAll K C S vs ds ∧ R ds P ∧ ∀ S' H' v d, Ext none S H S' H' → Dt K C S' v d → P d → Q v H'
/-- .. the deal first -/
def spG (K : PySem.W.Frag) (C : Addr) (R : List Da → (Da → Prop) → Prop) : Sp := fun vs H Q _ => ∃ (p : Addr × Addr) (S : Hp) (ws : List V) (ds : List Da) (P : Da → Prop), vs = .ref p.1 :: ws ∧ Wf (some p) S H ∧ DtAll K C S ws ds ∧ R ds P ∧ ∀ S' H' v d, Ext (some p) S H S' H' → Dt K C S' v d → P d → Q v H'
theorem ew_callP {R : List Da → (Da → Prop) → Prop} {E0 : XK} {t : TA} (h : AW W t A fun xs => onDs xs fun ds => R ds fun d => P (.dat d)) : EW W (tCall (spP W.K W.C R) [] E0 t) A P := fun S H σ l E Q q =>
  h S H σ l E _ fun S1 H1 vs xs e1 s1 h1 => by
    obtain ⟨ds, rfl, hd, hr⟩ := onDs_iff s1 h1
    refine ⟨S1, ds, _, ⟨e1.w.sh, fun _ z => nomatch z⟩, by rw [List.append_nil]; exact hd, hr, fun S' H' v d e hv p => ?_⟩
    exact q S' H' v (.dat d) (e1.trans (e.lift e1.w)) hv p
def onGDs : List Sl → (List Da → Prop) → Prop
  | .deal :: r, f => onDs r f
  | _, _ => False
theorem ew_callG {R : List Da → (Da → Prop) → Prop} {E0 : XK} {t : TA} (h : AW W t A fun xs => onGDs xs fun ds => R ds fun d => P (.dat d)) : EW W (tCall (spG W.K W.C R) [] E0 t) A P := fun S H σ l E Q q =>
  h S H σ l E _ fun S1 H1 vs xs e1 s1 h1 => by
    cases xs with
    | nil => exact absurd h1 id
    | cons x xs =>
      cases x with
      | deal =>
        cases vs with
        | nil => cases s1
        | cons v vs =>
          cases s1 with
          | cons r1 r2 =>
            obtain ⟨p, hp, rfl⟩ := (r1 : ∃ p, W.dl = some p ∧ v = .ref p.1)
            obtain ⟨ds, rfl, hd, hr⟩ := onDs_iff r2 h1
            have w1 := e1.w
            rw [hp] at w1
            refine ⟨p, S1, vs, ds, _, by rw [List.append_nil], w1, hd, hr, fun S' H' v d e hv p' => ?_⟩
            exact q S' H' v (.dat d) (e1.trans (by rw [hp]; exact e)) hv p'
      | _ => exact absurd h1 id
end
end G
set_option Elab.async false
set_option linter.all false
set_option maxRecDepth 100000
namespace G
open PySem PySem.Spec L2
open Evl (Ex)
section
variable {X : Cx} {tg : Expr}
/-- a list or a tuple walked -/
def iSeq (K : PySem.W.Frag) (tl : TE) : TI := fun σ H R => tl σ H fun x H1 => ∃ a, x = .ref a ∧ (((∃ xs, SqL K H1 a xs) ∧ R (Itl K a) H1) ∨ ((∃ xs, SqT K H1 a xs) ∧ R (Itt K a) H1))
theorem pi_seq {e : Expr} {tl : TE} (he : PE X e tl) : PI X tg e (iSeq X.K tl) := by
  refine ⟨fun pins s0 σ H0 R I0 hyp => ?_⟩
  refine thn (he.run pins s0 σ H0 _ I0 hyp) fun val s2 ⟨y, H2, I2, rel, q2⟩ => ?_
  obtain ⟨ad, ey, ⟨⟨ys, sq⟩, qq⟩ | ⟨⟨ys, sq⟩, qq⟩⟩ := q2
  · subst ey
    cases rel
    obtain ⟨items, _, pl, _⟩ := I2.list sq
    refine wpAny_pyIter_list pl.isList ⟨s2.heap.objs.size, [s2.heap.objs.size], _, _, H2, rfl, I2.kept (t' := s2.toks) (fun _ _ z => Heap.get?_push_of_some _ z), turn_list ad _, ⟨_, Heap.get?_push_size _ rfl, rfl, rfl⟩, fun c hc => ?_, qq⟩
    cases List.mem_singleton.mp hc
    exact I2.fpOk (Nat.le_refl _) (I2.hok.fresh (Nat.le_refl _))
  · subst ey
    cases rel
    obtain ⟨items, _, pl, _⟩ := I2.tuple sq
    refine wpAny_pyIter_tuple (show s2.heap.IsTuple ad items.toArray from pl) ⟨s2.heap.objs.size, [s2.heap.objs.size], _, _, H2, rfl, I2.kept (t' := s2.toks) (fun _ _ z => Heap.get?_push_of_some _ z), turn_tuple ad _, ⟨_, Heap.get?_push_size _ rfl, rfl, rfl⟩, fun c hc => ?_, qq⟩
    cases List.mem_singleton.mp hc
    exact I2.fpOk (Nat.le_refl _) (I2.hok.fresh (Nat.le_refl _))
end
section
variable {W : Wd} {A : AS} {S H : Hp} {σ : L2.St} {l : Addr} {ta tb tc te : TE} {t u : TT}
/-! ### walks -/
theorem sqL_ex {K : PySem.W.Frag} {a : Addr} {xs : List V} (h : S a = some (.lst xs)) (e : Ex S H) : SqL K H a xs := .of (e _ _ h)
theorem sqT_ex {K : PySem.W.Frag} {a : Addr} {xs : List V} (h : S a = some (.tup xs)) (e : Ex S H) : SqT K H a xs := .of (e _ _ h)
theorem wlk_list {a : Addr} {vs : List V} {ds : List Da} (h : S a = some (.lst vs)) (hd : DtAll W.K W.C S vs ds) : WlkOk W (Itl W.K a) S ds := by
  refine ⟨YAt vs, ?_, fun i H x H' d e _ y => ?_⟩
  · rw [← hd.len]
    exact walk_list.mono (fun H e => sqL_ex h e) fun _ _ _ _ _ _ y => y
  · obtain ⟨d', e1, e2⟩ := hd.get y.2
    rw [e] at e1
    cases e1
    exact .inl ⟨y.1, e2⟩
theorem wlk_tup {a : Addr} {vs : List V} {ds : List Da} (h : S a = some (.tup vs)) (hd : DtAll W.K W.C S vs ds) : WlkOk W (Itt W.K a) S ds := by
  refine ⟨YAt vs, ?_, fun i H x H' d e _ y => ?_⟩
  · rw [← hd.len]
    exact walk_tup.mono (fun H e => sqT_ex h e) fun _ _ _ _ _ _ y => y
  · obtain ⟨d', e1, e2⟩ := hd.get y.2
    rw [e] at e1
    cases e1
    exact .inl ⟨y.1, e2⟩
def rgD (lo : Int) (n : Nat) : List Da := (List.range n).map fun i => .int (lo + (i : Nat))
theorem rgD_len (lo : Int) (n : Nat) : (rgD lo n).length = n := by unfold rgD; rw [List.length_map, List.length_range]
theorem rgD_get {lo : Int} {n i : Nat} {d : Da} (h : (rgD lo n)[i]? = some d) : i < n ∧ d = .int (lo + (i : Nat)) := by
  have hi : i < n := by
    have := (List.getElem?_eq_some_iff.mp h).1
    rwa [rgD_len] at this
  unfold rgD at h
  rw [List.getElem?_map, List.getElem?_range hi] at h
  exact ⟨hi, (Option.some.inj h).symm⟩
theorem wlk_range {lo : Int} {n : Nat} : WlkOk W (Itr lo n) S (rgD lo n) := by
  refine ⟨YFn fun i => .int (lo + (i : Nat)), ?_, fun i H x H' d e _ y => ?_⟩
  · rw [rgD_len]
    exact walk_range.mono (fun _ _ => trivial) fun _ _ _ _ _ _ y => y
  · obtain ⟨_, rfl⟩ := rgD_get e
    exact .inl ⟨y.1, by rw [y.2]; exact Dt.int _⟩
/-- a list or a tuple of data -/
def onSeq : Sl → (List Da → Prop) → Prop
  | .dat (.tup ds), f => f ds
  | .dat (.lst ds), f => f ds
  | _, _ => False
theorem onSeq_iff {x : Sl} {f : List Da → Prop} (h : onSeq x f) : ∃ ds, (x = .dat (.tup ds) ∨ x = .dat (.lst ds)) ∧ f ds := by
  cases x with
  | dat d =>
    cases d with
    | tup ds => exact ⟨ds, .inl rfl, h⟩
    | lst ds => exact ⟨ds, .inr rfl, h⟩
    | _ => exact absurd h id
  | _ => exact absurd h id
theorem iw_seq {P : List Da → Prop} (h : EW W ta A fun x => onSeq x P) : IW W (iSeq W.K ta) A P := fun S H σ l E R q => h S H σ l E _ fun S1 H1 v x e1 s1 p0 => by
  obtain ⟨ds, e, p⟩ := onSeq_iff p0
  rcases e with rfl | rfl
  · obtain ⟨a, vs, rfl, ha, hva⟩ := dt_tup s1
    exact ⟨a, rfl, .inr ⟨⟨vs, .of (e1.w.sh _ _ ha)⟩, q S1 H1 _ ds e1 (wlk_tup ha hva) p⟩⟩
  · obtain ⟨a, vs, rfl, ha, hva⟩ := dt_lst s1
    exact ⟨a, rfl, .inl ⟨⟨vs, .of (e1.w.sh _ _ ha)⟩, q S1 H1 _ ds e1 (wlk_list ha hva) p⟩⟩
theorem iw_rng1 {ta : TA} {P : List Da → Prop} (h : AW W ta A fun xs => on1 xs fun x => onI x fun n => -(2 ^ 62) ≤ n ∧ n < 2 ^ 62 ∧ P (rgD 0 n.toNat)) : IW W (iRng1 ta) A P := fun S H σ l E R q => h S H σ l E _ fun S1 H1 vs xs e1 s1 p0 => by
  obtain ⟨x, rfl, p1⟩ := on1_iff p0
  obtain ⟨n, rfl, h1, h2, p⟩ := onI_iff p1
  obtain ⟨v, rfl, hv⟩ := pair1 s1
  exact ⟨n, by rw [dt_int hv], h1, h2, q S1 H1 _ _ e1 wlk_range p⟩
theorem iw_rng2 {ta : TA} {P : List Da → Prop} (h : AW W ta A fun xs => on2 xs fun x y => onI2 x y fun i j => (-(2 ^ 62) ≤ i ∧ i < 2 ^ 62 ∧ -(2 ^ 62) ≤ j ∧ j < 2 ^ 62) ∧ P (rgD i (j - i).toNat)) : IW W (iRng2 ta) A P := fun S H σ l E R q => h S H σ l E _ fun S1 H1 vs xs e1 s1 p0 => by
  obtain ⟨x, y, rfl, p1⟩ := on2_iff p0
  obtain ⟨i, j, rfl, rfl, hb, p⟩ := onI2_iff p1
  obtain ⟨v, w, rfl, hv, hw⟩ := pair2 s1
  exact ⟨i, j, by rw [dt_int hv, dt_int hw], hb, q S1 H1 _ _ e1 wlk_range p⟩
/-- zip of two lists -/
theorem iw_zip {ta : TA} {P : List Da → Prop} (h : AW W ta A fun xs => on2 xs fun x y => onL x fun ds => onL y fun es => P ((ds.zip es).map fun p => .tup [p.1, p.2])) : IW W (iZip W.K ta) A P := fun S H σ l E R q => h S H σ l E _ fun S1 H1 vs xs e1 s1 p0 => by
  obtain ⟨x, y, rfl, p1⟩ := on2_iff p0
  obtain ⟨ds, rfl, p2⟩ := onL_iff p1
  obtain ⟨es, rfl, p⟩ := onL_iff p2
  obtain ⟨v, w, rfl, hv, hw⟩ := pair2 s1
  obtain ⟨a, xs, rfl, ha, hxa⟩ := dt_lst hv
  obtain ⟨b, ys, rfl, hb, hyb⟩ := dt_lst hw
  have wk : WlkOk W (Itz W.K a b) S1 ((ds.zip es).map fun p => .tup [p.1, p.2]) := by
    refine ⟨YPair (fun i => xs[i]?) (fun i => ys[i]?), ?_, fun i H x H' d e ex y => ?_⟩
    · rw [List.length_map, List.length_zip, ← hxa.len, ← hyb.len]
      exact (walk_zip rfl).mono (fun H e => ⟨sqL_ex ha e, sqL_ex hb e⟩) (fun _ _ _ _ _ _ y => y)
    · obtain ⟨T, x1, x2, rfl, hT, rfl, h1, h2⟩ := y
      obtain ⟨d1, f1, g1⟩ := hxa.get h1
      obtain ⟨d2, f2, g2⟩ := hyb.get h2
      rw [List.getElem?_map, List.getElem?_zip_eq_some (z := (d1, d2)) |>.mpr ⟨f1, f2⟩] at e
      cases e
      exact .inr ⟨T, _, hT, rfl, new_tup (Evl.fresh_back ex hT) (.cons g1 (.one g2))⟩
  exact ⟨a, b, xs, ys, rfl, .of (e1.w.sh _ _ ha), .of (e1.w.sh _ _ hb), q S1 H1 _ _ e1 wk p⟩

/-! ### targets -/
theorem gw_name {i : Nat} {ts : Nat → Prop} {x : Sl} {P : AS → Prop} (hi : ts i) (p : P ⟨A.sl.set i x, A.ac⟩) : GW W (gName i) ts x A P := fun S H σ l v E s Q q =>
  q _ ⟨A.sl.set i x, A.ac⟩ ⟨E.w, paired_set s i E.sl, E.ac⟩ ⟨List.length_set, fun j hj => List.getElem?_set_ne (fun e => hj (by rw [← e]; exact hi)), rfl⟩ p
theorem gsw_nil {ts : Nat → Prop} {P : AS → Prop} (p : P A) : GsW W gNil ts [] A P := fun S H σ l vs E s Q q => by
  cases s
  exact ⟨rfl, q σ A E ⟨rfl, fun _ _ => rfl, rfl⟩ p⟩
theorem gsw_cons {g : TG} {gs : TGs} {ts : Nat → Prop} {d : Da} {ds : List Da} {P : AS → Prop} (h : GW W g ts (.dat d) A fun A' => GsW W gs ts ds A' P) : GsW W (gCons g gs) ts (d :: ds) A P := fun S H σ l vs E s Q q => by
  cases s with
  | @cons v vs _ _ h1 h2 =>
    refine ⟨v, vs, rfl, h S H σ l v E h1 _ fun σ1 A1 E1 k1 h3 => h3 S H σ1 l vs E1 h2 _ fun σ2 A2 E2 k2 p => q σ2 A2 E2 ⟨k2.1.trans k1.1, fun j hj => (k2.2.1 j hj).trans (k1.2.1 j hj), k2.2.2.trans k1.2.2⟩ p⟩
def onTup : Sl → (List Da → Prop) → Prop
  | .dat (.tup ds), f => f ds
  | _, _ => False
theorem onTup_iff {x : Sl} {f : List Da → Prop} (h : onTup x f) : ∃ ds, x = .dat (.tup ds) ∧ f ds := by
  cases x with
  | dat d =>
    cases d with
    | tup ds => exact ⟨ds, rfl, h⟩
    | _ => exact absurd h id
  | _ => exact absurd h id
theorem gw_tup {gs : TGs} {n : Nat} {ts : Nat → Prop} {x : Sl} {P : AS → Prop} (h : onTup x fun ds => ds.length = n ∧ GsW W gs ts ds A P) : GW W (gTup W.K n gs) ts x A P := fun S H σ l v E s Q q => by
  obtain ⟨ds, rfl, hl, h2⟩ := onTup_iff h
  obtain ⟨a, vs, rfl, ha, hva⟩ := dt_tup s
  exact ⟨a, vs, rfl, .of (E.w.sh _ _ ha), hva.len.trans hl, h2 S H σ l vs E hva Q q⟩

/-! ### comprehensions -/
def wipeA (sl : List Sl) : List Nat → List Sl
  | [] => sl
  | v :: vs => (wipeA sl vs).set v .un
theorem wipe_ok {S : Hp} {l : Addr} {σ : L2.St} {sl : List Sl} (h : Paired (SlOk W l S) σ sl) : ∀ vs : List Nat, Paired (SlOk W l S) (wipe σ vs) (wipeA sl vs)
  | [] => h
  | v :: vs => paired_set (by trivial) v (wipe_ok h vs)
theorem wipe_set : ∀ {vs : List Nat} {σ σ' : L2.St}, σ'.length = σ.length → (∀ j, ¬ j ∈ vs → σ'[j]? = σ[j]?) → wipe σ' vs = wipe σ vs := fun {vs σ σ'} hl h => by
  apply List.ext_getElem?
  intro j
  by_cases hj : j ∈ vs
  · have k : ∀ (τ : L2.St) (vs : List Nat), j ∈ vs → (wipe τ vs)[j]? = if j < τ.length then some none else none := by
      intro τ vs
      induction vs with
      | nil => intro h; cases h
      | cons v vs ih =>
        intro h
        unfold wipe
        by_cases e : v = j
        · subst e
          by_cases hlt : v < τ.length
          · rw [List.getElem?_set_self (by rw [wipe_length]; exact hlt), if_pos hlt]
          · rw [List.getElem?_eq_none (by rw [List.length_set, wipe_length]; omega), if_neg hlt]
        · rw [List.getElem?_set_ne e]
          exact ih ((List.mem_cons.mp h).resolve_left fun z => e z.symm)
    rw [k _ _ hj, k _ _ hj, hl]
  · rw [wipe_out hj, wipe_out hj, h j hj]
theorem wipe_wipe {vs : List Nat} {σ : L2.St} : wipe (wipe σ vs) vs = wipe σ vs := wipe_set (wipe_length σ vs) fun _ hj => wipe_out hj
theorem Ext.upd {dl : Dl} {S0 H0 S H : Hp} {D : Addr} {o u : HO} (e : Ext dl S0 H0 S H) (h0 : H0 D = none) (hs : S D = none) (hd : H D = some o) (hn : NotD dl D) : Ext dl S0 H0 S (upd H D u) := by
  refine ⟨e.ss, ⟨fun a w ha => ?_, fun p hp => ?_⟩, e.nw, fun a w ha n => ?_⟩
  · rw [upd_ne (fun z => by subst z; rw [hs] at ha; cases ha)]
    exact e.w.sh a w ha
  · obtain ⟨h1, h2, h3, cells, mix, hl, h4, h5⟩ := e.w.dk p hp
    exact ⟨h1, h2, h3, cells, mix, hl, by rw [upd_ne (Ne.symm (hn p hp).1)]; exact h4, by rw [upd_ne (Ne.symm (hn p hp).2)]; exact h5⟩
  · rw [upd_ne (fun z => by subst z; rw [h0] at ha; cases ha)]
    exact e.hh a w ha n
/-- what stood in H as a free place is none of the deal's -/
theorem notD_of {dl : Dl} {S H : Hp} {p : Addr} (w : Wf dl S H) (h : H p = none) : NotD dl p := fun q hq => by
  obtain ⟨_, _, _, _, _, _, h4, h5⟩ := w.dk q hq
  exact ⟨fun e => (by rw [e, h4] at h; cases h), fun e => (by rw [e, h5] at h; cases h)⟩
/-- the list that grows stays at last -/
theorem Ext.freeze {dl : Dl} {S0 H0 S H : Hp} {D : Addr} {o : HO} (e : Ext dl S0 H0 S H) (h0 : H0 D = none) (hs : S D = none) (hd : H D = some o) (hn : NotD dl D) : Ext dl S0 H0 (L2.upd S D o) H := by
  refine ⟨e.ss.trans (Ex.new hs), ⟨fun a w ha => ?_, fun p hp => ?_⟩, fun a w ha => ?_, e.hh⟩
  · by_cases z : a = D
    · subst z
      rw [upd_same] at ha
      rw [hd]
      exact ha
    · rw [upd_ne z] at ha
      exact e.w.sh a w ha
  · obtain ⟨h1, h2, h3, cells, mix, hl, h4, h5⟩ := e.w.dk p hp
    exact ⟨h1, by rw [upd_ne (Ne.symm (hn p hp).1)]; exact h2, by rw [upd_ne (Ne.symm (hn p hp).2)]; exact h3, cells, mix, hl, h4, h5⟩
  · rw [upd_ne (fun z => by subst z; rw [h0] at ha; cases ha)]
    exact e.nw a w ha
/-- the state of a comprehension's turn: from S1, H1 (where D was free) -/
structure LcAt (W : Wd) (S1 H1 : Hp) (D : Addr) (acc : List Da) (H : Hp) : Prop where
  ex : ∃ S vs, Ext W.dl S1 H1 S H ∧ S D = none ∧ H D = some (.lst vs) ∧ DtAll W.K W.C S vs acc
theorem ew_lc {wi : TI} {g : TG} {tt : TT} {vs : List Nat} {P : Sl → Prop}
    (h : IW W wi A fun ds => ds.length ≤ 100000 ∧ ∃ Inv : Nat → List Da → Prop, Inv 0 [] ∧ (∀ i d acc, ds[i]? = some d → Inv i acc →
        GW W g (fun j => j ∈ vs) (.dat d) ⟨wipeA A.sl vs, A.ac⟩ fun A' => TW W tt A' fun b => if b = true then EW W te A' fun y => onDat y fun dy => Inv (i + 1) (acc ++ [dy]) else Inv (i + 1) acc) ∧
      ∀ acc, Inv ds.length acc → P (.dat (.lst acc))) : EW W (tLc wi g tt te vs) A P := fun S H σ l E Q q =>
  h S H σ l E _ fun S1 H1 J ds e1 wk h1 D hD => by
    obtain ⟨hlen, Inv, i0, turn, fin⟩ := h1
    obtain ⟨Y, wk, yv⟩ := wk.ex
    have E1 := E.ext e1
    have hn := notD_of e1.w hD
    refine lc_it (Qd := fun H2 => Q (.ref D) H2) wk (fun i H2 => ∃ acc, acc.length ≤ i ∧ Inv i acc ∧ LcAt W S1 H1 D acc H2) ⟨[], Nat.le_refl _, i0, S1, [], .newM e1.w hD, Evl.fresh_back e1.w.sh hD, upd_same, .nil⟩
      (fun i H2 hi ⟨acc, hl, hinv, S2, ws, e2, hs, hd, ha⟩ => e2.ss.trans e2.w.sh) (fun i x H2 H2' hi ⟨acc, hl, hinv, S2, ws, e2, hs, hd, ha⟩ hy => ?_) fun H2 ⟨acc, hl, hinv, S2, ws, e2, hs, hd, ha⟩ => ?_
    · obtain ⟨d, hdi⟩ : ∃ d, ds[i]? = some d := ⟨ds[i], List.getElem?_eq_getElem hi⟩
      -- the item comes
      obtain ⟨S3, e3, hs3, hd3, hx, ha3⟩ : ∃ S3, Ext W.dl S1 H1 S3 H2' ∧ S3 D = none ∧ H2' D = some (.lst ws) ∧ Dt W.K W.C S3 x d ∧ DtAll W.K W.C S3 ws acc := by
        rcases yv i H2 x H2' d hdi (e2.ss.trans e2.w.sh) hy with ⟨rfl, hx⟩ | ⟨T, o, hT, rfl, hx⟩
        · exact ⟨S2, e2, hs, hd, hx.mono e2.ss, ha⟩
        · have ne : D ≠ T := ne_of_none hd hT
          have hsT : S2 T = none := Evl.fresh_back e2.w.sh hT
          refine ⟨_, e2.trans (.new e2.w hT), by rw [upd_ne ne]; exact hs, by rw [upd_ne ne]; exact hd, hx.mono fun a u ha => ?_, ha.mono (Ex.new hsT)⟩
          by_cases z : a = T
          · subst z
            rw [upd_same] at ha ⊢
            exact ha
          · rw [upd_ne z] at ha ⊢
            exact e2.ss a u ha
      have E3 : Env W S3 H2' (wipe σ vs) l ⟨wipeA A.sl vs, A.ac⟩ := ⟨e3.w, wipe_ok (E1.ext e3).sl vs, (E1.ext e3).ac⟩
      refine turn i d acc hdi hinv S3 H2' _ l x E3 (sd hx) _ fun σ' A' E' k' tw => ⟨(wipe_set k'.1 k'.2.1).trans wipe_wipe, tw S3 H2' σ' l E' _ fun S4 H4 b e4 hb => ?_⟩
      have hd4 : H4 D = some (.lst ws) := e4.hh _ _ hd3 hn
      have hs4 : S4 D = none := (e4.nw _ _ hd3).trans hs3
      cases b with
      | true =>
        refine iteT ((iteT_inv hb) S4 H4 σ' l (E'.ext e4) _ fun S5 H5 v y e5 hy hp => ?_)
        obtain ⟨dy, rfl, hp⟩ := onDat_iff hp
        have hd5 : H5 D = some (.lst ws) := e5.hh _ _ hd4 hn
        have hs5 : S5 D = none := (e5.nw _ _ hd4).trans hs4
        have hl2 := ha.len
        refine ⟨ws, hd5, szl (by omega), acc ++ [dy], by rw [List.length_append]; exact Nat.succ_le_succ hl, hp, S5, ws ++ [v], ((e3.trans e4).trans e5).upd hD hs5 hd5 hn, hs5, upd_same, (ha3.mono (e4.ss.trans e5.ss)).app (.one hy)⟩
      | false => exact iteF ⟨acc, Nat.le_succ_of_le hl, iteF_inv hb, S4, ws, e3.trans e4, hs4, hd4, ha3.mono e4.ss⟩
    · exact q _ _ _ _ (e1.trans (e2.freeze hD hs hd hn)) (sd <| .lst upd_same (ha.mono (Ex.new hs))) (fin acc hinv)
end
end G
set_option Elab.async false
set_option linter.all false
set_option maxRecDepth 100000
namespace G
open PySem PySem.Spec L2
open Evl (Ex)
section
variable {W : Wd} {A : AS} {S H : Hp} {σ : L2.St} {l : Addr} {ta tb tc te : TE} {t u : TT}
/-! ### two clauses -/
theorem ew_lc2 {wi wi1 : TI} {g g1 : TG} {tt tt1 : TT} {vs vs1 : List Nat} {P : Sl → Prop}
    (h : IW W wi A fun ds => ds.length ≤ 1000 ∧ ∃ Inv : Nat → List Da → Prop, Inv 0 [] ∧ (∀ i d acc, ds[i]? = some d → Inv i acc →
        GW W g (fun j => j ∈ vs) (.dat d) ⟨wipeA A.sl vs, A.ac⟩ fun A' => A'.ac = none ∧ TW W tt A' fun b => if b = true then
          IW W wi1 A' fun es => es.length ≤ 1000 ∧ ∃ Jnv : Nat → List Da → Prop, Jnv 0 acc ∧ (∀ j e acc', es[j]? = some e → Jnv j acc' →
            GW W g1 (fun j => j ∈ vs1) (.dat e) ⟨wipeA A'.sl vs1, A'.ac⟩ fun A'' => TW W tt1 A'' fun b => if b = true then EW W te A'' fun y => onDat y fun dy => acc'.length ≤ 90000 ∧ Jnv (j + 1) (acc' ++ [dy]) else Jnv (j + 1) acc') ∧ ∀ acc', Jnv es.length acc' → Inv (i + 1) acc'
          else Inv (i + 1) acc) ∧
      ∀ acc, Inv ds.length acc → P (.dat (.lst acc))) : EW W (tLc2 wi g tt wi1 g1 tt1 te vs vs1) A P := fun S H σ l E Q q =>
  h S H σ l E _ fun S1 H1 J ds e1 wk h1 D hD => by
    obtain ⟨hlen, Inv, i0, turn, fin⟩ := h1
    obtain ⟨Y, wk, yv⟩ := wk.ex
    have E1 := E.ext e1
    have hn := notD_of e1.w hD
    refine ⟨fun i m H2 => m = ds.length - i ∧ i ≤ ds.length ∧ ∃ acc S2 ws, Inv i acc ∧ Ext W.dl S1 H1 S2 H2 ∧ S2 D = none ∧ H2 D = some (.lst ws) ∧ DtAll W.K W.C S2 ws acc, ⟨_, rfl, Nat.zero_le _, [], S1, [], i0, .newM e1.w hD, Evl.fresh_back e1.w.sh hD, upd_same, .nil⟩, ?_⟩
    rintro i m H2 ⟨rfl, hi, acc, S2, ws, hinv, e2, hs, hd, ha⟩
    have ex2 : Ex S1 H2 := e2.ss.trans e2.w.sh
    by_cases hlt : i < ds.length
    · obtain ⟨d, hdi⟩ : ∃ d, ds[i]? = some d := ⟨ds[i], List.getElem?_eq_getElem hlt⟩
      refine .inr ⟨wk.goes i H2 hlt ex2, fun H3 => ∃ acc S3 ws, Inv (i + 1) acc ∧ Ext W.dl S1 H1 S3 H3 ∧ S3 D = none ∧ H3 D = some (.lst ws) ∧ DtAll W.K W.C S3 ws acc, fun H3 hN => ⟨ds.length - (i + 1), by omega, rfl, hlt, hN⟩, fun x H2' hy0 => ?_⟩
      have hy := wk.yields i H2 x H2' hlt ex2 hy0
      obtain ⟨S3, e3, hs3, hd3, hx, ha3⟩ : ∃ S3, Ext W.dl S1 H1 S3 H2' ∧ S3 D = none ∧ H2' D = some (.lst ws) ∧ Dt W.K W.C S3 x d ∧ DtAll W.K W.C S3 ws acc := by
        rcases yv i H2 x H2' d hdi ex2 hy with ⟨rfl, hx⟩ | ⟨T, o, hT, rfl, hx⟩
        · exact ⟨S2, e2, hs, hd, hx.mono e2.ss, ha⟩
        · have ne : D ≠ T := ne_of_none hd hT
          have hsT : S2 T = none := Evl.fresh_back e2.w.sh hT
          refine ⟨_, e2.trans (.new e2.w hT), by rw [upd_ne ne]; exact hs, by rw [upd_ne ne]; exact hd, hx.mono fun a u ha => ?_, ha.mono (Ex.new hsT)⟩
          by_cases z : a = T
          · subst z
            rw [upd_same] at ha ⊢
            exact ha
          · rw [upd_ne z] at ha ⊢
            exact e2.ss a u ha
      have E3 : Env W S3 H2' (wipe σ vs) l ⟨wipeA A.sl vs, A.ac⟩ := ⟨e3.w, wipe_ok (E1.ext e3).sl vs, (E1.ext e3).ac⟩
      refine turn i d acc hdi hinv S3 H2' _ l x E3 (sd hx) _ fun σ' A' E' k' ⟨hac, tw⟩ => ⟨(wipe_set k'.1 k'.2.1).trans wipe_wipe, tw S3 H2' σ' l E' _ fun S4 H4 b e4 hb => ?_⟩
      have hd4 : H4 D = some (.lst ws) := e4.hh _ _ hd3 hn
      have hs4 : S4 D = none := (e4.nw _ _ hd3).trans hs3
      cases b with
      | true =>
        refine iteT ((iteT_inv hb) S4 H4 σ' l (E'.ext e4) _ fun S5 H5 J1 es e5 wk1 h5 => ?_)
        obtain ⟨hlen1, Jnv, j0, turn1, fin1⟩ := h5
        obtain ⟨Y1, wk1, yv1⟩ := wk1.ex
        have E5 := (E'.ext e4).ext e5
        have hd5 : H5 D = some (.lst ws) := e5.hh _ _ hd4 hn
        have hs5 : S5 D = none := (e5.nw _ _ hd4).trans hs4
        -- at each turn: from S5, H5 only D has changed
        refine ⟨fun j k H6 => k = es.length - j ∧ j ≤ es.length ∧ ∃ acc' S6 ws', Jnv j acc' ∧ Ext W.dl S1 H1 S6 H6 ∧ Ex S5 S6 ∧ (∀ a o, H5 a = some o → a ≠ D → NotD W.dl a → H6 a = some o) ∧ (∀ a o, H5 a = some o → S6 a = S5 a) ∧ S6 D = none ∧ H6 D = some (.lst ws') ∧ DtAll W.K W.C S6 ws' acc',
          ⟨_, rfl, Nat.zero_le _, acc, S5, ws, j0, (e3.trans e4).trans e5, Ex.refl _, fun _ _ h _ _ => h, fun _ _ _ => rfl, hs5, hd5, ha3.mono (e4.ss.trans e5.ss)⟩, ?_⟩
        rintro j k H6 ⟨rfl, hj, acc', S6, ws', hj', e6, x6, k6, n6, hs6, hd6, ha6⟩
        have ex6 : Ex S5 H6 := x6.trans e6.w.sh
        by_cases hjt : j < es.length
        · obtain ⟨e, hej⟩ : ∃ e, es[j]? = some e := ⟨es[j], List.getElem?_eq_getElem hjt⟩
          refine .inr ⟨wk1.goes j H6 hjt ex6, fun H7 => ∃ acc' S7 ws', Jnv (j + 1) acc' ∧ Ext W.dl S1 H1 S7 H7 ∧ Ex S5 S7 ∧ (∀ a o, H5 a = some o → a ≠ D → NotD W.dl a → H7 a = some o) ∧ (∀ a o, H5 a = some o → S7 a = S5 a) ∧ S7 D = none ∧ H7 D = some (.lst ws') ∧ DtAll W.K W.C S7 ws' acc',
            fun H7 hN => ⟨es.length - (j + 1), by omega, rfl, hjt, hN⟩, fun y H6' hy1 => ?_⟩
          have hy2 := wk1.yields j H6 y H6' hjt ex6 hy1
          obtain ⟨S7, e7, hs7, hd7, hx7, ha7, x7, k7, n7⟩ : ∃ S7, Ext W.dl S1 H1 S7 H6' ∧ S7 D = none ∧ H6' D = some (.lst ws') ∧ Dt W.K W.C S7 y e ∧ DtAll W.K W.C S7 ws' acc' ∧ Ex S5 S7 ∧ (∀ a o, H5 a = some o → a ≠ D → NotD W.dl a → H6' a = some o) ∧ (∀ a o, H5 a = some o → S7 a = S5 a) := by
            rcases yv1 j H6 y H6' e hej ex6 hy2 with ⟨rfl, hx⟩ | ⟨T, o, hT, rfl, hx⟩
            · exact ⟨S6, e6, hs6, hd6, hx.mono x6, ha6, x6, k6, n6⟩
            · have ne : D ≠ T := ne_of_none hd6 hT
              have hsT : S6 T = none := Evl.fresh_back e6.w.sh hT
              have h5T : H5 T = none := by
                cases q5 : H5 T with
                | none => rfl
                | some o' =>
                  have z := k6 T o' q5 (Ne.symm ne) (notD_of e6.w hT)
                  rw [hT] at z
                  cases z
              refine ⟨_, e6.trans (.new e6.w hT), by rw [upd_ne ne]; exact hs6, by rw [upd_ne ne]; exact hd6, hx.mono fun a u ha => ?_, ha6.mono (Ex.new hsT), x6.trans (Ex.new hsT), fun a o h1 h2 h3 => ?_, fun a o h1 => ?_⟩
              · by_cases z : a = T
                · subst z
                  rw [upd_same] at ha ⊢
                  exact ha
                · rw [upd_ne z] at ha ⊢
                  exact x6 a u ha
              · rw [upd_ne (fun z => by subst z; rw [h5T] at h1; cases h1)]
                exact k6 a o h1 h2 h3
              · rw [upd_ne (fun z => by subst z; rw [h5T] at h1; cases h1)]
                exact n6 a o h1
          have E7 : Env W S7 H6' (wipe σ' vs1) l ⟨wipeA A'.sl vs1, A'.ac⟩ := by
            refine ⟨e7.w, wipe_ok (Paired.imp (fun _ _ z => z.mono x7) E5.sl) vs1, fun es' hes => ?_⟩
            have hes' : A'.ac = some es' := hes
            rw [hac] at hes'
            cases hes'
          refine turn1 j e acc' hej hj' S7 H6' _ l y E7 (sd hx7) _ fun σ2 A2 E8 k8 tw1 => ⟨(wipe_set k8.1 k8.2.1).trans wipe_wipe, tw1 S7 H6' σ2 l E8 _ fun S8 H8 b e8 hb8 => ?_⟩
          have hd8 : H8 D = some (.lst ws') := e8.hh _ _ hd7 hn
          have hs8 : S8 D = none := (e8.nw _ _ hd7).trans hs7
          have ne5 : ∀ a o, H5 a = some o → a ≠ D → NotD W.dl a → H8 a = some o := fun a o h1 h2 h3 => e8.hh _ _ (k7 a o h1 h2 h3) h3
          have nn5 : ∀ {Sx Hx : Hp}, Ext W.dl S7 H6' Sx Hx → ∀ a o, H5 a = some o → Sx a = S5 a := fun ex a o h1 => by
            by_cases z : a = D
            · subst z
              rw [ex.nw _ _ hd7, hs7, hs5]
            · by_cases nz : NotD W.dl a
              · rw [ex.nw _ _ (k7 a o h1 z nz), n7 a o h1]
              · obtain ⟨o', q'⟩ : ∃ o', H6' a = some o' := by
                  unfold NotD at nz
                  simp only [Classical.not_forall] at nz
                  obtain ⟨p, hp, hnp⟩ := nz
                  obtain ⟨_, _, _, cells, mix, _, g1, g2⟩ := e7.w.dk p hp
                  by_cases h3 : a = p.1
                  · exact ⟨_, h3 ▸ g1⟩
                  · by_cases h4 : a = p.2
                    · exact ⟨_, h4 ▸ g2⟩
                    · exact absurd ⟨h3, h4⟩ hnp
                rw [ex.nw _ _ q', n7 a o h1]
          cases b with
          | true =>
            refine iteT ((iteT_inv hb8) S8 H8 σ2 l (E8.ext e8) _ fun S9 H9 v y e9 hy9 hp9 => ?_)
            obtain ⟨dy, rfl, hl9, hp9⟩ := onDat_iff hp9
            have hd9 : H9 D = some (.lst ws') := e9.hh _ _ hd8 hn
            have hs9 : S9 D = none := (e9.nw _ _ hd8).trans hs8
            have hl2 := ha7.len
            refine ⟨ws', hd9, szl (by omega), acc' ++ [dy], S9, ws' ++ [v], hp9, ((e7.trans e8).trans e9).upd hD hs9 hd9 hn, x7.trans (e8.ss.trans e9.ss), fun a o h1 h2 h3 => ?_, nn5 (e8.trans e9), hs9, upd_same, (ha7.mono (e8.ss.trans e9.ss)).app (.one hy9)⟩
            rw [upd_ne h2]
            exact e9.hh _ _ (ne5 a o h1 h2 h3) h3
          | false => exact iteF ⟨acc', S8, ws', iteF_inv hb8, e7.trans e8, x7.trans e8.ss, ne5, nn5 e8, hs8, hd8, ha7.mono e8.ss⟩
        · have ej : j = es.length := by omega
          subst ej
          exact .inl ⟨wk1.stops H6 ex6, acc', S6, ws', fin1 acc' hj', e6, hs6, hd6, ha6⟩
      | false => exact iteF ⟨acc, S4, ws, iteF_inv hb, e3.trans e4, hs4, hd4, ha3.mono e4.ss⟩
    · have ei : i = ds.length := by omega
      subst ei
      exact .inl ⟨wk.stops H2 ex2, q _ _ _ _ (e1.trans (e2.freeze hD hs hd hn)) (sd <| .lst upd_same (ha.mono (Ex.new hs))) (fin acc hinv)⟩
end
end G
set_option Elab.async false
set_option linter.all false
set_option maxRecDepth 100000
namespace G
open PySem PySem.Spec L2
open Evl (Ex)
open PyProof.Rows (envOfC)
section
variable {W : Wd} {A : AS} {S H S0 H0 : Hp} {σ : L2.St} {l : Addr} {D : Ends} {N : Ns} {ta tb tc te : TE} {t u : TS} {c : TT}
theorem At.ext {S' H' : Hp} (a : At W S0 H0 S H σ l A) (e : Ext W.dl S H S' H') : At W S0 H0 S' H' σ l A := ⟨a.x.trans e, a.e.ext e, a.f⟩
theorem SW.mono {N' : Ns} (h : SW W t A N) (f : ∀ A, N.nx A → N'.nx A) (g : ∀ d, N.rt d → N'.rt d) (h1 : ∀ A, N.bk A → N'.bk A) (h2 : ∀ A, N.ct A → N'.ct A) : SW W t A N' := fun S0 H0 S H σ l a D m =>
  h S0 H0 S H σ l a D ⟨fun S H σ l A a p => m.nx S H σ l A a (f A p), fun S H v d e s p => m.rt S H v d e s (g d p), fun S H σ l A a p => m.bk S H σ l A a (h1 A p), fun S H σ l A a p => m.ct S H σ l A a (h2 A p)⟩
theorem sw_seq (h : SW W t A ⟨fun A' => SW W u A' N, N.rt, N.bk, N.ct⟩) : SW W (tSeq t u) A N := fun S0 H0 S H σ l a D m =>
  h S0 H0 S H σ l a { D with nx := u D } ⟨fun S H σ l A a p => p S0 H0 S H σ l a D m, m.rt, m.bk, m.ct⟩
theorem sw_next (p : N.nx A) : SW W tNext A N := fun S0 H0 S H σ l a D m => m.nx S H σ l A a p
theorem sw_brk (p : N.bk A) : SW W tBreak A N := fun S0 H0 S H σ l a D m => m.bk S H σ l A a p
theorem sw_cont (p : N.ct A) : SW W tCont A N := fun S0 H0 S H σ l a D m => m.ct S H σ l A a p
theorem sw_never (p : False) : SW W tNever A N := p.elim
theorem sw_ret (h : EW W te A fun x => onDat x N.rt) : SW W (tRet te) A N := fun S0 H0 S H σ l a D m => h S H σ l a.e _ fun S1 H1 v x e s p => by
  obtain ⟨d, rfl, p⟩ := onDat_iff p
  exact m.rt S1 H1 v d (a.x.trans e) s p
theorem sw_drop (h : EW W te A fun _ => N.nx A) : SW W (tDrop te) A N := fun S0 H0 S H σ l a D m => h S H σ l a.e _ fun S1 H1 v x e s p => m.nx S1 H1 σ l A (a.ext e) p
theorem sw_if (h : TW W c A fun b => if b = true then SW W t A N else SW W u A N) : SW W (tIfS c t u) A N := fun S0 H0 S H σ l a D m => h S H σ l a.e _ fun S1 H1 b e p => by
  cases b with
  | true => exact iteT ((iteT_inv p) S0 H0 S1 H1 σ l (a.ext e) D m)
  | false => exact iteF ((iteF_inv p) S0 H0 S1 H1 σ l (a.ext e) D m)
theorem sw_asg {g : TG} (h : EW W te A fun x => GW W g (fun _ => True) x A N.nx) : SW W (tAsg te g) A N := fun S0 H0 S H σ l a D m => h S H σ l a.e _ fun S1 H1 v x e s p =>
  p S1 H1 σ l v (a.ext e).e s _ fun σ' A' E' k p => m.nx S1 H1 σ' l A' ⟨a.x.trans e, E', fun z => a.f (by rw [← k.2.2]; exact z)⟩ p
/-! ### the list that grows -/
def noAcc : List Sl → Bool
  | [] => true
  | .acc :: _ => false
  | _ :: r => noAcc r
theorem noAcc_ok {q : Addr} : ∀ {σ : L2.St} {sl : List Sl}, noAcc sl = true → Paired (SlOk W l S) σ sl → Paired (SlOk W q S) σ sl
  | _, _, _, .nil => .nil
  | v :: _, x :: _, h, .cons r t => by
    cases x with
    | acc => cases h
    | _ => exact .cons (by cases v <;> exact r) (noAcc_ok h t)
theorem At.new {q : Addr} (a : At W S0 H0 S H σ l A) (ha : A.ac = none) (hn : noAcc A.sl = true) (hq : H q = none) : At W S0 H0 S (upd H q (.lst [])) σ q ⟨A.sl, some []⟩ := by
  have hs := Evl.fresh_back a.e.w.sh hq
  refine ⟨a.x.trans (.newM a.e.w hq), ⟨(Ext.newM a.e.w hq).w, noAcc_ok hn a.e.sl, fun ds e => ?_⟩, fun _ => a.x.fresh hq⟩
  cases e
  exact ⟨hs, notD_of a.e.w hq, [], upd_same, .nil⟩
theorem At.set {i : Nat} {v : V} {x : Sl} (a : At W S0 H0 S H σ l A) (h : SlOk W l S (some v) x) : At W S0 H0 S H (σ.set i (some v)) l ⟨A.sl.set i x, A.ac⟩ := ⟨a.x, ⟨a.e.w, paired_set h i a.e.sl, a.e.ac⟩, a.f⟩
/-- found = [] -/
theorem sw_new {i : Nat} (ha : A.ac = none) (hn : noAcc A.sl = true) (p : N.nx ⟨A.sl.set i .acc, some []⟩) : SW W (tAsg (tLst tNil) (gName i)) A N := fun S0 H0 S H σ l a D m =>
  ⟨Nat.zero_le _, fun q hq => m.nx _ _ _ q _ ((a.new ha hn hq).set (v := .ref q) (x := .acc) rfl) p⟩
/-- found, n = [], 0 -/
theorem sw_parNew {i j : Nat} {k : Int} (ha : A.ac = none) (hn : noAcc A.sl = true) (p : N.nx ⟨(A.sl.set i .acc).set j (.dat (.int k)), some []⟩) : SW W (tPar i j (tCons (tLst tNil) (tCons (tC (.int k)) tNil))) A N := fun S0 H0 S H σ l a D m =>
  ⟨Nat.zero_le _, fun q hq => ⟨_, _, rfl, m.nx _ _ _ q _ (((a.new ha hn hq).set (v := .ref q) (x := .acc) rfl).set (v := .int k) (x := .dat (.int k)) (sd (Dt.int k))) p⟩⟩
theorem At.grow {S' H' : Hp} {ds es : List Da} {vs ws : List V} (a : At W S0 H0 S' H' σ l A) (ha : A.ac = some ds) (hv : DtAll W.K W.C S' ws es) : At W S0 H0 S' (upd H' l (.lst ws)) σ l ⟨A.sl, some es⟩ := by
  obtain ⟨h1, h2, us, h3, h4⟩ := a.e.ac ds ha
  have h0 : H0 l = none := a.f (by rw [ha]; exact fun z => nomatch z)
  have x := a.x.upd (u := .lst ws) h0 h1 h3 h2
  refine ⟨x, ⟨x.w, a.e.sl, fun fs e => ?_⟩, fun _ => h0⟩
  cases e
  exact ⟨h1, h2, ws, upd_same, hv⟩
/-- found.append(e) -/
theorem sw_app {i : Nat} {ds : List Da} (hi : A.sl[i]? = some .acc) (ha : A.ac = some ds) (hl : ds.length ≤ 90000) (h : EW W te A fun y => onDat y fun d => N.nx ⟨A.sl, some (ds ++ [d])⟩) : SW W (tDrop (tBM W.K "list" rAppend (tVar i) (tCons te tNil))) A N := fun S0 H0 S H σ l a D m => by
  obtain ⟨v, h1, h2⟩ := paired_at a.e.sl hi
  cases v with
  | none => exact absurd h2 id
  | some v =>
    have e : v = .ref l := h2
    subst e
    obtain ⟨_, _, vs, g3, _⟩ := a.e.ac ds ha
    refine ⟨.ref l, h1, .inl ⟨rfl, vs, .of g3⟩, h S H σ l a.e _ fun S1 H1 v x e s p0 => ?_⟩
    obtain ⟨d, rfl, p⟩ := onDat_iff p0
    have a1 := a.ext e
    obtain ⟨_, _, ws, g4, g5⟩ := a1.e.ac ds ha
    have hlen := g5.len
    exact ⟨l, ws, v, rfl, rfl, g4, szl (by omega), m.nx _ _ _ _ _ (a1.grow (vs := ws) ha (g5.app (.one s))) p⟩
def rIns : V → List V → Hp → VK → Prop := fun x vs H Q => ∃ (l : Addr) (xs : List V) (i : Int) (y : V), x = .ref l ∧ vs = [.int i, y] ∧ H l = some (.lst xs) ∧ xs.length < sizeLine ∧ 0 ≤ i ∧ i < 2 ^ 63 ∧ Q .non (upd H l (.lst (xs.take i.toNat ++ [y] ++ xs.drop i.toNat)))
theorem mt_ins {X : Cx} : MtR X "list.insert" rIns := mt_insert
/-- found.insert(k, e) -/
theorem sw_ins {i : Nat} {ds : List Da} (hi : A.sl[i]? = some .acc) (ha : A.ac = some ds) (hl : ds.length ≤ 90000) (h : EW W ta A fun z => onI z fun k => 0 ≤ k ∧ k < 2 ^ 63 ∧ EW W te A fun y => onDat y fun d => N.nx ⟨A.sl, some (ds.take k.toNat ++ [d] ++ ds.drop k.toNat)⟩) :
    SW W (tDrop (tBM W.K "list" rIns (tVar i) (tCons ta (tCons te tNil)))) A N := fun S0 H0 S H σ l a D m => by
  obtain ⟨v, h1, h2⟩ := paired_at a.e.sl hi
  cases v with
  | none => exact absurd h2 id
  | some v =>
    have e : v = .ref l := h2
    subst e
    obtain ⟨_, _, vs, g3, _⟩ := a.e.ac ds ha
    refine ⟨.ref l, h1, .inl ⟨rfl, vs, .of g3⟩, h S H σ l a.e _ fun S1 H1 v1 x1 e1 s1 p1 => ?_⟩
    obtain ⟨k, rfl, k0, k1, p1'⟩ := onI_iff p1
    refine p1' S1 H1 σ l (a.ext e1).e _ fun S2 H2 v x e s p0 => ?_
    obtain ⟨d, rfl, p⟩ := onDat_iff p0
    have a1 := a.ext (e1.trans e)
    obtain ⟨_, _, ws, g4, g5⟩ := a1.e.ac ds ha
    have hlen := g5.len
    exact ⟨l, ws, k, v, rfl, by rw [dt_int s1], g4, szl (by omega), k0, k1, m.nx _ _ _ _ _ (a1.grow (vs := ws) ha (((g5.take _).app (.one s)).app (g5.drop _))) p⟩
/-- found.extend(e), e a new list -/
theorem sw_extend {i : Nat} {ds : List Da} (hi : A.sl[i]? = some .acc) (ha : A.ac = some ds) (hl : ds.length ≤ 50000) (h : EW W te A fun y => onL y fun es => es.length ≤ 40000 ∧ N.nx ⟨A.sl, some (ds ++ es)⟩) : SW W (tDrop (tBM W.K "list" rExtend (tVar i) (tCons te tNil))) A N := fun S0 H0 S H σ l a D m => by
  obtain ⟨v, h1, h2⟩ := paired_at a.e.sl hi
  cases v with
  | none => exact absurd h2 id
  | some v =>
    have e : v = .ref l := h2
    subst e
    obtain ⟨_, _, vs, g3, _⟩ := a.e.ac ds ha
    refine ⟨.ref l, h1, .inl ⟨rfl, vs, .of g3⟩, h S H σ l a.e _ fun S1 H1 v x e s p0 => ?_⟩
    obtain ⟨es, rfl, hl2, p⟩ := onL_iff p0
    have a1 := a.ext e
    obtain ⟨_, _, ws, g4, g5⟩ := a1.e.ac ds ha
    obtain ⟨b, us, rfl, g6, g7⟩ := dt_lst s
    have hlen := g5.len
    have hlen2 := g7.len
    exact ⟨l, b, ws, us, rfl, rfl, g4, a1.e.w.sh _ _ g6, szk (by omega), m.nx _ _ _ _ _ (a1.grow (vs := ws) ha (g5.app g7)) p⟩
/-- the list stays from here on -/
theorem freeze_ok {ds : List Da} {vs : List V} : ∀ {σ : L2.St} {sl : List Sl}, S l = none → DtAll W.K W.C S vs ds → Paired (SlOk W l S) σ sl → Paired (SlOk W l (upd S l (.lst vs))) σ (sl.map fun x => match x with | .acc => .dat (.lst ds) | x => x)
  | _, _, _, _, .nil => .nil
  | v :: _, x :: _, hs, hd, .cons r t => by
    refine .cons ?_ (freeze_ok hs hd t)
    cases x with
    | acc =>
      cases v with
      | none => exact absurd r id
      | some v =>
        have e : v = .ref l := r
        subst e
        exact sd (.lst upd_same (hd.mono (Ex.new hs)))
    | _ => exact SlOk.mono (Ex.new hs) r
theorem sw_freeze {ds : List Da} (ha : A.ac = some ds) (h : SW W t ⟨A.sl.map fun x => match x with | .acc => .dat (.lst ds) | x => x, none⟩ N) : SW W t A N := fun S0 H0 S H σ l a D m => by
  obtain ⟨h1, h2, vs, h3, h4⟩ := a.e.ac ds ha
  have h0 : H0 l = none := a.f (by rw [ha]; exact fun z => nomatch z)
  have x := a.x.freeze h0 h1 h3 h2
  exact h S0 H0 _ H σ l ⟨x, ⟨x.w, freeze_ok h1 h4 a.e.sl, fun _ z => nomatch z⟩, fun z => absurd rfl z⟩ D m
/-- n += e -/
theorem sw_aug {i : Nat} {f : Int → Int → Int} {k : Int} (hi : A.sl[i]? = some (.dat (.int k))) (h : EW W te A fun y => onI y fun j => N.nx ⟨A.sl.set i (.dat (.int (f k j))), A.ac⟩) : SW W (tAug i te (ipI f)) A N := fun S0 H0 S H σ l a D m => by
  obtain ⟨v, h1, h2⟩ := paired_at a.e.sl hi
  cases v with
  | none => exact absurd h2 id
  | some v =>
    have e : v = .int k := dt_int h2
    subst e
    refine ⟨.int k, h1, h S H σ l a.e _ fun S1 H1 v x e s p0 => ?_⟩
    obtain ⟨j, rfl, p⟩ := onI_iff p0
    exact ⟨k, j, rfl, dt_int s, m.nx _ _ _ _ _ ((a.ext e).set (v := .int (f k j)) (x := .dat (.int (f k j))) (sd (Dt.int _))) p⟩
/-- x, y = e, f -/
theorem sw_par {i j : Nat} {tx : TA} (h : AW W tx A fun xs => on2 xs fun x y => N.nx ⟨(A.sl.set i x).set j y, A.ac⟩) : SW W (tPar i j tx) A N := fun S0 H0 S H σ l a D m => h S H σ l a.e _ fun S1 H1 vs xs e s p0 => by
  obtain ⟨x, y, rfl, p⟩ := on2_iff p0
  obtain ⟨v, w, rfl, hv, hw⟩ := pair2 s
  exact ⟨v, w, rfl, m.nx _ _ _ _ _ (((a.ext e).set hv).set (A := ⟨A.sl.set i x, A.ac⟩) hw) p⟩

/-! ### loops -/
def hid (A : AS) (l : Addr) (H : Hp) : Hp := fun a => if A.ac.isSome = true ∧ a = l then none else H a
theorem hid_some {a : Addr} {o : HO} (h : hid A l H a = some o) : H a = some o ∧ (A.ac.isSome = true → a ≠ l) := by
  unfold hid at h
  by_cases z : A.ac.isSome = true ∧ a = l
  · rw [if_pos z] at h
    cases h
  · rw [if_neg z] at h
    exact ⟨h, fun y e => z ⟨y, e⟩⟩
theorem At.base (a : At W S0 H0 S H σ l A) : At W S (hid A l H) S H σ l A := by
  refine ⟨⟨Ex.refl _, a.e.w, fun _ _ _ => rfl, fun x o h _ => (hid_some h).1⟩, a.e, fun h => ?_⟩
  unfold hid
  rw [if_pos ⟨by cases q : A.ac <;> first | exact absurd q h | rfl, rfl⟩]
theorem At.free (a : At W S0 H0 S H σ l A) {q : Addr} (h : hid A l H q = none) : H0 q = none := by
  unfold hid at h
  by_cases z : A.ac.isSome = true ∧ q = l
  · rw [z.2]
    exact a.f (by intro e; rw [e] at z; cases z.1)
  · rw [if_neg z] at h
    exact a.x.fresh h
theorem At.back (a : At W S0 H0 S H σ l A) {S' H' : Hp} (e : Ext W.dl S (hid A l H) S' H') : Ext W.dl S0 H0 S' H' := by
  have k : ∀ x o, H0 x = some o → ∃ o', hid A l H x = some o' := fun x o h => by
    cases q : hid A l H x with
    | none =>
      have z := a.free q
      rw [h] at z
      cases z
    | some o' => exact ⟨o', rfl⟩
  refine ⟨a.x.ss.trans e.ss, e.w, fun x o h => ?_, fun x o h n => ?_⟩
  · obtain ⟨o', h'⟩ := k x o h
    rw [e.nw x o' h', a.x.nw x o h]
  · obtain ⟨o', h'⟩ := k x o h
    have h2 := a.x.hh x o h n
    have h3 := (hid_some h').1
    rw [h2] at h3
    cases h3
    exact e.hh x o h' n
theorem At.back' (a : At W S0 H0 S H σ l A) {S' H' : Hp} {σ' : L2.St} {l' : Addr} {A' : AS} (b : At W S (hid A l H) S' H' σ' l' A') : At W S0 H0 S' H' σ' l' A' := ⟨a.back b.x, b.e, fun h => a.free (b.f h)⟩
theorem sw_for {wi : TI} {g : TG} (h : IW W wi A fun ds => ∃ Inv : Nat → AS → Prop, Inv 0 A ∧ (∀ i d A', ds[i]? = some d → Inv i A' → GW W g (fun _ => True) (.dat d) A' fun A'' => SW W t A'' ⟨Inv (i + 1), N.rt, N.nx, Inv (i + 1)⟩) ∧ ∀ A', Inv ds.length A' → N.nx A') : SW W (tFor wi g t) A N :=
  fun S0 H0 S H σ l a D m => h S H σ l a.e _ fun S1 H1 J ds e1 wk p => by
    obtain ⟨Inv, i0, turn, fin⟩ := p
    obtain ⟨Y, wk, yv⟩ := wk.ex
    have a1 := a.ext e1
    have mB : ∀ n, Meets W S1 (hid A l H1) { D with nx := fun σ' H' => ∃ S' l' A', At W S1 (hid A l H1) S' H' σ' l' A' ∧ Inv n A', ct := fun σ' H' => ∃ S' l' A', At W S1 (hid A l H1) S' H' σ' l' A' ∧ Inv n A', bk := D.nx } ⟨Inv n, N.rt, N.nx, Inv n⟩ := fun n =>
      ⟨fun S2 H2 σ2 l2 A2 a2 p => ⟨S2, l2, A2, a2, p⟩, fun S2 H2 v d e s p => m.rt S2 H2 v d (a1.back e) s p, fun S2 H2 σ2 l2 A2 a2 p => m.nx S2 H2 σ2 l2 A2 (a1.back' a2) p, fun S2 H2 σ2 l2 A2 a2 p => ⟨S2, l2, A2, a2, p⟩⟩
    refine for_it wk (fun i σ' H' => ∃ S' l' A', At W S1 (hid A l H1) S' H' σ' l' A' ∧ Inv i A') ⟨S1, l, A, a1.base, i0⟩ (fun i σ2 H2 hi ⟨S2, l2, A2, a2, _⟩ => a2.x.ss.trans a2.x.w.sh) (fun i x σ2 H2 H2' hi ⟨S2, l2, A2, a2, hinv⟩ hy => ?_) fun σ2 H2 ⟨S2, l2, A2, a2, hinv⟩ => m.nx S2 H2 σ2 l2 A2 (a1.back' a2) (fin A2 hinv)
    obtain ⟨d, hdi⟩ : ∃ d, ds[i]? = some d := ⟨ds[i], List.getElem?_eq_getElem hi⟩
    obtain ⟨S3, a3, hx⟩ : ∃ S3, At W S1 (hid A l H1) S3 H2' σ2 l2 A2 ∧ Dt W.K W.C S3 x d := by
      rcases yv i H2 x H2' d hdi (a2.x.ss.trans a2.x.w.sh) hy with ⟨rfl, hx⟩ | ⟨T, o, hT, rfl, hx⟩
      · exact ⟨S2, a2, hx.mono a2.x.ss⟩
      · refine ⟨_, a2.ext (.new a2.x.w hT), hx.mono fun b u hb => ?_⟩
        by_cases z : b = T
        · subst z
          rw [upd_same] at hb ⊢
          exact hb
        · rw [upd_ne z] at hb ⊢
          exact a2.x.ss b u hb
    exact turn i d A2 hdi hinv S3 H2' σ2 l2 x a3.e (sd hx) _ fun σ4 A4 E4 k4 sw => sw S1 (hid A l H1) S3 H2' σ4 l2 ⟨a3.x, E4, fun z => a3.f (by rw [← k4.2.2]; exact z)⟩ _ (mB (i + 1))
theorem sw_while (Inv : Nat → AS → Prop) (k : Nat) (h0 : Inv k A) (h : ∀ n A', Inv n A' → TW W c A' fun b => if b = true then SW W t A' ⟨fun A'' => ∃ n', n' < n ∧ Inv n' A'', N.rt, N.nx, fun A'' => ∃ n', n' < n ∧ Inv n' A''⟩ else N.nx A') : SW W (tWhile c t) A N := fun S0 H0 S H σ l a D m =>
  ⟨fun n σ' H' => ∃ S' l' A', At W S0 H0 S' H' σ' l' A' ∧ Inv n A', ⟨k, S, l, A, a, h0⟩, fun n σ1 H1 ⟨S1, l1, A1, a1, hinv⟩ => h n A1 hinv S1 H1 σ1 l1 a1.e _ fun S2 H2 b e2 p => by
    cases b with
    | true =>
      refine iteT ⟨fun σ' H' => ∃ n', n' < n ∧ ∃ S' l' A', At W S0 H0 S' H' σ' l' A' ∧ Inv n' A', fun σ' H' z => z, ?_⟩
      refine (iteT_inv p) S0 H0 S2 H2 σ1 l1 (a1.ext e2) _ ⟨fun S3 H3 σ3 l3 A3 a3 ⟨n', hn, p3⟩ => ⟨n', hn, S3, l3, A3, a3, p3⟩, m.rt, m.nx, fun S3 H3 σ3 l3 A3 a3 ⟨n', hn, p3⟩ => ⟨n', hn, S3, l3, A3, a3, p3⟩⟩
    | false => exact iteF (m.nx S2 H2 σ1 l1 A1 (a1.ext e2) (iteF_inv p))⟩
end

/-! ### defs -/
/-- a def of the module as its callers know it -/
structure Cal (P : Program) (w : World) (K : PySem.W.Frag) (mg : Str → Option Value) (base : Heap) (name : Str) (k : Nat) (ps : List Str) (sp : Sp) : Prop where
  ex : ∃ f fd, FnOk P w K mg base CX0 k f fd ps sp ∧ mg name = some (.ref f) ∧ PySem.W.keepIn K (.ref f) = true ∧ Binds K fd ps [] ∧ ∃ oc od osl, K.lookup f = some ⟨oc, od, .func fd, osl⟩
theorem fun_at {K : PySem.W.Frag} {x qual : Str} {st : Stmt} {f : Addr} {fd : FuncData} (F : Fun K x qual st f fd) : ∃ oc od osl, K.lookup f = some ⟨oc, od, .func fd, osl⟩ := by
  obtain ⟨oc, od, _, _, _, _, _, _, osl, _, l, _⟩ := F.ex
  exact ⟨oc, od, osl, l⟩
/-- a def as the top has left it -/
structure DefAt (K : PySem.W.Frag) (mg : Str → Option Value) (name : Str) (ps : List Str) (st : Stmt) : Prop where
  ex : ∃ f fd, Fun K name name st f fd ∧ mg name = some (.ref f) ∧ Binds K fd ps []
theorem pe_callC {X : Cx} {k : Nat} {name : Str} {ps : List Str} {sp : Sp} {e : Expr} {es : List Expr} {t : TA} {p pos : Pos} (c : Cal X.prog X.w X.K X.mg X.base name k ps sp) (hr : Room k X.A) (hg : Gl X name) (ha : PA X (e :: es) t)
    (hdb : (name == ("__debug__" : Str)) = false := by decide) (he : starEach (e :: es) X.env = (false, eval e X.env) :: starEach es X.env := by rfl) (hpl : (backTo pos (starEach es X.env)).any (·.1) = false := by rfl) :
    PE X (.Call (.Name name p) (e :: es) [] pos) (tCall sp [] E0 t) := by
  obtain ⟨f, fd, F, hm, hk, hb, _⟩ := c.ex
  exact pe_call F hr hg hm hk hb .nil pass0 ha hdb he hpl
def init (ds : List Da) (n : Nat) : AS := ⟨ds.map Sl.dat ++ List.replicate n .un, none⟩
theorem init_ok {W : Wd} {S : Hp} {l : Addr} {vs : List V} {ds : List Da} {n : Nat} (h : DtAll W.K W.C S vs ds) : Paired (SlOk W l S) (vs.map some ++ List.replicate n none) (ds.map Sl.dat ++ List.replicate n .un) := by
  have k : ∀ n, Paired (SlOk W l S) (List.replicate n none) (List.replicate n Sl.un) := fun n => by
    induction n with
    | zero => exact .nil
    | succ n ih => exact .cons trivial ih
  have j : ∀ {vs : List V} {ds : List Da}, DtAll W.K W.C S vs ds → Paired (SlOk W l S) (vs.map some ++ List.replicate n none) (ds.map Sl.dat ++ List.replicate n .un) := by
    intro vs ds h
    induction ds generalizing vs with
    | nil => cases h; exact k n
    | cons d ds ih =>
      cases h with
      | cons h1 h2 => exact .cons h1 (ih h2)
  exact j h
section
variable {P : Program} {w : World} {K : PySem.W.Frag} {mg : Str → Option Value} {base : Heap} {name : Str} {N ps : List Str} {st : Stmt} {k : Nat} {t : TS} {C : Addr}
/-- THE RULE for a def that is handed data alone -/
theorem DefAt.okP {R : List Da → (Da → Prop) → Prop} (F : DefAt K mg name ps st) (Sc : FnScope N ps (defScope st)) (hl : ∀ ds Q, R ds Q → ds.length = ps.length)
    (hb : ∀ (f : Addr) (cdv : Value) (A : Around) (outer : List PySem.Env) (s : Shared) (H : Hp) (E : XK), Room k (A.deeper (envOfC name (defScope st) s.heap.objs.size f cdv)) → PSs (cxOf CX0 P w K mg base N name (defScope st) f cdv A outer s H E).nox (defBody st) t)
    (body : ∀ ds Q, R ds Q → SW ⟨K, C, none⟩ t (init ds (N.length - ps.length)) ⟨fun _ => Q .non, Q, fun _ => False, fun _ => False⟩) : Cal P w K mg base name (k + 1) ps (spP K C R) := by
  obtain ⟨f, fd, Fu, hm, hbd⟩ := F.ex
  refine ⟨f, fd, Fu.ok Sc (fun vs H Q E h => ?_) (fun cdv A outer s H vs Q E hr h => ?_), hm, Fu.kp, hbd, fun_at Fu⟩
  · obtain ⟨S, ds, P, hw, hd, hR, q⟩ := h
    exact hd.len.trans (hl _ _ hR)
  · obtain ⟨S, ds, P', hw, hd, hR, q⟩ := h
    refine ⟨t, hb f cdv A outer s H E hr, ?_⟩
    have a : At ⟨K, C, none⟩ S H S H (L2.start N vs) 0 (init ds (N.length - ps.length)) := by
      refine ⟨.refl hw, ⟨hw, ?_, fun _ z => nomatch z⟩, fun z => absurd rfl z⟩
      have e : L2.start N vs = vs.map some ++ List.replicate (N.length - ps.length) none := by
        unfold L2.start
        rw [hd.len, hl _ _ hR]
      rw [e]
      exact init_ok hd
    exact body ds P' hR S H S H _ 0 a _ ⟨fun S1 H1 σ1 l1 A1 a1 p => q S1 H1 .non .non a1.x .non p, fun S1 H1 v d e s p => q S1 H1 v d e s p, fun _ _ _ _ _ _ p => p.elim, fun _ _ _ _ _ _ p => p.elim⟩
end
end G
/-! The program's and the law's plain parts as functions of numbers and lists. No Python here. -/
namespace G
abbrev Pt := Int × Int
abbrev Fr := Int × Int
abbrev FP := Fr × Fr
def area (a b c : Pt) : Int := (b.1 - a.1) * (c.2 - a.2) - (b.2 - a.2) * (c.1 - a.1)
def sgn (i : Int) : Int := if i = 0 then 0 else if 0 < i then 1 else -1
def wOn (a b p : Pt) : Bool := decide (area a b p = 0) && decide ((a.1 - p.1) * (b.1 - p.1) + (a.2 - p.2) * (b.2 - p.2) ≤ 0)
def wCr (a b c d : Pt) : Bool := decide (sgn (area a b c) * sgn (area a b d) < 0) && decide (sgn (area c d a) * sgn (area c d b) < 0)
def sidesMeet (a b c d : Pt) : Bool := wCr a b c d || wOn a b c || wOn a b d || (wOn c d a || wOn c d b)
def turnsBack (a b c : Pt) : Bool := decide (area a b c = 0) && !wOn a c b
def sides : List Pt → List (Pt × Pt)
  | [] => []
  | p :: r => (p :: r).zip r ++ [((p :: r).getLast (List.cons_ne_nil p r), p)]
def ringArea (r : List Pt) : Int := ((sides r).map fun s => s.1.1 * s.2.2 - s.1.2 * s.2.1).sum
/-- how a side goes past the half line to the right of a whole spot -/
def past (a b s : Pt) : Int := (if a.2 ≤ s.2 ∧ s.2 < b.2 ∧ 0 < area a b s then 1 else 0) - (if b.2 ≤ s.2 ∧ s.2 < a.2 ∧ area a b s < 0 then 1 else 0)
def turnsW (r : List Pt) (s : Pt) : Int := ((sides r).map fun e => past e.1 e.2 s).sum
def mkFr (t b : Int) : Fr := if b < 0 then (-t / (Nat.gcd (-t).natAbs (-b).natAbs : Nat), -b / (Nat.gcd (-t).natAbs (-b).natAbs : Nat)) else (t / (Nat.gcd t.natAbs b.natAbs : Nat), b / (Nat.gcd t.natAbs b.natAbs : Nat))
def fPlus (f g : Fr) : Fr := mkFr (f.1 * g.2 + g.1 * f.2) (f.2 * g.2)
def fMinus (f g : Fr) : Fr := mkFr (f.1 * g.2 - g.1 * f.2) (f.2 * g.2)
def fTimes (f g : Fr) : Fr := mkFr (f.1 * g.1) (f.2 * g.2)
def fHalf (f : Fr) : Fr := mkFr f.1 (2 * f.2)
def cmpF (f g : Fr) : Int := sgn (f.1 * g.2 - g.1 * f.2)
def leftBy (a b : Pt) (p : FP) : Int := (b.1 - a.1) * (p.2.1 - a.2 * p.2.2) * p.1.2 - (b.2 - a.2) * (p.1.1 - a.1 * p.1.2) * p.2.2
def risesPast (a b : Pt) (h : Fr) : Bool := decide (a.2 * h.2 ≤ h.1) && decide (h.1 < b.2 * h.2)
def lo2 (i j : Int) : Int := if j < i then j else i
def hi2 (i j : Int) : Int := if j > i then j else i
def isBetween (i j : Int) (w : Fr) : Bool := decide (lo2 i j * w.2 ≤ w.1) && decide (w.1 ≤ hi2 i j * w.2)
def isOn (a b : Pt) (p : FP) : Bool := decide (leftBy a b p = 0) && (isBetween a.1 b.1 p.1 && isBetween a.2 b.2 p.2)
def goPast (a b : Pt) (p : FP) : Int := (if (risesPast a b p.2 && decide (0 < leftBy a b p)) = true then 1 else 0) - (if (risesPast b a p.2 && decide (0 < leftBy b a p)) = true then 1 else 0)
def ringTurns (r : List Pt) (p : FP) : Int := ((sides r).map fun e => goPast e.1 e.2 p).sum
def ringSide (r : List Pt) (p : FP) : Int := if (sides r).any (fun e => isOn e.1 e.2 p) = true then 0 else if ringTurns r p = 0 then -1 else 1
def sideOf (o : List Pt) (hs : List (List Pt)) (p : FP) : Int := hs.foldl (fun f h => if f = 1 then lo2 f (-ringSide h p) else f) (ringSide o p)
end G
namespace G
theorem zip_tail_get (r : List Pt) : ∀ (p : Pt) (i : Nat) (a b : Pt), (p :: r)[i]? = some a → (p :: r)[i + 1]? = some b → ((p :: r).zip r)[i]? = some (a, b) := fun p i a b h1 h2 =>
  List.getElem?_zip_eq_some.mpr ⟨h1, by simpa using h2⟩
theorem sides_len : ∀ r : List Pt, (sides r).length = r.length
  | [] => rfl
  | p :: r => by
    unfold sides
    rw [List.length_append, List.length_zip]
    simp
/-- the i-th side -/
theorem sides_get {r : List Pt} {i : Nat} {a b : Pt} (h1 : r[i]? = some a) (h2 : r[i + 1]? = some b) : (sides r)[i]? = some (a, b) := by
  cases r with
  | nil => simp at h1
  | cons p r =>
    unfold sides
    rw [List.getElem?_append_left]
    · exact zip_tail_get r p i a b h1 h2
    · have h := (List.getElem?_eq_some_iff.mp h2).1
      rw [List.length_zip]
      simp at h ⊢
      omega
theorem sides_last {r : List Pt} {i : Nat} {a b : Pt} (h1 : r[i]? = some a) (h2 : r[0]? = some b) (hi : i + 1 = r.length) : (sides r)[i]? = some (a, b) := by
  cases r with
  | nil => simp at h1
  | cons p r =>
    simp at h2 hi
    subst h2
    unfold sides
    have hz : ((p :: r).zip r).length = i := by rw [List.length_zip]; simp; omega
    rw [List.getElem?_append_right (by omega), hz, Nat.sub_self]
    have e : (p :: r).getLast (List.cons_ne_nil p r) = a := by
      rw [List.getLast_eq_getElem]
      have h := (List.getElem?_eq_some_iff.mp h1).2
      simp only [List.length_cons, Nat.add_sub_cancel]
      simp only [hi.symm]
      exact h
    rw [e]
    rfl
theorem list_eq_of_get {α : Type} {xs ys : List α} (hl : xs.length = ys.length) (h : ∀ (i : Nat) (x y : α), xs[i]? = some x → ys[i]? = some y → x = y) : xs = ys := by
  apply List.ext_getElem hl
  intro i h1 h2
  exact h i _ _ (List.getElem?_eq_getElem h1) (List.getElem?_eq_getElem h2)
/-- sides as the comprehension makes them -/
theorem sides_range {β : Type} (F : Pt × Pt → β) {r : List Pt} {a b : Pt} {f : Nat → β} (hf : ∀ (i : Nat) (x y : Pt), r[i]? = some x → r[i + 1]? = some y → f i = F (x, y)) (ha : r[r.length - 1]? = some a) (hb : r[0]? = some b) :
    (List.range (r.length - 1)).map f ++ [F (a, b)] = (sides r).map F := by
  have hn : 0 < r.length := (List.getElem?_eq_some_iff.mp hb).1
  apply list_eq_of_get
  · rw [List.length_append, List.length_map, List.length_range, List.length_map, sides_len]
    simp
    omega
  · intro i x y h1 h2
    have hi : i < r.length := by
      have := (List.getElem?_eq_some_iff.mp h2).1
      rwa [List.length_map, sides_len] at this
    by_cases hl : i < r.length - 1
    · rw [List.getElem?_append_left (by simpa using hl), List.getElem?_map, List.getElem?_range hl] at h1
      have g1 : r[i]? = some r[i] := List.getElem?_eq_getElem hi
      have g2 : r[i + 1]? = some (r[i + 1]'(by omega)) := List.getElem?_eq_getElem _
      rw [List.getElem?_map, sides_get g1 g2] at h2
      cases h1
      cases h2
      exact hf i _ _ g1 g2
    · have hi' : i = r.length - 1 := by omega
      rw [List.getElem?_append_right (by simp; omega)] at h1
      simp only [List.length_map, List.length_range, hi', Nat.sub_self] at h1
      rw [List.getElem?_map, sides_last (hi' ▸ ha) hb (by omega)] at h2
      cases h1
      cases h2
      rfl
end G
set_option Elab.async false
set_option linter.all false
set_option maxRecDepth 100000
namespace G
open PySem PySem.Spec L2
open Evl (Ex)
abbrev dP (p : Pt) : Da := .tup [.int p.1, .int p.2]
abbrev dFP (p : FP) : Da := .tup [.tup [.int p.1.1, .int p.1.2], .tup [.int p.2.1, .int p.2.2]]
abbrev dR (r : List Pt) : Da := .tup (r.map dP)
abbrev dS (s : Pt × Pt) : Da := .tup [.tup [.int s.1.1, .int s.1.2], .tup [.int s.2.1, .int s.2.2]]
section
variable {W : Wd} {A : AS} {P : Sl → Prop} {N : Ns}
def unS : Sl → Bool
  | .un => true
  | _ => false
theorem ew_v {i : Nat} {x : Sl} (h : A.sl[i]? = some x) (hx : unS x = false) (p : P x) : EW W (tVar i) A P := ew_var h (fun e => by subst e; cases hx) p
theorem onI2_mk {i j : Int} {f : Int → Int → Prop} (p : f i j) : onI2 (.dat (.int i)) (.dat (.int j)) f := p
theorem onI_mk {i : Int} {f : Int → Prop} (p : f i) : onI (.dat (.int i)) f := p
theorem onB_mk {i : Bool} {f : Bool → Prop} (p : f i) : onB (.dat (.bl i)) f := p
theorem onD2_mk {d e : Da} {f : Da → Da → Prop} (p : f d e) : onD2 (.dat d) (.dat e) f := p
theorem onDat_mk {d : Da} {f : Da → Prop} (p : f d) : onDat (.dat d) f := p
theorem onL_mk {ds : List Da} {f : List Da → Prop} (p : f ds) : onL (.dat (.lst ds)) f := p
theorem onTup_mk {ds : List Da} {f : List Da → Prop} (p : f ds) : onTup (.dat (.tup ds)) f := p
theorem onSeqT_mk {ds : List Da} {f : List Da → Prop} (p : f ds) : onSeq (.dat (.tup ds)) f := p
theorem onSeqL_mk {ds : List Da} {f : List Da → Prop} (p : f ds) : onSeq (.dat (.lst ds)) f := p
theorem onDs_nil {f : List Da → Prop} (p : f []) : onDs [] f := p
theorem onDs_cons {d : Da} {r : List Sl} {f : List Da → Prop} (p : onDs r fun ds => f (d :: ds)) : onDs (.dat d :: r) f := p
theorem onGDs_mk {r : List Sl} {f : List Da → Prop} (p : onDs r f) : onGDs (.deal :: r) f := p
theorem on1_mk {x : Sl} {f : Sl → Prop} (p : f x) : on1 [x] f := p
theorem on2_mk {x y : Sl} {f : Sl → Sl → Prop} (p : f x y) : on2 [x, y] f := p
theorem plus_int {i j : Int} (p : P (.dat (.int (i + j)))) : plusP (.dat (.int i)) (.dat (.int j)) P := p
theorem plus_tup {xs ys : List Da} (h : xs.length + ys.length ≤ 100000) (p : P (.dat (.tup (xs ++ ys)))) : plusP (.dat (.tup xs)) (.dat (.tup ys)) P := ⟨h, p⟩
theorem plus_lst {xs ys : List Da} (h : xs.length + ys.length ≤ 100000) (p : P (.dat (.lst (xs ++ ys)))) : plusP (.dat (.lst xs)) (.dat (.lst ys)) P := ⟨h, p⟩
theorem ix_tup {ds : List Da} {i : Int} {d : Da} (h : atI ds i = some d) (p : P (.dat d)) : ixP A (.dat (.tup ds)) (.dat (.int i)) P := ⟨d, h, p⟩
theorem ix_lst {ds : List Da} {i : Int} {d : Da} (h : atI ds i = some d) (p : P (.dat d)) : ixP A (.dat (.lst ds)) (.dat (.int i)) P := ⟨d, h, p⟩
theorem ix_acc {ds : List Da} {i : Int} {d : Da} (ha : A.ac = some ds) (h : atI ds i = some d) (p : P (.dat d)) : ixP A .acc (.dat (.int i)) P := ⟨ds, d, ha, h, p⟩
theorem sq_tup {ds : List Da} {f : List Da → Prop} (p : f ds) : onSq A (.dat (.tup ds)) f := p
theorem sq_lst {ds : List Da} {f : List Da → Prop} (p : f ds) : onSq A (.dat (.lst ds)) f := p
theorem sq_acc {ds : List Da} {f : List Da → Prop} (h : A.ac = some ds) (p : f ds) : onSq A .acc f := by unfold onSq seqOf; rw [h]; exact p
theorem cut_tup {ds : List Da} {lo hi : Option Int} (p : P (.dat (.tup (cutD ds lo hi)))) : cutP (.dat (.tup ds)) lo hi P := p
theorem cut_lst {ds : List Da} {lo hi : Option Int} (p : P (.dat (.lst (cutD ds lo hi)))) : cutP (.dat (.lst ds)) lo hi P := p
theorem gw_nm {i : Nat} {x : Sl} {P : AS → Prop} (p : P ⟨A.sl.set i x, A.ac⟩) : GW W (gName i) (fun _ => True) x A P := gw_name trivial p
theorem gw_nmI {i : Nat} {vs : List Nat} {x : Sl} {P : AS → Prop} (hi : i ∈ vs) (p : P ⟨A.sl.set i x, A.ac⟩) : GW W (gName i) (fun j => j ∈ vs) x A P := gw_name hi p
theorem gw_tp {gs : TGs} {n : Nat} {ts : Nat → Prop} {ds : List Da} {P : AS → Prop} (hl : ds.length = n) (h : GsW W gs ts ds A P) : GW W (gTup W.K n gs) ts (.dat (.tup ds)) A P := gw_tup ⟨hl, h⟩
theorem tw_yes {P : Bool → Prop} (p : P true) : TW W tYes A P := fun S H σ l E Q q => q S H true (.refl E.w) p
/-- the product's bound by one small factor -/
theorem mulL {i j : Int} (h : -(2 ^ 64) < i ∧ i < 2 ^ 64) : CMul i j := .inl h
theorem mulR {i j : Int} (h : -(2 ^ 64) < j ∧ j < 2 ^ 64) : CMul i j := .inr h
theorem andB {a b : Bool} {P : Bool → Prop} {u : TT} (h : a = true → TW W u A fun x => P (a && x)) (g : a = false → P false) : if a = true then TW W u A P else P false := by
  cases a with
  | true => exact iteT ((h rfl).mono fun x p => by rwa [Bool.true_and] at p)
  | false => exact iteF (g rfl)
end
end G
namespace G
open PySem PySem.Spec L2
open Evl (Ex)
section
variable {W : Wd} {A : AS} {P : Sl → Prop} {N : Ns} {ta tb : TE} {t u : TT} {s1 s2 : TS}
theorem ew_andD {a c : Bool} (h : EW W ta A (· = .dat (.bl a))) (g : a = true → EW W tb A (· = .dat (.bl c))) (p : P (.dat (.bl (a && c)))) : EW W (tAndV ta tb) A P := ew_andV (h.mono fun x e => by
  subst e
  refine onB_mk ?_
  cases a with
  | true => exact iteT ((g rfl).mono fun y e => by subst e; exact p)
  | false => exact iteF p)
theorem ew_orD {a c : Bool} (h : EW W ta A (· = .dat (.bl a))) (g : a = false → EW W tb A (· = .dat (.bl c))) (p : P (.dat (.bl (a || c)))) : EW W (tOrV ta tb) A P := ew_orV (h.mono fun x e => by
  subst e
  refine onB_mk ?_
  cases a with
  | true => exact iteT p
  | false => exact iteF ((g rfl).mono fun y e => by subst e; exact p))
theorem ew_ifD {b : Bool} (h : TW W t A (· = b)) (h1 : b = true → EW W ta A P) (h2 : b = false → EW W tb A P) : EW W (tIf t ta tb) A P := ew_if (h.mono fun x e => by
  subst e
  cases x with
  | true => exact iteT (h1 rfl)
  | false => exact iteF (h2 rfl))
theorem sw_ifD {b : Bool} (h : TW W t A (· = b)) (h1 : b = true → SW W s1 A N) (h2 : b = false → SW W s2 A N) : SW W (tIfS t s1 s2) A N := sw_if (h.mono fun x e => by
  subst e
  cases x with
  | true => exact iteT (h1 rfl)
  | false => exact iteF (h2 rfl))
theorem ew_chD {a b c : Int} {tc : TE} {g1 g2 : Int → Int → Bool} (h : EW W ta A (· = .dat (.int a))) (g : EW W tb A (· = .dat (.int b))) (k : EW W tc A (· = .dat (.int c))) (p : P (.dat (.bl (g1 a b && g2 b c)))) :
    EW W (tChain (rI0 fun i j => .bl (g1 i j)) (rI0 fun i j => .bl (g2 i j)) ta tb tc) A P := ew_chain (h.mono fun x e => by
  subst e
  refine g.mono fun y e => ?_
  subst e
  refine onI2_mk ?_
  cases q : g1 a b with
  | true => exact iteT (k.mono fun z e => by subst e; refine onI2_mk ?_; rw [q] at p; exact p)
  | false =>
    rw [q] at p
    exact iteF p)
/-- isinstance -/
theorem ew_isi {T : String} {d : Da} {b : Bool} (h : EW W ta A (· = .dat d)) (k : (d = .int 0 ∨ ∃ i, d = .int i) ∧ PySem.W.kitOne W.K (.type "int") (.type T) = some b ∨ (∃ ds, d = .tup ds) ∧ PySem.W.kitOne W.K (.type "tuple") (.type T) = some b) (p : P (.dat (.bl b))) :
    EW W (tCB (rIsi W.K) (tCons ta (tCons (tC (.ty T)) tNil))) A P := fun S H σ l E Q q => h S H σ l E _ fun S1 H1 v x e1 s1 e => by
  subst e
  rcases k with ⟨k, kk⟩ | ⟨⟨ds, rfl⟩, kk⟩
  · obtain ⟨i, rfl⟩ : ∃ i, d = .int i := k.elim (fun z => ⟨0, z⟩) id
    exact ⟨v, .ty T, .type "int", .type T, b, rfl, .ty T, .base (by rw [dt_int s1]; exact .int i), kk, q S1 H1 _ _ e1 (sd <| Dt.bl b) p⟩
  · obtain ⟨a, vs, rfl, ha, hva⟩ := dt_tup s1
    exact ⟨_, .ty T, .type "tuple", .type T, b, rfl, .ty T, .base (.tup (e1.w.sh _ _ ha)), kk, q S1 H1 _ _ e1 (sd <| Dt.bl b) p⟩
theorem ew_isiInt {i : Int} (h : EW W ta A (· = .dat (.int i))) (p : P (.dat (.bl true))) : EW W (tCB (rIsi W.K) (tCons ta (tCons (tC (.ty "int")) tNil))) A P := ew_isi h (.inl ⟨.inr ⟨i, rfl⟩, kit_ty (by decide +kernel)⟩) p
theorem ew_isiBool {i : Int} (h : EW W ta A (· = .dat (.int i))) (p : P (.dat (.bl false))) : EW W (tCB (rIsi W.K) (tCons ta (tCons (tC (.ty "bool")) tNil))) A P := ew_isi h (.inl ⟨.inr ⟨i, rfl⟩, kit_ty (by decide +kernel)⟩) p
theorem ew_isiTup {ds : List Da} (h : EW W ta A (· = .dat (.tup ds))) (p : P (.dat (.bl true))) : EW W (tCB (rIsi W.K) (tCons ta (tCons (tC (.ty "tuple")) tNil))) A P := ew_isi h (.inr ⟨⟨ds, rfl⟩, kit_ty (by decide +kernel)⟩) p
end
structure Sm (p : Pt) : Prop where
  a : -100000 ≤ p.1
  b : p.1 ≤ 100000
  c : -100000 ≤ p.2
  d : p.2 ≤ 100000
section
variable {W : Wd} {A : AS} {P : Sl → Prop} {N : Ns} {te : TE} {wi : TI} {g : TG} {t : TS} {vs : List Nat} {α : Type}
theorem ew_lcM (xs : List α) (k f : α → Da) (h : IW W wi A (· = xs.map k)) (hl : xs.length ≤ 100000)
    (turn : ∀ x, x ∈ xs → GW W g (fun j => j ∈ vs) (.dat (k x)) ⟨wipeA A.sl vs, A.ac⟩ fun A' => EW W te A' (· = .dat (f x))) (p : P (.dat (.lst (xs.map f)))) : EW W (tLc wi g tYes te vs) A P := by
  refine ew_lc fun S H σ l E R q => h S H σ l E R fun S' H' J ds e wk hd => q S' H' J ds e wk ?_
  subst hd
  refine ⟨by rw [List.length_map]; exact hl, fun i acc => acc = (xs.take i).map f, rfl, fun i d acc hi ha => ?_, fun acc ha => ?_⟩
  · rw [List.getElem?_map] at hi
    cases q : xs[i]? with
    | none => rw [q] at hi; cases hi
    | some x =>
      rw [q] at hi
      cases hi
      have hx : x ∈ xs := List.mem_of_getElem? q
      refine fun S H σ l v E hv Q k => turn x hx S H σ l v E hv Q fun σ' A' E' c hp => k σ' A' E' c (tw_yes (iteT (hp.mono fun y e => ?_)))
      subst e
      refine onDat_mk ?_
      show acc ++ [f x] = (xs.take (i + 1)).map f
      rw [ha, List.take_add_one, q, List.map_append]
      rfl
  · rw [ha, List.length_map, List.take_length]
    exact p
/-- with a test -/
theorem ew_lcF (xs : List α) (k f : α → Da) (b : α → Bool) {tt : TT} (h : IW W wi A (· = xs.map k)) (hl : xs.length ≤ 100000)
    (turn : ∀ x, x ∈ xs → GW W g (fun j => j ∈ vs) (.dat (k x)) ⟨wipeA A.sl vs, A.ac⟩ fun A' => TW W tt A' (· = b x) ∧ (b x = true → EW W te A' (· = .dat (f x)))) (p : P (.dat (.lst ((xs.filter b).map f)))) : EW W (tLc wi g tt te vs) A P := by
  refine ew_lc fun S H σ l E R q => h S H σ l E R fun S' H' J ds e wk hd => q S' H' J ds e wk ?_
  subst hd
  refine ⟨by rw [List.length_map]; exact hl, fun i acc => acc = ((xs.take i).filter b).map f, rfl, fun i d acc hi ha => ?_, fun acc ha => ?_⟩
  · rw [List.getElem?_map] at hi
    cases q : xs[i]? with
    | none => rw [q] at hi; cases hi
    | some x =>
      rw [q] at hi
      cases hi
      have hx : x ∈ xs := List.mem_of_getElem? q
      refine fun S H σ l v E hv Q k => turn x hx S H σ l v E hv Q fun σ' A' E' c hp => k σ' A' E' c (hp.1.mono fun y e => ?_)
      subst e
      cases hb : b x with
      | true =>
        refine iteT ((hp.2 hb).mono fun y e => ?_)
        subst e
        refine onDat_mk ?_
        show acc ++ [f x] = ((xs.take (i + 1)).filter b).map f
        rw [ha, List.take_add_one, q, List.filter_append, List.map_append]
        show _ = _ ++ List.map f (List.filter b [x])
        rw [List.filter_cons, hb]
        rfl
      | false =>
        refine iteF ?_
        show acc = ((xs.take (i + 1)).filter b).map f
        rw [ha, List.take_add_one, q, List.filter_append, List.map_append]
        show _ = _ ++ List.map f (List.filter b [x])
        rw [List.filter_cons, hb]
        exact (List.append_nil _).symm
  · rw [ha, List.length_map, List.take_length]
    exact p
theorem sw_forM (xs : List α) (k : α → Da) (h : IW W wi A (· = xs.map k)) (Inv : List α → AS → Prop) (h0 : Inv [] A)
    (turn : ∀ pre x post A', xs = pre ++ x :: post → Inv pre A' → GW W g (fun _ => True) (.dat (k x)) A' fun A'' => SW W t A'' ⟨Inv (pre ++ [x]), N.rt, N.nx, Inv (pre ++ [x])⟩) (fin : ∀ A', Inv xs A' → N.nx A') : SW W (tFor wi g t) A N := by
  refine sw_for fun S H σ l E R q => h S H σ l E R fun S' H' J ds e wk hd => q S' H' J ds e wk ?_
  subst hd
  refine ⟨fun i A' => Inv (xs.take i) A', h0, fun i d A' hi ha => ?_, fun A' ha => fin A' (by rwa [List.length_map, List.take_length] at ha)⟩
  rw [List.getElem?_map] at hi
  cases q : xs[i]? with
  | none => rw [q] at hi; cases hi
  | some x =>
    rw [q] at hi
    cases hi
    obtain ⟨hlt, e⟩ := List.getElem?_eq_some_iff.mp q
    have e2 : xs.take (i + 1) = xs.take i ++ [x] := by rw [List.take_add_one, q]; rfl
    have e1 : xs = xs.take i ++ x :: xs.drop (i + 1) := by
      rw [← e, ← List.drop_eq_getElem_cons hlt, List.take_append_drop]
    have z := turn (xs.take i) x (xs.drop (i + 1)) A' e1 ha
    rw [← e2] at z
    exact z
/-- a list, a tuple walked -/
theorem iw_sqT {ta : TE} {xs : List α} {k : α → Da} (h : EW W ta A (· = .dat (.tup (xs.map k)))) : IW W (iSeq W.K ta) A (· = xs.map k) := iw_seq (h.mono fun x e => by subst e; exact rfl)
theorem iw_sqL {ta : TE} {xs : List α} {k : α → Da} (h : EW W ta A (· = .dat (.lst (xs.map k)))) : IW W (iSeq W.K ta) A (· = xs.map k) := iw_seq (h.mono fun x e => by subst e; exact rfl)
theorem iw_r1 {ta : TA} {n : Int} (h : AW W ta A (· = [.dat (.int n)])) (hb : -(2 ^ 62) ≤ n ∧ n < 2 ^ 62) : IW W (iRng1 ta) A (· = (List.range n.toNat).map fun i => .int (0 + (i : Nat))) := iw_rng1 fun S H σ l E Q q => h S H σ l E Q fun S' H' vs xs e s p => q S' H' vs xs e s (by subst p; exact ⟨hb.1, hb.2, rfl⟩)
theorem iw_r2 {ta : TA} {i j : Int} (h : AW W ta A (· = [.dat (.int i), .dat (.int j)])) (hb : -(2 ^ 62) ≤ i ∧ i < 2 ^ 62 ∧ -(2 ^ 62) ≤ j ∧ j < 2 ^ 62) : IW W (iRng2 ta) A (· = (List.range (j - i).toNat).map fun m => .int (i + (m : Nat))) := iw_rng2 fun S H σ l E Q q => h S H σ l E Q fun S' H' vs xs e s p => q S' H' vs xs e s (by subst p; exact ⟨hb, rfl⟩)
end
end G
set_option Elab.async false
set_option linter.all false
set_option maxRecDepth 100000
namespace G
open PySem PySem.Spec L2
def topS (i : Nat) : Stmt := PySem.Challenge.pw_leastfield_k12_whole_inside_and_outside.main.body.getD i (.Pass ⟨0, 0, 0, 0⟩)
end G
set_option Elab.async false
set_option linter.all false
set_option maxRecDepth 100000
/-! Rules of mine for what the layer has not: in over tuples of data, repr of data, calls by keywords alone, t[::-1]. -/
namespace G
open PySem PySem.Spec L2
open Evl (Ex)
theorem hr_in {k : Nat} {A : Around} (r : Room k A) : A.units + 65 < cLine := by
  have h := r.un
  omega
section
variable {X : Cx}
/-! ### x in xs, data of any depth -/
def rInD2 (K : PySem.W.Frag) : R2 := fun x y H Q => ∃ d ds, Dp K H x d ∧ (Dp K H y (.list ds) ∨ Dp K H y (.tuple ds)) ∧ SeqAt.shaped d = true ∧ PyData.canLayAll0 ds = true ∧ Q (.bl (ds.any fun z => PyData.eqv z d)) H
theorem op_inD2 (room : X.A.units + 65 < cLine) : OpR X (compareOp .In) (rInD2 X.K) := by
  intro pins st σ H one two v1 v2 Q I rel1 rel2 hyp
  obtain ⟨d, ds, hd, hs, k1, k2, q⟩ := hyp
  obtain ⟨u1, r1⟩ := Dp.reads I d one v1 hd rel1
  rcases hs with hs | hs
  · obtain ⟨u2, r2⟩ := Dp.reads I _ two v2 hs rel2
    exact SeqAt.in_list_reads r2 r1 k2 (SeqAt.canLay_of_shaped k1) (PyProof.Rows.room_in_shaped k1 room) ⟨.bl _, H, I, rfl, q⟩
  · obtain ⟨u2, r2⟩ := Dp.reads I _ two v2 hs rel2
    exact SeqAt.in_tuple_reads r2 r1 k2 (SeqAt.canLay_of_shaped k1) (PyProof.Rows.room_in_shaped k1 room) ⟨.bl _, H, I, rfl, q⟩
/-! ### repr of data, where no repr is under way -/
def rReprD (K : PySem.W.Frag) : List V → Hp → VK → Prop := fun vs H Q => ∃ (x : V) (d : PyData), vs = [x] ∧ Dp K H x d ∧
  ((∃ i : Int, x = .int i ∧ i.natAbs.log2 < 1920 ∧ Q (.str (toString i)) H) ∨ ((∃ ds, d = .tuple ds) ∧ d.showable = true ∧ d.hasDict = false ∧ d.depth ≤ 60 ∧ d.shown.length ≤ sizeLine ∧ Q (.str d.shown) H))
theorem call_reprD (hg : X.A.guards = some []) (room : X.A.units + 65 < cLine) : CallR X (.builtin "repr") (rReprD X.K) := by
  intro pins st σ H vs us Q I rel hyp
  obtain ⟨x, d, rfl, hd, hyp⟩ := hyp
  obtain ⟨u, rfl, ru⟩ := vals1 rel
  rcases hyp with ⟨i, rfl, hl, q⟩ | ⟨⟨ds, rfl⟩, h1, h2, h3, h4, q⟩
  · exact SkE.call_repr_int pins st σ H [.int i] [u] Q I (.cons ru .nil) ⟨i, rfl, hl, q⟩
  · obtain ⟨as, rd⟩ := Dp.reads I _ x u hd ru
    obtain ⟨a, rfl⟩ : ∃ a, x = .ref a := by
      cases hd with
      | tup _ _ => exact ⟨_, rfl⟩
    cases ru
    exact repr_of_reads' rd h1 (fun z => by rw [h2] at z; cases z) hg (by omega) (fun _ _ z => z) (fun h' u tk k => ⟨.str _, H, I.kept k, ⟨u, rfl⟩, q⟩) h4
end
end G
set_option Elab.async false
set_option linter.all false
set_option maxRecDepth 100000
/-! enumerate over a tuple; calls by keywords alone; t[::-1]. -/
namespace G
open PySem PySem.Spec L2
open PyProof.Rows (IsTup)
open Evl (Ex)
set_option maxHeartbeats 1000000 in
theorem enumNew1 {val : Value} {ob : Obj} {Hb : Heap → Prop} (B : Begins val ob Hb) :
    PySem.Meets (Builtin.«enumerate.__new__» ⟨[.type "enumerate", val], []⟩) (fun _ R s => Hb s.heap ∧
      R (.ok (.ret (.ref (s.heap.push ob).objs.size))) { s with heap := (s.heap.push ob).push { cls := .type "enumerate", data := .fields #[.none, .bool false, .ref s.heap.objs.size, rawInt 0, .none, .none] } }) :=
  .of_wp fun prog w A R s hyp => by
    obtain ⟨hp, gs, dr, tk, os⟩ := s
    obtain ⟨hb, hyp⟩ := hyp
    have sub := sub_enumerate
    have begin_ : ∀ {A' : Around} {E : Value → Shared → Prop} {Q : Value → Shared → Prop}, Q (.ref hp.objs.size) ⟨hp.push ob, gs, dr, tk, os⟩ → wpAny (model prog w) A' (pyIter val) Q E ⟨hp, gs, dr, tk, os⟩ :=
      fun q => B.iter prog w _ _ ⟨hp, gs, dr, tk, os⟩ _ hb q
    wp_walk using begin_
    refine wpAny_stack_any fun _ => wpAny_pure ?_
    split
    · rename_i cl _ _ _ _ _
      cases (cl == Value.type "enumerate") <;> (wp_walk using begin_; exact ⟨_, rfl, hyp⟩)
    · wp_walk using begin_
      exact ⟨_, rfl, hyp⟩
section
variable {prog : Program} {w : World} {A : Around} {E : Value → Shared → Prop} {s : Shared}
theorem enumBegins1 {val : Value} {ob : Obj} {Hb : Heap → Prop} {Q : Value → Shared → Prop} (B : Begins val ob Hb) (hb : Hb s.heap)
    (hyp : ∀ h', IsEnum h' (s.heap.objs.size + 1) s.heap.objs.size 0 .none → h'.get? s.heap.objs.size = some ob → (∀ b o, s.heap.get? b = some o → h'.get? b = some o) → Q (.ref (s.heap.objs.size + 1)) { s with heap := h' }) :
    wpAny (model prog w) A (call (.type "enumerate") [val]) Q E s := by
  have sz : (s.heap.push ob).objs.size = s.heap.objs.size + 1 := Heap.size_push ..
  have en : IsEnum ((s.heap.push ob).push { cls := .type "enumerate", data := .fields #[.none, .bool false, .ref s.heap.objs.size, rawInt 0, .none, .none] }) (s.heap.objs.size + 1) s.heap.objs.size 0 .none := by
    have z := Heap.get?_push_size (s.heap.push ob) (o := { cls := .type "enumerate", data := .fields #[.none, .bool false, .ref s.heap.objs.size, rawInt 0, .none, .none] }) rfl
    rw [sz] at z
    exact z
  refine callType_new F.called_enumerate (by decide) (F.typeCall_enumerate_1 _) (F.newCall_enumerate_1 _) (fun obj => F.args_object_init_2 obj _) F.entry_enumerate_new (enumNew1 B) ⟨hb, ?_⟩
  show _ ∧ _
  rw [sz]
  exact ⟨⟨_, en, rfl⟩, hyp _ en (Heap.get?_push_of_some _ (Heap.get?_push_size _ B.free)) fun b o x => Heap.get?_push_of_some _ (Heap.get?_push_of_some _ x)⟩
end
/-- the tuple at a, each item in a new pair -/
def EnT (K : PySem.W.Frag) (a : Addr) : It :=
  ⟨fun i H => ∃ (ys : List V) (y : V), SqT K H a ys ∧ ys[i]? = some y, fun i H v H' => ∃ T y, v = .ref T ∧ H T = none ∧ H' = upd H T (.tup [.int (i : Nat), y]) ∧ ∀ ys, SqT K H a ys → ys[i]? = some y, fun i H => ∃ ys : List V, SqT K H a ys ∧ ys.length = i⟩
def EnSt (a e it : Addr) (i : Nat) (h : Heap) : Prop := (∃ old, IsEnum h e it ((i : Nat) : Int) old) ∧ h.IsTupleIter it a i ∧ e ≠ it ∧ a ≠ it ∧ e ≠ a
theorem turnEnT {P : Program} {w : World} {K : PySem.W.Frag} {elts : List Expr} {kk : Nat} {tpos : Pos} (a e it : Addr) : Turn P w K (.Tuple elts kk tpos) (EnT K a) [e, it] e (EnSt a e it) := by
  refine ⟨List.mem_cons_self, ?_, ?_, ?_, ?_, ?_⟩
  · rintro i h ⟨⟨old, en⟩, ⟨ob, g1, _, g3⟩, _⟩ b hb
    rcases List.mem_cons.mp hb with z | z
    · rw [z]
      exact ⟨_, en, fun v q => nomatch q⟩
    · cases List.mem_singleton.mp z
      exact ⟨ob, g1, fun _ q => by rw [g3] at q; cases q⟩
  · rintro i h h' ⟨⟨old, en⟩, ti, n1, n2, n3⟩ keep
    exact ⟨⟨old, keep e List.mem_cons_self _ en⟩, ti.at fun o q => keep it (List.mem_cons_of_mem _ List.mem_cons_self) o q, n1, n2, n3⟩
  · intro X e1 e2 e3 calm i pins s σ H E I fp st go
    subst e1 e2 e3
    obtain ⟨⟨old, en⟩, ti, n1, n2, n3⟩ := st
    obtain ⟨ys, y, sq, hy⟩ := go
    obtain ⟨items, rv, tp, _⟩ := I.tuple sq
    obtain ⟨u, hu, ru⟩ := rv.get hy
    have lt1 : e < s.heap.objs.size := Heap.lt_size en
    have lt2 : it < s.heap.objs.size := by obtain ⟨_, q, _⟩ := ti; exact Heap.lt_size q
    have lt3 : i < items.toArray.size := by
      have := (List.getElem?_eq_some_iff.mp hu).1
      simpa using this
    refine wpAny_pyNext_enum_itemD (Draws.tuple (A := X.A.in1) (I.ok.hd calm) it a n2 items.toArray) en ⟨ti, (show s.heap.IsTuple a items.toArray from tp)⟩ lt3 n1 (by simp [n1, n3]) fun x h1 tk px out st1 at1 _ keep => ?_
    have ex : x = u := by
      rw [List.getElem?_toArray, hu] at px
      exact (Option.some.inj px).symm
    subst ex
    refine ⟨_, rfl, wpAny_letOwnedTupleGo_enum (s := { s with heap := h1, toks := tk + 1 }) out fun h2 en2 same => ?_⟩
    have at2 : h2.get? s.heap.objs.size = some { cls := .type "tuple", data := .seq #[.int i tk, x] } := (same.2 _ (Nat.ne_of_gt lt1)).trans at1
    have made : ObjOk X.prog X.w (upd H s.heap.objs.size (.tup [.int (i : Nat), y])) h2 s.heap.objs.size (.tup [.int (i : Nat), y]) :=
      ⟨(by show 2 ≤ sizeLine; decide), [.int i tk, x], .cons ⟨_, rfl⟩ (.cons ru .nil), ⟨_, at2, rfl, _, rfl⟩⟩
    have I2 := I.turnedNew (h' := h2) (t' := tk + 1) (ch := [e, it]) (fun b ob hb q => (same.2 b fun z => hb (by simp [z])).trans (keep b ob (fun z => hb (by simp [z])) (fun z => hb (by simp [z])) q)) fp (Nat.le_refl _) made
    refine ⟨.ref s.heap.objs.size, _, I2, rfl, ⟨_, y, rfl, I.hok.fresh (Nat.le_refl _), rfl, fun zs hz => by rw [I.tuple_inj hz sq]; exact hy⟩, ⟨⟨x, by simpa using en2⟩, st1.1.at fun o q => (same.2 it (Ne.symm n1)).trans q, n1, n2, n3⟩, fun b hb => ?_⟩
    have lb : b < s.heap.objs.size := by
      rcases List.mem_cons.mp hb with z | z
      · exact z ▸ lt1
      · cases List.mem_singleton.mp z
        exact lt2
    rw [upd_ne (Nat.ne_of_lt lb)]
    exact (fp b hb).1
  · intro X e1 e2 e3 calm i pins s σ H E I fp st stop
    subst e1 e2 e3
    obtain ⟨⟨old, en⟩, ti, n1, n2, n3⟩ := st
    obtain ⟨ys, sq, hle⟩ := stop
    obtain ⟨items, rv, tp, _⟩ := I.tuple sq
    obtain ⟨f0, f1, f2, f3, f4, f5⟩ := fp it (List.mem_cons_of_mem _ List.mem_cons_self)
    have hl := rv.length
    have hi : i = items.toArray.size := by
      rw [List.size_toArray]
      omega
    refine wpAny_pyNext_enum_endD (Draws.tuple (A := X.A.in1) (I.ok.hd calm) it a n2 items.toArray) en ⟨hi ▸ ti, (show s.heap.IsTuple a items.toArray from tp)⟩ fun h1 ext => ⟨rfl, I.turned (t' := s.toks) (fun b o hb q => ext b o hb q) f0 f1 f3 f4 f5⟩
  · rintro A i s Q E ⟨⟨old, en⟩, _⟩ q
    exact wpAny_pyIter_enum en q
def iEnT (K : PySem.W.Frag) (ta : TA) : TI := fun σ H R => ta σ H fun vs H1 => ∃ a ys, vs = [.ref a] ∧ SqT K H1 a ys ∧ R (EnT K a) H1
theorem pi_enumT {X : Cx} {e : Expr} {ta : TA} {p pos tpos : Pos} {elts : List Expr} {kk : Nat} (hg : Gl X "enumerate") (hm : X.mg "enumerate" = none) (ha : PA X [e] ta) (hs : starEach [e] X.env = [(false, eval e X.env)] := by rfl) :
    PI X (.Tuple elts kk tpos) (.Call (.Name "enumerate" p) [e] [] pos) (iEnT X.K ta) := by
  refine ⟨fun pins s0 σ H0 R I0 hyp => ?_⟩
  refine PyProof.Rows.Call_ (ld_blt I0 hg hm PyProof.Rows.boot_enumerate (PyProof.Rows.callWith_type1 (thn (ha.run pos pins s0 σ H0 _ I0 hyp) fun us s2 ⟨vs, H2, I2, rel, q2⟩ => ?_) hs rfl))
  obtain ⟨a, ys, ev, sq, qq⟩ := q2
  subst ev
  obtain ⟨u, rfl, ru⟩ := vals1 rel
  cases ru
  obtain ⟨items, _, tp, _⟩ := I2.tuple sq
  have tp' : s2.heap.IsTuple a items.toArray := tp
  refine enumBegins1 (begins_tuple a items.toArray) tp' fun h' en at0 keep => wpAny_pyIter_enum en ?_
  have lt : a < s2.heap.objs.size := by obtain ⟨o, ho, _⟩ := tp; exact Heap.lt_size ho
  refine ⟨s2.heap.objs.size + 1, [s2.heap.objs.size + 1, s2.heap.objs.size], _, _, H2, rfl, I2.kept (t' := s2.toks) keep, turnEnT a (s2.heap.objs.size + 1) s2.heap.objs.size,
    ⟨⟨.none, en⟩, ⟨_, at0, rfl, rfl⟩, Nat.succ_ne_self _, Nat.ne_of_lt lt, Nat.ne_of_gt (Nat.lt_succ_of_lt lt)⟩, fun b hb => ?_, qq⟩
  have le : s2.heap.objs.size ≤ b := by
    rcases List.mem_cons.mp hb with z | z
    · exact z ▸ Nat.le_succ _
    · cases List.mem_singleton.mp z
      exact Nat.le_refl _
  exact I2.fpOk le (I2.hok.fresh le)
section
variable {W : Wd} {A : AS}
theorem wlk_enum {S : Hp} {a : Addr} {vs : List V} {ds : List Da} (h : S a = some (.tup vs)) (hd : DtAll W.K W.C S vs ds) : WlkOk W (EnT W.K a) S ((List.range ds.length).zipWith (fun i d => .tup [.int (i : Nat), d]) ds) := by
  have hl := hd.len
  refine ⟨fun i H v H' => ∃ T y, v = .ref T ∧ H T = none ∧ H' = upd H T (.tup [.int (i : Nat), y]) ∧ vs[i]? = some y, ⟨fun i H hi ex => ⟨vs, vs[i]'(by simp at hi; omega), sqT_ex h ex, List.getElem?_eq_getElem _⟩, fun H ex => ⟨vs, sqT_ex h ex, by simp; omega⟩, fun i H v H' hi ex y => ?_⟩, fun i H v H' d e ex y => ?_⟩
  · obtain ⟨T, y, h1, h2, h3, h4⟩ := y
    exact ⟨T, y, h1, h2, h3, h4 vs (sqT_ex h ex)⟩
  · obtain ⟨T, y, rfl, hT, rfl, hy⟩ := y
    obtain ⟨d', e1, e2⟩ := hd.get hy
    rw [List.getElem?_zipWith, e1, List.getElem?_range (List.getElem?_eq_some_iff.mp e1).1] at e
    cases e
    exact .inr ⟨T, _, hT, rfl, new_tup (Evl.fresh_back ex hT) (.cons (Dt.int _) (.one e2))⟩
theorem iw_enum {ta : TA} {P : List Da → Prop} (h : AW W ta A fun xs => on1 xs fun x => onTup x fun ds => P ((List.range ds.length).zipWith (fun i d => .tup [.int (i : Nat), d]) ds)) : IW W (iEnT W.K ta) A P := fun S H σ l E R q => h S H σ l E _ fun S1 H1 vs xs e1 s1 p0 => by
  obtain ⟨x, rfl, p1⟩ := on1_iff p0
  obtain ⟨ds, rfl, p⟩ := onTup_iff p1
  obtain ⟨v, rfl, hv⟩ := pair1 s1
  obtain ⟨a, xs, rfl, ha, hxa⟩ := dt_tup hv
  exact ⟨a, xs, rfl, .of (e1.w.sh _ _ ha), q S1 H1 _ _ e1 (wlk_enum ha hxa) p⟩
end

/-! ### calls by keywords alone, the names in the other order -/
structure CalK (P : Program) (w : World) (K : PySem.W.Frag) (mg : Str → Option Value) (base : Heap) (name : Str) (k : Nat) (ps ks : List Str) (sp : Sp) : Prop where
  ex : ∃ f fd, FnOk P w K mg base CX0 k f fd ps sp ∧ mg name = some (.ref f) ∧ PySem.W.keepIn K (.ref f) = true ∧ KBn K fd ps 0 ks (fun _ ws => ws.reverse) (fun _ zs => zs.reverse) ∧ ps.length = ks.length
def tCallKw (sp : Sp) (t : TA) : TE := fun σ H Q => t σ H fun zs H1 => sp zs.reverse H1 Q E0
theorem pe_callKw {X : Cx} {k : Nat} {name : Str} {ps ks : List Str} {sp : Sp} {kws : List Keyword} {t : TA} {p pos : Pos} (c : CalK X.prog X.w X.K X.mg X.base name k ps ks sp) (hr : Room k X.A) (hg : Gl X name) (ha : PK X kws t)
    (hall : (backToKw pos (keywordEach kws X.env)).all (·.1.isSome) = true := by rfl) (hks : (backToKw pos (keywordEach kws X.env)).filterMap (·.1) = ks := by rfl)
    (hdb : (name == ("__debug__" : Str)) = false := by decide) (hpl : ((backTo pos (starEach [] X.env)).any (·.1) || (backToKw pos (keywordEach kws X.env)).any (·.1.isNone)) = false := by rfl) :
    PE X (.Call (.Name name p) [] kws pos) (tCallKw sp t) := by
  obtain ⟨f, fd, F, hm, hk, hb, hl⟩ := c.ex
  refine ⟨fun pins s0 σ H0 Q I0 hyp => ?_⟩
  refine wpAny_Call_Name_kw (ld_glob I0 hg hm ?_ hdb)
  refine PySem.W.callWith_KW0 (h₀ := X.base) I0.ok.mod.kin hk hall (thn (ha.run pos pins s0 σ H0 _ I0 hyp) fun ws s2 ⟨zs, H2, I2, rel, q2⟩ => ⟨I2.kIn, ?_⟩) hpl
  rw [hks]
  have len : zs.length = ks.length := by
    have z := F.len _ _ _ _ q2
    rw [List.length_reverse] at z
    omega
  exact run_fnN (vs := []) (us := []) F hr hb pass0 I2 .nil rel rfl len q2
theorem ew_callKw {W : Wd} {A : AS} {P : Sl → Prop} {R : List Da → (Da → Prop) → Prop} {t : TA} (h : AW W t A fun xs => onDs xs fun ds => R ds.reverse fun d => P (.dat d)) : EW W (tCallKw (spP W.K W.C R) t) A P := fun S H σ l E Q q =>
  h S H σ l E _ fun S1 H1 vs xs e1 s1 h1 => by
    obtain ⟨ds, rfl, hd, hr⟩ := onDs_iff s1 h1
    exact ⟨S1, ds.reverse, _, ⟨e1.w.sh, fun _ z => nomatch z⟩, hd.rev, hr, fun S' H' v d e hv p => q S' H' v (.dat d) (e1.trans (e.lift e1.w)) hv p⟩

/-! ### t[::-1], t a tuple -/
section
variable {prog : Program} {w : World} {A : Around} {E : Value → Shared → Prop} {s : Shared}
theorem revAdjust (n : Nat) : Builtin.Slice.sliceAdjust none none (-1) (n : Int) = ((n : Int) - 1, -1) := rfl
theorem revPlaces (n : Nat) : Builtin.Slice.slicePlaces ((n : Int) - 1) (-1) (-1) = n := by
  unfold Builtin.Slice.slicePlaces
  rw [if_neg (by decide), show (-(-1) : Int) = 1 from rfl, Int.ediv_one]
  by_cases h : (n : Int) - 1 > -1
  · rw [if_pos h]
    omega
  · rw [if_neg h]
    omega
theorem revPick {α : Type} (xs : Array α) : ((List.range xs.size).filterMap fun (k : Nat) => xs[((xs.size : Int) - 1 + (k : Int) * -1).toNat]?).toArray = xs.toList.reverse.toArray := by
  congr 1
  have e : (fun (k : Nat) => xs[((xs.size : Int) - 1 + (k : Int) * -1).toNat]?) = (fun i => xs[i]?) ∘ fun k => xs.size - 1 - k := by
    funext k
    have z : ((xs.size : Int) - 1 + (k : Int) * -1).toNat = xs.size - 1 - k := by omega
    show xs[((xs.size : Int) - 1 + (k : Int) * -1).toNat]? = xs[xs.size - 1 - k]?
    rw [z]
  rw [e, ← List.filterMap_map, PySem.W.krv_range, List.filterMap_reverse, PySem.W.krv_all]
theorem getTupRev {t sl : Addr} {xs : Array Value} {st : Value} {Q : Value → Shared → Prop} (ht : IsTup s.heap t xs) (hs : s.heap.IsSliceOf sl .none .none st) (pst : IsPart st (some (-1))) (hz : xs.size ≤ sizeLine)
    (q : Q (.ref s.heap.objs.size) { s with heap := s.heap.push { cls := .type "tuple", data := .seq xs.toList.reverse.toArray } }) : wpAny (model prog w) A (getItem (.ref t) (.ref sl)) Q E s := by
  have fits : sizeOk (.seq xs.toList.reverse.toArray) := by
    show xs.toList.reverse.toArray.size ≤ sizeLine
    rw [List.size_toArray, List.length_reverse, Array.length_toList]
    exact hz
  obtain ⟨ob, g1, g2, g3⟩ := id hs
  have ty : s.TypeIs (.ref sl) "slice" := ⟨ob, g1, g2⟩
  unfold getItem
  try with_reducible refine wpAny_holding ?_
  first | refine wpAny_bind (wpAny_pure ?_) | skip
  refine wpAny_bind (wpAny_sequenceKey ht.typeIs (by decide) ?_)
  refine wpAny_bind (wpAny_callSpecial?_slot (name := Str.ofString "__getitem__") ht.typeIs PyProof.Rows.slot_tuple_getitem (wpAny_call_entry PyProof.Rows.slot_tuple_getitem ht.typeIs PyProof.Rows.entry_tuple_getitem ?_ (PyProof.Rows.args_tuple_getitem _ _)))
  show wpAny _ _ (Builtin.Tuple.tupleItemsOf (.ref t) >>= _) _ _ s
  refine wpAny_bind (PyProof.Rows.tupleItemsOf_ ht (wpAny_bind (wpAny_typeOf ty ?_)))
  rw [if_pos (by decide)]
  -- the slice's three parts
  refine wpAny_bind ?_
  unfold Builtin.Slice.sliceApplied Builtin.Slice.sliceFields
  refine wpAny_bind (wpAny_bind (wpAny_field g1 g3 (x := .none) rfl (wpAny_bind (wpAny_field g1 g3 (x := .none) rfl (wpAny_bind (wpAny_field g1 g3 (x := st) rfl (wpAny_pure ?_)))))))
  refine wpAny_bind (HT.slicePart_ pst ?_)
  show wpAny _ _ (if ((-1 : Int) == 0) = true then _ else _) _ _ s
  rw [if_neg (by decide)]
  refine wpAny_bind (PyProof.Rows.slicePart_none (wpAny_bind (PyProof.Rows.slicePart_none (wpAny_bind (wpAny_pure ?_)))))
  show wpAny _ _ (match Builtin.Slice.sliceAdjust none none (-1) (xs.size : Int) with | (lo, hi) => pure (lo, (-1 : Int), Builtin.Slice.slicePlaces lo hi (-1))) _ _ s
  rw [revAdjust]
  show wpAny _ _ (pure ((xs.size : Int) - 1, (-1 : Int), Builtin.Slice.slicePlaces ((xs.size : Int) - 1) (-1) (-1))) _ _ s
  rw [revPlaces]
  refine wpAny_pure ?_
  have no : ¬ (((xs.size : Int) - 1 == 0 && (-1 : Int) == 1 && xs.size == xs.size) = true) := by
    rw [show ((-1 : Int) == 1) = false from rfl, Bool.and_false, Bool.false_and]
    exact Bool.false_ne_true
  show wpAny _ _ (if ((xs.size : Int) - 1 == 0 && (-1 : Int) == 1 && xs.size == xs.size) = true then _ else _) _ _ s
  rw [if_neg no, revPick]
  first
    | exact wpAny_bind (m := Builtin.Tuple.tupleExact _) (wpAny_newObj_type (wpAny_pure ⟨_, rfl, wpAny_pure q⟩) fits)
    | exact wpAny_bind (m := Builtin.Tuple.tupleExact _) (wpAny_newObj_type (wpAny_bind (wpAny_pure (wpAny_pure ⟨_, rfl, wpAny_pure q⟩))) fits)
    | exact wpAny_bind (wpAny_bind (m := Builtin.Tuple.tupleExact _) (wpAny_newObj_type (wpAny_pure (wpAny_pure ⟨_, rfl, wpAny_pure q⟩)) fits))
    | exact wpAny_bind (wpAny_bind (m := Builtin.Tuple.tupleExact _) (wpAny_newObj_type (wpAny_pure ⟨_, rfl, wpAny_pure q⟩) fits))
end
def tRevT (K : PySem.W.Frag) (te : TE) : TE := fun σ H Q => te σ H fun x H1 => ∃ a ys, x = .ref a ∧ SqT K H1 a ys ∧ ∀ p, H1 p = none → Q (.ref p) (upd H1 p (.tup ys.reverse))
theorem pe_revT {X : Cx} {e : Expr} {te : TE} {k : Nat} {p1 p2 p3 pos : Pos} (he : PE X e te) : PE X (.Subscript e (.Slice none none (some (.UnaryOp .USub (.Constant (.int 1) k p1) p2)) p3) pos) (tRevT X.K te) := by
  refine ⟨fun pins s0 σ H0 Q I0 hyp => ?_⟩
  refine PyProof.Rows.Subscript_ (thn (he.run pins s0 σ H0 _ I0 hyp) fun v s2 ⟨y, H2, I2, rel, q2⟩ => ?_)
  obtain ⟨a, ys, ey, sq, q⟩ := q2
  subst ey
  cases rel
  have step : PO X (some (.UnaryOp .USub (.Constant (.int 1) k p1) p2)) (tPart (tUn (rU fun i => .int (-i)) (tC (.int 1)))) := po_some (pe_un un_neg pe_int)
  refine wpAny_Slice (thn (po_none.run pins s2 σ H2 (fun o H => o = none ∧ H = H2) I2 ⟨rfl, rfl⟩) fun w1 s3 ⟨o1, H3, I3, k3, e3, e3'⟩ => ?_)
  subst e3 e3'
  refine thn (po_none.run pins s3 σ H3 (fun o H => o = none ∧ H = H3) I3 ⟨rfl, rfl⟩) fun w2 s4 ⟨o2, H4, I4, k4, e4, e4'⟩ => ?_
  subst e4 e4'
  refine thn (step.run pins s4 σ H4 (fun o H => o = some (-1) ∧ H = H4) I4 ⟨1, rfl, -1, rfl, rfl, rfl⟩) fun w3 s5 ⟨o3, H5, I5, k5, e5, e5'⟩ => ?_
  subst e5 e5'
  cases k3
  cases k4
  have I6 : Inv X pins σ H5 { s5 with heap := s5.heap.push { cls := .type "slice", data := .fields #[.none, .none, w3] } } := I5.kept (t' := s5.toks) fun b ob z => Heap.get?_push_of_some _ z
  obtain ⟨its, rv, tp, hz⟩ := I6.tuple sq
  have hl := rv.length
  show wpAny (model X.prog X.w) X.A (PyProof.Rows.subscriptTail e (.Slice none none (some (.UnaryOp .USub (.Constant (.int 1) k p1) p2)) p3) (.ref a) (.ref s5.heap.objs.size)) (EP X pins σ Q) X.xe _
  refine PyProof.Rows.tail_any (ops := [.ref a, .ref s5.heap.objs.size]) tp.typeIs PyProof.Rows.slot_tuple_getitem.lookup ?_ (by with_unfolding_all rfl)
  refine getTupRev tp (Heap.IsSliceOf.new _ .none .none w3) k5 (by rw [List.size_toArray]; omega) ?_
  exact ⟨.ref _, _, I6.laid (t' := s5.toks) (o := .tup ys.reverse) (fun b ob z => Heap.get?_push_of_some _ z) (Nat.le_refl _) ⟨by rw [List.length_reverse]; exact hz, _, rv.reverse, ⟨_, Heap.get?_push_size _ rfl, rfl, _, rfl⟩⟩, rfl, q _ (I6.hok.fresh (Nat.le_refl _))⟩
theorem ew_revT {W : Wd} {A : AS} {ta : TE} {P : Sl → Prop} (h : EW W ta A fun x => onTup x fun ds => P (.dat (.tup ds.reverse))) : EW W (tRevT W.K ta) A P := fun S H σ l E Q q => h S H σ l E _ fun S1 H1 v x e1 s1 p0 => by
  obtain ⟨ds, rfl, p⟩ := onTup_iff p0
  obtain ⟨a, vs, rfl, ha, hva⟩ := dt_tup s1
  exact ⟨a, vs, rfl, .of (e1.w.sh _ _ ha), fun p' hp => q _ _ _ _ (e1.trans (.new e1.w hp)) (sd <| new_tup (Evl.fresh_back e1.w.sh hp) hva.rev) p⟩
end G
set_option Elab.async false
set_option linter.all false
set_option maxRecDepth 100000
namespace G
open PySem PySem.Spec L2
open Evl (Ex)
section
variable {W : Wd} {A : AS} {S H : Hp} {σ : L2.St} {l : Addr} {ta tb tc te : TE} {t u : TT} {P : Sl → Prop}
theorem pys_map_any (ds : List Da) (f : PyData → Bool) : (Da.pys ds).any f = ds.any fun d => f d.py := by
  induction ds with
  | nil => rfl
  | cons d ds ih =>
    show (f d.py || (Da.pys ds).any f) = (f d.py || ds.any fun d => f d.py)
    rw [ih]
theorem ew_inD2 (h : EW W ta A fun x => EW W tb A fun y => onD2 x y fun d e => fit d = true ∧ ∃ ds, (e = .lst ds ∨ e = .tup ds) ∧ Da.flats ds = true ∧ PyData.canLayAll0 (Da.pys ds) = true ∧ P (.dat (.bl (ds.any fun z => PyData.eqv z.py d.py)))) : EW W (tOp (rInD2 W.K) ta tb) A P :=
  ew_op (R := fun x y P => onD2 x y fun d e => fit d = true ∧ ∃ ds, (e = .lst ds ∨ e = .tup ds) ∧ Da.flats ds = true ∧ PyData.canLayAll0 (Da.pys ds) = true ∧ P (.dat (.bl (ds.any fun z => PyData.eqv z.py d.py)))) (fun S H σ l v u x y E hx hy P h Q q => by
    obtain ⟨d, e, rfl, rfl, f1, ds, he, f2, f3, p⟩ := onD2_iff h
    obtain ⟨a1, a2⟩ := (Bool.and_eq_true _ _).mp f1
    rw [← pys_map_any ds fun z => PyData.eqv z d.py] at p
    refine ⟨d.py, Da.pys ds, (Dt.mono E.w.sh hx).dp a1, ?_, a2, f3, q S H _ _ (.refl E.w) (sd <| Dt.bl _) p⟩
    rcases he with rfl | rfl
    · exact .inl (Dt.dp (d := .lst ds) f2 (Dt.mono E.w.sh hy))
    · exact .inr (Dt.dp (d := .tup ds) f2 (Dt.mono E.w.sh hy))) h
theorem ew_reprD {ta : TA} (h : AW W ta A fun xs => on1 xs fun x => onDat x fun d => (∃ i, d = .int i ∧ i.natAbs.log2 < 1920 ∧ P (.dat (.str (toString i)))) ∨
    ∃ ds, d = .tup ds ∧ Da.flats ds = true ∧ d.py.showable = true ∧ d.py.hasDict = false ∧ d.py.depth ≤ 60 ∧ d.py.shown.length ≤ sizeLine ∧ P (.dat (.str d.py.shown))) : EW W (tCB (rReprD W.K) ta) A P :=
  ew_cb (R := fun xs P => on1 xs fun x => onDat x fun d => (∃ i, d = .int i ∧ i.natAbs.log2 < 1920 ∧ P (.dat (.str (toString i)))) ∨
    ∃ ds, d = .tup ds ∧ Da.flats ds = true ∧ d.py.showable = true ∧ d.py.hasDict = false ∧ d.py.depth ≤ 60 ∧ d.py.shown.length ≤ sizeLine ∧ P (.dat (.str d.py.shown))) (fun S H σ l vs xs E r P h Q q => by
    obtain ⟨x, rfl, h⟩ := on1_iff h
    obtain ⟨d, rfl, h⟩ := onDat_iff h
    obtain ⟨v, rfl, hv⟩ := pair1 r
    rcases h with ⟨i, rfl, hi, p⟩ | ⟨ds, rfl, f, h1, h2, h3, h4, p⟩
    · exact ⟨v, .int i, rfl, by rw [dt_int hv]; exact .int i, .inl ⟨i, dt_int hv, hi, q S H _ _ (.refl E.w) (sd <| Dt.str _) p⟩⟩
    · exact ⟨v, Da.py (.tup ds), rfl, (Dt.mono E.w.sh hv).dp f, .inr ⟨⟨_, rfl⟩, h1, h2, h3, h4, q S H _ _ (.refl E.w) (sd <| Dt.str _) p⟩⟩) h
end
end G
set_option Elab.async false
set_option linter.all false
set_option maxRecDepth 100000
/-! {int for x in walk} and sorted of it, any number of members. -/
namespace G
open PySem PySem.Spec L2 PyProof.Rows
open Evl (Ex)
/-- sorted of a set of hz1 -/
def rSrtSet (w : World) : List V → Hp → VK → Prop := fun vs H Q => ∃ (D : Addr) (M : Int → Bool) (n : Nat), vs = [V.ref D] ∧ H D = some (SetO w D M n) ∧
  ∀ (ns : List Int) (p : Addr), ns.Pairwise (· < ·) → (∀ k : Int, k ∈ ns ↔ M k = true) → H p = none → Q (.ref p) (upd H p (.lst (ns.map V.int)))
theorem srt_set {P : Program} {w : World} {A : Around} {E : Value → Shared → Prop} {s : Shared} {D : Addr} {M : Int → Bool} {n : Nat} {Q : Value → Shared → Prop} (R : SetR w s.heap D M n) (calm : A.handled = none)
    (fin : ∀ t p (zs : List Value) (c : Nat) (ns : List Int), (∀ b o, s.heap.get? b = some o → t.heap.get? b = some o) → t.gens = s.gens → t.os = s.os → s.heap.objs.size ≤ p →
      t.heap.get? p = some (seqObj "list" zs.toArray c) → IntsAre zs ns → ns.Pairwise (· < ·) → (∀ k, k ∈ ns ↔ M k = true) → ns.length ≤ 4096 → Q (.ref p) t) :
    wpAny (model P w) A (call (.builtin "sorted") [.ref D]) Q E s := by
  obtain ⟨ob, es, ep, tb, h1, h2, h3, h4, h5, h6, h7, h8, h9, h10, h11⟩ := R
  refine Calls.call_function_entry kind_sorted plain_sorted entry_sorted (args_sorted1 _) ?_
  unfold Builtin.«sorted»
  refine wpAny_bind (m := checkCount "sorted" 1 1 _) (wpAny_pure ?_)
  refine wpAny_bind (collect_set (A := A.in1) calm ⟨ob, h1, h2.1, h3⟩ h8 h7 h10 h11 fun t0 us k1 big g1 o1 pm => ?_)
  have szU : us.length = es.size := by rw [pm.length_eq, List.length_map, Array.length_toList]
  have lim : us.length ≤ 4096 := by
    have : es.size < 4096 := h7
    omega
  have hz1 : IntsAre us (us.map Builtin.Re.reRawOf) := ints_of us fun v hv => by
    obtain ⟨e, he, q⟩ := List.mem_map.mp (pm.mem_iff.mp hv)
    obtain ⟨k, tk, z, _⟩ := h4 e he
    exact ⟨k, tk, by rw [← q]; exact z⟩
  have pk : (us.map Builtin.Re.reRawOf).Perm (es.toList.map keyOf) := by
    have q := pm.map Builtin.Re.reRawOf
    rwa [List.map_map] at q
  have room : us.length ≤ sizeLine := szk (by omega)
  refine wpAny_bind (wpAny_newList ?_ room)
  have at0 : (t0.heap.push (seqObj "list" us.toArray 0)).get? t0.heap.objs.size = some (seqObj "list" us.toArray 0) := Heap.get?_push_size _ rfl
  refine wpAny_bind (wpAny_holding (wpAny_call_entry slot_list_sort ⟨_, at0, rfl⟩ entry_list_sort (SrtO.list_sort_ord SrtO.swo_int at0 room (fun two => SrtO.ints_sortable hz1 two) fun zs a1 a2 => ⟨_, rfl, ?_⟩) (args_list_sort _)))
  obtain ⟨i1, i2, i3⟩ := SrtO.ints_out hz1 a1 a2
  obtain ⟨c, hc⟩ := sortedHeap_at (vs := us) (out := zs.toArray) at0
  have pn : (zs.map SrtO.iv).Perm (es.toList.map keyOf) := i2.trans pk
  refine wpAny_pure ⟨_, rfl, fin _ t0.heap.objs.size zs c (zs.map SrtO.iv) (fun b u e => ?_) g1 o1 big hc i1 (lt_of_le_nodup _ i3 (pn.nodup_iff.mpr h5)) (fun k => by rw [pn.mem_iff, ← h6 k]) ?_⟩
  · have q := k1 b u e
    have lt := Heap.lt_size q
    show (sortedHeap (t0.heap.push (seqObj "list" us.toArray 0)) t0.heap.objs.size us zs.toArray).get? b = some u
    rw [sortedHeap_old (Nat.ne_of_lt lt) (by rw [size_push']; exact Nat.lt_succ_of_lt lt)]
    exact Heap.get?_push_of_some _ q
  · rw [pn.length_eq, List.length_map, Array.length_toList, ← szU]
    exact lim
section
variable {X : Cx}
theorem call_srtSet (hc : X.calm = true) : CallR X (.builtin "sorted") (rSrtSet X.w) := by
  intro pins s σ H vs us Q I r hyp
  obtain ⟨D, M, n, rfl, ha, q⟩ := hyp
  rw [Vals.ref1 r]
  refine srt_set (setO_get I ha) (I.ok.hd hc) fun t p zs c ns k g o big at1 hz1 up mem lim => ?_
  have fr : H p = none := I.hok.fresh big
  have J : Inv X pins σ (upd H p (.lst (ns.map V.int))) { s with heap := t.heap, gens := t.gens, drawn := t.drawn, toks := t.toks } :=
    I.call (ch := []) (Un.laid k big fr) (I.hok.laid k big ⟨by rw [List.length_map]; exact szk (by omega), zs, c, vals_of_ints hz1, at1⟩) (by rw [g]; exact I.bare) fun _ z => nomatch z
  have e : t = { s with heap := t.heap, gens := t.gens, drawn := t.drawn, toks := t.toks } := by
    obtain ⟨t1, t2, t3, t4, t5⟩ := t
    obtain ⟨s1, s2, s3, s4, s5⟩ := s
    cases o
    rfl
  rw [e]
  exact ⟨.ref p, _, J, rfl, q ns p up mem fr⟩
/-! ### {e for x in walk} -/
def hp0 (w : World) (H : Hp) (D : Addr) : Hp := upd H D (SetO w D (fun _ => false) 0)
def addM (M : Int → Bool) (k : Int) : Int → Bool := fun j => M j || decide (j = k)
/-- one turn's end: the member goes in -/
def putM (w : World) (D : Addr) (Nx : Hp → Prop) : VK := fun y H => ∃ (k : Int) (M : Int → Bool) (n : Nat), y = .int k ∧ H D = some (SetO w D M n) ∧ n + 1 < scanBound ∧ Nx (upd H D (SetO w D (addM M k) (if M k = true then n else n + 1)))
def tScI (w : World) (wi : TI) (g : TG) (tt : TT) (te : TE) (vs : List Nat) : TE := fun σ H Q => wi σ H fun J H1 => ∀ D, H1 D = none → ∃ Wh : Nat → Nat → Hp → Prop, (∃ m, Wh 0 m (hp0 w H1 D)) ∧ ∀ i m H, Wh i m H →
  (J.stop i H ∧ Q (.ref D) H) ∨ (J.go i H ∧ ∃ Nx : Hp → Prop, (∀ H', Nx H' → ∃ m', m' < m ∧ Wh (i + 1) m' H') ∧ ∀ x H', J.yld i H x H' → g x (wipe σ vs) H' fun σ2 H2 => wipe σ2 vs = wipe σ vs ∧ tt σ2 H2 fun b H3 => if b = true then te σ2 H3 (putM w D Nx) else Nx H3)
theorem put_ok {pins : List (Addr × Obj)} {σ : L2.St} {H : Hp} {s : Shared} {E : Value → Shared → Prop} {D : Addr} {M : Int → Bool} {n : Nat} {k : Int} {tk : Tok} {Q : Value → Shared → Prop} (I : Inv X pins σ H s) (at1 : H D = some (SetO X.w D M n)) (room : n + 1 < scanBound)
    (fin : ∀ t, Inv X pins σ (upd H D (SetO X.w D (addM M k) (if M k = true then n else n + 1))) t → Q .none t) : wpAny (model X.prog X.w) X.A (call (.builtin "set.add") [.ref D, .int k tk]) Q E s := by
  refine setR_add (setO_get I at1) room fun h2 same R2 => ?_
  have ex : ∃ u, h2.get? D = some u := by
    obtain ⟨o, _, _, _, ho, _⟩ := id R2
    exact ⟨o, ho⟩
  exact fin _ (I.write (e := D) (t' := s.toks + 1) (by rw [at1]; trivial) (.inl rfl) (fun b u hb hu => (same.2 b hb).trans hu) ex (setO_new R2))
abbrev bCells (X : Cx) (sc : Scope) (n : Nat) := cellsFrom (n + 1) sc.names (cloFrom X.env.cells sc.names [])
theorem sci_core {pins : List (Addr × Obj)} {s : Shared} {σ : L2.St} {H : Hp} {Q : VK} {el tg src : Expr} {cs : List Expr} {sc : Scope} {own : List (PySem.Str × Nat)} {q1 q2 : Pos} {wi : TI} {g : TG} {tt : TT} {te : TE} {Qf : Value → Shared → Prop}
    (calm : X.calm = true) (nd : X.N.Nodup) (I : Inv X pins σ H s) (hi : PI X tg src wi) (ok : BlkOk X.N X.env.scope sc own)
    (pgA : ∀ (s : Shared) (H : Hp) (C : Addr) (cl : List (PySem.Str × Addr)) (fp : List Addr), PG (X.blk s H sc (compEnvC sc cl C X.env) fp) tg g) (ptA : ∀ (s : Shared) (H : Hp) (C : Addr) (cl : List (PySem.Str × Addr)) (fp : List Addr), PTs (X.blk s H sc (compEnvC sc cl C X.env) fp) cs tt)
    (peA : ∀ (s : Shared) (H : Hp) (C : Addr) (cl : List (PySem.Str × Addr)) (fp : List Addr), PE (X.blk s H sc (compEnvC sc cl C X.env) fp) el te) (fold : ∀ x, foldedSetIterable src X.env x = pure x)
    (hyp : tScI X.w wi g tt te (own.map (·.2)) σ H Q)
    (fin : ∀ D C t m H', Inv X pins σ H' t → Q (.ref D) H' → t.heap.Ns C m → FpOk X pins H' C → compPost (model X.prog X.w) X.A X.xe none Qf (.ref D) C (.ok .next) t) :
    wpAny (model X.prog X.w) X.A (comprehension (.SetComp el [⟨tg, src, cs, 0⟩] sc q1) sc X.env q2 (newSet (.type "set")) false (eval src X.env) none) Qf X.xe s := by
  have free : ∀ y ∈ sc.names, y.2 = .free → ∃ c, X.env.cells.lookup y.1 = some c := fun y hy e => (ok.free y hy e).elim (fun z => I.ok.has _ (.inl z)) fun z => I.ok.has _ (.inr z)
  refine wpAny_comprehension_free (use := none) rfl fold (closure_ok free) ok.kind (fun y hy e => by rw [ok.uniq y hy, e]) ?_
  refine thn (hi.run pins s σ H _ I hyp) fun v0 t0 h0 => thn h0 fun v1 t1 h1 => ?_
  obtain ⟨it, fp, tn, J, H2, rfl, I2, T, st2, f2, q⟩ := h1
  refine PpSet.newSet_ok (newEnv_comp ?_)
  generalize hD : t1.heap.objs.size = D
  have freeD : H2 D = none := I2.hok.fresh (Nat.le_of_eq hD)
  obtain ⟨Wh, ⟨m0, w0⟩, turn⟩ := q D freeD
  generalize ht2 : ({ t1 with heap := t1.heap.push { cls := .type "set", dict := none, data := .set #[] 0 (.fresh 0 0 (!X.w.params.followText "set-order")) } } : Shared) = t2
  have hh : t2.heap = t1.heap.push { cls := .type "set", dict := none, data := .set #[] 0 (.fresh 0 0 (!X.w.params.followText "set-order")) } := by rw [← ht2]
  generalize hHd : hp0 X.w H2 D = HD at w0
  have eHD : HD = upd H2 D (SetO X.w D (fun _ => false) 0) := hHd.symm
  have I3 : Inv X pins σ HD t2 := by
    rw [← ht2, eHD]
    refine I2.laid (t' := t1.toks) (fun _ _ e => Heap.get?_push_of_some _ e) (Nat.le_of_eq hD) ?_
    rw [← hD]
    exact setO_new (setR_fresh X.w)
  have less : ∀ b ∈ fp, b < t1.heap.objs.size := fun b hb => (T.obj _ _ st2 b hb).elim fun o z => Heap.lt_size z.1
  have f3 : ∀ b ∈ fp, FpOk X pins HD b ∧ b < t2.heap.objs.size := fun b hb => by
    have lt := less b hb
    refine ⟨⟨?_, (f2 b hb).2⟩, by rw [hh, Heap.size_push]; exact Nat.lt_succ_of_lt lt⟩
    rw [eHD, upd_ne (by rw [← hD]; exact Nat.ne_of_lt lt)]
    exact (f2 b hb).1
  have st3 : tn 0 t2.heap := T.keep _ _ _ st2 fun b _ o e => by rw [hh]; exact Heap.get?_push_of_some _ e
  have I4 := block_start I3 ok nd f3
  have pg := pgA t2 HD t2.heap.objs.size (bCells X sc t2.heap.objs.size) fp
  have pt := ptA t2 HD t2.heap.objs.size (bCells X sc t2.heap.objs.size) fp
  have pe := peA t2 HD t2.heap.objs.size (bCells X sc t2.heap.objs.size) fp
  show codeAny _ _ (.compStart (.SetComp el [⟨tg, src, cs, 0⟩] sc q1) 0 (.ref it) (.ref D) (compEnvC sc (bCells X sc t2.heap.objs.size) t2.heap.objs.size X.env)) (compPost (model X.prog X.w) X.A X.xe none Qf (.ref D) t2.heap.objs.size) { t2 with heap := pushCells (t2.heap.push { cls := .type "dict", data := .dict #[] }) sc.names }
  have none3 : ∀ b ∈ fp, HD b = none := fun b hb => (f3 b hb).1.1
  generalize hce : compEnvC sc (bCells X sc t2.heap.objs.size) t2.heap.objs.size X.env = ce at I4 pg pt pe ⊢
  have cL : ce.locals = t2.heap.objs.size := by subst hce; rfl
  generalize ht3 : ({ t2 with heap := pushCells (t2.heap.push { cls := .type "dict", data := .dict #[] }) sc.names } : Shared) = t3 at I4 ⊢
  have st4 : tn 0 t3.heap := T.keep _ _ _ st3 fun b _ o e => by rw [← ht3]; exact pushCells_keeps _ _ _ _ (Heap.get?_push_of_some _ e)
  have stat : ∀ {τ : L2.St} {H' : Hp} {t : Shared}, Inv (X.blk t2 HD sc ce fp) [] τ H' t → (∀ b ∈ fp, H' b = none) → ∀ b ∈ fp, FpOk (X.blk t2 HD sc ce fp) [] H' b := fun {τ H' t} I' hn b hb =>
    ⟨hn b hb, (I'.ok.exf b hb).1, I'.ok.exfs b hb, .inl hb, fun x c e => (I'.ok.exf b hb).2 x c e, fun p hp => absurd (show p ∈ ([] : List (Addr × Obj)) ++ [] from hp) (by simp)⟩
  have loop : codeAny (model X.prog X.w) X.A (.compLoop (.SetComp el [⟨tg, src, cs, 0⟩] sc q1) 0 (.ref it) (.ref D) ce) (compPost (model X.prog X.w) X.A X.xe none Qf (.ref D) t2.heap.objs.size) t3 := by
    refine PpSet.compLoopS_any (fun n t => ∃ i H', Inv (X.blk t2 HD sc ce fp) [] (wipe σ (own.map (·.2))) H' t ∧ tn i t.heap ∧ (∀ b ∈ fp, H' b = none) ∧ Wh i n H') ?_ m0 ⟨0, HD, I4, st4, none3, w0⟩
    rintro n t5 ⟨i, H5, I5, st5, n5, w5⟩
    rcases turn i n H5 w5 with ⟨stop, qq⟩ | ⟨go, Nx, goOn, step⟩
    · refine thnF (T.done (X.blk t2 HD sc ce fp) rfl rfl rfl calm i [] t5 _ H5 (fun _ _ => False) I5 (stat I5 n5) st5 stop) fun r t6 ⟨hr, I6⟩ => ?_
      subst hr
      have I7 : Inv X pins σ H5 t6 := I3.call' (ch := fp) I6.os I6.base I6.hok I6.bare fun b hb => ⟨(f3 b hb).1.2.2.2.1, (f3 b hb).1.2.1, (f3 b hb).1.2.2.2.2.1, (f3 b hb).1.2.2.2.2.2⟩
      have nC : H5 t2.heap.objs.size = none := by
        have z : H5 ce.locals = none := I6.free
        rwa [cL] at z
      obtain ⟨m, hn, _⟩ := I6.loc
      have hn : t6.heap.Ns ce.locals m := hn
      rw [cL] at hn
      exact fin D t2.heap.objs.size t6 m H5 I7 qq hn (I3.fpOk (Nat.le_refl _) nC)
    · refine thnF (T.item (X.blk t2 HD sc ce fp) rfl rfl rfl calm i [] t5 _ H5 (fun _ _ => False) I5 (stat I5 n5) st5 go) fun r t6 ⟨u, hr, h6⟩ => ?_
      subst hr
      refine thnF h6 fun _ t7 ⟨x, H7, I7, r7, y7, st7, n7⟩ => ?_
      refine thnF (pg.run _ t7 _ H7 x u _ (I7.pinned (stat I7 n7) (T.obj _ _ st7)) r7 (step x H7 y7)) fun _ t8 ⟨σ8, H8, I8, e8, q8⟩ => ?_
      refine thnF (pt.run _ t8 σ8 H8 _ I8 q8) fun b t9 ⟨H9, I9, q9⟩ => ?_
      have close : ∀ {t : Shared} {H' : Hp}, Inv (X.blk t2 HD sc ce fp) ([] ++ pinsAt fp t7.heap) σ8 H' t → Nx H' → ∃ m, m < n ∧ ∃ i H', Inv (X.blk t2 HD sc ce fp) [] (wipe σ (own.map (·.2))) H' t ∧ tn i t.heap ∧ (∀ b ∈ fp, H' b = none) ∧ Wh i m H' := fun {t H'} I' nx => by
        obtain ⟨m', hm, w'⟩ := goOn H' nx
        have pinned : ∀ b ∈ fp, ∀ o, t7.heap.get? b = some o → t.heap.get? b = some o ∧ H' b = none := fun b hb o e =>
          let z := I'.pin (b, o) (List.mem_append_right _ (List.mem_append_right _ (mem_pinsAt hb e)))
          ⟨z.1, z.2.1⟩
        refine ⟨m', hm, i + 1, H', (I'.unpinned (pins := [])).weak (by rw [← e8, wipe_length]) (fun j v e => ?_), T.keep _ _ _ st7 fun b hb o e => (pinned b hb o e).1, fun b hb => ?_, w'⟩
        · rw [← e8] at e
          exact (wipe_some e).1
        · exact (T.obj _ _ st7 b hb).elim fun o z => (pinned b hb o z.1).2
      cases b with
      | false =>
        simp only [Bool.false_eq_true, if_false] at q9 ⊢
        exact close I9 q9
      | true =>
        simp only [if_true] at q9 ⊢
        refine thnF (pe.run _ t9 σ8 H9 _ I9 q9) fun z t10 ⟨yv, H10, I10, r10, kb, M0, n0, ey, atD, room, nx⟩ => ?_
        subst ey
        obtain ⟨tk, rfl⟩ := r10
        exact put_ok (X := X.blk t2 HD sc ce fp) I10 atD room fun t11 I11 => close I11 nx
  exact PpSet.codeAny_compStart_set loop (T.self X.A 0 _ _ _ st4 loop)
theorem pe_scI {el tg src : Expr} {cs : List Expr} {sc : Scope} {own : List (PySem.Str × Nat)} {pos : Pos} {wi : TI} {g : TG} {tt : TT} {te : TE} (calm : X.calm = true) (nd : X.N.Nodup) (hi : PI X tg src wi) (ok : BlkOk X.N X.env.scope sc own)
    (pgA : ∀ (s : Shared) (H : Hp) (C : Addr) (cl : List (PySem.Str × Addr)) (fp : List Addr), PG (X.blk s H sc (compEnvC sc cl C X.env) fp) tg g) (ptA : ∀ (s : Shared) (H : Hp) (C : Addr) (cl : List (PySem.Str × Addr)) (fp : List Addr), PTs (X.blk s H sc (compEnvC sc cl C X.env) fp) cs tt)
    (peA : ∀ (s : Shared) (H : Hp) (C : Addr) (cl : List (PySem.Str × Addr)) (fp : List Addr), PE (X.blk s H sc (compEnvC sc cl C X.env) fp) el te) (fold : ∀ x, foldedSetIterable src X.env x = pure x := by intro _; rfl) :
    PE X (.SetComp el [⟨tg, src, cs, 0⟩] sc pos) (tScI X.w wi g tt te (own.map (·.2))) := by
  refine ⟨fun pins s σ H Q I hyp => ?_⟩
  rw [PpSet.eval_SetComp]
  refine sci_core calm nd I hi ok pgA ptA peA fold hyp fun D C t m H' I' q hn f => ⟨m, hn, fun h2 sb => ?_⟩
  exact ⟨.ref D, H', I'.turned (t' := t.toks) (fun b o hb e => (sb.2 b hb).trans e) f.1 f.2.1 f.2.2.2.1 f.2.2.2.2.1 f.2.2.2.2.2, rfl, q⟩
end
end G
set_option Elab.async false
set_option linter.all false
set_option maxRecDepth 100000
namespace G
open PySem PySem.Spec L2
open Evl (Ex)
section
variable {W : Wd} {A : AS} {S H : Hp} {σ : L2.St} {l : Addr} {te : TE} {wi : TI} {g : TG} {vs : List Nat} {P : Sl → Prop} {w : World} {α : Type}
theorem ew_srtSet (xs : List α) (k : α → Da) (f : α → Int) (h : IW W wi A (· = xs.map k)) (hl : xs.length ≤ 4000)
    (turn : ∀ x, x ∈ xs → GW W g (fun j => j ∈ vs) (.dat (k x)) ⟨wipeA A.sl vs, A.ac⟩ fun A' => EW W te A' (· = .dat (.int (f x))))
    (p : ∀ ns : List Int, ns.Pairwise (· < ·) → (∀ k : Int, k ∈ ns ↔ ∃ x, x ∈ xs ∧ f x = k) → P (.dat (.lst (ns.map .int)))) : EW W (tCB (rSrtSet w) (tCons (tScI w wi g tYes te vs) tNil)) A P := fun S H σ l E Q q =>
  h S H σ l E _ fun S1 H1 J ds e1 wk hds D hD => by
    subst hds
    obtain ⟨Y, wk, yv⟩ := wk.ex
    rw [List.length_map] at wk
    have E1 := E.ext e1
    have hn := notD_of e1.w hD
    have hs1 : S1 D = none := Evl.fresh_back e1.w.sh hD
    refine ⟨fun i m H2 => m = xs.length - i ∧ i ≤ xs.length ∧ ∃ S2 M n, Ext W.dl S1 H1 S2 H2 ∧ S2 D = none ∧ H2 D = some (SetO w D M n) ∧ n ≤ i ∧ ∀ k : Int, M k = true ↔ ∃ x, x ∈ xs.take i ∧ f x = k,
      ⟨_, rfl, Nat.zero_le _, S1, fun _ => false, 0, .newM e1.w hD, hs1, upd_same, Nat.le_refl _, fun k => ⟨(fun z => nomatch z), fun ⟨x, hx, _⟩ => by rw [List.take_zero] at hx; cases hx⟩⟩, ?_⟩
    rintro i m H2 ⟨rfl, hi, S2, M, n, e2, hs, hd, hni, hm⟩
    have ex2 : Ex S1 H2 := e2.ss.trans e2.w.sh
    by_cases lt : i < xs.length
    · have at1 : xs[i]? = some xs[i] := List.getElem?_eq_getElem lt
      have atd : (xs.map k)[i]? = some (k xs[i]) := by rw [List.getElem?_map, at1]; rfl
      have mem : xs[i] ∈ xs := List.getElem_mem lt
      refine .inr ⟨wk.goes i H2 lt ex2, fun H3 => ∃ S3 M n, Ext W.dl S1 H1 S3 H3 ∧ S3 D = none ∧ H3 D = some (SetO w D M n) ∧ n ≤ i + 1 ∧ ∀ k : Int, M k = true ↔ ∃ x, x ∈ xs.take (i + 1) ∧ f x = k, fun H3 hN => ⟨xs.length - (i + 1), by omega, rfl, lt, hN⟩, fun v H2' hy0 => ?_⟩
      have hy := wk.yields i H2 v H2' lt ex2 hy0
      obtain ⟨S3, e3, hs3, hd3, hx⟩ : ∃ S3, Ext W.dl S1 H1 S3 H2' ∧ S3 D = none ∧ H2' D = some (SetO w D M n) ∧ Dt W.K W.C S3 v (k xs[i]) := by
        rcases yv i H2 v H2' _ atd ex2 hy with ⟨rfl, hx⟩ | ⟨T, o, hT, rfl, hx⟩
        · exact ⟨S2, e2, hs, hd, hx.mono e2.ss⟩
        · have ne : D ≠ T := ne_of_none hd hT
          refine ⟨_, e2.trans (.new e2.w hT), by rw [upd_ne ne]; exact hs, by rw [upd_ne ne]; exact hd, hx.mono fun a u ha => ?_⟩
          by_cases z : a = T
          · subst z
            rw [upd_same] at ha ⊢
            exact ha
          · rw [upd_ne z] at ha ⊢
            exact e2.ss a u ha
      have E3 : Env W S3 H2' (wipe σ vs) l ⟨wipeA A.sl vs, A.ac⟩ := ⟨e3.w, wipe_ok (E1.ext e3).sl vs, (E1.ext e3).ac⟩
      refine turn xs[i] mem S3 H2' _ l v E3 (sd hx) _ fun σ' A' E' k' hp => ⟨(wipe_set k'.1 k'.2.1).trans wipe_wipe, ?_⟩
      refine hp S3 H2' σ' l E' _ fun S5 H5 u y e5 hu ey => ?_
      subst ey
      have hd5 : H5 D = some (SetO w D M n) := e5.hh _ _ hd3 hn
      have hs5 : S5 D = none := (e5.nw _ _ hd3).trans hs3
      refine ⟨f xs[i], M, n, dt_int hu, hd5, ?_, S5, addM M (f xs[i]), _, (e3.trans e5).upd hD hs5 hd5 hn, hs5, upd_same, ?_, fun k => ?_⟩
      · show n + 1 < 4096
        omega
      · by_cases z : M (f xs[i]) = true
        · rw [if_pos z]; omega
        · rw [if_neg z]; omega
      · unfold addM
        rw [Bool.or_eq_true, hm, decide_eq_true_eq]
        have e : xs.take (i + 1) = xs.take i ++ [xs[i]] := by rw [List.take_add_one, at1]; rfl
        rw [e]
        constructor
        · rintro (⟨x, hx, hk⟩ | hk)
          · exact ⟨x, List.mem_append_left _ hx, hk⟩
          · exact ⟨xs[i], List.mem_append_right _ (List.mem_singleton.mpr rfl), hk.symm⟩
        · rintro ⟨x, hx, hk⟩
          rcases List.mem_append.mp hx with z | z
          · exact .inl ⟨x, z, hk⟩
          · rw [List.mem_singleton.mp z] at hk
            exact .inr hk.symm
    · have e : i = xs.length := by omega
      subst e
      refine .inl ⟨wk.stops H2 ex2, D, M, n, rfl, hd, fun ns p' up mem fr => ?_⟩
      rw [List.take_length] at hm
      have hv : DtAll W.K W.C (upd S2 p' (.lst (ns.map V.int))) (ns.map V.int) (ns.map Da.int) := by
        clear up mem
        generalize upd S2 p' (.lst (ns.map V.int)) = S9
        induction ns with
        | nil => exact .nil
        | cons a r ih => exact .cons (.int a) ih
      exact q _ _ _ _ (e1.trans (e2.trans (.new e2.w fr))) (sd <| .lst upd_same hv) (p ns up fun k => (mem k).trans (hm k))
end
end G
set_option Elab.async false
set_option linter.all false
set_option maxRecDepth 100000
/-! the class Plate made: __init__ as its callers know it; a def that is handed the deal. -/
namespace G
open PySem PySem.Spec L2
open Evl (Ex)
open PyProof.Rows (envOfC)
/-- what __init__ promises: R of the two data; a new plate -/
def spI (K : PySem.W.Frag) (C : Addr) (R : Da → Da → Prop) : Sp := fun vs H2 Q _ => ∃ (S H : Hp) (x dx : Addr) (v u : V) (o h : Da), vs = [.ref x, v, u] ∧ H2 = upd (upd H dx (.own x)) x (.ins C dx []) ∧ H x = none ∧ H dx = none ∧ dx ≠ x ∧
  Wf none S H ∧ Dt K C S v o ∧ Dt K C S u h ∧ R o h ∧ ∀ S' H', Ext none S H S' H' → Dt K C S' (.ref x) (.plate o h) → Q .non H'
structure InitAt (P : Program) (w : World) (K : PySem.W.Frag) (mg : Str → Option Value) (base : Heap) (C : Addr) (k : Nat) (R : Da → Da → Prop) : Prop where
  ex : ∃ f fd, Mk K C f ∧ FnOk P w K mg base CX0 k f fd ["self", "outer", "holes"] (spI K C R) ∧ Binds K fd ["self", "outer", "holes"] []
def tPlate (K : PySem.W.Frag) (C : Addr) (R : Da → Da → Prop) (t : TA) : TE := tMake C (spI K C R) [] E0 t
theorem pe_plate {X : Cx} {C : Addr} {k j : Nat} {R : Da → Da → Prop} {e : Expr} {es : List Expr} {t : TA} {p pos : Pos} (c : InitAt X.prog X.w X.K X.mg X.base C k R) (hr : Room j X.A) (hj : k + 1 ≤ j) (hg : Gl X "Plate") (hm : X.mg "Plate" = some (.ref C)) (ha : PA X (e :: es) t)
    (he : starEach (e :: es) X.env = (false, eval e X.env) :: starEach es X.env := by rfl) (hpl : (backTo pos (starEach es X.env)).any (·.1) = false := by rfl) :
    PE X (.Call (.Name "Plate" p) (e :: es) [] pos) (tPlate X.K C R t) := by
  obtain ⟨f, fd, M, F, hb⟩ := c.ex
  exact pe_make M F (hr.mono hj) hg hm hb .nil pass0 ha (by decide) he hpl
theorem ew_plate {W : Wd} {A : AS} {P : Sl → Prop} {R : Da → Da → Prop} {t : TA} (h : AW W t A fun xs => onDs xs fun ds => ∃ o q, ds = [o, q] ∧ R o q ∧ P (.dat (.plate o q))) : EW W (tPlate W.K W.C R t) A P := fun S H σ l E Q q =>
  h S H σ l E _ fun S1 H1 vs xs e1 s1 h1 x dx hx hdx ne => by
    obtain ⟨ds, rfl, hd, o, r, rfl, hR, p⟩ := onDs_iff s1 h1
    cases hd with
    | @cons v vs _ _ g1 g2 =>
      cases g2 with
      | @cons u us _ _ g3 g4 =>
        cases g4
        refine ⟨S1, H1, x, dx, v, u, o, r, by rw [List.append_nil], rfl, hx, hdx, ne, ⟨e1.w.sh, fun _ z => nomatch z⟩, g1, g3, hR, fun S' H' e hd' => ⟨rfl, ?_⟩⟩
        exact q S' H' _ (.dat _) (e1.trans (e.lift e1.w)) hd' p
section
variable {P : Program} {w : World} {K : PySem.W.Frag} {mg : Str → Option Value} {base : Heap} {name : Str} {N ps : List Str} {st : Stmt} {k : Nat} {t : TS} {C : Addr}
/-- how a run that begins with the object's fields unset goes on to its end -/
theorem init_run {W : Wd} (hW : W.dl = none) (T : PlateCls W.K W.C) {pre : TS} {S H : Hp} {x dx : Addr} {v u : V} {o h : Da} {σ : L2.St} {Q : V → Hp → Prop} {n : Nat} (hs : W.C = C) (hk : W.K = K)
    (wf : Wf none S H) (hx : H x = none) (hdx : H dx = none) (ne : dx ≠ x) (hv : Dt K C S v o) (hu : Dt K C S u h)
    (body : SW W pre (init [.obj x, o, h] n) ⟨fun A' => A'.sl[0]? = some (.dat (.obj x)) ∧ A'.sl[1]? = some (.dat o) ∧ A'.sl[2]? = some (.dat h), fun _ => False, fun _ => False, fun _ => False⟩)
    (fin : ∀ S' H', Ext none S H S' H' → Dt K C S' (.ref x) (.plate o h) → Q .non H') :
    (tSeq pre (tSeq (sFld W.K (tVar 0) (tVar 1) "outer") (sFld W.K (tVar 0) (tVar 2) "holes"))) { nx := fun _ H' => Q .non H', rt := Q } ((some (.ref x) :: some v :: some u :: List.replicate n none)) (upd (upd H dx (.own x)) x (.ins C dx [])) := by
  subst hs hk
  have fr : upd H dx (.own x) x = none := by rw [upd_ne (Ne.symm ne)]; exact hx
  have e0 : Ext none S H S (upd (upd H dx (.own x)) x (.ins W.C dx [])) := (Ext.newM wf hdx).trans (.newM (Ext.newM wf hdx).w fr)
  have a0 : At W S (upd (upd H dx (.own x)) x (.ins W.C dx [])) S (upd (upd H dx (.own x)) x (.ins W.C dx [])) (some (.ref x) :: some v :: some u :: List.replicate n none) 0 (init [.obj x, o, h] n) := by
    refine ⟨.refl (by rw [hW]; exact e0.w), ⟨by rw [hW]; exact e0.w, ?_, fun _ z => nomatch z⟩, fun z => absurd rfl z⟩
    exact init_ok (vs := [.ref x, v, u]) (.cons (.obj x) (.cons hv (.cons hu .nil)))
  refine body S _ S _ _ 0 a0 _ ⟨fun S1 H1 σ1 l1 A1 a1 p => ?_, fun _ _ _ _ _ _ p => p.elim, fun _ _ _ _ _ _ p => p.elim, fun _ _ _ _ _ _ p => p.elim⟩
  have e1 := a1.x
  rw [hW] at e1
  have hx1 : H1 x = some (.ins W.C dx []) := e1.hh _ _ upd_same (fun _ z => nomatch z)
  have sx : S x = none := Evl.fresh_back wf.sh hx
  have sx1 : S1 x = none := (e1.nw _ _ upd_same).trans sx
  obtain ⟨v0, f0, g0⟩ := paired_at a1.e.sl p.1
  obtain ⟨v1, f1, g1⟩ := paired_at a1.e.sl p.2.1
  obtain ⟨v2, f2, g2⟩ := paired_at a1.e.sl p.2.2
  cases v0 with
  | none => exact absurd g0 id
  | some v0 =>
    cases v1 with
    | none => exact absurd g1 id
    | some v1 =>
      cases v2 with
      | none => exact absurd g2 id
      | some v2 =>
        have z0 : v0 = .ref x := by
          have g0 : Dt W.K W.C S1 v0 (.obj x) := g0
          cases g0
          rfl
        subst z0
        have g1 : Dt W.K W.C S1 v1 o := g1
        have g2 : Dt W.K W.C S1 v2 h := g2
        refine ⟨v1, f1, _, f0, x, W.C, dx, [], rfl, hx1, T.cl, T.no, by decide, v2, f2, _, f0, x, W.C, dx, _, rfl, upd_same, T.cl, T.nh, (by show 1 < 1000; decide), ?_⟩
        have d : upd (upd H1 x (.ins W.C dx (putF "outer" v1 []))) x (.ins W.C dx (putF "holes" v2 (putF "outer" v1 []))) = upd H1 x (.ins W.C dx (putF "holes" v2 (putF "outer" v1 []))) := by
          funext a
          by_cases z : a = x
          · subst z; rw [upd_same, upd_same]
          · rw [upd_ne z, upd_ne z, upd_ne z]
        rw [d]
        have ex : Ex S1 (upd S1 x (.ins W.C dx (putF "holes" v2 (putF "outer" v1 [])))) := Ex.new sx1
        refine fin (upd S1 x (.ins W.C dx (putF "holes" v2 (putF "outer" v1 [])))) _ ⟨e1.ss.trans ex, ⟨fun a q ha => ?_, fun _ z => nomatch z⟩, fun a q ha => ?_, fun a q ha _ => ?_⟩ (.plate upd_same rfl rfl (g1.mono ex) (g2.mono ex))
        · by_cases z : a = x
          · subst z; rw [upd_same] at ha ⊢; exact ha
          · rw [upd_ne z] at ha ⊢; exact e1.w.sh a q ha
        · have n1 : a ≠ x := fun z => by rw [z, hx] at ha; cases ha
          have n2 : a ≠ dx := fun z => by rw [z, hdx] at ha; cases ha
          rw [upd_ne n1]
          exact e1.nw a q (by rw [upd_ne n1, upd_ne n2]; exact ha)
        · have n1 : a ≠ x := fun z => by rw [z, hx] at ha; cases ha
          have n2 : a ≠ dx := fun z => by rw [z, hdx] at ha; cases ha
          rw [upd_ne n1]
          exact e1.hh a q (by rw [upd_ne n1, upd_ne n2]; exact ha) (fun _ z => nomatch z)
/-- THE RULE for a def that is handed the deal first -/
theorem DefAt.okG {R : List Da → (Da → Prop) → Prop} (F : DefAt K mg name ps st) (Sc : FnScope N ps (defScope st)) (hl : ∀ ds Q, R ds Q → ds.length + 1 = ps.length)
    (hb : ∀ (f : Addr) (cdv : Value) (A : Around) (outer : List PySem.Env) (s : Shared) (H : Hp) (E : XK), Room k (A.deeper (envOfC name (defScope st) s.heap.objs.size f cdv)) → PSs (cxOf CX0 P w K mg base N name (defScope st) f cdv A outer s H E).nox (defBody st) t)
    (body : ∀ p ds Q, R ds Q → SW ⟨K, C, some p⟩ t ⟨.deal :: (ds.map .dat ++ List.replicate (N.length - ps.length) .un), none⟩ ⟨fun _ => Q .non, Q, fun _ => False, fun _ => False⟩) : Cal P w K mg base name (k + 1) ps (spG K C R) := by
  obtain ⟨f, fd, Fu, hm, hbd⟩ := F.ex
  refine ⟨f, fd, Fu.ok Sc (fun vs H Q E h => ?_) (fun cdv A outer s H vs Q E hr h => ?_), hm, Fu.kp, hbd, fun_at Fu⟩
  · obtain ⟨p, S, ws, ds, P, rfl, hw, hd, hR, q⟩ := h
    rw [List.length_cons, hd.len]
    exact hl _ _ hR
  · obtain ⟨p, S, ws, ds, P', rfl, hw, hd, hR, q⟩ := h
    refine ⟨t, hb f cdv A outer s H E hr, ?_⟩
    have len : (V.ref p.1 :: ws).length = ps.length := by rw [List.length_cons, hd.len]; exact hl _ _ hR
    have a : At ⟨K, C, some p⟩ S H S H (L2.start N (.ref p.1 :: ws)) 0 ⟨.deal :: (ds.map .dat ++ List.replicate (N.length - ps.length) .un), none⟩ := by
      refine ⟨.refl hw, ⟨hw, ?_, fun _ z => nomatch z⟩, fun z => absurd rfl z⟩
      have e : L2.start N (.ref p.1 :: ws) = some (.ref p.1) :: (ws.map some ++ List.replicate (N.length - ps.length) none) := by
        unfold L2.start
        rw [len]
        rfl
      rw [e]
      exact .cons ⟨p, rfl, rfl⟩ (init_ok hd)
    exact body p ds P' hR S H S H _ 0 a _ ⟨fun S1 H1 σ1 l1 A1 a1 p => q S1 H1 .non .non a1.x .non p, fun S1 H1 v d e s p => q S1 H1 v d e s p, fun _ _ _ _ _ _ p => p.elim, fun _ _ _ _ _ _ p => p.elim⟩
end
end G
set_option Elab.async false
set_option linter.all false
/-! Rings by places that go round. -/
namespace G
open L2 PySem
/-- the corner at place z, counted round -/
def cg (r : List Pt) (z : Int) : Pt := r.getD (z % r.length).toNat (0, 0)
theorem cg_lt {r : List Pt} {z : Int} (h : r ≠ []) : (z % r.length).toNat < r.length := by
  have h0 : 0 < r.length := List.length_pos_iff.mpr h
  have h1 := Int.emod_lt_of_pos z (b := (r.length : Int)) (by omega)
  have h2 := Int.emod_nonneg z (b := (r.length : Int)) (by omega)
  omega
theorem cg_at {r : List Pt} (z : Int) (h : r ≠ []) : r[(z % r.length).toNat]? = some (cg r z) := by
  unfold cg
  rw [List.getD_eq_getElem?_getD, List.getElem?_eq_getElem (cg_lt h)]
  rfl
theorem cg_nat {r : List Pt} {i : Nat} (h : i < r.length) : r[i]? = some (cg r i) := by
  have h0 : r ≠ [] := fun e => by rw [e] at h; exact absurd h (Nat.not_lt_zero _)
  have e := cg_at (r := r) (i : Int) h0
  rwa [Int.emod_eq_of_lt (by omega) (by omega), Int.toNat_natCast] at e
theorem cg_mem {r : List Pt} (z : Int) (h : r ≠ []) : cg r z ∈ r := List.mem_of_getElem? (cg_at z h)
theorem cg_add (r : List Pt) (z : Int) : cg r (z + r.length) = cg r z := by
  unfold cg
  rw [Int.add_emod_right]
theorem cg_neg {r : List Pt} {i : Nat} (k : Nat) (h : i + k = r.length) : cg r (-(k : Int)) = cg r i := by
  rw [← cg_add]
  congr 1
  omega
theorem cg_len (r : List Pt) : cg r r.length = cg r 0 := by
  have e := cg_add r 0
  rwa [Int.zero_add] at e
theorem mem_cg {r : List Pt} {p : Pt} (h : p ∈ r) : ∃ i : Nat, i < r.length ∧ cg r i = p := by
  obtain ⟨i, hi, e⟩ := List.getElem_of_mem h
  refine ⟨i, hi, ?_⟩
  have := cg_nat hi
  rw [List.getElem?_eq_getElem hi, e] at this
  exact (Option.some.inj this).symm
theorem atI_map {α : Type} (f : Pt → α) {r : List Pt} {z : Int} (h1 : -(r.length : Int) ≤ z) (h2 : z < r.length) : atI (r.map f) z = some (f (cg r z)) := by
  have h0 : r ≠ [] := fun e => by rw [e] at h1 h2; simp only [List.length_nil] at h1 h2; omega
  unfold atI ixN
  rw [List.length_map]
  by_cases h : 0 ≤ z
  · rw [if_pos h, if_pos h2]
    show (r.map f)[z.toNat]? = _
    have e := cg_nat (r := r) (i := z.toNat) (by omega)
    rw [List.getElem?_map, e, Int.toNat_of_nonneg h]
    rfl
  · rw [if_neg h, if_pos h1]
    show (r.map f)[(z + r.length).toNat]? = _
    have e := cg_nat (r := r) (i := (z + r.length).toNat) (by omega)
    rw [List.getElem?_map, e, Int.toNat_of_nonneg (by omega), cg_add]
    rfl
theorem atI_cg {r : List Pt} {z : Int} (h1 : -(r.length : Int) ≤ z) (h2 : z < r.length) : atI (r.map dP) z = some (dP (cg r z)) := atI_map dP h1 h2
theorem sides_cg {r : List Pt} {i : Nat} (h : i < r.length) : (sides r)[i]? = some (cg r i, cg r (i + 1)) := by
  by_cases h1 : i + 1 < r.length
  · have e := cg_nat h1
    have z : ((i + 1 : Nat) : Int) = (i : Int) + 1 := by omega
    rw [z] at e
    exact sides_get (cg_nat h) e
  · have e : i + 1 = r.length := by omega
    have z : (i : Int) + 1 = r.length := by omega
    rw [z, cg_len]
    exact sides_last (cg_nat h) (cg_nat (by omega)) e
theorem sides_map (r : List Pt) : sides r = (List.range r.length).map fun (i : Nat) => (cg r i, cg r (i + 1)) := by
  apply list_eq_of_get
  · rw [sides_len, List.length_map, List.length_range]
  · intro i x y h1 h2
    have hi : i < r.length := by
      have := (List.getElem?_eq_some_iff.mp h1).1
      rwa [sides_len] at this
    rw [sides_cg hi] at h1
    rw [List.getElem?_map, List.getElem?_range hi] at h2
    cases h1
    cases h2
    rfl
theorem sides_mem {r : List Pt} {s : Pt × Pt} (h : s ∈ sides r) : ∃ i : Nat, i < r.length ∧ s = (cg r i, cg r (i + 1)) := by
  rw [sides_map] at h
  obtain ⟨i, hi, e⟩ := List.mem_map.mp h
  exact ⟨i, List.mem_range.mp hi, e.symm⟩
theorem sides_mem1 {r : List Pt} {s : Pt × Pt} (h : s ∈ sides r) : s.1 ∈ r ∧ s.2 ∈ r := by
  obtain ⟨i, hi, rfl⟩ := sides_mem h
  have h0 : r ≠ [] := fun e => by rw [e] at hi; exact absurd hi (Nat.not_lt_zero _)
  exact ⟨cg_mem _ h0, cg_mem _ h0⟩
/-- what a ring must keep to be taken -/
structure OkRing (r : List Pt) : Prop where
  l3 : 3 ≤ r.length
  lm : r.length ≤ 100
  bd : ∀ p, p ∈ r → (-1000 ≤ p.1 ∧ p.1 ≤ 1000) ∧ -1000 ≤ p.2 ∧ p.2 ≤ 1000
  nd : r.Nodup
  tb : ∀ i : Nat, i < r.length → turnsBack (cg r (i - 2)) (cg r (i - 1)) (cg r i) = false
  ap : ∀ i j : Nat, i + 2 ≤ j → j < r.length → j - i < r.length - 1 → sidesMeet (cg r i) (cg r (i + 1)) (cg r j) (cg r (j + 1)) = false
theorem OkRing.ne {r : List Pt} (h : OkRing r) : r ≠ [] := fun e => by
  have := h.l3
  rw [e] at this
  exact absurd this (by decide)
theorem OkRing.sm {r : List Pt} (h : OkRing r) {p : Pt} (hp : p ∈ r) : Sm p := by
  obtain ⟨⟨a, b⟩, c, d⟩ := h.bd p hp
  exact ⟨by omega, by omega, by omega, by omega⟩
theorem OkRing.smc {r : List Pt} (h : OkRing r) (z : Int) : Sm (cg r z) := h.sm (cg_mem z h.ne)
theorem atI_sides {r : List Pt} {i : Nat} (h : i < r.length) : atI ((sides r).map dS) (i : Int) = some (dS (cg r i, cg r (i + 1))) := by
  unfold atI
  rw [List.length_map, sides_len, Evl.ixN_nat h]
  show ((sides r).map dS)[i]? = _
  rw [List.getElem?_map, sides_cg h]
  rfl
theorem eqv_pt (p q : Pt) : PyData.eqv (dP p).py (dP q).py = decide (p = q) := by
  show (PyData.eqv (.int p.1) (.int q.1) && (PyData.eqv (.int p.2) (.int q.2) && true)) = _
  show ((p.1 == q.1) && ((p.2 == q.2) && true)) = _
  rw [Bool.and_true]
  obtain ⟨a, b⟩ := p
  obtain ⟨c, d⟩ := q
  by_cases h : a = c <;> by_cases g : b = d <;> simp [h, g]
end G
set_option Elab.async false
set_option linter.all false
set_option maxRecDepth 100000
namespace G
open PySem PySem.Spec L2
open Evl (Ex)
section
variable {W : Wd} {A : AS} {P : Sl → Prop} {N : Ns} {te : TE} {wi wi1 : TI} {g g1 : TG} {t : TS} {vs vs1 : List Nat} {α β : Type}
theorem ew_lc2M (xs : List α) (k : α → Da) (ys : α → List β) (k1 : β → Da) (f : α → β → Da) (h : IW W wi A (· = xs.map k)) (hl : xs.length ≤ 1000) (hl1 : ∀ x, x ∈ xs → (ys x).length ≤ 1000) (ht : (xs.flatMap fun x => (ys x).map (f x)).length ≤ 90000)
    (turn : ∀ x, x ∈ xs → GW W g (fun j => j ∈ vs) (.dat (k x)) ⟨wipeA A.sl vs, A.ac⟩ fun A' => A'.ac = none ∧ IW W wi1 A' (· = (ys x).map k1) ∧
      ∀ y, y ∈ ys x → GW W g1 (fun j => j ∈ vs1) (.dat (k1 y)) ⟨wipeA A'.sl vs1, A'.ac⟩ fun A'' => EW W te A'' (· = .dat (f x y)))
    (p : P (.dat (.lst (xs.flatMap fun x => (ys x).map (f x))))) : EW W (tLc2 wi g tYes wi1 g1 tYes te vs vs1) A P := by
  refine ew_lc2 fun S H σ l E R q => h S H σ l E R fun S' H' J ds e wk hd => q S' H' J ds e wk ?_
  subst hd
  refine ⟨by rw [List.length_map]; exact hl, fun i acc => acc = (xs.take i).flatMap fun x => (ys x).map (f x), rfl, fun i d acc hi ha => ?_, fun acc ha => ?_⟩
  · rw [List.getElem?_map] at hi
    cases q : xs[i]? with
    | none => rw [q] at hi; cases hi
    | some x =>
      rw [q] at hi
      cases hi
      have hx : x ∈ xs := List.mem_of_getElem? q
      have cut : xs.take (i + 1) = xs.take i ++ [x] := by rw [List.take_add_one, q]; rfl
      have small : ((xs.take i).flatMap fun x => (ys x).map (f x)).length + (ys x).length ≤ 90000 := by
        obtain ⟨lt, e⟩ := List.getElem?_eq_some_iff.mp q
        have z : xs = xs.take i ++ x :: xs.drop (i + 1) := by rw [← e, ← List.drop_eq_getElem_cons lt, List.take_append_drop]
        rw [z, List.flatMap_append, List.length_append, List.flatMap_cons, List.length_append, List.length_map] at ht
        omega
      refine fun S H σ l v E hv Q k => turn x hx S H σ l v E hv Q fun σ' A' E' c hp => k σ' A' E' c ⟨hp.1, tw_yes (iteT fun S H σ l E R q => hp.2.1 S H σ l E R fun S' H' J ds e wk hd => q S' H' J ds e wk ?_)⟩
      subst hd
      refine ⟨by rw [List.length_map]; exact hl1 x hx, fun j acc' => acc' = acc ++ ((ys x).take j).map (f x), by simp, fun j d acc' hj ha' => ?_, fun acc' ha' => ?_⟩
      · rw [List.getElem?_map] at hj
        cases q2 : (ys x)[j]? with
        | none => rw [q2] at hj; cases hj
        | some y =>
          rw [q2] at hj
          cases hj
          have hy : y ∈ ys x := List.mem_of_getElem? q2
          have hj2 : j < (ys x).length := (List.getElem?_eq_some_iff.mp q2).1
          refine fun S H σ l v E hv Q k => hp.2.2 y hy S H σ l v E hv Q fun σ' A' E' c hp => k σ' A' E' c (tw_yes (iteT (hp.mono fun z e => ?_)))
          subst e
          refine onDat_mk ⟨?_, ?_⟩
          · rw [ha', ha, List.length_append, List.length_map, List.length_take]
            omega
          · show acc' ++ [f x y] = acc ++ ((ys x).take (j + 1)).map (f x)
            rw [ha', List.take_add_one, q2, List.map_append, List.append_assoc]
            rfl
      · show acc' = _
        rw [ha', ha, cut, List.flatMap_append, List.flatMap_singleton, List.length_map, List.take_length]
  · rw [ha, List.length_map, List.take_length]
    exact p
theorem getD_map {xs : List α} (k : α → Da) (d0 : α) {i : Nat} (h : i < xs.length) : (xs.map k)[i]? = some (k (xs.getD i d0)) := by
  rw [List.getElem?_map, List.getD_eq_getElem?_getD, List.getElem?_eq_getElem h]
  rfl
theorem enumM (xs : List α) (k : α → Da) (d0 : α) : (List.range (xs.map k).length).zipWith (fun i d => Da.tup [.int ((i : Nat) : Int), d]) (xs.map k) = (List.range xs.length).map fun i => .tup [.int (i : Nat), k (xs.getD i d0)] := by
  apply list_eq_of_get
  · simp
  · intro i x y h1 h2
    have hi : i < xs.length := by
      have := (List.getElem?_eq_some_iff.mp h2).1
      simpa using this
    rw [List.getElem?_zipWith, List.getElem?_range (by simpa using hi), getD_map k d0 hi] at h1
    rw [List.getElem?_map, List.getElem?_range hi] at h2
    cases h1
    cases h2
    rfl
theorem iw_enumM {ta : TA} (xs : List α) (k : α → Da) (d0 : α) (h : AW W ta A (· = [.dat (.tup (xs.map k))])) : IW W (iEnT W.K ta) A (· = (List.range xs.length).map fun i => .tup [.int (i : Nat), k (xs.getD i d0)]) := iw_enum fun S H σ l E Q q => h S H σ l E Q fun S' H' us zs e s p => q S' H' us zs e s (by subst p; exact enumM xs k d0)
end
theorem getD_cg {r : List Pt} {i : Nat} (h : i < r.length) : r.getD i (0, 0) = cg r i := by
  have e := cg_nat h
  rw [List.getD_eq_getElem?_getD, e]
  rfl
theorem cut_to (ds : List Da) (i : Nat) (h : i ≤ ds.length) : cutD ds none (some (i : Int)) = ds.take i := by
  unfold cutD
  rw [HT.sIx_nat, HT.sIx_none, List.drop_zero, Nat.sub_zero, Nat.min_eq_left h]
theorem flats_pts : ∀ r : List Pt, Da.flats (r.map dP) = true
  | [] => rfl
  | p :: r => by
    show (Da.flat (dP p) && Da.flats (r.map dP)) = true
    rw [flats_pts r]
    rfl
theorem lays_pts : ∀ r : List Pt, PyData.canLayAll0 (Da.pys (r.map dP)) = true
  | [] => rfl
  | p :: r => by
    show (PyData.canLay0 (dP p).py && PyData.canLayAll0 (Da.pys (r.map dP))) = true
    rw [lays_pts r]
    rfl
theorem rgV_dt {K : PySem.W.Frag} {C : Addr} {S : Hp} (a b : Int) : DtAll K C S (rgV a b) ((List.range (b - a).toNat).map fun (k : Nat) => Da.int (a + k)) := by
  unfold rgV
  generalize List.range (b - a).toNat = l
  induction l with
  | nil => exact .nil
  | cons k r ih => exact .cons (.int _) ih
theorem ew_tupRg {W : Wd} {A : AS} {P : Sl → Prop} {ta tb : TE} {a b : Int} (h : EW W ta A (· = .dat (.int a))) (g : EW W tb A (· = .dat (.int b))) (ok : RgOk a b) (p : P (.dat (.tup ((List.range (b - a).toNat).map fun (k : Nat) => Da.int (a + k))))) : EW W (tTupRg (tRg2 ta tb)) A P := fun S H σ l E Q q =>
  h S H σ l E _ fun S1 H1 v x e1 s1 ex => g S1 H1 σ l (E.ext e1) _ fun S2 H2 u y e2 s2 ey => by
    subst ex ey
    exact ⟨a, b, dt_int s1, dt_int s2, ok, fun q' hq => q _ _ _ _ ((e1.trans e2).trans (.new (e1.trans e2).w hq)) (sd <| new_tup (Evl.fresh_back (e1.trans e2).w.sh hq) (rgV_dt a b)) p⟩
end G
set_option Elab.async false
set_option linter.all false
/-! Fractions in lowest terms: sizes, and what they are worth. -/
namespace G
theorem pos_case {t b : Int} (hb : 0 < b) : 0 < b / ((Nat.gcd t.natAbs b.natAbs : Nat) : Int) ∧ b / ((Nat.gcd t.natAbs b.natAbs : Nat) : Int) ≤ b ∧ (t / ((Nat.gcd t.natAbs b.natAbs : Nat) : Int)).natAbs ≤ t.natAbs ∧
    t / ((Nat.gcd t.natAbs b.natAbs : Nat) : Int) * b = t * (b / ((Nat.gcd t.natAbs b.natAbs : Nat) : Int)) := by
  have h1 : 0 < Nat.gcd t.natAbs b.natAbs := Nat.gcd_pos_of_pos_right _ (by omega)
  have d1 : ((Nat.gcd t.natAbs b.natAbs : Nat) : Int) ∣ t := Int.ofNat_dvd_left.mpr (Nat.gcd_dvd_left _ _)
  have d2 : ((Nat.gcd t.natAbs b.natAbs : Nat) : Int) ∣ b := Int.ofNat_dvd_left.mpr (Nat.gcd_dvd_right _ _)
  have n1 := Int.natAbs_ediv_le_natAbs t ((Nat.gcd t.natAbs b.natAbs : Nat) : Int)
  have n2 := Int.natAbs_ediv_le_natAbs b ((Nat.gcd t.natAbs b.natAbs : Nat) : Int)
  generalize hg : ((Nat.gcd t.natAbs b.natAbs : Nat) : Int) = g at *
  have hg0 : 0 < g := by omega
  have e1 : g * (t / g) = t := Int.mul_ediv_cancel' d1
  have e2 : g * (b / g) = b := Int.mul_ediv_cancel' d2
  have p : 0 < b / g := by
    refine Int.pos_of_mul_pos_right (a := g) ?_ hg0 |> fun z => z
    rw [e2]
    exact hb
  refine ⟨p, by omega, n1, ?_⟩
  generalize t / g = x at *
  generalize b / g = y at *
  subst e1 e2
  rw [Int.mul_comm g y, ← Int.mul_assoc, Int.mul_comm (x * y) g, ← Int.mul_assoc]
/-- its size and its worth -/
theorem mkFr_B {t b : Int} (hb : b ≠ 0) : 0 < (mkFr t b).2 ∧ (mkFr t b).2 ≤ b.natAbs ∧ (mkFr t b).1.natAbs ≤ t.natAbs ∧ (mkFr t b).1 * b = t * (mkFr t b).2 := by
  unfold mkFr
  by_cases h : b < 0
  · rw [if_pos h]
    obtain ⟨h1, h2, h3, h4⟩ := pos_case (t := -t) (b := -b) (by omega)
    refine ⟨h1, ?_, ?_, ?_⟩
    · simp only at *; omega
    · simp only at *; omega
    · simp only at *
      rw [Int.mul_neg, Int.neg_mul] at h4
      omega
  · rw [if_neg h]
    obtain ⟨h1, h2, h3, h4⟩ := pos_case (t := t) (b := b) (by omega)
    refine ⟨h1, ?_, h3, h4⟩
    simp only at *; omega
/-! ### put in order -/
def insAt (l : List Fr) (x : Fr) : Nat → Nat
  | 0 => 0
  | n + 1 => if 0 < cmpF (cg l n) x then insAt l x n else n + 1
def insF (l : List Fr) (x : Fr) : List Fr := l.take (insAt l x l.length) ++ [x] ++ l.drop (insAt l x l.length)
def inOrder (some : List Fr) : List Fr := some.foldl insF []
theorem insF_len (l : List Fr) (x : Fr) : (insF l x).length = l.length + 1 := by
  unfold insF
  rw [List.length_append, List.length_append, List.length_take, List.length_drop]
  simp only [List.length_singleton]
  omega
theorem foldl_len : ∀ (s l : List Fr), (s.foldl insF l).length = l.length + s.length
  | [], l => rfl
  | x :: s, l => by
    rw [List.foldl_cons, foldl_len s, insF_len, List.length_cons]
    omega
theorem insF_mem {l : List Fr} {x y : Fr} (h : y ∈ insF l x) : y = x ∨ y ∈ l := by
  unfold insF at h
  rcases List.mem_append.mp h with h | h
  · rcases List.mem_append.mp h with h | h
    · exact .inr (List.mem_of_mem_take h)
    · exact .inl (List.mem_singleton.mp h)
  · exact .inr (List.mem_of_mem_drop h)
theorem foldl_mem : ∀ (s l : List Fr) (y : Fr), y ∈ s.foldl insF l → y ∈ l ∨ y ∈ s
  | [], l, y, h => .inl h
  | x :: s, l, y, h => by
    rcases foldl_mem s _ y h with h | h
    · rcases insF_mem h with rfl | h
      · exact .inr List.mem_cons_self
      · exact .inl h
    · exact .inr (List.mem_cons_of_mem _ h)
/-! ### where a height goes through a ring -/
def crossX (h : Fr) (e : Pt × Pt) : Fr := fPlus (e.1.1, 1) (fTimes (fMinus h (e.1.2, 1)) (mkFr (e.2.1 - e.1.1) (e.2.2 - e.1.2)))
def goesBy (h : Fr) (e : Pt × Pt) : Bool := risesPast e.1 e.2 h || risesPast e.2 e.1 h
def crossRaw (rs : List (List Pt)) (h : Fr) : List Fr := rs.flatMap fun r => ((sides r).filter (goesBy h)).map (crossX h)
def crossAt (rs : List (List Pt)) (h : Fr) : List Fr := inOrder (crossRaw rs h)
structure HtB (h : Fr) : Prop where
  a : 0 < h.2
  b : h.2 ≤ 2
  c : -2000 ≤ h.1
  d : h.1 ≤ 2000
theorem mul_size {x y : Int} {m n : Nat} (h1 : x.natAbs ≤ m) (h2 : y.natAbs ≤ n) : (x * y).natAbs ≤ m * n := by
  rw [Int.natAbs_mul]
  exact Nat.mul_le_mul h1 h2
structure CrB (h : Fr) (e : Pt × Pt) : Prop where
  ne : e.2.2 - e.1.2 ≠ 0
  s1 : (mkFr (e.2.1 - e.1.1) (e.2.2 - e.1.2)).1.natAbs ≤ 800 ∧ 0 < (mkFr (e.2.1 - e.1.1) (e.2.2 - e.1.2)).2 ∧ (mkFr (e.2.1 - e.1.1) (e.2.2 - e.1.2)).2 ≤ 800
  s2 : (fMinus h (e.1.2, 1)).1.natAbs ≤ 2800 ∧ 0 < (fMinus h (e.1.2, 1)).2 ∧ (fMinus h (e.1.2, 1)).2 ≤ 2
  s3 : (fTimes (fMinus h (e.1.2, 1)) (mkFr (e.2.1 - e.1.1) (e.2.2 - e.1.2))).1.natAbs ≤ 2240000 ∧ 0 < (fTimes (fMinus h (e.1.2, 1)) (mkFr (e.2.1 - e.1.1) (e.2.2 - e.1.2))).2 ∧ (fTimes (fMinus h (e.1.2, 1)) (mkFr (e.2.1 - e.1.1) (e.2.2 - e.1.2))).2 ≤ 1600
  s4 : (crossX h e).1.natAbs ≤ 2880000 ∧ 0 < (crossX h e).2 ∧ (crossX h e).2 ≤ 1600
theorem goesBy_ne {h : Fr} {e : Pt × Pt} (g : goesBy h e = true) (hh : 0 < h.2) : e.2.2 - e.1.2 ≠ 0 := by
  intro z
  have z : e.2.2 = e.1.2 := by omega
  unfold goesBy risesPast at g
  rw [z] at g
  simp only [Bool.or_self, Bool.and_eq_true, decide_eq_true_eq] at g
  omega
theorem crB {h : Fr} {e : Pt × Pt} (hb : HtB h) (ne : e.2.2 - e.1.2 ≠ 0) (b1 : -400 ≤ e.1.1 ∧ e.1.1 ≤ 400) (b2 : -400 ≤ e.1.2 ∧ e.1.2 ≤ 400) (b3 : -400 ≤ e.2.1 ∧ e.2.1 ≤ 400) (b4 : -400 ≤ e.2.2 ∧ e.2.2 ≤ 400) : CrB h e := by
  obtain ⟨ha, hb', hc, hd⟩ := hb
  have s1 : (mkFr (e.2.1 - e.1.1) (e.2.2 - e.1.2)).1.natAbs ≤ 800 ∧ 0 < (mkFr (e.2.1 - e.1.1) (e.2.2 - e.1.2)).2 ∧ (mkFr (e.2.1 - e.1.1) (e.2.2 - e.1.2)).2 ≤ 800 := by
    obtain ⟨h1, h2, h3, _⟩ := mkFr_B (t := e.2.1 - e.1.1) ne
    omega
  have s2 : (fMinus h (e.1.2, 1)).1.natAbs ≤ 2800 ∧ 0 < (fMinus h (e.1.2, 1)).2 ∧ (fMinus h (e.1.2, 1)).2 ≤ 2 := by
    unfold fMinus
    obtain ⟨h1, h2, h3, _⟩ := mkFr_B (t := h.1 * (e.1.2, (1 : Int)).2 - (e.1.2, (1 : Int)).1 * h.2) (b := h.2 * (e.1.2, (1 : Int)).2) (by simp only; omega)
    simp only at h1 h2 h3 ⊢
    have m := mul_size (x := e.1.2) (y := h.2) (m := 400) (n := 2) (by omega) (by omega)
    omega
  have s3 : (fTimes (fMinus h (e.1.2, 1)) (mkFr (e.2.1 - e.1.1) (e.2.2 - e.1.2))).1.natAbs ≤ 2240000 ∧ 0 < (fTimes (fMinus h (e.1.2, 1)) (mkFr (e.2.1 - e.1.1) (e.2.2 - e.1.2))).2 ∧ (fTimes (fMinus h (e.1.2, 1)) (mkFr (e.2.1 - e.1.1) (e.2.2 - e.1.2))).2 ≤ 1600 := by
    generalize fMinus h (e.1.2, 1) = x at *
    generalize mkFr (e.2.1 - e.1.1) (e.2.2 - e.1.2) = y at *
    unfold fTimes
    have p : 0 < x.2 * y.2 := Int.mul_pos s2.2.1 s1.2.1
    obtain ⟨h1, h2, h3, _⟩ := mkFr_B (t := x.1 * y.1) (b := x.2 * y.2) (by omega)
    have m1 := mul_size (x := x.1) (y := y.1) (m := 2800) (n := 800) (by omega) (by omega)
    have m2 := mul_size (x := x.2) (y := y.2) (m := 2) (n := 800) (by omega) (by omega)
    omega
  refine ⟨ne, s1, s2, s3, ?_⟩
  unfold crossX
  generalize fTimes (fMinus h (e.1.2, 1)) (mkFr (e.2.1 - e.1.1) (e.2.2 - e.1.2)) = x at *
  unfold fPlus
  have p : 0 < ((e.1.1, (1 : Int)).2) * x.2 := Int.mul_pos (show (0 : Int) < 1 by decide) s3.2.1
  obtain ⟨h1, h2, h3, _⟩ := mkFr_B (t := (e.1.1, (1 : Int)).1 * x.2 + x.1 * (e.1.1, (1 : Int)).2) (b := (e.1.1, (1 : Int)).2 * x.2) (by omega)
  have m1 := mul_size (x := e.1.1) (y := x.2) (m := 400) (n := 1600) (by omega) (by omega)
  simp only at h1 h2 h3 ⊢
  omega
end G
set_option Elab.async false
set_option linter.all false
set_option maxRecDepth 100000
/-! The deal's two lists as they change. -/
namespace G
open PySem PySem.Spec L2
open Evl (Ex)
structure Dk (p : Addr × Addr) (S0 H0 H : Hp) (cells : List Int) (mix : Int) : Prop where
  ex : ∃ S, Ext (some p) S0 H0 S H
  h1 : H p.1 = some (.lst [.ref p.2, .int mix])
  h2 : H p.2 = some (.lst (cells.map .int))
  ln : cells.length ≤ 63
section
variable {p : Addr × Addr} {S0 H0 H : Hp} {cells : List Int} {mix : Int}
theorem Dk.ne (d : Dk p S0 H0 H cells mix) : p.1 ≠ p.2 := by
  obtain ⟨S, e⟩ := d.ex
  exact (e.w.dk p rfl).1
theorem Dk.fresh (d : Dk p S0 H0 H cells mix) {q : Addr} {o : HO} (h : H q = none) : Dk p S0 H0 (upd H q o) cells mix := by
  obtain ⟨S, e⟩ := d.ex
  exact ⟨⟨S, e.trans (.newM e.w h)⟩, by rw [upd_ne (ne_of_none d.h1 h)]; exact d.h1, by rw [upd_ne (ne_of_none d.h2 h)]; exact d.h2, d.ln⟩
theorem Dk.setC (d : Dk p S0 H0 H cells mix) {cs : List Int} (h : cs.length ≤ 63) : Dk p S0 H0 (upd H p.2 (.lst (cs.map .int))) cs mix := by
  have ne := d.ne
  obtain ⟨S, e⟩ := d.ex
  obtain ⟨_, s1, s2, _⟩ := e.w.dk p rfl
  refine ⟨⟨S, e.ss, ⟨fun a o ha => ?_, fun r hr => ?_⟩, e.nw, fun a o ha n => ?_⟩, by rw [upd_ne ne]; exact d.h1, upd_same, h⟩
  · rw [upd_ne (fun z => by subst z; rw [s2] at ha; cases ha)]
    exact e.w.sh a o ha
  · cases hr
    exact ⟨ne, s1, s2, cs, mix, h, by rw [upd_ne ne]; exact d.h1, upd_same⟩
  · rw [upd_ne (n p rfl).2]
    exact e.hh a o ha n
theorem Dk.setM (d : Dk p S0 H0 H cells mix) {k : Int} : Dk p S0 H0 (upd H p.1 (.lst [.ref p.2, .int k])) cells k := by
  have ne := d.ne
  obtain ⟨S, e⟩ := d.ex
  obtain ⟨_, s1, s2, _⟩ := e.w.dk p rfl
  refine ⟨⟨S, e.ss, ⟨fun a o ha => ?_, fun r hr => ?_⟩, e.nw, fun a o ha n => ?_⟩, upd_same, by rw [upd_ne (Ne.symm ne)]; exact d.h2, d.ln⟩
  · rw [upd_ne (fun z => by subst z; rw [s1] at ha; cases ha)]
    exact e.w.sh a o ha
  · cases hr
    exact ⟨ne, s1, s2, cells, k, d.ln, upd_same, by rw [upd_ne (Ne.symm ne)]; exact d.h2⟩
  · rw [upd_ne (n p rfl).1]
    exact e.hh a o ha n
theorem ints_dp {K : PySem.W.Frag} {H : Hp} : ∀ cs : List Int, DpAll K H (cs.map V.int) (cs.map PyData.int)
  | [] => .nil
  | c :: cs => .cons (.int c) (ints_dp cs)
theorem ints_lay : ∀ cs : List Int, PyData.canLayAll0 (cs.map PyData.int) = true
  | [] => rfl
  | c :: cs => by
    show (PyData.canLay0 (.int c) && PyData.canLayAll0 (cs.map PyData.int)) = true
    rw [ints_lay cs]
    rfl
theorem ints_deep : ∀ cs : List Int, PyData.depthAll (cs.map PyData.int) = 0
  | [] => rfl
  | c :: cs => by
    show max (PyData.depth (.int c)) (PyData.depthAll (cs.map PyData.int)) = 0
    rw [ints_deep cs]
    rfl
theorem ints_shaped (cs : List Int) : SeqAt.shaped (.list (cs.map PyData.int)) = true := by
  show (PyData.canLayAll0 (cs.map PyData.int) && decide (PyData.depthAll (cs.map PyData.int) + 1 ≤ 64)) = true
  rw [ints_lay, ints_deep]
  rfl
variable {K : PySem.W.Frag} {σ : L2.St}
/-- deal[0] -/
theorem dk_cells (d : Dk p S0 H0 H cells mix) (hs : σ[0]? = some (some (.ref p.1))) {Q : VK} (q : Q (.ref p.2) H) : (tOp (rIx K) (tVar 0) (tC (.int 0))) σ H Q :=
  ⟨.ref p.1, hs, .inl ⟨p.1, _, 0, .ref p.2, rfl, rfl, .of d.h1, rfl, q⟩⟩
/-- deal[1] -/
theorem dk_mix (d : Dk p S0 H0 H cells mix) (hs : σ[0]? = some (some (.ref p.1))) {Q : VK} (q : Q (.int mix) H) : (tOp (rIx K) (tVar 0) (tC (.int 1))) σ H Q :=
  ⟨.ref p.1, hs, .inl ⟨p.1, _, 1, .int mix, rfl, rfl, .of d.h1, rfl, q⟩⟩
def noCells : List Int → Bool
  | [] => true
  | _ => false
/-- deal[0] != [] -/
theorem dk_any (d : Dk p S0 H0 H cells mix) (hs : σ[0]? = some (some (.ref p.1))) {Q : Bool → Hp → Prop} (q : ∀ H', Dk p S0 H0 H' cells mix → Q (!noCells cells) H') :
    (tTest (tOp (rNeD K) (tOp (rIx K) (tVar 0) (tC (.int 0))) (tLst tNil))) σ H Q := by
  refine dk_cells d hs ⟨Nat.zero_le _, fun r hr => ⟨.list (cells.map .int), .list [], .lst (.of (d.fresh hr).h2) (ints_dp _), .lst (.of upd_same) .nil, ints_shaped _, rfl, _, rfl, ?_⟩⟩
  have e : PyData.eqv (.list (cells.map .int)) (.list []) = noCells cells := by cases cells <;> rfl
  rw [e]
  exact q _ (d.fresh hr)
/-- deal[0].pop() -/
theorem dk_pop {c : Int} (d : Dk p S0 H0 H (cells ++ [c]) mix) (hs : σ[0]? = some (some (.ref p.1))) {Q : VK} (q : ∀ H', Dk p S0 H0 H' cells mix → Q (.int c) H') : (tBM0 K "list" rPop (tOp (rIx K) (tVar 0) (tC (.int 0)))) σ H Q := by
  refine dk_cells d hs ⟨.inl ⟨rfl, _, .of d.h2⟩, p.2, _, .int c, rfl, rfl, d.h2, ?_, ?_⟩
  · rw [List.length_map, List.getElem?_map, List.length_append]
    simp
  · have e : ((cells ++ [c]).map V.int).dropLast = cells.map V.int := by rw [List.map_append]; exact List.dropLast_concat
    rw [e]
    have l := d.ln
    rw [List.length_append] at l
    exact q _ (d.setC (Nat.le_of_succ_le l))
theorem last_split (cs : List Int) (h : noCells cs = false) : ∃ l c, cs = l ++ [c] := by
  rcases List.eq_nil_or_concat cs with e | ⟨l, c, e⟩
  · rw [e] at h; cases h
  · exact ⟨l, c, by rw [e]; simp⟩
end
end G
set_option Elab.async false
set_option linter.all false
set_option maxRecDepth 100000
namespace G
open PySem PySem.Spec L2
open Evl (Ex)
section
variable {W : Wd} {A : AS} {P : Sl → Prop} {N : Ns} {te : TE} {wi : TI} {g : TG} {vs : List Nat} {α : Type}
/-- a comprehension whose values are known up to a relation -/
theorem ew_lcR (xs : List α) (k : α → Da) (Rel : α → Da → Prop) (h : IW W wi A (· = xs.map k)) (hl : xs.length ≤ 100000)
    (turn : ∀ x, x ∈ xs → GW W g (fun j => j ∈ vs) (.dat (k x)) ⟨wipeA A.sl vs, A.ac⟩ fun A' => EW W te A' fun y => onDat y (Rel x)) (p : ∀ ys, Paired Rel xs ys → P (.dat (.lst ys))) : EW W (tLc wi g tYes te vs) A P := by
  refine ew_lc fun S H σ l E R q => h S H σ l E R fun S' H' J ds e wk hd => q S' H' J ds e wk ?_
  subst hd
  refine ⟨by rw [List.length_map]; exact hl, fun i acc => Paired Rel (xs.take i) acc, by show Paired Rel (xs.take 0) []; rw [List.take_zero]; exact .nil, fun i d acc hi ha => ?_, fun acc ha => ?_⟩
  · rw [List.getElem?_map] at hi
    cases q : xs[i]? with
    | none => rw [q] at hi; cases hi
    | some x =>
      rw [q] at hi
      cases hi
      have hx : x ∈ xs := List.mem_of_getElem? q
      refine fun S H σ l v E hv Q k => turn x hx S H σ l v E hv Q fun σ' A' E' c hp => k σ' A' E' c (tw_yes (iteT (hp.mono fun y e => ?_)))
      obtain ⟨d, rfl, hd⟩ := onDat_iff e
      refine onDat_mk ?_
      show Paired Rel (xs.take (i + 1)) (acc ++ [d])
      rw [List.take_add_one, q]
      have app : ∀ {us : List α} {ds : List Da}, Paired Rel us ds → Paired Rel (us ++ [x]) (ds ++ [d]) := by
        intro us ds h
        induction h with
        | nil => exact .cons hd .nil
        | cons r _ ih => exact .cons r ih
      exact app ha
  · rw [List.length_map, List.take_length] at ha
    exact p acc ha
end
/-- what is known of each place of a range -/
theorem paired_range {β : Type} (C : β → Prop) (F : Nat → β → Da) (b0 : β) {n : Nat} {ys : List Da} (h : Paired (fun (i : Nat) d => ∃ z, C z ∧ d = F i z) (List.range n) ys) : ∃ f : Nat → β, (∀ i, i < n → C (f i)) ∧ ys = (List.range n).map fun i => F i (f i) := by
  have at1 : ∀ i, ∃ z, i < n → C z ∧ ys[i]? = some (F i z) := fun i => by
    by_cases hi : i < n
    · have e : (List.range n)[i]? = some i := List.getElem?_range hi
      have go : ∀ {us : List Nat} {ds : List Da} {i x : Nat}, Paired (fun (i : Nat) d => ∃ z, C z ∧ d = F i z) us ds → us[i]? = some x → ∃ z, C z ∧ ds[i]? = some (F x z) := by
        intro us ds i x h
        induction h generalizing i with
        | nil => intro e; simp at e
        | cons r _ ih =>
          intro e
          cases i with
          | zero =>
            simp at e
            subst e
            obtain ⟨z, hz, rfl⟩ := r
            exact ⟨z, hz, rfl⟩
          | succ i =>
            obtain ⟨z, hz, q⟩ := ih (by simpa using e)
            exact ⟨z, hz, by simpa using q⟩
      obtain ⟨z, hz, q⟩ := go h e
      exact ⟨z, fun _ => ⟨hz, q⟩⟩
    · exact ⟨b0, fun z => absurd z hi⟩
  refine ⟨fun i => (at1 i).choose, fun i hi => ((at1 i).choose_spec hi).1, ?_⟩
  have hl : ys.length = n := by
    rw [← h.length, List.length_range]
  apply list_eq_of_get
  · rw [hl, List.length_map, List.length_range]
  · intro i x y h1 h2
    have hi : i < n := by
      have := (List.getElem?_eq_some_iff.mp h1).1
      omega
    rw [((at1 i).choose_spec hi).2] at h1
    rw [List.getElem?_map, List.getElem?_range hi] at h2
    cases h1
    cases h2
    rfl
/-! ### rules, waves, stars: what is drawn -/
structure Rule where
  a : Int
  b : Int
  c : Int
  d : Int
  e : Int
  f : Int
def menu : List (Int × Int × Int × Int) := [(1, 0, 0, 1), (1, 1, 0, 1), (1, 0, 1, 1), (0, -1, 1, 0), (-1, 0, 0, -1), (2, 1, 1, 1), (0, 1, 1, 0), (1, 0, 0, -1)]
structure RuleOk (t : Rule) : Prop where
  m : (t.a, t.b, t.c, t.d) ∈ menu
  e1 : -50 ≤ t.e
  e2 : t.e ≤ 50
  f1 : -50 ≤ t.f
  f2 : t.f ≤ 50
def Rule.at (t : Rule) (p : Pt) : Pt := (t.a * p.1 + t.b * p.2 + t.e, t.c * p.1 + t.d * p.2 + t.f)
def Rule.det (t : Rule) : Int := t.a * t.d - t.b * t.c
def putR (t : Rule) (r : List Pt) : List Pt := if 0 < t.det then r.map t.at else (r.map t.at).reverse
def waveR (m : Nat) (f g : Nat → Int) : List Pt :=
  [(0, 0)] ++ ((List.range (m - 1)).map fun (i : Nat) => ((20 * (1 + (i : Int)), -20 - f i) : Pt)) ++ [(20 * (m : Int), 0)] ++ ((List.range (m - 1)).map fun (i : Nat) => ((20 * (1 + (i : Int)), 20 + g i) : Pt)).reverse
structure WaveBase (m : Nat) (r : List Pt) : Prop where
  ex : ∃ f g : Nat → Int, (∀ i, i < m - 1 → 0 ≤ f i ∧ f i < 20) ∧ (∀ i, i < m - 1 → 0 ≤ g i ∧ g i < 20) ∧ r = waveR m f g
def ways : List Pt := [(2, 0), (2, 1), (2, 2), (1, 2), (0, 2), (-1, 2), (-2, 2), (-2, 1), (-2, 0), (-2, -1), (-2, -2), (-1, -2), (0, -2), (1, -2), (2, -2), (2, -1)]
structure StarPl (most : Int) (L : List (Nat × Int)) : Prop where
  up : L.Pairwise (·.1 < ·.1)
  lt : ∀ e, e ∈ L → e.1 < 16 ∧ 1 ≤ e.2 ∧ e.2 ≤ most
  qu : ∀ q, q < 4 → ∃ e, e ∈ L ∧ 4 * q ≤ e.1 ∧ e.1 < 4 * q + 4
def starPt (c : Pt) (e : Nat × Int) : Pt := (c.1 + e.2 * (cg ways e.1).1, c.2 + e.2 * (cg ways e.1).2)
structure StarBase (c : Pt) (most : Int) (r : List Pt) : Prop where
  ex : ∃ L, StarPl most L ∧ r = L.map (starPt c)
def mid (a b : Pt) : Pt := ((a.1 + b.1) / 2, (a.2 + b.2) / 2)
def evens (a b : Pt) : Bool := (a.1 + b.1) % 2 == 0 && (a.2 + b.2) % 2 == 0
def piece (r : List Pt) (f : Nat → Bool) (i : Nat) : List Pt := (if f i = true then [mid (cg r ((i : Int) - 1)) (cg r i)] else []) ++ [cg r i]
def withMids (r : List Pt) (f : Nat → Bool) : List Pt := (List.range r.length).flatMap (piece r f)
structure More (r s : List Pt) : Prop where
  ex : ∃ f : Nat → Bool, (∀ i : Nat, i < r.length → f i = true → evens (cg r ((i : Int) - 1)) (cg r i) = true) ∧ ∃ k, k < (withMids r f).length ∧ s = (withMids r f).drop k ++ (withMids r f).take k
structure HoleBase (t : Rule) (k : Int) (h : List Pt) : Prop where
  ex : ∃ (y : Int) (s m : List Pt), -4 ≤ y ∧ y ≤ 4 ∧ StarBase (20 * k + 10, y) 3 s ∧ More (putR t s) m ∧ h = m.reverse
structure PlateBase (o : List Pt) (hs : List (List Pt)) : Prop where
  ex : ∃ (m : Nat) (t : Rule) (w : List Pt) (L : List (Int × List Pt)), 3 ≤ m ∧ m ≤ 5 ∧ RuleOk t ∧ WaveBase m w ∧ More (putR t w) o ∧ L.Pairwise (·.1 < ·.1) ∧ (∀ e, e ∈ L → 1 ≤ e.1 ∧ e.1 < (m : Int) - 1 ∧ e.1 < 4 ∧ HoleBase t e.1 e.2) ∧ hs = L.map (·.2)
/-! ### the law's own sight of a point -/
def scl (r : List Pt) (p : FP) : List Pt := r.map fun c => (c.1 * p.1.2 * p.2.2, c.2 * p.1.2 * p.2.2)
def spot (p : FP) : Pt := (p.1.1 * p.2.2, p.2.1 * p.1.2)
def onSeg (a b s : Pt) : Bool := ((b.1 - a.1) * (s.2 - a.2) == (b.2 - a.2) * (s.1 - a.1)) && decide ((s.1 - a.1) * (s.1 - b.1) + (s.2 - a.2) * (s.2 - b.2) ≤ 0)
def backs (r : List Pt) : List (Pt × Pt) := (List.range r.length).map fun (i : Nat) => (cg r ((i : Int) - 1), cg r i)
def lawOn (r : List Pt) (s : Pt) : Bool := (backs r).any fun e => onSeg e.1 e.2 s
def wayOne (d a s : Pt) : Int := d.1 * (a.2 - s.2) - d.2 * (a.1 - s.1)
def turnAt (a b s : Pt) : Int := (b.1 - a.1) * (s.2 - a.2) - (b.2 - a.2) * (s.1 - a.1)
def crUp (d s : Pt) (e : Pt × Pt) : Bool := decide (wayOne d e.1 s < 0) && (decide (0 < wayOne d e.2 s) && decide (0 < turnAt e.1 e.2 s))
def crDn (d s : Pt) (e : Pt × Pt) : Bool := decide (0 < wayOne d e.1 s) && (decide (wayOne d e.2 s < 0) && decide (turnAt e.1 e.2 s < 0))
def crStep (d s : Pt) (t : Int × Int) (e : Pt × Pt) : Int × Int :=
  let t1 := if crUp d s e = true then (t.1 + 1, t.2 + 1) else t
  if crDn d s e = true then (t1.1 - 1, t1.2 + 1) else t1
def lawCrossed (r : List Pt) (s d : Pt) : Int × Int := (backs r).foldl (crStep d s) (0, 0)
end G
set_option Elab.async false
set_option linter.all false
set_option maxRecDepth 100000
namespace G
open PySem PySem.Spec L2
open Evl (Ex)
section
variable {W : Wd} {A : AS} {P : Sl → Prop} {N : Ns} {te : TE} {wi : TI} {g : TG} {vs : List Nat} {α : Type}
/-- .. whose walk is known up to a choice -/
theorem ew_lcE (k : α → Da) (Rel : α → Da → Prop) (h : IW W wi A fun ds => ∃ xs : List α, ds = xs.map k ∧ xs.length ≤ 100000 ∧
    (∀ x, x ∈ xs → GW W g (fun j => j ∈ vs) (.dat (k x)) ⟨wipeA A.sl vs, A.ac⟩ fun A' => EW W te A' fun y => onDat y (Rel x)) ∧ ∀ ys, Paired Rel xs ys → P (.dat (.lst ys))) : EW W (tLc wi g tYes te vs) A P := by
  refine ew_lc fun S H σ l E R q => h S H σ l E R fun S' H' J ds e wk ⟨xs, hd, hl, turn, p⟩ => q S' H' J ds e wk ?_
  subst hd
  refine ⟨by rw [List.length_map]; exact hl, fun i acc => Paired Rel (xs.take i) acc, by show Paired Rel (xs.take 0) []; rw [List.take_zero]; exact .nil, fun i d acc hi ha => ?_, fun acc ha => ?_⟩
  · rw [List.getElem?_map] at hi
    cases q : xs[i]? with
    | none => rw [q] at hi; cases hi
    | some x =>
      rw [q] at hi
      cases hi
      have hx : x ∈ xs := List.mem_of_getElem? q
      refine fun S H σ l v E hv Q k => turn x hx S H σ l v E hv Q fun σ' A' E' c hp => k σ' A' E' c (tw_yes (iteT (hp.mono fun y e => ?_)))
      obtain ⟨d, rfl, hd⟩ := onDat_iff e
      refine onDat_mk ?_
      show Paired Rel (xs.take (i + 1)) (acc ++ [d])
      rw [List.take_add_one, q]
      have app : ∀ {us : List α} {ds : List Da}, Paired Rel us ds → Paired Rel (us ++ [x]) (ds ++ [d]) := by
        intro us ds h
        induction h with
        | nil => exact .cons hd .nil
        | cons r _ ih => exact .cons r ih
      exact app ha
  · rw [List.length_map, List.take_length] at ha
    exact p acc ha
end
theorem paired_ints {α : Type} (D : Int → Prop) {xs : List α} {ys : List Da} (h : Paired (fun _ d => ∃ z, D z ∧ d = Da.int z) xs ys) : ∃ zs : List Int, ys = zs.map .int ∧ (∀ z, z ∈ zs → D z) ∧ zs.length = xs.length := by
  induction h with
  | nil => exact ⟨[], rfl, (fun _ z => nomatch z), rfl⟩
  | cons r _ ih =>
    obtain ⟨z, hz, rfl⟩ := r
    obtain ⟨zs, rfl, h1, h2⟩ := ih
    exact ⟨z :: zs, rfl, (fun y hy => (List.mem_cons.mp hy).elim (fun e => e ▸ hz) (h1 y)), by simp [h2]⟩
theorem atI_mem {ds : List Da} {r : Int} (h0 : 0 ≤ r) (h1 : r < ds.length) : ∃ d, d ∈ ds ∧ atI ds r = some d := by
  refine ⟨ds[r.toNat]'(by omega), List.getElem_mem _, ?_⟩
  unfold atI ixN
  rw [if_pos h0, if_pos h1]
  exact List.getElem?_eq_getElem _
end G
set_option Elab.async false
set_option linter.all false
/-! Sizes of what is drawn. -/
namespace G
theorem menu_cases {a b c d : Int} (h : (a, b, c, d) ∈ menu) : (a = 1 ∧ b = 0 ∧ c = 0 ∧ d = 1) ∨ (a = 1 ∧ b = 1 ∧ c = 0 ∧ d = 1) ∨ (a = 1 ∧ b = 0 ∧ c = 1 ∧ d = 1) ∨ (a = 0 ∧ b = -1 ∧ c = 1 ∧ d = 0) ∨ (a = -1 ∧ b = 0 ∧ c = 0 ∧ d = -1) ∨ (a = 2 ∧ b = 1 ∧ c = 1 ∧ d = 1) ∨ (a = 0 ∧ b = 1 ∧ c = 1 ∧ d = 0) ∨ (a = 1 ∧ b = 0 ∧ c = 0 ∧ d = -1) := by
  unfold menu at h
  simp only [List.mem_cons, Prod.mk.injEq, List.not_mem_nil, or_false] at h
  exact h
theorem RuleOk.sm {t : Rule} (h : RuleOk t) : (-2 ≤ t.a ∧ t.a ≤ 2) ∧ (-2 ≤ t.b ∧ t.b ≤ 2) ∧ (-2 ≤ t.c ∧ t.c ≤ 2) ∧ (-2 ≤ t.d ∧ t.d ≤ 2) := by
  rcases menu_cases h.m with z | z | z | z | z | z | z | z <;> omega
theorem RuleOk.det {t : Rule} (h : RuleOk t) : t.det = 1 ∨ t.det = -1 := by
  unfold Rule.det
  rcases menu_cases h.m with ⟨h1, h2, h3, h4⟩ | ⟨h1, h2, h3, h4⟩ | ⟨h1, h2, h3, h4⟩ | ⟨h1, h2, h3, h4⟩ | ⟨h1, h2, h3, h4⟩ | ⟨h1, h2, h3, h4⟩ | ⟨h1, h2, h3, h4⟩ | ⟨h1, h2, h3, h4⟩ <;> rw [h1, h2, h3, h4] <;> decide
/-- of small size, ahead of the rule -/
structure Lil (p : Pt) : Prop where
  a : -100 ≤ p.1
  b : p.1 ≤ 100
  c : -40 ≤ p.2
  d : p.2 ≤ 40
/-- of small size, behind it -/
structure Mid (p : Pt) : Prop where
  a : -400 ≤ p.1
  b : p.1 ≤ 400
  c : -400 ≤ p.2
  d : p.2 ≤ 400
theorem Mid.sm {p : Pt} (h : Mid p) : Sm p := ⟨by have := h.a; omega, by have := h.b; omega, by have := h.c; omega, by have := h.d; omega⟩
theorem Lil.sm {p : Pt} (h : Lil p) : Sm p := ⟨by have := h.a; omega, by have := h.b; omega, by have := h.c; omega, by have := h.d; omega⟩
theorem Lil.at {p : Pt} (h : Lil p) {t : Rule} (ht : RuleOk t) : Mid (t.at p) := by
  obtain ⟨h1, h2, h3, h4⟩ := h
  obtain ⟨m, e1, e2, f1, f2⟩ := ht
  rcases menu_cases m with ⟨a, b, c, d⟩ | ⟨a, b, c, d⟩ | ⟨a, b, c, d⟩ | ⟨a, b, c, d⟩ | ⟨a, b, c, d⟩ | ⟨a, b, c, d⟩ | ⟨a, b, c, d⟩ | ⟨a, b, c, d⟩ <;>
    (unfold Rule.at; rw [a, b, c, d]; constructor <;> simp only <;> omega)
theorem put_mem {t : Rule} {r : List Pt} {p : Pt} (h : p ∈ putR t r) : ∃ q, q ∈ r ∧ p = t.at q := by
  unfold putR at h
  split at h
  · obtain ⟨q, hq, e⟩ := List.mem_map.mp h
    exact ⟨q, hq, e.symm⟩
  · obtain ⟨q, hq, e⟩ := List.mem_map.mp (List.mem_reverse.mp h)
    exact ⟨q, hq, e.symm⟩
theorem put_len (t : Rule) (r : List Pt) : (putR t r).length = r.length := by
  unfold putR
  split
  · rw [List.length_map]
  · rw [List.length_reverse, List.length_map]
theorem wave_mem {m : Nat} {f g : Nat → Int} {p : Pt} (h : p ∈ waveR m f g) : p = (0, 0) ∨ p = (20 * (m : Int), 0) ∨ (∃ i : Nat, i < m - 1 ∧ p = (20 * (1 + (i : Int)), -20 - f i)) ∨ ∃ i : Nat, i < m - 1 ∧ p = (20 * (1 + (i : Int)), 20 + g i) := by
  unfold waveR at h
  rcases List.mem_append.mp h with h | h
  · rcases List.mem_append.mp h with h | h
    · rcases List.mem_append.mp h with h | h
      · exact .inl (List.mem_singleton.mp h)
      · obtain ⟨i, hi, e⟩ := List.mem_map.mp h
        exact .inr (.inr (.inl ⟨i, List.mem_range.mp hi, e.symm⟩))
    · exact .inr (.inl (List.mem_singleton.mp h))
  · obtain ⟨i, hi, e⟩ := List.mem_map.mp (List.mem_reverse.mp h)
    exact .inr (.inr (.inr ⟨i, List.mem_range.mp hi, e.symm⟩))
theorem WaveBase.lil {m : Nat} {r : List Pt} (hm : m ≤ 5) (h : WaveBase m r) {p : Pt} (hp : p ∈ r) : Lil p := by
  obtain ⟨f, g, hf, hg, rfl⟩ := h.ex
  rcases wave_mem hp with rfl | rfl | ⟨i, hi, rfl⟩ | ⟨i, hi, rfl⟩
  · exact ⟨by decide, by decide, by decide, by decide⟩
  · constructor <;> simp only <;> omega
  · have := hf i hi
    constructor <;> simp only <;> omega
  · have := hg i hi
    constructor <;> simp only <;> omega
theorem WaveBase.len {m : Nat} {r : List Pt} (hm : 1 ≤ m) (h : WaveBase m r) : r.length = 2 * m := by
  obtain ⟨f, g, _, _, rfl⟩ := h.ex
  unfold waveR
  simp only [List.length_append, List.length_reverse, List.length_map, List.length_range, List.length_singleton]
  omega
theorem way_B {a : Nat} (h : a < 16) : (-2 ≤ (cg ways a).1 ∧ (cg ways a).1 ≤ 2) ∧ -2 ≤ (cg ways a).2 ∧ (cg ways a).2 ≤ 2 := by
  have : ∀ a : Fin 16, (-2 ≤ (cg ways (a.1 : Int)).1 ∧ (cg ways (a.1 : Int)).1 ≤ 2) ∧ -2 ≤ (cg ways (a.1 : Int)).2 ∧ (cg ways (a.1 : Int)).2 ≤ 2 := by decide
  exact this ⟨a, h⟩
theorem mul_lt {k x : Int} (h0 : 1 ≤ k) (h1 : k ≤ 3) (h2 : -2 ≤ x) (h3 : x ≤ 2) : -6 ≤ k * x ∧ k * x ≤ 6 := by
  have : k = 1 ∨ k = 2 ∨ k = 3 := by omega
  rcases this with rfl | rfl | rfl <;> omega
theorem star_off {c : Pt} {e : Nat × Int} (h : e.1 < 16 ∧ 1 ≤ e.2 ∧ e.2 ≤ 3) : (-6 ≤ (starPt c e).1 - c.1 ∧ (starPt c e).1 - c.1 ≤ 6) ∧ -6 ≤ (starPt c e).2 - c.2 ∧ (starPt c e).2 - c.2 ≤ 6 := by
  obtain ⟨⟨a, b⟩, c', d⟩ := way_B h.1
  have := mul_lt h.2.1 h.2.2 a b
  have := mul_lt h.2.1 h.2.2 c' d
  unfold starPt
  simp only
  omega
theorem StarBase.near {c : Pt} {r : List Pt} (h : StarBase c 3 r) {p : Pt} (hp : p ∈ r) : (-6 ≤ p.1 - c.1 ∧ p.1 - c.1 ≤ 6) ∧ -6 ≤ p.2 - c.2 ∧ p.2 - c.2 ≤ 6 := by
  obtain ⟨L, hL, rfl⟩ := h.ex
  obtain ⟨e, he, rfl⟩ := List.mem_map.mp hp
  exact star_off (hL.lt e he)
theorem StarBase.ne {c : Pt} {most : Int} {r : List Pt} (h : StarBase c most r) : r ≠ [] := fun e => by
  obtain ⟨L, hL, rfl⟩ := h.ex
  obtain ⟨x, hx, _⟩ := hL.qu 0 (by decide)
  rw [List.map_eq_nil_iff.mp e] at hx
  cases hx
theorem up_len : ∀ (L : List (Nat × Int)) (k : Nat), L.Pairwise (·.1 < ·.1) → (∀ e, e ∈ L → k ≤ e.1 ∧ e.1 < 16) → L.length ≤ 16 - k
  | [], _, _, _ => Nat.zero_le _
  | x :: L, k, hp, hb => by
    obtain ⟨h1, h2⟩ := List.pairwise_cons.mp hp
    have z := up_len L (x.1 + 1) h2 fun e he => ⟨h1 e he, (hb e (List.mem_cons_of_mem _ he)).2⟩
    have y := hb x List.mem_cons_self
    rw [List.length_cons]
    omega
theorem StarBase.len {c : Pt} {most : Int} {r : List Pt} (h : StarBase c most r) : r.length ≤ 16 := by
  obtain ⟨L, hL, rfl⟩ := h.ex
  rw [List.length_map]
  exact up_len L 0 hL.up fun e he => ⟨Nat.zero_le _, (hL.lt e he).1⟩
theorem mids_len (r : List Pt) (f : Nat → Bool) : (withMids r f).length ≤ 2 * r.length ∧ r.length ≤ (withMids r f).length := by
  unfold withMids
  have : ∀ n : Nat, ((List.range n).flatMap (piece r f)).length ≤ 2 * n ∧ n ≤ ((List.range n).flatMap (piece r f)).length := by
    intro n
    induction n with
    | zero => simp
    | succ n ih =>
      rw [List.range_succ, List.flatMap_append, List.flatMap_singleton, List.length_append]
      have : (piece r f n).length ≤ 2 ∧ 1 ≤ (piece r f n).length := by
        unfold piece
        split <;> simp
      omega
  exact this r.length
theorem More.len {r s : List Pt} (h : More r s) : s.length ≤ 2 * r.length ∧ r.length ≤ s.length := by
  obtain ⟨f, _, k, hk, rfl⟩ := h.ex
  have := mids_len r f
  rw [List.length_append, List.length_drop, List.length_take]
  omega
theorem mids_mem {r : List Pt} {f : Nat → Bool} {p : Pt} (h : p ∈ withMids r f) : ∃ i : Nat, i < r.length ∧ (p = cg r i ∨ (f i = true ∧ p = mid (cg r ((i : Int) - 1)) (cg r i))) := by
  unfold withMids at h
  obtain ⟨i, hi, hp⟩ := List.mem_flatMap.mp h
  refine ⟨i, List.mem_range.mp hi, ?_⟩
  unfold piece at hp
  rcases List.mem_append.mp hp with hp | hp
  · by_cases e : f i = true
    · rw [if_pos e] at hp
      exact .inr ⟨e, List.mem_singleton.mp hp⟩
    · rw [if_neg e] at hp
      cases hp
  · exact .inl (List.mem_singleton.mp hp)
theorem More.mem {r s : List Pt} (h : More r s) {p : Pt} (hp : p ∈ s) : ∃ f : Nat → Bool, (∀ i : Nat, i < r.length → f i = true → evens (cg r ((i : Int) - 1)) (cg r i) = true) ∧ p ∈ withMids r f := by
  obtain ⟨f, hf, k, hk, rfl⟩ := h.ex
  refine ⟨f, hf, ?_⟩
  rcases List.mem_append.mp hp with h | h
  · exact List.mem_of_mem_drop h
  · exact List.mem_of_mem_take h
theorem mid_M {a b : Pt} (ha : Mid a) (hb : Mid b) : Mid (mid a b) := by
  obtain ⟨a1, a2, a3, a4⟩ := ha
  obtain ⟨b1, b2, b3, b4⟩ := hb
  unfold mid
  constructor <;> simp only <;> omega
theorem More.mid {r s : List Pt} (h : More r s) (hr : ∀ p, p ∈ r → Mid p) {p : Pt} (hp : p ∈ s) : Mid p := by
  obtain ⟨f, _, hm⟩ := h.mem hp
  obtain ⟨i, hi, e⟩ := mids_mem hm
  have h0 : r ≠ [] := fun e => by rw [e] at hi; exact absurd hi (Nat.not_lt_zero _)
  rcases e with rfl | ⟨_, rfl⟩
  · exact hr _ (cg_mem _ h0)
  · exact mid_M (hr _ (cg_mem _ h0)) (hr _ (cg_mem _ h0))
end G
set_option Elab.async false
set_option linter.all false
set_option maxRecDepth 100000
namespace G
open PySem PySem.Spec L2
open Evl (Ex)
open PyProof.Rows (envOfC)
local macro_rules | `(tactic| walk_at "go") => `(tactic| repeat' (first
  | ((with_reducible refine' ew_v ?h ?k ?_); (case h => exact rfl); (case k => exact rfl))
  | with_reducible refine ew_int ?_
  | with_reducible refine ew_bl ?_
  | with_reducible refine ew_str ?_
  | with_reducible refine ew_non ?_
  | with_reducible refine ew_plus ?_
  | with_reducible refine ew_sub ?_
  | with_reducible refine ew_mul ?_
  | with_reducible refine ew_mulW ?_
  | with_reducible refine ew_fdiv ?_
  | with_reducible refine ew_mod ?_
  | with_reducible refine ew_ix ?_
  | with_reducible refine ew_lt ?_
  | with_reducible refine ew_le ?_
  | with_reducible refine ew_gt ?_
  | with_reducible refine ew_ge ?_
  | with_reducible refine ew_eqD ?_
  | with_reducible refine ew_neD ?_
  | with_reducible refine ew_neg ?_
  | with_reducible refine ew_tup ?_
  | with_reducible refine ew_lst ?_
  | with_reducible refine ew_len ?_
  | with_reducible refine ew_abs ?_
  | with_reducible refine ew_int1 ?_
  | with_reducible refine ew_gcd ?_
  | with_reducible refine ew_tupOf ?_
  | with_reducible refine ew_callP ?_
  | with_reducible refine ew_callG ?_
  | with_reducible refine ew_revL ?_
  | with_reducible refine ew_slice ?_
  | with_reducible refine ow_no ?_
  | with_reducible refine ow_some ?_
  | with_reducible refine ew_notV ?_
  | with_reducible refine ew_pow ?_
  | with_reducible refine aw_nil ?_
  | with_reducible refine aw_cons ?_
  | with_reducible refine onI2_mk ?_
  | with_reducible refine onI_mk ?_
  | with_reducible refine onB_mk ?_
  | with_reducible refine onD2_mk ?_
  | with_reducible refine onDat_mk ?_
  | with_reducible refine onL_mk ?_
  | with_reducible refine onTup_mk ?_
  | with_reducible refine onSeqT_mk ?_
  | with_reducible refine onSeqL_mk ?_
  | with_reducible refine onDs_nil ?_
  | with_reducible refine onDs_cons ?_
  | with_reducible refine onGDs_mk ?_
  | with_reducible refine on1_mk ?_
  | with_reducible refine on2_mk ?_
  | with_reducible refine plus_int ?_
  | with_reducible refine sq_tup ?_
  | with_reducible refine sq_lst ?_
  | with_reducible refine cut_tup ?_
  | with_reducible refine cut_lst ?_
  | ((with_reducible refine' ix_tup ?e ?_); (case e => first | exact rfl | assumption))
  | ((with_reducible refine' ix_lst ?e ?_); (case e => first | exact rfl | assumption))
  | ((with_reducible refine' And.intro (a := CMul _ _) ?c ?_); (case c => first | (refine mulL ⟨?_, ?_⟩ <;> omega) | (refine mulR ⟨?_, ?_⟩ <;> omega)))
  | ((with_reducible refine' And.intro (a := CMulW _ _) ?c ?_); (case c => assumption))
  | ((with_reducible refine' And.intro (a := 0 < _) ?c ?_); (case c => decide))
  | ((with_reducible refine' And.intro (a := List.length _ ≤ 100000) ?c ?_); (case c => exact Nat.le_of_ble_eq_true rfl))
  | ((with_reducible refine' And.intro (a := fit _ = true) ?c ?_); (case c => first | exact rfl | assumption))
  | with_reducible refine gw_nm ?_
  | ((with_reducible refine' gw_nmI ?h ?_); (case h => decide))
  | ((with_reducible refine' gw_tp ?h ?_); (case h => exact rfl))
  | with_reducible refine gsw_cons ?_
  | with_reducible refine gsw_nil ?_
  | with_reducible refine tw_tst ?_
  | with_reducible refine tw_b ?_
  | with_reducible refine tw_not ?_
  | with_reducible refine tw_yes ?_
  | with_reducible refine sw_seq ?_
  | with_reducible refine sw_ret ?_
  | with_reducible refine sw_asg ?_
  | with_reducible refine sw_par ?_
  | ((with_reducible refine' sw_aug ?h ?_); (case h => exact rfl))
  | with_reducible refine sw_next ?_
  | with_reducible refine sw_brk ?_
  | ((with_reducible refine' ew_andD ?h ?g ?_); (case h => (walk_at "go"; exact rfl)); (case g => (intro _; walk_at "go"; exact rfl)))
  | ((with_reducible refine' ew_orD ?h ?g ?_); (case h => (walk_at "go"; exact rfl)); (case g => (intro _; walk_at "go"; exact rfl)))
  | ((with_reducible refine' tw_and2 ?h ?g ?_); (case h => (walk_at "go"; exact rfl)); (case g => (intro _; walk_at "go"; exact rfl)))
  | ((with_reducible refine' tw_or2 ?h ?g ?_); (case h => (walk_at "go"; exact rfl)); (case g => (intro _; walk_at "go"; exact rfl)))
  | ((with_reducible refine' ew_chD ?h ?g ?k ?_); (case h => (walk_at "go"; exact rfl)); (case g => (walk_at "go"; exact rfl)); (case k => (walk_at "go"; exact rfl)))
  | ((with_reducible refine' ew_isiInt ?h ?_); (case h => (walk_at "go"; exact rfl)))
  | ((with_reducible refine' ew_isiBool ?h ?_); (case h => (walk_at "go"; exact rfl)))
  | ((with_reducible refine' ew_isiTup ?h ?_); (case h => (walk_at "go"; exact rfl)))))
section
variable {P : Program} {w : World} {K : PySem.W.Frag} {mg : Str → Option Value} {base : Heap} {C : Addr}

def R_is_integer (ds : List Da) (Q : Da → Prop) : Prop := ∃ i, ds = [.int i] ∧ Q (.bl true)
abbrev s_is_integer : Stmt := topS 7
abbrev n_is_integer : List Str := ["value"]
theorem sc_is_integer : FnScope n_is_integer ["value"] (defScope s_is_integer) := ⟨rfl, rfl, rfl, by decide +kernel, rfl, by decide +kernel, by decide +kernel⟩
def t_is_integer (K : PySem.W.Frag) (C : Addr) : TS :=
  (tRet (tAndV (tCB (rIsi K) (tCons (tVar 0) (tCons (tC (.ty "int")) tNil))) (tNotV (tCB (rIsi K) (tCons (tVar 0) (tCons (tC (.ty "bool")) tNil))))))
theorem bd_is_integer (m_int : mg "int" = none) (m_isinstance : mg "isinstance" = none) (m_bool : mg "bool" = none) {f : Addr} {cdv : Value} {A : Around} {outer : List PySem.Env} {s : Shared} {H : Hp} {E : XK} (hr : Room 0 (A.deeper (envOfC "is_integer" (defScope s_is_integer) s.heap.objs.size f cdv))) :
    PSs (cxOf CX0 P w K mg base n_is_integer "is_integer" (defScope s_is_integer) f cdv A outer s H E).nox (defBody s_is_integer) (t_is_integer K C) :=
  (pss_one (ps_ret (pe_and (pe_callB call_isi (by rfl) m_isinstance (by decide +kernel) (pa_cons (pv 0) (pa_cons (pe_bltn (by rfl) m_int (by decide +kernel) rfl) pa_nil))) (pe_one (pe_not (pe_callB call_isi (by rfl) m_isinstance (by decide +kernel) (pa_cons (pv 0) (pa_cons (pe_bltn (by rfl) m_bool (by decide +kernel) rfl) pa_nil))))))))
theorem ln_is_integer : ∀ ds Q, R_is_integer ds Q → ds.length = 1 := fun ds Q ⟨_, e, _⟩ => by rw [e]; rfl
theorem wk_is_integer : ∀ ds Q, R_is_integer ds Q → SW ⟨K, C, none⟩ (t_is_integer K C) (init ds 0) ⟨fun _ => Q .non, Q, fun _ => False, fun _ => False⟩ := by
  rintro _ Q ⟨i, rfl, q⟩
  unfold t_is_integer
  walk_at "go"
  exact q
theorem ok_is_integer (m_int : mg "int" = none) (m_isinstance : mg "isinstance" = none) (m_bool : mg "bool" = none) (F : DefAt K mg "is_integer" ["value"] s_is_integer) : Cal P w K mg base "is_integer" 1 ["value"] (spP K C R_is_integer) :=
  F.okP sc_is_integer ln_is_integer (fun _ _ _ _ _ _ _ hr => bd_is_integer m_int m_isinstance m_bool hr) wk_is_integer
def R_is_tuple_of (ds : List Da) (Q : Da → Prop) : Prop := ∃ xs n, ds = [.tup xs, .int n] ∧ Q (.bl (decide ((xs.length : Int) = n)))
abbrev s_is_tuple_of : Stmt := topS 8
abbrev n_is_tuple_of : List Str := ["value", "size"]
theorem sc_is_tuple_of : FnScope n_is_tuple_of ["value", "size"] (defScope s_is_tuple_of) := ⟨rfl, rfl, rfl, by decide +kernel, rfl, by decide +kernel, by decide +kernel⟩
def t_is_tuple_of (K : PySem.W.Frag) (C : Addr) : TS :=
  (tRet (tAndV (tCB (rIsi K) (tCons (tVar 0) (tCons (tC (.ty "tuple")) tNil))) (tOp (rEqD K) (tCB (rLen K) (tCons (tVar 0) tNil)) (tVar 1))))
theorem bd_is_tuple_of (m_tuple : mg "tuple" = none) (m_isinstance : mg "isinstance" = none) (m_len : mg "len" = none) {f : Addr} {cdv : Value} {A : Around} {outer : List PySem.Env} {s : Shared} {H : Hp} {E : XK} (hr : Room 0 (A.deeper (envOfC "is_tuple_of" (defScope s_is_tuple_of) s.heap.objs.size f cdv))) :
    PSs (cxOf CX0 P w K mg base n_is_tuple_of "is_tuple_of" (defScope s_is_tuple_of) f cdv A outer s H E).nox (defBody s_is_tuple_of) (t_is_tuple_of K C) :=
  (pss_one (ps_ret (pe_and (pe_callB call_isi (by rfl) m_isinstance (by decide +kernel) (pa_cons (pv 0) (pa_cons (pe_bltn (by rfl) m_tuple (by decide +kernel) rfl) pa_nil))) (pe_one (pe_cmpR (op_eqD hr.units) (pe_callB call_lenG (by rfl) m_len PySem.boot_len (pa_cons (pv 0) pa_nil)) (pv 1) (nomark _))))))
theorem ln_is_tuple_of : ∀ ds Q, R_is_tuple_of ds Q → ds.length = 2 := fun ds Q ⟨_, _, e, _⟩ => by rw [e]; rfl
theorem wk_is_tuple_of : ∀ ds Q, R_is_tuple_of ds Q → SW ⟨K, C, none⟩ (t_is_tuple_of K C) (init ds 0) ⟨fun _ => Q .non, Q, fun _ => False, fun _ => False⟩ := by
  rintro _ Q ⟨xs, n, rfl, q⟩
  unfold t_is_tuple_of
  walk_at "go"
  show Q (.bl (true && ((xs.length : Int) == n)))
  rw [Bool.true_and, Bool.beq_eq_decide_eq]
  exact q
theorem ok_is_tuple_of (m_tuple : mg "tuple" = none) (m_isinstance : mg "isinstance" = none) (m_len : mg "len" = none) (F : DefAt K mg "is_tuple_of" ["value", "size"] s_is_tuple_of) : Cal P w K mg base "is_tuple_of" 1 ["value", "size"] (spP K C R_is_tuple_of) :=
  F.okP sc_is_tuple_of ln_is_tuple_of (fun _ _ _ _ _ _ _ hr => bd_is_tuple_of m_tuple m_isinstance m_len hr) wk_is_tuple_of
def R_fraction (ds : List Da) (Q : Da → Prop) : Prop := ∃ t b, ds = [.int t, .int b] ∧ b ≠ 0 ∧ -1000000000 < b ∧ b < 1000000000 ∧ Q (dP (mkFr t b))
abbrev s_fraction : Stmt := topS 10
abbrev n_fraction : List Str := ["top", "bottom", "common"]
theorem sc_fraction : FnScope n_fraction ["top", "bottom"] (defScope s_fraction) := ⟨rfl, rfl, rfl, by decide +kernel, rfl, by decide +kernel, by decide +kernel⟩
def t_fraction (K : PySem.W.Frag) (C : Addr) : TS :=
  (tSeq (tIfS (tTest (tOp (rEqD K) (tVar 1) (tC (.int 0)))) tNever tNext)
    (tSeq (tIfS (tTest (tOp (rI0 fun i j => .bl (decide (i < j))) (tVar 1) (tC (.int 0)))) (tPar 0 1 (tCons (tUn (rU fun i => .int (-i)) (tVar 0)) (tCons (tUn (rU fun i => .int (-i)) (tVar 1)) tNil))) tNext)
    (tSeq (tAsg (tCB rGcd (tCons (tVar 0) (tCons (tVar 1) tNil))) (gName 2))
    (tRet (tTup (tCons (tOp (rI CDiv fun i j => .int (i / j)) (tVar 0) (tVar 2)) (tCons (tOp (rI CDiv fun i j => .int (i / j)) (tVar 1) (tVar 2)) tNil)))))))
theorem bd_fraction (m_gcd : mg "gcd" = some (.builtin "math.gcd")) {f : Addr} {cdv : Value} {A : Around} {outer : List PySem.Env} {s : Shared} {H : Hp} {E : XK} (hr : Room 0 (A.deeper (envOfC "fraction" (defScope s_fraction) s.heap.objs.size f cdv))) :
    PSs (cxOf CX0 P w K mg base n_fraction "fraction" (defScope s_fraction) f cdv A outer s H E).nox (defBody s_fraction) (t_fraction K C) :=
  (pss_cons (ps_if (pt_cmpR (op_eqD hr.units) (pv 1) pe_int (nomark _)) (pss_one ps_never) pss_nil)
    (pss_cons (ps_if (pt_cmpR op_lt (pv 1) pe_int (nomark _)) (pss_one (ps_par (i := 0) (j := 1) (by rfl) sc_fraction.nd rfl rfl (by decide) rfl rfl (pa_cons (pe_un un_neg (pv 0)) (pa_cons (pe_un un_neg (pv 1)) pa_nil)) (by rfl))) pss_nil)
    (pss_cons (ps_set (i := 2) sc_fraction.nd rfl (Or.inl rfl) (pe_callBfun cr_gcd (by rfl) m_gcd (pa_cons (pv 0) (pa_cons (pv 1) pa_nil))))
    (pss_one (ps_ret (pe_tup (pa_cons (pe_op op_fdiv (pv 0) (pv 2)) (pa_cons (pe_op op_fdiv (pv 1) (pv 2)) pa_nil))))))))
theorem ln_fraction : ∀ ds Q, R_fraction ds Q → ds.length = 2 := fun ds Q ⟨_, _, e, _⟩ => by rw [e]; rfl
theorem gcd_small {t b : Int} (h : b ≠ 0) (h1 : -1000000000 < b) (h2 : b < 1000000000) : CDiv i ((Nat.gcd t.natAbs b.natAbs : Nat) : Int) := by
  have h3 : 0 < Nat.gcd t.natAbs b.natAbs := Nat.gcd_pos_of_pos_right _ (by omega)
  have h4 : Nat.gcd t.natAbs b.natAbs ≤ b.natAbs := Nat.gcd_le_right _ (by omega)
  constructor <;> omega
theorem wk_fraction : ∀ ds Q, R_fraction ds Q → SW ⟨K, C, none⟩ (t_fraction K C) (init ds 1) ⟨fun _ => Q .non, Q, fun _ => False, fun _ => False⟩ := by
  rintro _ Q ⟨t, b, rfl, h0, h1, h2, q⟩
  unfold t_fraction
  refine sw_seq (sw_ifD (b := false) ?_ (fun z => nomatch z) fun _ => sw_next (sw_seq (sw_ifD (b := decide (b < 0)) ?_ (fun hb => ?_) fun hb => sw_next ?_)))
  · walk_at "go"
    show (b == 0) = false
    simpa using h0
  · walk_at "go"
    rfl
  · have hb' : b < 0 := of_decide_eq_true hb
    walk_at "go"
    refine ⟨gcd_small (by omega) (by omega) (by omega), ?_⟩
    walk_at "go"
    refine ⟨gcd_small (by omega) (by omega) (by omega), ?_⟩
    walk_at "go"
    unfold mkFr at q
    rw [if_pos hb'] at q
    exact q
  · have hb' : ¬ b < 0 := of_decide_eq_false hb
    walk_at "go"
    refine ⟨gcd_small (by omega) (by omega) (by omega), ?_⟩
    walk_at "go"
    refine ⟨gcd_small (by omega) (by omega) (by omega), ?_⟩
    walk_at "go"
    unfold mkFr at q
    rw [if_neg hb'] at q
    exact q
theorem ok_fraction (m_gcd : mg "gcd" = some (.builtin "math.gcd")) (F : DefAt K mg "fraction" ["top", "bottom"] s_fraction) : Cal P w K mg base "fraction" 1 ["top", "bottom"] (spP K C R_fraction) :=
  F.okP sc_fraction ln_fraction (fun _ _ _ _ _ _ _ hr => bd_fraction m_gcd hr) wk_fraction
def R_whole (ds : List Da) (Q : Da → Prop) : Prop := ∃ n, ds = [.int n] ∧ Q (dP (n, 1))
abbrev s_whole : Stmt := topS 11
abbrev n_whole : List Str := ["number"]
theorem sc_whole : FnScope n_whole ["number"] (defScope s_whole) := ⟨rfl, rfl, rfl, by decide +kernel, rfl, by decide +kernel, by decide +kernel⟩
def t_whole (K : PySem.W.Frag) (C : Addr) : TS :=
  (tRet (tTup (tCons (tVar 0) (tCons (tC (.int 1)) tNil))))
theorem bd_whole {f : Addr} {cdv : Value} {A : Around} {outer : List PySem.Env} {s : Shared} {H : Hp} {E : XK} (hr : Room 0 (A.deeper (envOfC "whole" (defScope s_whole) s.heap.objs.size f cdv))) :
    PSs (cxOf CX0 P w K mg base n_whole "whole" (defScope s_whole) f cdv A outer s H E).nox (defBody s_whole) (t_whole K C) :=
  (pss_one (ps_ret (pe_tup (pa_cons (pv 0) (pa_cons pe_int pa_nil)))))
theorem ln_whole : ∀ ds Q, R_whole ds Q → ds.length = 1 := fun ds Q ⟨_, e, _⟩ => by rw [e]; rfl
theorem wk_whole : ∀ ds Q, R_whole ds Q → SW ⟨K, C, none⟩ (t_whole K C) (init ds 0) ⟨fun _ => Q .non, Q, fun _ => False, fun _ => False⟩ := by
  rintro _ Q ⟨n, rfl, q⟩
  unfold t_whole
  walk_at "go"
  exact q
theorem ok_whole (F : DefAt K mg "whole" ["number"] s_whole) : Cal P w K mg base "whole" 1 ["number"] (spP K C R_whole) :=
  F.okP sc_whole ln_whole (fun _ _ _ _ _ _ _ hr => bd_whole hr) wk_whole
/-- a fraction of small size -/
structure FrB (f : Fr) (n : Int) : Prop where
  a : -(2 ^ 40) < f.1
  b : f.1 < 2 ^ 40
  c : 0 < f.2
  d : f.2 ≤ n
theorem mul_pos2 {a b : Int} (h : 0 < a) (g : 0 < b) : 0 < a * b := Int.mul_pos h g
theorem mul_le2 {a b c d : Int} (h : 0 < a) (g : 0 < b) (h1 : a ≤ c) (g1 : b ≤ d) : a * b ≤ c * d := Int.mul_le_mul h1 g1 (Int.le_of_lt g) (by omega)
def R_plus (ds : List Da) (Q : Da → Prop) : Prop := ∃ f g : Fr, ds = [dP f, dP g] ∧ FrB f 30000 ∧ FrB g 30000 ∧ Q (dP (fPlus f g))
abbrev s_plus : Stmt := topS 12
abbrev n_plus : List Str := ["one", "other"]
theorem sc_plus : FnScope n_plus ["one", "other"] (defScope s_plus) := ⟨rfl, rfl, rfl, by decide +kernel, rfl, by decide +kernel, by decide +kernel⟩
def t_plus (K : PySem.W.Frag) (C : Addr) : TS :=
  (tRet (tCall (spP K C R_fraction) [] E0 (tCons (tOp (rPlus K) (tOp (rI CMul fun i j => .int (i * j)) (tOp (rIx K) (tVar 0) (tC (.int 0))) (tOp (rIx K) (tVar 1) (tC (.int 1)))) (tOp (rI CMul fun i j => .int (i * j)) (tOp (rIx K) (tVar 1) (tC (.int 0))) (tOp (rIx K) (tVar 0) (tC (.int 1))))) (tCons (tOp (rI CMul fun i j => .int (i * j)) (tOp (rIx K) (tVar 0) (tC (.int 1))) (tOp (rIx K) (tVar 1) (tC (.int 1)))) tNil))))
theorem bd_plus (c_fraction : Cal P w K mg base "fraction" 1 ["top", "bottom"] (spP K C R_fraction)) {f : Addr} {cdv : Value} {A : Around} {outer : List PySem.Env} {s : Shared} {H : Hp} {E : XK} (hr : Room 1 (A.deeper (envOfC "plus" (defScope s_plus) s.heap.objs.size f cdv))) :
    PSs (cxOf CX0 P w K mg base n_plus "plus" (defScope s_plus) f cdv A outer s H E).nox (defBody s_plus) (t_plus K C) :=
  (pss_one (ps_ret (pe_callC c_fraction (hr.mono (by decide)) (by rfl) (pa_cons (pe_op op_plus (pe_op op_mul (pe_ix ix_seq (pv 0) pe_int (fun _ _ => rfl)) (pe_ix ix_seq (pv 1) pe_int (fun _ _ => rfl))) (pe_op op_mul (pe_ix ix_seq (pv 1) pe_int (fun _ _ => rfl)) (pe_ix ix_seq (pv 0) pe_int (fun _ _ => rfl)))) (pa_cons (pe_op op_mul (pe_ix ix_seq (pv 0) pe_int (fun _ _ => rfl)) (pe_ix ix_seq (pv 1) pe_int (fun _ _ => rfl))) pa_nil)))))
theorem ln_plus : ∀ ds Q, R_plus ds Q → ds.length = 2 := fun ds Q ⟨_, _, e, _⟩ => by rw [e]; rfl
theorem wk_plus : ∀ ds Q, R_plus ds Q → SW ⟨K, C, none⟩ (t_plus K C) (init ds 0) ⟨fun _ => Q .non, Q, fun _ => False, fun _ => False⟩ := by
  rintro _ Q ⟨f, g, rfl, ⟨f1, f2, f3, f4⟩, ⟨g1, g2, g3, g4⟩, q⟩
  have h1 := mul_pos2 f3 g3
  have h2 := mul_le2 f3 g3 f4 g4
  unfold t_plus
  walk_at "go"
  exact ⟨_, _, rfl, by omega, by omega, by omega, q⟩
theorem ok_plus (c_fraction : Cal P w K mg base "fraction" 1 ["top", "bottom"] (spP K C R_fraction)) (F : DefAt K mg "plus" ["one", "other"] s_plus) : Cal P w K mg base "plus" 2 ["one", "other"] (spP K C R_plus) :=
  F.okP sc_plus ln_plus (fun _ _ _ _ _ _ _ hr => bd_plus c_fraction hr) wk_plus
def R_minus (ds : List Da) (Q : Da → Prop) : Prop := ∃ f g : Fr, ds = [dP f, dP g] ∧ FrB f 30000 ∧ FrB g 30000 ∧ Q (dP (fMinus f g))
abbrev s_minus : Stmt := topS 13
abbrev n_minus : List Str := ["one", "other"]
theorem sc_minus : FnScope n_minus ["one", "other"] (defScope s_minus) := ⟨rfl, rfl, rfl, by decide +kernel, rfl, by decide +kernel, by decide +kernel⟩
def t_minus (K : PySem.W.Frag) (C : Addr) : TS :=
  (tRet (tCall (spP K C R_fraction) [] E0 (tCons (tOp (rI0 fun i j => .int (i - j)) (tOp (rI CMul fun i j => .int (i * j)) (tOp (rIx K) (tVar 0) (tC (.int 0))) (tOp (rIx K) (tVar 1) (tC (.int 1)))) (tOp (rI CMul fun i j => .int (i * j)) (tOp (rIx K) (tVar 1) (tC (.int 0))) (tOp (rIx K) (tVar 0) (tC (.int 1))))) (tCons (tOp (rI CMul fun i j => .int (i * j)) (tOp (rIx K) (tVar 0) (tC (.int 1))) (tOp (rIx K) (tVar 1) (tC (.int 1)))) tNil))))
theorem bd_minus (c_fraction : Cal P w K mg base "fraction" 1 ["top", "bottom"] (spP K C R_fraction)) {f : Addr} {cdv : Value} {A : Around} {outer : List PySem.Env} {s : Shared} {H : Hp} {E : XK} (hr : Room 1 (A.deeper (envOfC "minus" (defScope s_minus) s.heap.objs.size f cdv))) :
    PSs (cxOf CX0 P w K mg base n_minus "minus" (defScope s_minus) f cdv A outer s H E).nox (defBody s_minus) (t_minus K C) :=
  (pss_one (ps_ret (pe_callC c_fraction (hr.mono (by decide)) (by rfl) (pa_cons (pe_op op_sub (pe_op op_mul (pe_ix ix_seq (pv 0) pe_int (fun _ _ => rfl)) (pe_ix ix_seq (pv 1) pe_int (fun _ _ => rfl))) (pe_op op_mul (pe_ix ix_seq (pv 1) pe_int (fun _ _ => rfl)) (pe_ix ix_seq (pv 0) pe_int (fun _ _ => rfl)))) (pa_cons (pe_op op_mul (pe_ix ix_seq (pv 0) pe_int (fun _ _ => rfl)) (pe_ix ix_seq (pv 1) pe_int (fun _ _ => rfl))) pa_nil)))))
theorem ln_minus : ∀ ds Q, R_minus ds Q → ds.length = 2 := fun ds Q ⟨_, _, e, _⟩ => by rw [e]; rfl
theorem wk_minus : ∀ ds Q, R_minus ds Q → SW ⟨K, C, none⟩ (t_minus K C) (init ds 0) ⟨fun _ => Q .non, Q, fun _ => False, fun _ => False⟩ := by
  rintro _ Q ⟨f, g, rfl, ⟨f1, f2, f3, f4⟩, ⟨g1, g2, g3, g4⟩, q⟩
  have h1 := mul_pos2 f3 g3
  have h2 := mul_le2 f3 g3 f4 g4
  unfold t_minus
  walk_at "go"
  exact ⟨_, _, rfl, by omega, by omega, by omega, q⟩
theorem ok_minus (c_fraction : Cal P w K mg base "fraction" 1 ["top", "bottom"] (spP K C R_fraction)) (F : DefAt K mg "minus" ["one", "other"] s_minus) : Cal P w K mg base "minus" 2 ["one", "other"] (spP K C R_minus) :=
  F.okP sc_minus ln_minus (fun _ _ _ _ _ _ _ hr => bd_minus c_fraction hr) wk_minus
def R_times (ds : List Da) (Q : Da → Prop) : Prop := ∃ f g : Fr, ds = [dP f, dP g] ∧ FrB f 30000 ∧ FrB g 30000 ∧ Q (dP (fTimes f g))
abbrev s_times : Stmt := topS 14
abbrev n_times : List Str := ["one", "other"]
theorem sc_times : FnScope n_times ["one", "other"] (defScope s_times) := ⟨rfl, rfl, rfl, by decide +kernel, rfl, by decide +kernel, by decide +kernel⟩
def t_times (K : PySem.W.Frag) (C : Addr) : TS :=
  (tRet (tCall (spP K C R_fraction) [] E0 (tCons (tOp (rI CMul fun i j => .int (i * j)) (tOp (rIx K) (tVar 0) (tC (.int 0))) (tOp (rIx K) (tVar 1) (tC (.int 0)))) (tCons (tOp (rI CMul fun i j => .int (i * j)) (tOp (rIx K) (tVar 0) (tC (.int 1))) (tOp (rIx K) (tVar 1) (tC (.int 1)))) tNil))))
theorem bd_times (c_fraction : Cal P w K mg base "fraction" 1 ["top", "bottom"] (spP K C R_fraction)) {f : Addr} {cdv : Value} {A : Around} {outer : List PySem.Env} {s : Shared} {H : Hp} {E : XK} (hr : Room 1 (A.deeper (envOfC "times" (defScope s_times) s.heap.objs.size f cdv))) :
    PSs (cxOf CX0 P w K mg base n_times "times" (defScope s_times) f cdv A outer s H E).nox (defBody s_times) (t_times K C) :=
  (pss_one (ps_ret (pe_callC c_fraction (hr.mono (by decide)) (by rfl) (pa_cons (pe_op op_mul (pe_ix ix_seq (pv 0) pe_int (fun _ _ => rfl)) (pe_ix ix_seq (pv 1) pe_int (fun _ _ => rfl))) (pa_cons (pe_op op_mul (pe_ix ix_seq (pv 0) pe_int (fun _ _ => rfl)) (pe_ix ix_seq (pv 1) pe_int (fun _ _ => rfl))) pa_nil)))))
theorem ln_times : ∀ ds Q, R_times ds Q → ds.length = 2 := fun ds Q ⟨_, _, e, _⟩ => by rw [e]; rfl
theorem wk_times : ∀ ds Q, R_times ds Q → SW ⟨K, C, none⟩ (t_times K C) (init ds 0) ⟨fun _ => Q .non, Q, fun _ => False, fun _ => False⟩ := by
  rintro _ Q ⟨f, g, rfl, ⟨f1, f2, f3, f4⟩, ⟨g1, g2, g3, g4⟩, q⟩
  have h1 := mul_pos2 f3 g3
  have h2 := mul_le2 f3 g3 f4 g4
  unfold t_times
  walk_at "go"
  exact ⟨_, _, rfl, by omega, by omega, by omega, q⟩
theorem ok_times (c_fraction : Cal P w K mg base "fraction" 1 ["top", "bottom"] (spP K C R_fraction)) (F : DefAt K mg "times" ["one", "other"] s_times) : Cal P w K mg base "times" 2 ["one", "other"] (spP K C R_times) :=
  F.okP sc_times ln_times (fun _ _ _ _ _ _ _ hr => bd_times c_fraction hr) wk_times
def R_half (ds : List Da) (Q : Da → Prop) : Prop := ∃ f : Fr, ds = [dP f] ∧ 0 < f.2 ∧ f.2 ≤ 400000000 ∧ Q (dP (fHalf f))
abbrev s_half : Stmt := topS 15
abbrev n_half : List Str := ["one"]
theorem sc_half : FnScope n_half ["one"] (defScope s_half) := ⟨rfl, rfl, rfl, by decide +kernel, rfl, by decide +kernel, by decide +kernel⟩
def t_half (K : PySem.W.Frag) (C : Addr) : TS :=
  (tRet (tCall (spP K C R_fraction) [] E0 (tCons (tOp (rIx K) (tVar 0) (tC (.int 0))) (tCons (tOp (rI CMul fun i j => .int (i * j)) (tC (.int 2)) (tOp (rIx K) (tVar 0) (tC (.int 1)))) tNil))))
theorem bd_half (c_fraction : Cal P w K mg base "fraction" 1 ["top", "bottom"] (spP K C R_fraction)) {f : Addr} {cdv : Value} {A : Around} {outer : List PySem.Env} {s : Shared} {H : Hp} {E : XK} (hr : Room 1 (A.deeper (envOfC "half" (defScope s_half) s.heap.objs.size f cdv))) :
    PSs (cxOf CX0 P w K mg base n_half "half" (defScope s_half) f cdv A outer s H E).nox (defBody s_half) (t_half K C) :=
  (pss_one (ps_ret (pe_callC c_fraction (hr.mono (by decide)) (by rfl) (pa_cons (pe_ix ix_seq (pv 0) pe_int (fun _ _ => rfl)) (pa_cons (pe_op op_mul pe_int (pe_ix ix_seq (pv 0) pe_int (fun _ _ => rfl))) pa_nil)))))
theorem ln_half : ∀ ds Q, R_half ds Q → ds.length = 1 := fun ds Q ⟨_, e, _⟩ => by rw [e]; rfl
theorem wk_half : ∀ ds Q, R_half ds Q → SW ⟨K, C, none⟩ (t_half K C) (init ds 0) ⟨fun _ => Q .non, Q, fun _ => False, fun _ => False⟩ := by
  rintro _ Q ⟨f, rfl, f3, f4, q⟩
  unfold t_half
  walk_at "go"
  exact ⟨_, _, rfl, by omega, by omega, by omega, q⟩
theorem ok_half (c_fraction : Cal P w K mg base "fraction" 1 ["top", "bottom"] (spP K C R_fraction)) (F : DefAt K mg "half" ["one"] s_half) : Cal P w K mg base "half" 2 ["one"] (spP K C R_half) :=
  F.okP sc_half ln_half (fun _ _ _ _ _ _ _ hr => bd_half c_fraction hr) wk_half
theorem sgn_cases (i : Int) : (i = 0 ∧ sgn i = 0) ∨ (i ≠ 0 ∧ 0 < i ∧ sgn i = 1) ∨ (i ≠ 0 ∧ ¬ 0 < i ∧ sgn i = -1) := by
  unfold sgn
  by_cases h : i = 0
  · rw [if_pos h]; exact .inl ⟨h, rfl⟩
  · rw [if_neg h]
    by_cases g : 0 < i
    · rw [if_pos g]; exact .inr (.inl ⟨h, g, rfl⟩)
    · rw [if_neg g]; exact .inr (.inr ⟨h, g, rfl⟩)
def R_compared (ds : List Da) (Q : Da → Prop) : Prop := ∃ f g : Fr, ds = [dP f, dP g] ∧ FrB f 1000000 ∧ FrB g 1000000 ∧ Q (.int (cmpF f g))
abbrev s_compared : Stmt := topS 16
abbrev n_compared : List Str := ["one", "other", "cross"]
theorem sc_compared : FnScope n_compared ["one", "other"] (defScope s_compared) := ⟨rfl, rfl, rfl, by decide +kernel, rfl, by decide +kernel, by decide +kernel⟩
def t_compared (K : PySem.W.Frag) (C : Addr) : TS :=
  (tSeq (tAsg (tOp (rI0 fun i j => .int (i - j)) (tOp (rI CMul fun i j => .int (i * j)) (tOp (rIx K) (tVar 0) (tC (.int 0))) (tOp (rIx K) (tVar 1) (tC (.int 1)))) (tOp (rI CMul fun i j => .int (i * j)) (tOp (rIx K) (tVar 1) (tC (.int 0))) (tOp (rIx K) (tVar 0) (tC (.int 1))))) (gName 2))
    (tSeq (tIfS (tTest (tOp (rEqD K) (tVar 2) (tC (.int 0)))) (tRet (tC (.int 0))) tNext)
    (tRet (tIf (tTest (tOp (rI0 fun i j => .bl (decide (j < i))) (tVar 2) (tC (.int 0)))) (tC (.int 1)) (tUn (rU fun i => .int (-i)) (tC (.int 1)))))))
theorem bd_compared {f : Addr} {cdv : Value} {A : Around} {outer : List PySem.Env} {s : Shared} {H : Hp} {E : XK} (hr : Room 0 (A.deeper (envOfC "compared" (defScope s_compared) s.heap.objs.size f cdv))) :
    PSs (cxOf CX0 P w K mg base n_compared "compared" (defScope s_compared) f cdv A outer s H E).nox (defBody s_compared) (t_compared K C) :=
  (pss_cons (ps_set (i := 2) sc_compared.nd rfl (Or.inl rfl) (pe_op op_sub (pe_op op_mul (pe_ix ix_seq (pv 0) pe_int (fun _ _ => rfl)) (pe_ix ix_seq (pv 1) pe_int (fun _ _ => rfl))) (pe_op op_mul (pe_ix ix_seq (pv 1) pe_int (fun _ _ => rfl)) (pe_ix ix_seq (pv 0) pe_int (fun _ _ => rfl)))))
    (pss_cons (ps_if (pt_cmpR (op_eqD hr.units) (pv 2) pe_int (nomark _)) (pss_one (ps_ret pe_int)) pss_nil)
    (pss_one (ps_ret (pe_ifExp (pt_cmpR op_gt (pv 2) pe_int (nomark _)) pe_int (pe_un un_neg pe_int))))))
theorem ln_compared : ∀ ds Q, R_compared ds Q → ds.length = 2 := fun ds Q ⟨_, _, e, _⟩ => by rw [e]; rfl
theorem wk_compared : ∀ ds Q, R_compared ds Q → SW ⟨K, C, none⟩ (t_compared K C) (init ds 1) ⟨fun _ => Q .non, Q, fun _ => False, fun _ => False⟩ := by
  rintro _ Q ⟨f, g, rfl, ⟨f1, f2, f3, f4⟩, ⟨g1, g2, g3, g4⟩, q⟩
  unfold t_compared
  unfold cmpF at q
  refine sw_seq (sw_asg ?_)
  walk_at "go"
  refine sw_ifD (b := f.1 * g.2 - g.1 * f.2 == 0) (by walk_at "go"; rfl) (fun h => ?_) fun h => ?_
  · walk_at "go"
    rcases sgn_cases (f.1 * g.2 - g.1 * f.2) with z | z | z
    · rw [z.2] at q; exact q
    · exact absurd (by simpa using h) z.1
    · exact absurd (by simpa using h) z.1
  · walk_at "go"
    refine ew_ifD (b := decide (0 < f.1 * g.2 - g.1 * f.2)) (by walk_at "go"; rfl) (fun h2 => ?_) fun h2 => ?_
    · walk_at "go"
      rcases sgn_cases (f.1 * g.2 - g.1 * f.2) with z | z | z
      · exact absurd z.1 (by simpa using h)
      · rw [z.2.2] at q; exact q
      · exact absurd (of_decide_eq_true h2) z.2.1
    · walk_at "go"
      rcases sgn_cases (f.1 * g.2 - g.1 * f.2) with z | z | z
      · exact absurd z.1 (by simpa using h)
      · exact absurd z.2.1 (of_decide_eq_false h2)
      · rw [z.2.2] at q; exact q
theorem ok_compared (F : DefAt K mg "compared" ["one", "other"] s_compared) : Cal P w K mg base "compared" 1 ["one", "other"] (spP K C R_compared) :=
  F.okP sc_compared ln_compared (fun _ _ _ _ _ _ _ hr => bd_compared hr) wk_compared
def R_point_at (ds : List Da) (Q : Da → Prop) : Prop := ∃ x y : Int, ds = [.int x, .int y] ∧ Q (dFP ((x, 1), (y, 1)))
abbrev s_point_at : Stmt := topS 18
abbrev n_point_at : List Str := ["x", "y"]
theorem sc_point_at : FnScope n_point_at ["x", "y"] (defScope s_point_at) := ⟨rfl, rfl, rfl, by decide +kernel, rfl, by decide +kernel, by decide +kernel⟩
def t_point_at (K : PySem.W.Frag) (C : Addr) : TS :=
  (tRet (tTup (tCons (tTup (tCons (tVar 0) (tCons (tC (.int 1)) tNil))) (tCons (tTup (tCons (tVar 1) (tCons (tC (.int 1)) tNil))) tNil))))
theorem bd_point_at {f : Addr} {cdv : Value} {A : Around} {outer : List PySem.Env} {s : Shared} {H : Hp} {E : XK} (hr : Room 0 (A.deeper (envOfC "point_at" (defScope s_point_at) s.heap.objs.size f cdv))) :
    PSs (cxOf CX0 P w K mg base n_point_at "point_at" (defScope s_point_at) f cdv A outer s H E).nox (defBody s_point_at) (t_point_at K C) :=
  (pss_one (ps_ret (pe_tup (pa_cons (pe_tup (pa_cons (pv 0) (pa_cons pe_int pa_nil))) (pa_cons (pe_tup (pa_cons (pv 1) (pa_cons pe_int pa_nil))) pa_nil)))))
theorem ln_point_at : ∀ ds Q, R_point_at ds Q → ds.length = 2 := fun ds Q ⟨_, _, e, _⟩ => by rw [e]; rfl
theorem wk_point_at : ∀ ds Q, R_point_at ds Q → SW ⟨K, C, none⟩ (t_point_at K C) (init ds 0) ⟨fun _ => Q .non, Q, fun _ => False, fun _ => False⟩ := by
  rintro _ Q ⟨x, y, rfl, q⟩
  unfold t_point_at
  walk_at "go"
  exact q
theorem ok_point_at (F : DefAt K mg "point_at" ["x", "y"] s_point_at) : Cal P w K mg base "point_at" 1 ["x", "y"] (spP K C R_point_at) :=
  F.okP sc_point_at ln_point_at (fun _ _ _ _ _ _ _ hr => bd_point_at hr) wk_point_at
def R_whole_area (ds : List Da) (Q : Da → Prop) : Prop := ∃ a b c : Pt, ds = [dP a, dP b, dP c] ∧ Sm a ∧ Sm b ∧ Sm c ∧ Q (.int (area a b c))
abbrev s_whole_area : Stmt := topS 19
abbrev n_whole_area : List Str := ["a", "b", "c"]
theorem sc_whole_area : FnScope n_whole_area ["a", "b", "c"] (defScope s_whole_area) := ⟨rfl, rfl, rfl, by decide +kernel, rfl, by decide +kernel, by decide +kernel⟩
def t_whole_area (K : PySem.W.Frag) (C : Addr) : TS :=
  (tRet (tOp (rI0 fun i j => .int (i - j)) (tOp (rI CMul fun i j => .int (i * j)) (tOp (rI0 fun i j => .int (i - j)) (tOp (rIx K) (tVar 1) (tC (.int 0))) (tOp (rIx K) (tVar 0) (tC (.int 0)))) (tOp (rI0 fun i j => .int (i - j)) (tOp (rIx K) (tVar 2) (tC (.int 1))) (tOp (rIx K) (tVar 0) (tC (.int 1))))) (tOp (rI CMul fun i j => .int (i * j)) (tOp (rI0 fun i j => .int (i - j)) (tOp (rIx K) (tVar 1) (tC (.int 1))) (tOp (rIx K) (tVar 0) (tC (.int 1)))) (tOp (rI0 fun i j => .int (i - j)) (tOp (rIx K) (tVar 2) (tC (.int 0))) (tOp (rIx K) (tVar 0) (tC (.int 0)))))))
theorem bd_whole_area {f : Addr} {cdv : Value} {A : Around} {outer : List PySem.Env} {s : Shared} {H : Hp} {E : XK} (hr : Room 0 (A.deeper (envOfC "whole_area" (defScope s_whole_area) s.heap.objs.size f cdv))) :
    PSs (cxOf CX0 P w K mg base n_whole_area "whole_area" (defScope s_whole_area) f cdv A outer s H E).nox (defBody s_whole_area) (t_whole_area K C) :=
  (pss_one (ps_ret (pe_op op_sub (pe_op op_mul (pe_op op_sub (pe_ix ix_seq (pv 1) pe_int (fun _ _ => rfl)) (pe_ix ix_seq (pv 0) pe_int (fun _ _ => rfl))) (pe_op op_sub (pe_ix ix_seq (pv 2) pe_int (fun _ _ => rfl)) (pe_ix ix_seq (pv 0) pe_int (fun _ _ => rfl)))) (pe_op op_mul (pe_op op_sub (pe_ix ix_seq (pv 1) pe_int (fun _ _ => rfl)) (pe_ix ix_seq (pv 0) pe_int (fun _ _ => rfl))) (pe_op op_sub (pe_ix ix_seq (pv 2) pe_int (fun _ _ => rfl)) (pe_ix ix_seq (pv 0) pe_int (fun _ _ => rfl)))))))
theorem ln_whole_area : ∀ ds Q, R_whole_area ds Q → ds.length = 3 := fun ds Q ⟨_, _, _, e, _⟩ => by rw [e]; rfl
theorem wk_whole_area : ∀ ds Q, R_whole_area ds Q → SW ⟨K, C, none⟩ (t_whole_area K C) (init ds 0) ⟨fun _ => Q .non, Q, fun _ => False, fun _ => False⟩ := by
  rintro _ Q ⟨a, b, c, rfl, ⟨a1, a2, a3, a4⟩, ⟨b1, b2, b3, b4⟩, ⟨c1, c2, c3, c4⟩, q⟩
  unfold t_whole_area
  walk_at "go"
  exact q
theorem ok_whole_area (F : DefAt K mg "whole_area" ["a", "b", "c"] s_whole_area) : Cal P w K mg base "whole_area" 1 ["a", "b", "c"] (spP K C R_whole_area) :=
  F.okP sc_whole_area ln_whole_area (fun _ _ _ _ _ _ _ hr => bd_whole_area hr) wk_whole_area
def R_whole_turn (ds : List Da) (Q : Da → Prop) : Prop := ∃ a b c : Pt, ds = [dP a, dP b, dP c] ∧ Sm a ∧ Sm b ∧ Sm c ∧ Q (.int (sgn (area a b c)))
abbrev s_whole_turn : Stmt := topS 20
abbrev n_whole_turn : List Str := ["a", "b", "c", "area"]
theorem sc_whole_turn : FnScope n_whole_turn ["a", "b", "c"] (defScope s_whole_turn) := ⟨rfl, rfl, rfl, by decide +kernel, rfl, by decide +kernel, by decide +kernel⟩
def t_whole_turn (K : PySem.W.Frag) (C : Addr) : TS :=
  (tSeq (tAsg (tCall (spP K C R_whole_area) [] E0 (tCons (tVar 0) (tCons (tVar 1) (tCons (tVar 2) tNil)))) (gName 3))
    (tSeq (tIfS (tTest (tOp (rEqD K) (tVar 3) (tC (.int 0)))) (tRet (tC (.int 0))) tNext)
    (tRet (tIf (tTest (tOp (rI0 fun i j => .bl (decide (j < i))) (tVar 3) (tC (.int 0)))) (tC (.int 1)) (tUn (rU fun i => .int (-i)) (tC (.int 1)))))))
theorem bd_whole_turn (c_whole_area : Cal P w K mg base "whole_area" 1 ["a", "b", "c"] (spP K C R_whole_area)) {f : Addr} {cdv : Value} {A : Around} {outer : List PySem.Env} {s : Shared} {H : Hp} {E : XK} (hr : Room 1 (A.deeper (envOfC "whole_turn" (defScope s_whole_turn) s.heap.objs.size f cdv))) :
    PSs (cxOf CX0 P w K mg base n_whole_turn "whole_turn" (defScope s_whole_turn) f cdv A outer s H E).nox (defBody s_whole_turn) (t_whole_turn K C) :=
  (pss_cons (ps_set (i := 3) sc_whole_turn.nd rfl (Or.inl rfl) (pe_callC c_whole_area (hr.mono (by decide)) (by rfl) (pa_cons (pv 0) (pa_cons (pv 1) (pa_cons (pv 2) pa_nil)))))
    (pss_cons (ps_if (pt_cmpR (op_eqD hr.units) (pv 3) pe_int (nomark _)) (pss_one (ps_ret pe_int)) pss_nil)
    (pss_one (ps_ret (pe_ifExp (pt_cmpR op_gt (pv 3) pe_int (nomark _)) pe_int (pe_un un_neg pe_int))))))
theorem ln_whole_turn : ∀ ds Q, R_whole_turn ds Q → ds.length = 3 := fun ds Q ⟨_, _, _, e, _⟩ => by rw [e]; rfl
theorem wk_whole_turn : ∀ ds Q, R_whole_turn ds Q → SW ⟨K, C, none⟩ (t_whole_turn K C) (init ds 1) ⟨fun _ => Q .non, Q, fun _ => False, fun _ => False⟩ := by
  rintro _ Q ⟨a, b, c, rfl, ha, hb, hc, q⟩
  unfold t_whole_turn
  refine sw_seq (sw_asg ?_)
  walk_at "go"
  refine ⟨a, b, c, rfl, ha, hb, hc, ?_⟩
  walk_at "go"
  refine sw_ifD (b := area a b c == 0) (by walk_at "go"; rfl) (fun h => ?_) fun h => ?_
  · walk_at "go"
    rcases sgn_cases (area a b c) with z | z | z
    · rw [z.2] at q; exact q
    · exact absurd (by simpa using h) z.1
    · exact absurd (by simpa using h) z.1
  · walk_at "go"
    refine ew_ifD (b := decide (0 < area a b c)) (by walk_at "go"; rfl) (fun h2 => ?_) fun h2 => ?_
    · walk_at "go"
      rcases sgn_cases (area a b c) with z | z | z
      · exact absurd z.1 (by simpa using h)
      · rw [z.2.2] at q; exact q
      · exact absurd (of_decide_eq_true h2) z.2.1
    · walk_at "go"
      rcases sgn_cases (area a b c) with z | z | z
      · exact absurd z.1 (by simpa using h)
      · exact absurd z.2.1 (of_decide_eq_false h2)
      · rw [z.2.2] at q; exact q
theorem ok_whole_turn (c_whole_area : Cal P w K mg base "whole_area" 1 ["a", "b", "c"] (spP K C R_whole_area)) (F : DefAt K mg "whole_turn" ["a", "b", "c"] s_whole_turn) : Cal P w K mg base "whole_turn" 2 ["a", "b", "c"] (spP K C R_whole_turn) :=
  F.okP sc_whole_turn ln_whole_turn (fun _ _ _ _ _ _ _ hr => bd_whole_turn c_whole_area hr) wk_whole_turn
def R_whole_on (ds : List Da) (Q : Da → Prop) : Prop := ∃ a b c : Pt, ds = [dP a, dP b, dP c] ∧ Sm a ∧ Sm b ∧ Sm c ∧ Q (.bl (wOn a b c))
abbrev s_whole_on : Stmt := topS 21
abbrev n_whole_on : List Str := ["a", "b", "p"]
theorem sc_whole_on : FnScope n_whole_on ["a", "b", "p"] (defScope s_whole_on) := ⟨rfl, rfl, rfl, by decide +kernel, rfl, by decide +kernel, by decide +kernel⟩
def t_whole_on (K : PySem.W.Frag) (C : Addr) : TS :=
  (tSeq (tIfS (tTest (tOp (rNeD K) (tCall (spP K C R_whole_area) [] E0 (tCons (tVar 0) (tCons (tVar 1) (tCons (tVar 2) tNil)))) (tC (.int 0)))) (tRet (tC (.bl false))) tNext)
    (tRet (tOp (rI0 fun i j => .bl (decide (i ≤ j))) (tOp (rPlus K) (tOp (rI CMul fun i j => .int (i * j)) (tOp (rI0 fun i j => .int (i - j)) (tOp (rIx K) (tVar 0) (tC (.int 0))) (tOp (rIx K) (tVar 2) (tC (.int 0)))) (tOp (rI0 fun i j => .int (i - j)) (tOp (rIx K) (tVar 1) (tC (.int 0))) (tOp (rIx K) (tVar 2) (tC (.int 0))))) (tOp (rI CMul fun i j => .int (i * j)) (tOp (rI0 fun i j => .int (i - j)) (tOp (rIx K) (tVar 0) (tC (.int 1))) (tOp (rIx K) (tVar 2) (tC (.int 1)))) (tOp (rI0 fun i j => .int (i - j)) (tOp (rIx K) (tVar 1) (tC (.int 1))) (tOp (rIx K) (tVar 2) (tC (.int 1)))))) (tC (.int 0)))))
theorem bd_whole_on (c_whole_area : Cal P w K mg base "whole_area" 1 ["a", "b", "c"] (spP K C R_whole_area)) {f : Addr} {cdv : Value} {A : Around} {outer : List PySem.Env} {s : Shared} {H : Hp} {E : XK} (hr : Room 1 (A.deeper (envOfC "whole_on" (defScope s_whole_on) s.heap.objs.size f cdv))) :
    PSs (cxOf CX0 P w K mg base n_whole_on "whole_on" (defScope s_whole_on) f cdv A outer s H E).nox (defBody s_whole_on) (t_whole_on K C) :=
  (pss_cons (ps_if (pt_cmpR (op_neD hr.units) (pe_callC c_whole_area (hr.mono (by decide)) (by rfl) (pa_cons (pv 0) (pa_cons (pv 1) (pa_cons (pv 2) pa_nil)))) pe_int (nomark _)) (pss_one (ps_ret pe_bl)) pss_nil)
    (pss_one (ps_ret (pe_cmpR op_le (pe_op op_plus (pe_op op_mul (pe_op op_sub (pe_ix ix_seq (pv 0) pe_int (fun _ _ => rfl)) (pe_ix ix_seq (pv 2) pe_int (fun _ _ => rfl))) (pe_op op_sub (pe_ix ix_seq (pv 1) pe_int (fun _ _ => rfl)) (pe_ix ix_seq (pv 2) pe_int (fun _ _ => rfl)))) (pe_op op_mul (pe_op op_sub (pe_ix ix_seq (pv 0) pe_int (fun _ _ => rfl)) (pe_ix ix_seq (pv 2) pe_int (fun _ _ => rfl))) (pe_op op_sub (pe_ix ix_seq (pv 1) pe_int (fun _ _ => rfl)) (pe_ix ix_seq (pv 2) pe_int (fun _ _ => rfl))))) pe_int (nomark _)))))
theorem ln_whole_on : ∀ ds Q, R_whole_on ds Q → ds.length = 3 := fun ds Q ⟨_, _, _, e, _⟩ => by rw [e]; rfl
theorem wk_whole_on : ∀ ds Q, R_whole_on ds Q → SW ⟨K, C, none⟩ (t_whole_on K C) (init ds 0) ⟨fun _ => Q .non, Q, fun _ => False, fun _ => False⟩ := by
  rintro _ Q ⟨a, b, c, rfl, ha, hb, hc, q⟩
  unfold wOn at q
  unfold t_whole_on
  refine sw_seq (sw_ifD (b := !(area a b c == 0)) ?_ (fun h => ?_) fun h => sw_next ?_)
  · walk_at "go"
    refine ⟨a, b, c, rfl, ha, hb, hc, ?_⟩
    walk_at "go"
    rfl
  · walk_at "go"
    rw [decide_eq_false (by simpa using h)] at q
    exact q
  · rw [decide_eq_true (by simpa using h)] at q
    obtain ⟨a1, a2, a3, a4⟩ := ha
    obtain ⟨b1, b2, b3, b4⟩ := hb
    obtain ⟨c1, c2, c3, c4⟩ := hc
    walk_at "go"
    exact q
theorem ok_whole_on (c_whole_area : Cal P w K mg base "whole_area" 1 ["a", "b", "c"] (spP K C R_whole_area)) (F : DefAt K mg "whole_on" ["a", "b", "p"] s_whole_on) : Cal P w K mg base "whole_on" 2 ["a", "b", "p"] (spP K C R_whole_on) :=
  F.okP sc_whole_on ln_whole_on (fun _ _ _ _ _ _ _ hr => bd_whole_on c_whole_area hr) wk_whole_on
def R_whole_crosses (ds : List Da) (Q : Da → Prop) : Prop := ∃ a b c d : Pt, ds = [dP a, dP b, dP c, dP d] ∧ Sm a ∧ Sm b ∧ Sm c ∧ Sm d ∧ Q (.bl (wCr a b c d))
abbrev s_whole_crosses : Stmt := topS 22
abbrev n_whole_crosses : List Str := ["a", "b", "c", "d"]
theorem sc_whole_crosses : FnScope n_whole_crosses ["a", "b", "c", "d"] (defScope s_whole_crosses) := ⟨rfl, rfl, rfl, by decide +kernel, rfl, by decide +kernel, by decide +kernel⟩
def t_whole_crosses (K : PySem.W.Frag) (C : Addr) : TS :=
  (tSeq (tIfS (tTest (tOp (rI0 fun i j => .bl (decide (j ≤ i))) (tOp (rI CMul fun i j => .int (i * j)) (tCall (spP K C R_whole_turn) [] E0 (tCons (tVar 0) (tCons (tVar 1) (tCons (tVar 2) tNil)))) (tCall (spP K C R_whole_turn) [] E0 (tCons (tVar 0) (tCons (tVar 1) (tCons (tVar 3) tNil))))) (tC (.int 0)))) (tRet (tC (.bl false))) tNext)
    (tRet (tOp (rI0 fun i j => .bl (decide (i < j))) (tOp (rI CMul fun i j => .int (i * j)) (tCall (spP K C R_whole_turn) [] E0 (tCons (tVar 2) (tCons (tVar 3) (tCons (tVar 0) tNil)))) (tCall (spP K C R_whole_turn) [] E0 (tCons (tVar 2) (tCons (tVar 3) (tCons (tVar 1) tNil))))) (tC (.int 0)))))
theorem bd_whole_crosses (c_whole_turn : Cal P w K mg base "whole_turn" 2 ["a", "b", "c"] (spP K C R_whole_turn)) {f : Addr} {cdv : Value} {A : Around} {outer : List PySem.Env} {s : Shared} {H : Hp} {E : XK} (hr : Room 2 (A.deeper (envOfC "whole_crosses" (defScope s_whole_crosses) s.heap.objs.size f cdv))) :
    PSs (cxOf CX0 P w K mg base n_whole_crosses "whole_crosses" (defScope s_whole_crosses) f cdv A outer s H E).nox (defBody s_whole_crosses) (t_whole_crosses K C) :=
  (pss_cons (ps_if (pt_cmpR op_ge (pe_op op_mul (pe_callC c_whole_turn (hr.mono (by decide)) (by rfl) (pa_cons (pv 0) (pa_cons (pv 1) (pa_cons (pv 2) pa_nil)))) (pe_callC c_whole_turn (hr.mono (by decide)) (by rfl) (pa_cons (pv 0) (pa_cons (pv 1) (pa_cons (pv 3) pa_nil))))) pe_int (nomark _)) (pss_one (ps_ret pe_bl)) pss_nil)
    (pss_one (ps_ret (pe_cmpR op_lt (pe_op op_mul (pe_callC c_whole_turn (hr.mono (by decide)) (by rfl) (pa_cons (pv 2) (pa_cons (pv 3) (pa_cons (pv 0) pa_nil)))) (pe_callC c_whole_turn (hr.mono (by decide)) (by rfl) (pa_cons (pv 2) (pa_cons (pv 3) (pa_cons (pv 1) pa_nil))))) pe_int (nomark _)))))
theorem ln_whole_crosses : ∀ ds Q, R_whole_crosses ds Q → ds.length = 4 := fun ds Q ⟨_, _, _, _, e, _⟩ => by rw [e]; rfl
theorem sgn_small (i : Int) : -2 < sgn i ∧ sgn i < 2 := by rcases sgn_cases i with z | z | z <;> omega
theorem wk_whole_crosses : ∀ ds Q, R_whole_crosses ds Q → SW ⟨K, C, none⟩ (t_whole_crosses K C) (init ds 0) ⟨fun _ => Q .non, Q, fun _ => False, fun _ => False⟩ := by
  rintro _ Q ⟨a, b, c, d, rfl, ha, hb, hc, hd, q⟩
  unfold wCr at q
  have s1 := sgn_small (area a b c)
  have s2 := sgn_small (area c d a)
  unfold t_whole_crosses
  refine sw_seq (sw_ifD (b := decide (0 ≤ sgn (area a b c) * sgn (area a b d))) ?_ (fun h => ?_) fun h => sw_next ?_)
  · walk_at "go"
    refine ⟨a, b, c, rfl, ha, hb, hc, ?_⟩
    walk_at "go"
    refine ⟨a, b, d, rfl, ha, hb, hd, ?_⟩
    walk_at "go"
    rfl
  · walk_at "go"
    rw [decide_eq_false (by have := of_decide_eq_true h; omega)] at q
    exact q
  · rw [decide_eq_true (by have := of_decide_eq_false h; omega)] at q
    walk_at "go"
    refine ⟨c, d, a, rfl, hc, hd, ha, ?_⟩
    walk_at "go"
    refine ⟨c, d, b, rfl, hc, hd, hb, ?_⟩
    walk_at "go"
    exact q
theorem ok_whole_crosses (c_whole_turn : Cal P w K mg base "whole_turn" 2 ["a", "b", "c"] (spP K C R_whole_turn)) (F : DefAt K mg "whole_crosses" ["a", "b", "c", "d"] s_whole_crosses) : Cal P w K mg base "whole_crosses" 3 ["a", "b", "c", "d"] (spP K C R_whole_crosses) :=
  F.okP sc_whole_crosses ln_whole_crosses (fun _ _ _ _ _ _ _ hr => bd_whole_crosses c_whole_turn hr) wk_whole_crosses
end
end G
set_option Elab.async false
set_option linter.all false
set_option maxRecDepth 100000
namespace G
open PySem PySem.Spec L2
open Evl (Ex)
open PyProof.Rows (envOfC)
local macro_rules | `(tactic| walk_at "go") => `(tactic| repeat' (first
  | ((with_reducible refine' ew_v ?h ?k ?_); (case h => exact rfl); (case k => exact rfl))
  | with_reducible refine ew_int ?_
  | with_reducible refine ew_bl ?_
  | with_reducible refine ew_str ?_
  | with_reducible refine ew_non ?_
  | with_reducible refine ew_plus ?_
  | with_reducible refine ew_sub ?_
  | with_reducible refine ew_mul ?_
  | with_reducible refine ew_mulW ?_
  | with_reducible refine ew_fdiv ?_
  | with_reducible refine ew_mod ?_
  | with_reducible refine ew_ix ?_
  | with_reducible refine ew_lt ?_
  | with_reducible refine ew_le ?_
  | with_reducible refine ew_gt ?_
  | with_reducible refine ew_ge ?_
  | with_reducible refine ew_eqD ?_
  | with_reducible refine ew_neD ?_
  | with_reducible refine ew_neg ?_
  | with_reducible refine ew_tup ?_
  | with_reducible refine ew_lst ?_
  | with_reducible refine ew_len ?_
  | with_reducible refine ew_abs ?_
  | with_reducible refine ew_int1 ?_
  | with_reducible refine ew_gcd ?_
  | with_reducible refine ew_tupOf ?_
  | with_reducible refine ew_callP ?_
  | with_reducible refine ew_callG ?_
  | with_reducible refine ew_revL ?_
  | with_reducible refine ew_slice ?_
  | with_reducible refine ow_no ?_
  | with_reducible refine ow_some ?_
  | with_reducible refine ew_notV ?_
  | with_reducible refine ew_pow ?_
  | with_reducible refine aw_nil ?_
  | with_reducible refine aw_cons ?_
  | with_reducible refine onI2_mk ?_
  | with_reducible refine onI_mk ?_
  | with_reducible refine onB_mk ?_
  | with_reducible refine onD2_mk ?_
  | with_reducible refine onDat_mk ?_
  | with_reducible refine onL_mk ?_
  | with_reducible refine onTup_mk ?_
  | with_reducible refine onSeqT_mk ?_
  | with_reducible refine onSeqL_mk ?_
  | with_reducible refine onDs_nil ?_
  | with_reducible refine onDs_cons ?_
  | with_reducible refine onGDs_mk ?_
  | with_reducible refine on1_mk ?_
  | with_reducible refine on2_mk ?_
  | with_reducible refine plus_int ?_
  | with_reducible refine sq_tup ?_
  | with_reducible refine sq_lst ?_
  | with_reducible refine cut_tup ?_
  | with_reducible refine cut_lst ?_
  | ((with_reducible refine' ix_tup ?e ?_); (case e => first | exact rfl | assumption))
  | ((with_reducible refine' ix_lst ?e ?_); (case e => first | exact rfl | assumption))
  | ((with_reducible refine' And.intro (a := CMul _ _) ?c ?_); (case c => first | (refine mulL ⟨?_, ?_⟩ <;> omega) | (refine mulR ⟨?_, ?_⟩ <;> omega)))
  | ((with_reducible refine' And.intro (a := CMulW _ _) ?c ?_); (case c => assumption))
  | ((with_reducible refine' And.intro (a := 0 < _) ?c ?_); (case c => decide))
  | ((with_reducible refine' And.intro (a := List.length _ ≤ 100000) ?c ?_); (case c => exact Nat.le_of_ble_eq_true rfl))
  | ((with_reducible refine' And.intro (a := fit _ = true) ?c ?_); (case c => first | exact rfl | assumption))
  | with_reducible refine gw_nm ?_
  | ((with_reducible refine' gw_nmI ?h ?_); (case h => decide))
  | ((with_reducible refine' gw_tp ?h ?_); (case h => exact rfl))
  | with_reducible refine gsw_cons ?_
  | with_reducible refine gsw_nil ?_
  | with_reducible refine tw_tst ?_
  | with_reducible refine tw_b ?_
  | with_reducible refine tw_not ?_
  | with_reducible refine tw_yes ?_
  | with_reducible refine sw_seq ?_
  | with_reducible refine sw_ret ?_
  | with_reducible refine sw_asg ?_
  | with_reducible refine sw_par ?_
  | ((with_reducible refine' sw_aug ?h ?_); (case h => exact rfl))
  | with_reducible refine sw_next ?_
  | with_reducible refine sw_brk ?_
  | ((with_reducible refine' ew_andD ?h ?g ?_); (case h => (walk_at "go"; exact rfl)); (case g => (intro _; walk_at "go"; exact rfl)))
  | ((with_reducible refine' ew_orD ?h ?g ?_); (case h => (walk_at "go"; exact rfl)); (case g => (intro _; walk_at "go"; exact rfl)))
  | ((with_reducible refine' tw_and2 ?h ?g ?_); (case h => (walk_at "go"; exact rfl)); (case g => (intro _; walk_at "go"; exact rfl)))
  | ((with_reducible refine' tw_or2 ?h ?g ?_); (case h => (walk_at "go"; exact rfl)); (case g => (intro _; walk_at "go"; exact rfl)))
  | ((with_reducible refine' ew_chD ?h ?g ?k ?_); (case h => (walk_at "go"; exact rfl)); (case g => (walk_at "go"; exact rfl)); (case k => (walk_at "go"; exact rfl)))
  | ((with_reducible refine' ew_isiInt ?h ?_); (case h => (walk_at "go"; exact rfl)))
  | ((with_reducible refine' ew_isiBool ?h ?_); (case h => (walk_at "go"; exact rfl)))
  | ((with_reducible refine' ew_isiTup ?h ?_); (case h => (walk_at "go"; exact rfl)))))
section
variable {P : Program} {w : World} {K : PySem.W.Frag} {mg : Str → Option Value} {base : Heap} {C : Addr}

def R_is_corner (ds : List Da) (Q : Da → Prop) : Prop := ∃ p : Pt, ds = [dP p] ∧ (-1000 ≤ p.1 ∧ p.1 ≤ 1000) ∧ (-1000 ≤ p.2 ∧ p.2 ≤ 1000) ∧ Q (.bl true)
abbrev s_is_corner : Stmt := topS 26
abbrev n_is_corner : List Str := ["value"]
theorem sc_is_corner : FnScope n_is_corner ["value"] (defScope s_is_corner) := ⟨rfl, rfl, rfl, by decide +kernel, rfl, by decide +kernel, by decide +kernel⟩
def t_is_corner (K : PySem.W.Frag) (C : Addr) : TS :=
  (tSeq (tIfS (tOr (tNot (tB (tCall (spP K C R_is_tuple_of) [] E0 (tCons (tVar 0) (tCons (tC (.int 2)) tNil))))) (tOr (tNot (tB (tCall (spP K C R_is_integer) [] E0 (tCons (tOp (rIx K) (tVar 0) (tC (.int 0))) tNil)))) (tNot (tB (tCall (spP K C R_is_integer) [] E0 (tCons (tOp (rIx K) (tVar 0) (tC (.int 1))) tNil)))))) (tRet (tC (.bl false))) tNext)
    (tRet (tAndV (tOp (rI0 fun i j => .bl (decide (i ≤ j))) (tCB rAbs (tCons (tOp (rIx K) (tVar 0) (tC (.int 0))) tNil)) (tC (.int 1000))) (tOp (rI0 fun i j => .bl (decide (i ≤ j))) (tCB rAbs (tCons (tOp (rIx K) (tVar 0) (tC (.int 1))) tNil)) (tC (.int 1000))))))
theorem bd_is_corner (c_is_tuple_of : Cal P w K mg base "is_tuple_of" 1 ["value", "size"] (spP K C R_is_tuple_of)) (c_is_integer : Cal P w K mg base "is_integer" 1 ["value"] (spP K C R_is_integer)) (m_abs : mg "abs" = none) {tk_FARTHEST : Tok} (m_FARTHEST : mg "FARTHEST" = some (.int 1000 tk_FARTHEST)) {f : Addr} {cdv : Value} {A : Around} {outer : List PySem.Env} {s : Shared} {H : Hp} {E : XK} (hr : Room 1 (A.deeper (envOfC "is_corner" (defScope s_is_corner) s.heap.objs.size f cdv))) :
    PSs (cxOf CX0 P w K mg base n_is_corner "is_corner" (defScope s_is_corner) f cdv A outer s H E).nox (defBody s_is_corner) (t_is_corner K C) :=
  (pss_cons (ps_if (PW.pt (pw_or (pt_not (pt_val (pe_callC c_is_tuple_of (hr.mono (by decide)) (by rfl) (pa_cons (pv 0) (pa_cons pe_int pa_nil))))) (pw_or (pt_not (pt_val (pe_callC c_is_integer (hr.mono (by decide)) (by rfl) (pa_cons (pe_ix ix_seq (pv 0) pe_int (fun _ _ => rfl)) pa_nil)))) (pw_or1 (pt_not (pt_val (pe_callC c_is_integer (hr.mono (by decide)) (by rfl) (pa_cons (pe_ix ix_seq (pv 0) pe_int (fun _ _ => rfl)) pa_nil)))))))) (pss_one (ps_ret pe_bl)) pss_nil)
    (pss_one (ps_ret (pe_and (pe_cmpR op_le (pe_callB call_absG (by rfl) m_abs (by decide +kernel) (pa_cons (pe_ix ix_seq (pv 0) pe_int (fun _ _ => rfl)) pa_nil)) (pe_glob rfl m_FARTHEST ⟨_, rfl⟩) (nomark _)) (pe_one (pe_cmpR op_le (pe_callB call_absG (by rfl) m_abs (by decide +kernel) (pa_cons (pe_ix ix_seq (pv 0) pe_int (fun _ _ => rfl)) pa_nil)) (pe_glob rfl m_FARTHEST ⟨_, rfl⟩) (nomark _)))))))
theorem ln_is_corner : ∀ ds Q, R_is_corner ds Q → ds.length = 1 := fun ds Q ⟨_, e, _⟩ => by rw [e]; rfl
theorem abs_le {i : Int} (h : -1000 ≤ i ∧ i ≤ 1000) : decide ((if i < 0 then -i else i) ≤ 1000) = true := decide_eq_true (by split <;> omega)
theorem wk_is_corner : ∀ ds Q, R_is_corner ds Q → SW ⟨K, C, none⟩ (t_is_corner K C) (init ds 0) ⟨fun _ => Q .non, Q, fun _ => False, fun _ => False⟩ := by
  rintro _ Q ⟨p, rfl, h1, h2, q⟩
  unfold t_is_corner
  refine sw_seq (sw_ifD (b := false) ?_ (fun z => nomatch z) fun _ => sw_next ?_)
  · refine tw_or2 (b := false) (c := false) ?_ (fun _ => tw_or2 (b := false) (c := false) ?_ (fun _ => ?_) rfl) rfl
    · walk_at "go"
      refine ⟨_, _, rfl, ?_⟩
      walk_at "go"
      rfl
    · walk_at "go"
      refine ⟨_, rfl, ?_⟩
      walk_at "go"
      rfl
    · walk_at "go"
      refine ⟨_, rfl, ?_⟩
      walk_at "go"
      rfl
  · walk_at "go"
    rw [abs_le h1, abs_le h2]
    exact q
theorem ok_is_corner (c_is_tuple_of : Cal P w K mg base "is_tuple_of" 1 ["value", "size"] (spP K C R_is_tuple_of)) (c_is_integer : Cal P w K mg base "is_integer" 1 ["value"] (spP K C R_is_integer)) (m_abs : mg "abs" = none) {tk_FARTHEST : Tok} (m_FARTHEST : mg "FARTHEST" = some (.int 1000 tk_FARTHEST)) (F : DefAt K mg "is_corner" ["value"] s_is_corner) : Cal P w K mg base "is_corner" 2 ["value"] (spP K C R_is_corner) :=
  F.okP sc_is_corner ln_is_corner (fun _ _ _ _ _ _ _ hr => bd_is_corner c_is_tuple_of c_is_integer m_abs m_FARTHEST hr) wk_is_corner
def R_ring_sides (ds : List Da) (Q : Da → Prop) : Prop := ∃ r : List Pt, ds = [dR r] ∧ r ≠ [] ∧ r.length ≤ 1000 ∧ Q (.tup ((sides r).map dS))
abbrev s_ring_sides : Stmt := topS 27
abbrev n_ring_sides : List Str := ["ring", "at"]
theorem sc_ring_sides : FnScope n_ring_sides ["ring"] (defScope s_ring_sides) := ⟨rfl, rfl, rfl, by decide +kernel, rfl, by decide +kernel, by decide +kernel⟩
def t_ring_sides (K : PySem.W.Frag) (C : Addr) : TS :=
  (tRet (tCB (rTupOf K) (tCons (tOp (rPlus K) (tLc (iRng2 (tCons (tC (.int 1)) (tCons (tCB (rLen K) (tCons (tVar 0) tNil)) tNil))) (gName 1) tYes (tTup (tCons (tOp (rIx K) (tVar 0) (tOp (rI0 fun i j => .int (i - j)) (tVar 1) (tC (.int 1)))) (tCons (tOp (rIx K) (tVar 0) (tVar 1)) tNil))) [1]) (tLst (tCons (tTup (tCons (tOp (rIx K) (tVar 0) (tUn (rU fun i => .int (-i)) (tC (.int 1)))) (tCons (tOp (rIx K) (tVar 0) (tC (.int 0))) tNil))) tNil))) tNil)))
theorem bd_ring_sides (m_len : mg "len" = none) (m_range : mg "range" = none) (m_tuple : mg "tuple" = none) {f : Addr} {cdv : Value} {A : Around} {outer : List PySem.Env} {s : Shared} {H : Hp} {E : XK} (hr : Room 0 (A.deeper (envOfC "ring_sides" (defScope s_ring_sides) s.heap.objs.size f cdv))) :
    PSs (cxOf CX0 P w K mg base n_ring_sides "ring_sides" (defScope s_ring_sides) f cdv A outer s H E).nox (defBody s_ring_sides) (t_ring_sides K C) :=
  (pss_one (ps_ret (pe_callTy call_tupG (by rfl) m_tuple (by decide +kernel) (pa_cons (pe_op op_plus (pe_lc (own := [("at", 1)]) (by rfl) sc_ring_sides.nd (pi_range2 (by rfl) m_range (pa_cons pe_int (pa_cons (pe_callB call_lenG (by rfl) m_len PySem.boot_len (pa_cons (pv 0) pa_nil)) pa_nil))) (blkOk_by (own := [("at", 1)]) (N := n_ring_sides) (sc := defScope s_ring_sides) (by decide +kernel)) (fun _ _ _ _ _ => (pg_name (i := 1) sc_ring_sides.nd rfl (Or.inl rfl))) (fun _ _ _ _ _ => pts_nil) (fun _ _ _ _ _ => (pe_tup (pa_cons (pe_ix ix_seq (pv 0) (pe_op op_sub (pv 1) pe_int) (fun _ _ => rfl)) (pa_cons (pe_ix ix_seq (pv 0) (pv 1) (fun _ _ => rfl)) pa_nil))))) (pe_lst (pa_cons (pe_tup (pa_cons (pe_ix ix_seq (pv 0) (pe_un un_neg pe_int) (fun _ _ => rfl)) (pa_cons (pe_ix ix_seq (pv 0) pe_int (fun _ _ => rfl)) pa_nil))) pa_nil))) pa_nil))))
theorem ln_ring_sides : ∀ ds Q, R_ring_sides ds Q → ds.length = 1 := fun ds Q ⟨_, e, _⟩ => by rw [e]; rfl
theorem cg_last {r : List Pt} (h : r ≠ []) : cg r (-1) = cg r ((r.length - 1 : Nat) : Int) := cg_neg 1 (by have := List.length_pos_iff.mpr h; omega)
theorem wk_ring_sides : ∀ ds Q, R_ring_sides ds Q → SW ⟨K, C, none⟩ (t_ring_sides K C) (init ds 1) ⟨fun _ => Q .non, Q, fun _ => False, fun _ => False⟩ := by
  rintro _ Q ⟨r, rfl, h0, h1, q⟩
  have hn : 0 < r.length := List.length_pos_iff.mpr h0
  unfold t_ring_sides
  refine sw_ret (ew_tupOf (aw_cons (ew_plus (ew_lcM (List.range (r.length - 1)) (fun m => .int (1 + (m : Nat))) (fun m => dS (cg r m, cg r (m + 1))) ?w ?l ?t ?p))))
  case w =>
    have e : ((r.length : Int) - 1).toNat = r.length - 1 := by omega
    rw [← e]
    refine iw_r2 ?_ ⟨by omega, by omega, by omega, by omega⟩
    walk_at "go"
    rw [List.length_map]
  case l => rw [List.length_range]; omega
  case t =>
    intro m hm
    have hm := List.mem_range.mp hm
    walk_at "go"
    refine ix_tup (atI_cg (by omega) (by omega)) ?_
    walk_at "go"
    refine ix_tup (atI_cg (by omega) (by omega)) ?_
    walk_at "go"
    rw [show (1 : Int) + m - 1 = m from by omega, show (1 : Int) + m = m + 1 from by omega]
  case p =>
    walk_at "go"
    refine ix_tup (atI_cg (by omega) (by omega)) ?_
    walk_at "go"
    refine ix_tup (atI_cg (by omega) (by omega)) ?_
    walk_at "go"
    refine plus_lst (by simp; omega) ?_
    walk_at "go"
    have e : (List.range (r.length - 1)).map (fun m : Nat => dS (cg r m, cg r (m + 1))) ++ [dS (cg r (-1), cg r 0)] = (sides r).map dS := by
      rw [sides_map, List.map_map]
      have z : r.length = (r.length - 1) + 1 := by omega
      conv => rhs; rw [z, List.range_succ, List.map_append]
      congr 1
      show [_] = [_]
      rw [cg_last h0]
      show _ = [dS (cg r ((r.length - 1 : Nat) : Int), cg r (((r.length - 1 : Nat) : Int) + 1))]
      rw [show (((r.length - 1 : Nat) : Int) + 1) = r.length from by omega, cg_len]
    rw [← e] at q
    exact q
theorem ok_ring_sides (m_len : mg "len" = none) (m_range : mg "range" = none) (m_tuple : mg "tuple" = none) (F : DefAt K mg "ring_sides" ["ring"] s_ring_sides) : Cal P w K mg base "ring_sides" 1 ["ring"] (spP K C R_ring_sides) :=
  F.okP sc_ring_sides ln_ring_sides (fun _ _ _ _ _ _ _ hr => bd_ring_sides m_len m_range m_tuple hr) wk_ring_sides
def R_sides_meet (ds : List Da) (Q : Da → Prop) : Prop := ∃ a b c d : Pt, ds = [dS (a, b), dS (c, d)] ∧ Sm a ∧ Sm b ∧ Sm c ∧ Sm d ∧ Q (.bl (sidesMeet a b c d))
abbrev s_sides_meet : Stmt := topS 28
abbrev n_sides_meet : List Str := ["one", "other", "a", "b", "c", "d"]
theorem sc_sides_meet : FnScope n_sides_meet ["one", "other"] (defScope s_sides_meet) := ⟨rfl, rfl, rfl, by decide +kernel, rfl, by decide +kernel, by decide +kernel⟩
def t_sides_meet (K : PySem.W.Frag) (C : Addr) : TS :=
  (tSeq (tAsg (tVar 0) (gTup K 2 (gCons (gName 2) (gCons (gName 3) gNil))))
    (tSeq (tAsg (tVar 1) (gTup K 2 (gCons (gName 4) (gCons (gName 5) gNil))))
    (tSeq (tIfS (tOr (tB (tCall (spP K C R_whole_crosses) [] E0 (tCons (tVar 2) (tCons (tVar 3) (tCons (tVar 4) (tCons (tVar 5) tNil)))))) (tOr (tB (tCall (spP K C R_whole_on) [] E0 (tCons (tVar 2) (tCons (tVar 3) (tCons (tVar 4) tNil))))) (tB (tCall (spP K C R_whole_on) [] E0 (tCons (tVar 2) (tCons (tVar 3) (tCons (tVar 5) tNil))))))) (tRet (tC (.bl true))) tNext)
    (tRet (tOrV (tCall (spP K C R_whole_on) [] E0 (tCons (tVar 4) (tCons (tVar 5) (tCons (tVar 2) tNil)))) (tCall (spP K C R_whole_on) [] E0 (tCons (tVar 4) (tCons (tVar 5) (tCons (tVar 3) tNil)))))))))
theorem bd_sides_meet (c_whole_crosses : Cal P w K mg base "whole_crosses" 3 ["a", "b", "c", "d"] (spP K C R_whole_crosses)) (c_whole_on : Cal P w K mg base "whole_on" 2 ["a", "b", "p"] (spP K C R_whole_on)) {f : Addr} {cdv : Value} {A : Around} {outer : List PySem.Env} {s : Shared} {H : Hp} {E : XK} (hr : Room 3 (A.deeper (envOfC "sides_meet" (defScope s_sides_meet) s.heap.objs.size f cdv))) :
    PSs (cxOf CX0 P w K mg base n_sides_meet "sides_meet" (defScope s_sides_meet) f cdv A outer s H E).nox (defBody s_sides_meet) (t_sides_meet K C) :=
  (pss_cons (ps_asg (pv 0) (pg_tup (by rfl) (pgs_cons (pg_name (i := 2) sc_sides_meet.nd rfl (Or.inl rfl)) (pgs_cons (pg_name (i := 3) sc_sides_meet.nd rfl (Or.inl rfl)) pgs_nil))))
    (pss_cons (ps_asg (pv 1) (pg_tup (by rfl) (pgs_cons (pg_name (i := 4) sc_sides_meet.nd rfl (Or.inl rfl)) (pgs_cons (pg_name (i := 5) sc_sides_meet.nd rfl (Or.inl rfl)) pgs_nil))))
    (pss_cons (ps_if (PW.pt (pw_or (pt_val (pe_callC c_whole_crosses (hr.mono (by decide)) (by rfl) (pa_cons (pv 2) (pa_cons (pv 3) (pa_cons (pv 4) (pa_cons (pv 5) pa_nil)))))) (pw_or (pt_val (pe_callC c_whole_on (hr.mono (by decide)) (by rfl) (pa_cons (pv 2) (pa_cons (pv 3) (pa_cons (pv 4) pa_nil))))) (pw_or1 (pt_val (pe_callC c_whole_on (hr.mono (by decide)) (by rfl) (pa_cons (pv 2) (pa_cons (pv 3) (pa_cons (pv 5) pa_nil))))))))) (pss_one (ps_ret pe_bl)) pss_nil)
    (pss_one (ps_ret (pe_or (pe_callC c_whole_on (hr.mono (by decide)) (by rfl) (pa_cons (pv 4) (pa_cons (pv 5) (pa_cons (pv 2) pa_nil)))) (pe_one (pe_callC c_whole_on (hr.mono (by decide)) (by rfl) (pa_cons (pv 4) (pa_cons (pv 5) (pa_cons (pv 3) pa_nil)))))))))))
theorem ln_sides_meet : ∀ ds Q, R_sides_meet ds Q → ds.length = 2 := fun ds Q ⟨_, _, _, _, e, _⟩ => by rw [e]; rfl
theorem wk_sides_meet : ∀ ds Q, R_sides_meet ds Q → SW ⟨K, C, none⟩ (t_sides_meet K C) (init ds 4) ⟨fun _ => Q .non, Q, fun _ => False, fun _ => False⟩ := by
  rintro _ Q ⟨a, b, c, d, rfl, ha, hb, hc, hd, q⟩
  unfold t_sides_meet
  unfold sidesMeet at q
  walk_at "go"
  refine sw_ifD (b := wCr a b c d || (wOn a b c || wOn a b d)) ?_ (fun h => ?_) fun h => ?_
  · refine tw_or2 ?_ (fun _ => tw_or2 ?_ (fun _ => ?_) rfl) rfl
    · walk_at "go"
      refine ⟨a, b, c, d, rfl, ha, hb, hc, hd, ?_⟩
      walk_at "go"
      rfl
    · walk_at "go"
      refine ⟨a, b, c, rfl, ha, hb, hc, ?_⟩
      walk_at "go"
      rfl
    · walk_at "go"
      refine ⟨a, b, d, rfl, ha, hb, hd, ?_⟩
      walk_at "go"
      rfl
  · walk_at "go"
    rw [← Bool.or_assoc] at h
    rw [h] at q
    exact q
  · walk_at "go"
    rw [← Bool.or_assoc] at h
    rw [h] at q
    refine ew_orD (a := wOn c d a) (c := wOn c d b) ?_ (fun _ => ?_) q
    · refine ew_callP ?_
      walk_at "go"
      refine ⟨c, d, a, rfl, hc, hd, ha, ?_⟩
      walk_at "go"
      rfl
    · refine ew_callP ?_
      walk_at "go"
      refine ⟨c, d, b, rfl, hc, hd, hb, ?_⟩
      walk_at "go"
      rfl
theorem ok_sides_meet (c_whole_crosses : Cal P w K mg base "whole_crosses" 3 ["a", "b", "c", "d"] (spP K C R_whole_crosses)) (c_whole_on : Cal P w K mg base "whole_on" 2 ["a", "b", "p"] (spP K C R_whole_on)) (F : DefAt K mg "sides_meet" ["one", "other"] s_sides_meet) : Cal P w K mg base "sides_meet" 4 ["one", "other"] (spP K C R_sides_meet) :=
  F.okP sc_sides_meet ln_sides_meet (fun _ _ _ _ _ _ _ hr => bd_sides_meet c_whole_crosses c_whole_on hr) wk_sides_meet
def R_turns_back (ds : List Da) (Q : Da → Prop) : Prop := ∃ a b c : Pt, ds = [dP a, dP b, dP c] ∧ Sm a ∧ Sm b ∧ Sm c ∧ Q (.bl (turnsBack a b c))
abbrev s_turns_back : Stmt := topS 29
abbrev n_turns_back : List Str := ["a", "b", "c"]
theorem sc_turns_back : FnScope n_turns_back ["a", "b", "c"] (defScope s_turns_back) := ⟨rfl, rfl, rfl, by decide +kernel, rfl, by decide +kernel, by decide +kernel⟩
def t_turns_back (K : PySem.W.Frag) (C : Addr) : TS :=
  (tRet (tAndV (tOp (rEqD K) (tCall (spP K C R_whole_area) [] E0 (tCons (tVar 0) (tCons (tVar 1) (tCons (tVar 2) tNil)))) (tC (.int 0))) (tNotV (tCall (spP K C R_whole_on) [] E0 (tCons (tVar 0) (tCons (tVar 2) (tCons (tVar 1) tNil)))))))
theorem bd_turns_back (c_whole_area : Cal P w K mg base "whole_area" 1 ["a", "b", "c"] (spP K C R_whole_area)) (c_whole_on : Cal P w K mg base "whole_on" 2 ["a", "b", "p"] (spP K C R_whole_on)) {f : Addr} {cdv : Value} {A : Around} {outer : List PySem.Env} {s : Shared} {H : Hp} {E : XK} (hr : Room 2 (A.deeper (envOfC "turns_back" (defScope s_turns_back) s.heap.objs.size f cdv))) :
    PSs (cxOf CX0 P w K mg base n_turns_back "turns_back" (defScope s_turns_back) f cdv A outer s H E).nox (defBody s_turns_back) (t_turns_back K C) :=
  (pss_one (ps_ret (pe_and (pe_cmpR (op_eqD hr.units) (pe_callC c_whole_area (hr.mono (by decide)) (by rfl) (pa_cons (pv 0) (pa_cons (pv 1) (pa_cons (pv 2) pa_nil)))) pe_int (nomark _)) (pe_one (pe_not (pe_callC c_whole_on (hr.mono (by decide)) (by rfl) (pa_cons (pv 0) (pa_cons (pv 2) (pa_cons (pv 1) pa_nil)))))))))
theorem ln_turns_back : ∀ ds Q, R_turns_back ds Q → ds.length = 3 := fun ds Q ⟨_, _, _, e, _⟩ => by rw [e]; rfl
theorem wk_turns_back : ∀ ds Q, R_turns_back ds Q → SW ⟨K, C, none⟩ (t_turns_back K C) (init ds 0) ⟨fun _ => Q .non, Q, fun _ => False, fun _ => False⟩ := by
  rintro _ Q ⟨a, b, c, rfl, ha, hb, hc, q⟩
  unfold t_turns_back
  unfold turnsBack at q
  refine sw_ret (ew_andD (a := decide (area a b c = 0)) (c := !wOn a c b) ?_ (fun _ => ?_) q)
  · walk_at "go"
    refine ⟨a, b, c, rfl, ha, hb, hc, ?_⟩
    walk_at "go"
    show _ = Sl.dat (.bl (decide (area a b c = 0)))
    rw [← Bool.beq_eq_decide_eq]
    rfl
  · walk_at "go"
    refine ⟨a, c, b, rfl, ha, hc, hb, ?_⟩
    walk_at "go"
    rfl
theorem ok_turns_back (c_whole_area : Cal P w K mg base "whole_area" 1 ["a", "b", "c"] (spP K C R_whole_area)) (c_whole_on : Cal P w K mg base "whole_on" 2 ["a", "b", "p"] (spP K C R_whole_on)) (F : DefAt K mg "turns_back" ["a", "b", "c"] s_turns_back) : Cal P w K mg base "turns_back" 3 ["a", "b", "c"] (spP K C R_turns_back) :=
  F.okP sc_turns_back ln_turns_back (fun _ _ _ _ _ _ _ hr => bd_turns_back c_whole_area c_whole_on hr) wk_turns_back
def R_crosses_itself (ds : List Da) (Q : Da → Prop) : Prop := ∃ r : List Pt, ds = [dR r] ∧ OkRing r ∧ Q (.bl false)
abbrev s_crosses_itself : Stmt := topS 30
abbrev n_crosses_itself : List Str := ["ring", "sides", "many", "at", "other"]
theorem sc_crosses_itself : FnScope n_crosses_itself ["ring"] (defScope s_crosses_itself) := ⟨rfl, rfl, rfl, by decide +kernel, rfl, by decide +kernel, by decide +kernel⟩
def t_crosses_itself (K : PySem.W.Frag) (C : Addr) : TS :=
  (tSeq (tPar 1 2 (tCons (tCall (spP K C R_ring_sides) [] E0 (tCons (tVar 0) tNil)) (tCons (tCB (rLen K) (tCons (tVar 0) tNil)) tNil)))
    (tSeq (tFor (iRng1 (tCons (tVar 2) tNil)) (gName 3)
    (tSeq (tIfS (tB (tCall (spP K C R_turns_back) [] E0 (tCons (tOp (rIx K) (tVar 0) (tOp (rI0 fun i j => .int (i - j)) (tVar 3) (tC (.int 2)))) (tCons (tOp (rIx K) (tVar 0) (tOp (rI0 fun i j => .int (i - j)) (tVar 3) (tC (.int 1)))) (tCons (tOp (rIx K) (tVar 0) (tVar 3)) tNil))))) (tRet (tC (.bl true))) tNext)
    (tFor (iRng2 (tCons (tOp (rPlus K) (tVar 3) (tC (.int 2))) (tCons (tVar 2) tNil))) (gName 4)
    (tIfS (tAnd (tTest (tOp (rI0 fun i j => .bl (decide (i < j))) (tOp (rI0 fun i j => .int (i - j)) (tVar 4) (tVar 3)) (tOp (rI0 fun i j => .int (i - j)) (tVar 2) (tC (.int 1))))) (tB (tCall (spP K C R_sides_meet) [] E0 (tCons (tOp (rIx K) (tVar 1) (tVar 3)) (tCons (tOp (rIx K) (tVar 1) (tVar 4)) tNil))))) (tRet (tC (.bl true))) tNext))))
    (tRet (tC (.bl false)))))
theorem bd_crosses_itself (c_ring_sides : Cal P w K mg base "ring_sides" 1 ["ring"] (spP K C R_ring_sides)) (c_turns_back : Cal P w K mg base "turns_back" 3 ["a", "b", "c"] (spP K C R_turns_back)) (c_sides_meet : Cal P w K mg base "sides_meet" 4 ["one", "other"] (spP K C R_sides_meet)) (m_len : mg "len" = none) (m_range : mg "range" = none) {f : Addr} {cdv : Value} {A : Around} {outer : List PySem.Env} {s : Shared} {H : Hp} {E : XK} (hr : Room 4 (A.deeper (envOfC "crosses_itself" (defScope s_crosses_itself) s.heap.objs.size f cdv))) :
    PSs (cxOf CX0 P w K mg base n_crosses_itself "crosses_itself" (defScope s_crosses_itself) f cdv A outer s H E).nox (defBody s_crosses_itself) (t_crosses_itself K C) :=
  (pss_cons (ps_par (i := 1) (j := 2) (by rfl) sc_crosses_itself.nd rfl rfl (by decide) rfl rfl (pa_cons (pe_callC c_ring_sides (hr.mono (by decide)) (by rfl) (pa_cons (pv 0) pa_nil)) (pa_cons (pe_callB call_lenG (by rfl) m_len PySem.boot_len (pa_cons (pv 0) pa_nil)) pa_nil)) (by rfl))
    (pss_cons (ps_for PassesOwn.never rfl (pi_range1 (by rfl) m_range (pa_cons (pv 2) pa_nil)) (pg_name (i := 3) sc_crosses_itself.nd rfl (Or.inl rfl))
    (pss_cons (ps_if (pt_val (pe_callC c_turns_back (hr.mono (by decide)) (by rfl) (pa_cons (pe_ix ix_seq (pv 0) (pe_op op_sub (pv 3) pe_int) (fun _ _ => rfl)) (pa_cons (pe_ix ix_seq (pv 0) (pe_op op_sub (pv 3) pe_int) (fun _ _ => rfl)) (pa_cons (pe_ix ix_seq (pv 0) (pv 3) (fun _ _ => rfl)) pa_nil))))) (pss_one (ps_ret pe_bl)) pss_nil)
    (pss_one (ps_for PassesOwn.never rfl (pi_range2 (by rfl) m_range (pa_cons (pe_op op_plus (pv 3) pe_int) (pa_cons (pv 2) pa_nil))) (pg_name (i := 4) sc_crosses_itself.nd rfl (Or.inl rfl))
    (pss_one (ps_if (PW.pt (pw_and (pt_cmpR op_lt (pe_op op_sub (pv 4) (pv 3)) (pe_op op_sub (pv 2) pe_int) (nomark _)) (pw_and1 (pt_val (pe_callC c_sides_meet (hr.mono (by decide)) (by rfl) (pa_cons (pe_ix ix_seq (pv 1) (pv 3) (fun _ _ => rfl)) (pa_cons (pe_ix ix_seq (pv 1) (pv 4) (fun _ _ => rfl)) pa_nil))))))) (pss_one (ps_ret pe_bl)) pss_nil))))))
    (pss_one (ps_ret pe_bl))))
theorem ln_crosses_itself : ∀ ds Q, R_crosses_itself ds Q → ds.length = 1 := fun ds Q ⟨_, e, _⟩ => by rw [e]; rfl
theorem wk_crosses_itself : ∀ ds Q, R_crosses_itself ds Q → SW ⟨K, C, none⟩ (t_crosses_itself K C) (init ds 4) ⟨fun _ => Q .non, Q, fun _ => False, fun _ => False⟩ := by
  rintro _ Q ⟨r, rfl, ok, q⟩
  have hn := ok.l3
  have hm := ok.lm
  unfold t_crosses_itself
  refine sw_seq (sw_par ?_)
  walk_at "go"
  refine ⟨r, rfl, ok.ne, by omega, ?_⟩
  walk_at "go"
  rw [List.length_map]
  refine sw_forM (List.range r.length) (fun m => .int (0 + (m : Nat))) ?w (fun _ A' => ∃ x y, A' = ⟨[.dat (dR r), .dat (.tup ((sides r).map dS)), .dat (.int r.length), x, y], none⟩) ⟨_, _, rfl⟩ ?t ?f
  case w =>
    refine iw_r1 (n := (r.length : Int)) ?_ ⟨by omega, by omega⟩
    walk_at "go"
    rfl
  case f =>
    rintro _ ⟨x, y, rfl⟩
    walk_at "go"
    exact q
  case t =>
    rintro pre m post _ hs ⟨x, y, rfl⟩
    have hm : m < r.length := List.mem_range.mp (by rw [hs]; exact List.mem_append_right _ List.mem_cons_self)
    walk_at "go"
    refine sw_ifD (b := false) ?_ (fun z => nomatch z) fun _ => sw_next ?_
    · walk_at "go"
      refine ix_tup (atI_cg (by omega) (by omega)) ?_
      walk_at "go"
      refine ix_tup (atI_cg (by omega) (by omega)) ?_
      walk_at "go"
      refine ix_tup (atI_cg (by omega) (by omega)) ?_
      walk_at "go"
      refine ⟨_, _, _, rfl, ok.smc _, ok.smc _, ok.smc _, ?_⟩
      walk_at "go"
      have e := ok.tb m hm
      rw [Int.zero_add]
      exact e
    · refine sw_forM (List.range ((r.length : Int) - (0 + (m : Int) + 2)).toNat) (fun i => .int (0 + (m : Int) + 2 + (i : Nat))) ?w2 (fun _ A' => ∃ y, A' = ⟨[.dat (dR r), .dat (.tup ((sides r).map dS)), .dat (.int r.length), .dat (.int (0 + (m : Int))), y], none⟩) ⟨_, rfl⟩ ?t2 ?f2
      case w2 =>
        refine iw_r2 ?_ ⟨by omega, by omega, by omega, by omega⟩
        walk_at "go"
        rfl
      case f2 =>
        rintro _ ⟨y, rfl⟩
        exact ⟨_, _, rfl⟩
      case t2 =>
        rintro pre2 i post2 _ hs2 ⟨y, rfl⟩
        have hi : i < ((r.length : Int) - (0 + (m : Int) + 2)).toNat := List.mem_range.mp (by rw [hs2]; exact List.mem_append_right _ List.mem_cons_self)
        walk_at "go"
        refine sw_ifD (b := false) ?_ (fun z => nomatch z) fun _ => sw_next ?_
        · refine tw_and2 (b := decide (0 + (m : Int) + 2 + i - (0 + m) < r.length - 1)) (c := false) ?_ (fun hb => ?_) (by rw [Bool.and_false])
          · walk_at "go"
            rfl
          · have hb := of_decide_eq_true hb
            walk_at "go"
            have e1 : atI ((sides r).map dS) (0 + (m : Int)) = some (dS (cg r m, cg r (m + 1))) := by
              rw [Int.zero_add]; exact atI_sides hm
            refine ix_tup e1 ?_
            walk_at "go"
            have e2 : atI ((sides r).map dS) (0 + (m : Int) + 2 + i) = some (dS (cg r ((m + 2 + i : Nat) : Int), cg r (((m + 2 + i : Nat) : Int) + 1))) := by
              rw [show (0 + (m : Int) + 2 + i) = ((m + 2 + i : Nat) : Int) from by omega]
              exact atI_sides (by omega)
            refine ix_tup e2 ?_
            walk_at "go"
            refine ⟨_, _, _, _, rfl, ok.smc _, ok.smc _, ok.smc _, ok.smc _, ?_⟩
            walk_at "go"
            exact ok.ap m (m + 2 + i) (by omega) (by omega) (by omega)
        · exact ⟨_, rfl⟩
theorem ok_crosses_itself (c_ring_sides : Cal P w K mg base "ring_sides" 1 ["ring"] (spP K C R_ring_sides)) (c_turns_back : Cal P w K mg base "turns_back" 3 ["a", "b", "c"] (spP K C R_turns_back)) (c_sides_meet : Cal P w K mg base "sides_meet" 4 ["one", "other"] (spP K C R_sides_meet)) (m_len : mg "len" = none) (m_range : mg "range" = none) (F : DefAt K mg "crosses_itself" ["ring"] s_crosses_itself) : Cal P w K mg base "crosses_itself" 5 ["ring"] (spP K C R_crosses_itself) :=
  F.okP sc_crosses_itself ln_crosses_itself (fun _ _ _ _ _ _ _ hr => bd_crosses_itself c_ring_sides c_turns_back c_sides_meet m_len m_range hr) wk_crosses_itself
end
end G
set_option Elab.async false
set_option linter.all false
set_option maxRecDepth 100000
namespace G
open PySem PySem.Spec L2
open Evl (Ex)
open PyProof.Rows (envOfC)
local macro_rules | `(tactic| walk_at "go") => `(tactic| repeat' (first
  | ((with_reducible refine' ew_v ?h ?k ?_); (case h => exact rfl); (case k => exact rfl))
  | with_reducible refine ew_int ?_
  | with_reducible refine ew_bl ?_
  | with_reducible refine ew_str ?_
  | with_reducible refine ew_non ?_
  | with_reducible refine ew_plus ?_
  | with_reducible refine ew_sub ?_
  | with_reducible refine ew_mul ?_
  | with_reducible refine ew_mulW ?_
  | with_reducible refine ew_fdiv ?_
  | with_reducible refine ew_mod ?_
  | with_reducible refine ew_ix ?_
  | with_reducible refine ew_lt ?_
  | with_reducible refine ew_le ?_
  | with_reducible refine ew_gt ?_
  | with_reducible refine ew_ge ?_
  | with_reducible refine ew_eqD ?_
  | with_reducible refine ew_neD ?_
  | with_reducible refine ew_neg ?_
  | with_reducible refine ew_tup ?_
  | with_reducible refine ew_lst ?_
  | with_reducible refine ew_len ?_
  | with_reducible refine ew_abs ?_
  | with_reducible refine ew_int1 ?_
  | with_reducible refine ew_gcd ?_
  | with_reducible refine ew_tupOf ?_
  | with_reducible refine ew_callP ?_
  | with_reducible refine ew_callG ?_
  | with_reducible refine ew_revL ?_
  | with_reducible refine ew_slice ?_
  | with_reducible refine ow_no ?_
  | with_reducible refine ow_some ?_
  | with_reducible refine ew_notV ?_
  | with_reducible refine ew_pow ?_
  | with_reducible refine aw_nil ?_
  | with_reducible refine aw_cons ?_
  | with_reducible refine onI2_mk ?_
  | with_reducible refine onI_mk ?_
  | with_reducible refine onB_mk ?_
  | with_reducible refine onD2_mk ?_
  | with_reducible refine onDat_mk ?_
  | with_reducible refine onL_mk ?_
  | with_reducible refine onTup_mk ?_
  | with_reducible refine onSeqT_mk ?_
  | with_reducible refine onSeqL_mk ?_
  | with_reducible refine onDs_nil ?_
  | with_reducible refine onDs_cons ?_
  | with_reducible refine onGDs_mk ?_
  | with_reducible refine on1_mk ?_
  | with_reducible refine on2_mk ?_
  | with_reducible refine plus_int ?_
  | with_reducible refine sq_tup ?_
  | with_reducible refine sq_lst ?_
  | with_reducible refine cut_tup ?_
  | with_reducible refine cut_lst ?_
  | ((with_reducible refine' ix_tup ?e ?_); (case e => first | exact rfl | assumption))
  | ((with_reducible refine' ix_lst ?e ?_); (case e => first | exact rfl | assumption))
  | ((with_reducible refine' And.intro (a := CMul _ _) ?c ?_); (case c => first | (refine mulL ⟨?_, ?_⟩ <;> omega) | (refine mulR ⟨?_, ?_⟩ <;> omega)))
  | ((with_reducible refine' And.intro (a := CMulW _ _) ?c ?_); (case c => assumption))
  | ((with_reducible refine' And.intro (a := 0 < _) ?c ?_); (case c => decide))
  | ((with_reducible refine' And.intro (a := List.length _ ≤ 100000) ?c ?_); (case c => exact Nat.le_of_ble_eq_true rfl))
  | ((with_reducible refine' And.intro (a := fit _ = true) ?c ?_); (case c => first | exact rfl | assumption))
  | with_reducible refine gw_nm ?_
  | ((with_reducible refine' gw_nmI ?h ?_); (case h => decide))
  | ((with_reducible refine' gw_tp ?h ?_); (case h => exact rfl))
  | with_reducible refine gsw_cons ?_
  | with_reducible refine gsw_nil ?_
  | with_reducible refine tw_tst ?_
  | with_reducible refine tw_b ?_
  | with_reducible refine tw_not ?_
  | with_reducible refine tw_yes ?_
  | with_reducible refine sw_seq ?_
  | with_reducible refine sw_ret ?_
  | with_reducible refine sw_asg ?_
  | with_reducible refine sw_par ?_
  | ((with_reducible refine' sw_aug ?h ?_); (case h => exact rfl))
  | with_reducible refine sw_next ?_
  | with_reducible refine sw_brk ?_
  | ((with_reducible refine' ew_andD ?h ?g ?_); (case h => (walk_at "go"; exact rfl)); (case g => (intro _; walk_at "go"; exact rfl)))
  | ((with_reducible refine' ew_orD ?h ?g ?_); (case h => (walk_at "go"; exact rfl)); (case g => (intro _; walk_at "go"; exact rfl)))
  | ((with_reducible refine' tw_and2 ?h ?g ?_); (case h => (walk_at "go"; exact rfl)); (case g => (intro _; walk_at "go"; exact rfl)))
  | ((with_reducible refine' tw_or2 ?h ?g ?_); (case h => (walk_at "go"; exact rfl)); (case g => (intro _; walk_at "go"; exact rfl)))
  | ((with_reducible refine' ew_chD ?h ?g ?k ?_); (case h => (walk_at "go"; exact rfl)); (case g => (walk_at "go"; exact rfl)); (case k => (walk_at "go"; exact rfl)))
  | ((with_reducible refine' ew_isiInt ?h ?_); (case h => (walk_at "go"; exact rfl)))
  | ((with_reducible refine' ew_isiBool ?h ?_); (case h => (walk_at "go"; exact rfl)))
  | ((with_reducible refine' ew_isiTup ?h ?_); (case h => (walk_at "go"; exact rfl)))))
section
variable {P : Program} {w : World} {K : PySem.W.Frag} {mg : Str → Option Value} {base : Heap} {C : Addr}

def R_ring_fault (ds : List Da) (Q : Da → Prop) : Prop := ∃ r : List Pt, ds = [dR r] ∧ OkRing r ∧ Q .non
abbrev s_ring_fault : Stmt := topS 31
abbrev n_ring_fault : List Str := ["value", "at", "corner"]
theorem sc_ring_fault : FnScope n_ring_fault ["value"] (defScope s_ring_fault) := ⟨rfl, rfl, rfl, by decide +kernel, rfl, by decide +kernel, by decide +kernel⟩
def t_ring_fault (K : PySem.W.Frag) (C : Addr) : TS :=
  (tSeq (tIfS (tOr (tNot (tB (tCB (rIsi K) (tCons (tVar 0) (tCons (tC (.ty "tuple")) tNil))))) (tTest (tOp (rI0 fun i j => .bl (decide (i < j))) (tCB (rLen K) (tCons (tVar 0) tNil)) (tC (.int 3))))) (tRet (tUn (rU fun i => .int (-i)) (tC (.int 1)))) tNext)
    (tSeq (tFor (iEnT K (tCons (tVar 0) tNil)) (gTup K 2 (gCons (gName 1) (gCons (gName 2) gNil)))
    (tIfS (tOr (tNot (tB (tCall (spP K C R_is_corner) [] E0 (tCons (tVar 2) tNil)))) (tTest (tOp (rInD2 K) (tVar 2) (tSl (rCut K) (tVar 0) tNoPart (tPart (tVar 1)))))) (tRet (tVar 1)) tNext))
    (tRet (tIf (tB (tCall (spP K C R_crosses_itself) [] E0 (tCons (tVar 0) tNil))) (tCB (rLen K) (tCons (tVar 0) tNil)) (tC .non)))))
theorem bd_ring_fault (c_is_corner : Cal P w K mg base "is_corner" 2 ["value"] (spP K C R_is_corner)) (c_crosses_itself : Cal P w K mg base "crosses_itself" 5 ["ring"] (spP K C R_crosses_itself)) (m_tuple : mg "tuple" = none) (m_isinstance : mg "isinstance" = none) (m_len : mg "len" = none) {tk_FEWEST : Tok} (m_FEWEST : mg "FEWEST" = some (.int 3 tk_FEWEST)) (m_enumerate : mg "enumerate" = none) {f : Addr} {cdv : Value} {A : Around} {outer : List PySem.Env} {s : Shared} {H : Hp} {E : XK} (hr : Room 5 (A.deeper (envOfC "ring_fault" (defScope s_ring_fault) s.heap.objs.size f cdv))) :
    PSs (cxOf CX0 P w K mg base n_ring_fault "ring_fault" (defScope s_ring_fault) f cdv A outer s H E).nox (defBody s_ring_fault) (t_ring_fault K C) :=
  (pss_cons (ps_if (PW.pt (pw_or (pt_not (pt_val (pe_callB call_isi (by rfl) m_isinstance (by decide +kernel) (pa_cons (pv 0) (pa_cons (pe_bltn (by rfl) m_tuple (by decide +kernel) rfl) pa_nil))))) (pw_or1 (pt_cmpR op_lt (pe_callB call_lenG (by rfl) m_len PySem.boot_len (pa_cons (pv 0) pa_nil)) (pe_glob rfl m_FEWEST ⟨_, rfl⟩) (nomark _))))) (pss_one (ps_ret (pe_un un_neg pe_int))) pss_nil)
    (pss_cons (ps_for PassesOwn.never rfl (pi_enumT (by rfl) m_enumerate (pa_cons (pv 0) pa_nil)) (pg_tup (by rfl) (pgs_cons (pg_name (i := 1) sc_ring_fault.nd rfl (Or.inl rfl)) (pgs_cons (pg_name (i := 2) sc_ring_fault.nd rfl (Or.inl rfl)) pgs_nil)))
    (pss_one (ps_if (PW.pt (pw_or (pt_not (pt_val (pe_callC c_is_corner (hr.mono (by decide)) (by rfl) (pa_cons (pv 2) pa_nil)))) (pw_or1 (pt_cmpR (op_inD2 (hr_in hr)) (pv 2) (pe_slice sl_cut (pv 0) po_none (po_some (pv 1))) (by rfl))))) (pss_one (ps_ret (pv 1))) pss_nil)))
    (pss_one (ps_ret (pe_ifExp (pt_val (pe_callC c_crosses_itself (hr.mono (by decide)) (by rfl) (pa_cons (pv 0) pa_nil))) (pe_callB call_lenG (by rfl) m_len PySem.boot_len (pa_cons (pv 0) pa_nil)) pe_non)))))
theorem ln_ring_fault : ∀ ds Q, R_ring_fault ds Q → ds.length = 1 := fun ds Q ⟨_, e, _⟩ => by rw [e]; rfl
theorem none_before {r : List Pt} (nd : r.Nodup) {m : Nat} (hm : m < r.length) : ((r.map dP).take m).any (fun z => PyData.eqv z.py (dP (cg r m)).py) = false := by
  rw [List.any_eq_false]
  intro z hz
  rw [← List.map_take] at hz
  obtain ⟨p, hp, rfl⟩ := List.mem_map.mp hz
  rw [eqv_pt]
  intro e
  have e := of_decide_eq_true e
  obtain ⟨i, hi, ei⟩ := List.getElem_of_mem hp
  rw [List.length_take] at hi
  rw [List.getElem_take] at ei
  have h1 : r[m]'hm = cg r m := by
    have := cg_nat hm
    rw [List.getElem?_eq_getElem hm] at this
    exact Option.some.inj this
  have him : i < m := by omega
  exact List.pairwise_iff_getElem.mp nd i m (by omega) hm him (by rw [ei, h1, e])
theorem wk_ring_fault : ∀ ds Q, R_ring_fault ds Q → SW ⟨K, C, none⟩ (t_ring_fault K C) (init ds 2) ⟨fun _ => Q .non, Q, fun _ => False, fun _ => False⟩ := by
  rintro _ Q ⟨r, rfl, ok, q⟩
  have hn := ok.l3
  have hm := ok.lm
  unfold t_ring_fault
  refine sw_seq (sw_ifD (b := false) ?_ (fun z => nomatch z) fun _ => sw_next (sw_seq ?_))
  · refine tw_or2 (b := false) (c := false) ?_ (fun _ => ?_) rfl
    · walk_at "go"
      rfl
    · walk_at "go"
      rw [List.length_map]
      exact decide_eq_false (by omega)
  refine sw_forM (List.range r.length) (fun i => .tup [.int (i : Nat), dP (r.getD i (0, 0))]) (iw_enumM r dP (0, 0) (by walk_at "go"; rfl)) (fun _ A' => ∃ x y, A' = ⟨[.dat (dR r), x, y], none⟩) ⟨_, _, rfl⟩ ?t ?f
  case f =>
    rintro _ ⟨x, y, rfl⟩
    refine sw_ret (ew_ifD (b := false) ?_ (fun z => nomatch z) fun _ => ?_)
    · walk_at "go"
      refine ⟨r, rfl, ok, ?_⟩
      walk_at "go"
      rfl
    · walk_at "go"
      exact q
  case t =>
    rintro pre m post _ hs ⟨x, y, rfl⟩
    have hm : m < r.length := List.mem_range.mp (by rw [hs]; exact List.mem_append_right _ List.mem_cons_self)
    rw [getD_cg hm]
    walk_at "go"
    refine sw_ifD (b := false) ?_ (fun z => nomatch z) fun _ => sw_next ?_
    · refine tw_or2 (b := false) (c := false) ?_ (fun _ => ?_) rfl
      · walk_at "go"
        have bd := ok.bd _ (cg_mem (m : Int) ok.ne)
        refine ⟨_, rfl, bd.1, bd.2, ?_⟩
        walk_at "go"
        rfl
      · refine tw_tst (ew_inD2 ?_)
        walk_at "go"
        refine ⟨_, .inr rfl, ?_, ?_, ?_⟩
        · rw [cut_to _ _ (by rw [List.length_map]; omega), ← List.map_take]; exact flats_pts _
        · rw [cut_to _ _ (by rw [List.length_map]; omega), ← List.map_take]; exact lays_pts _
        · rw [cut_to _ _ (by rw [List.length_map]; omega)]
          refine onB_mk ?_
          exact none_before ok.nd hm
    · exact ⟨_, _, rfl⟩
theorem ok_ring_fault (c_is_corner : Cal P w K mg base "is_corner" 2 ["value"] (spP K C R_is_corner)) (c_crosses_itself : Cal P w K mg base "crosses_itself" 5 ["ring"] (spP K C R_crosses_itself)) (m_tuple : mg "tuple" = none) (m_isinstance : mg "isinstance" = none) (m_len : mg "len" = none) {tk_FEWEST : Tok} (m_FEWEST : mg "FEWEST" = some (.int 3 tk_FEWEST)) (m_enumerate : mg "enumerate" = none) (F : DefAt K mg "ring_fault" ["value"] s_ring_fault) : Cal P w K mg base "ring_fault" 6 ["value"] (spP K C R_ring_fault) :=
  F.okP sc_ring_fault ln_ring_fault (fun _ _ _ _ _ _ _ hr => bd_ring_fault c_is_corner c_crosses_itself m_tuple m_isinstance m_len m_FEWEST m_enumerate hr) wk_ring_fault
def R_need_ring (ds : List Da) (Q : Da → Prop) : Prop := ∃ r : List Pt, ds = [dR r] ∧ OkRing r ∧ Q .non
abbrev s_need_ring : Stmt := topS 32
abbrev n_need_ring : List Str := ["value", "at"]
theorem sc_need_ring : FnScope n_need_ring ["value"] (defScope s_need_ring) := ⟨rfl, rfl, rfl, by decide +kernel, rfl, by decide +kernel, by decide +kernel⟩
def t_need_ring (K : PySem.W.Frag) (C : Addr) : TS :=
  (tSeq (tAsg (tCall (spP K C R_ring_fault) [] E0 (tCons (tVar 0) tNil)) (gName 1))
    (tIfS (tTest (tOp rNotNn (tVar 1) (tC .non))) tNever tNext))
theorem bd_need_ring (c_ring_fault : Cal P w K mg base "ring_fault" 6 ["value"] (spP K C R_ring_fault)) {f : Addr} {cdv : Value} {A : Around} {outer : List PySem.Env} {s : Shared} {H : Hp} {E : XK} (hr : Room 6 (A.deeper (envOfC "need_ring" (defScope s_need_ring) s.heap.objs.size f cdv))) :
    PSs (cxOf CX0 P w K mg base n_need_ring "need_ring" (defScope s_need_ring) f cdv A outer s H E).nox (defBody s_need_ring) (t_need_ring K C) :=
  (pss_cons (ps_set (i := 1) sc_need_ring.nd rfl (Or.inl rfl) (pe_callC c_ring_fault (hr.mono (by decide)) (by rfl) (pa_cons (pv 0) pa_nil)))
    (pss_one (ps_if (pt_cmpR op_notNn (pv 1) pe_non (nomark _)) (pss_one ps_never) pss_nil)))
theorem ln_need_ring : ∀ ds Q, R_need_ring ds Q → ds.length = 1 := fun ds Q ⟨_, e, _⟩ => by rw [e]; rfl
theorem wk_need_ring : ∀ ds Q, R_need_ring ds Q → SW ⟨K, C, none⟩ (t_need_ring K C) (init ds 1) ⟨fun _ => Q .non, Q, fun _ => False, fun _ => False⟩ := by
  rintro _ Q ⟨r, rfl, ok, q⟩
  unfold t_need_ring
  refine sw_seq (sw_asg ?_)
  walk_at "go"
  refine ⟨r, rfl, ok, ?_⟩
  walk_at "go"
  refine sw_ifD (b := false) ?_ (fun z => nomatch z) fun _ => sw_next q
  refine tw_tst (ew_notN ?_)
  walk_at "go"
  rfl
theorem ok_need_ring (c_ring_fault : Cal P w K mg base "ring_fault" 6 ["value"] (spP K C R_ring_fault)) (F : DefAt K mg "need_ring" ["value"] s_need_ring) : Cal P w K mg base "need_ring" 7 ["value"] (spP K C R_need_ring) :=
  F.okP sc_need_ring ln_need_ring (fun _ _ _ _ _ _ _ hr => bd_need_ring c_ring_fault hr) wk_need_ring
def R_is_ring (ds : List Da) (Q : Da → Prop) : Prop := ∃ r : List Pt, ds = [dR r] ∧ OkRing r ∧ Q (.bl true)
abbrev s_is_ring : Stmt := topS 33
abbrev n_is_ring : List Str := ["value"]
theorem sc_is_ring : FnScope n_is_ring ["value"] (defScope s_is_ring) := ⟨rfl, rfl, rfl, by decide +kernel, rfl, by decide +kernel, by decide +kernel⟩
def t_is_ring (K : PySem.W.Frag) (C : Addr) : TS :=
  (tRet (tOp rIsNn (tCall (spP K C R_ring_fault) [] E0 (tCons (tVar 0) tNil)) (tC .non)))
theorem bd_is_ring (c_ring_fault : Cal P w K mg base "ring_fault" 6 ["value"] (spP K C R_ring_fault)) {f : Addr} {cdv : Value} {A : Around} {outer : List PySem.Env} {s : Shared} {H : Hp} {E : XK} (hr : Room 6 (A.deeper (envOfC "is_ring" (defScope s_is_ring) s.heap.objs.size f cdv))) :
    PSs (cxOf CX0 P w K mg base n_is_ring "is_ring" (defScope s_is_ring) f cdv A outer s H E).nox (defBody s_is_ring) (t_is_ring K C) :=
  (pss_one (ps_ret (pe_cmpR op_isNn (pe_callC c_ring_fault (hr.mono (by decide)) (by rfl) (pa_cons (pv 0) pa_nil)) pe_non (nomark _))))
theorem ln_is_ring : ∀ ds Q, R_is_ring ds Q → ds.length = 1 := fun ds Q ⟨_, e, _⟩ => by rw [e]; rfl
theorem wk_is_ring : ∀ ds Q, R_is_ring ds Q → SW ⟨K, C, none⟩ (t_is_ring K C) (init ds 0) ⟨fun _ => Q .non, Q, fun _ => False, fun _ => False⟩ := by
  rintro _ Q ⟨r, rfl, ok, q⟩
  unfold t_is_ring
  refine sw_ret (ew_isN ?_)
  walk_at "go"
  refine ⟨r, rfl, ok, ?_⟩
  walk_at "go"
  exact q
theorem ok_is_ring (c_ring_fault : Cal P w K mg base "ring_fault" 6 ["value"] (spP K C R_ring_fault)) (F : DefAt K mg "is_ring" ["value"] s_is_ring) : Cal P w K mg base "is_ring" 7 ["value"] (spP K C R_is_ring) :=
  F.okP sc_is_ring ln_is_ring (fun _ _ _ _ _ _ _ hr => bd_is_ring c_ring_fault hr) wk_is_ring
def R_ring_area (ds : List Da) (Q : Da → Prop) : Prop := ∃ r : List Pt, ds = [dR r] ∧ r ≠ [] ∧ r.length ≤ 1000 ∧ (∀ p, p ∈ r → Sm p) ∧ Q (.int (ringArea r))
abbrev s_ring_area : Stmt := topS 34
abbrev n_ring_area : List Str := ["ring", "a", "b"]
theorem sc_ring_area : FnScope n_ring_area ["ring"] (defScope s_ring_area) := ⟨rfl, rfl, rfl, by decide +kernel, rfl, by decide +kernel, by decide +kernel⟩
def t_ring_area (K : PySem.W.Frag) (C : Addr) : TS :=
  (tRet (tCB (L2.rSum K) (tCons (tLc (iSeq K (tCall (spP K C R_ring_sides) [] E0 (tCons (tVar 0) tNil))) (gTup K 2 (gCons (gName 1) (gCons (gName 2) gNil))) tYes (tOp (rI0 fun i j => .int (i - j)) (tOp (rI CMul fun i j => .int (i * j)) (tOp (rIx K) (tVar 1) (tC (.int 0))) (tOp (rIx K) (tVar 2) (tC (.int 1)))) (tOp (rI CMul fun i j => .int (i * j)) (tOp (rIx K) (tVar 1) (tC (.int 1))) (tOp (rIx K) (tVar 2) (tC (.int 0))))) [1, 2]) tNil)))
theorem bd_ring_area (c_ring_sides : Cal P w K mg base "ring_sides" 1 ["ring"] (spP K C R_ring_sides)) (m_sum : mg "sum" = none) {f : Addr} {cdv : Value} {A : Around} {outer : List PySem.Env} {s : Shared} {H : Hp} {E : XK} (hr : Room 1 (A.deeper (envOfC "ring_area" (defScope s_ring_area) s.heap.objs.size f cdv))) :
    PSs (cxOf CX0 P w K mg base n_ring_area "ring_area" (defScope s_ring_area) f cdv A outer s H E).nox (defBody s_ring_area) (t_ring_area K C) :=
  (pss_one (ps_ret (pe_callB (cr_sum (by rfl)) (by rfl) m_sum (by decide +kernel) (pa_cons (pe_lc (own := [("a", 1), ("b", 2)]) (by rfl) sc_ring_area.nd (pi_seq (pe_callC c_ring_sides (hr.mono (by decide)) (by rfl) (pa_cons (pv 0) pa_nil))) (blkOk_by (own := [("a", 1), ("b", 2)]) (N := n_ring_area) (sc := defScope s_ring_area) (by decide +kernel)) (fun _ _ _ _ _ => (pg_tup (by rfl) (pgs_cons (pg_name (i := 1) sc_ring_area.nd rfl (Or.inl rfl)) (pgs_cons (pg_name (i := 2) sc_ring_area.nd rfl (Or.inl rfl)) pgs_nil)))) (fun _ _ _ _ _ => pts_nil) (fun _ _ _ _ _ => (pe_op op_sub (pe_op op_mul (pe_ix ix_seq (pv 1) pe_int (fun _ _ => rfl)) (pe_ix ix_seq (pv 2) pe_int (fun _ _ => rfl))) (pe_op op_mul (pe_ix ix_seq (pv 1) pe_int (fun _ _ => rfl)) (pe_ix ix_seq (pv 2) pe_int (fun _ _ => rfl)))))) pa_nil))))
theorem ln_ring_area : ∀ ds Q, R_ring_area ds Q → ds.length = 1 := fun ds Q ⟨_, e, _⟩ => by rw [e]; rfl
theorem wk_ring_area : ∀ ds Q, R_ring_area ds Q → SW ⟨K, C, none⟩ (t_ring_area K C) (init ds 2) ⟨fun _ => Q .non, Q, fun _ => False, fun _ => False⟩ := by
  rintro _ Q ⟨r, rfl, h0, h1, hsm, q⟩
  unfold t_ring_area
  refine sw_ret (ew_sum (aw_cons (ew_lcM (sides r) dS (fun s => .int (s.1.1 * s.2.2 - s.1.2 * s.2.1)) (iw_sqT ?w) (by rw [sides_len]; omega) ?t ?p)))
  case w =>
    walk_at "go"
    refine ⟨r, rfl, h0, h1, ?_⟩
    walk_at "go"
    rfl
  case t =>
    intro s hs
    obtain ⟨m1, m2⟩ := sides_mem1 hs
    obtain ⟨a1, a2, a3, a4⟩ := hsm _ m1
    obtain ⟨b1, b2, b3, b4⟩ := hsm _ m2
    walk_at "go"
    rfl
  case p =>
    walk_at "go"
    refine ⟨_, isInts_map _ _, ?_⟩
    exact q
theorem ok_ring_area (c_ring_sides : Cal P w K mg base "ring_sides" 1 ["ring"] (spP K C R_ring_sides)) (m_sum : mg "sum" = none) (F : DefAt K mg "ring_area" ["ring"] s_ring_area) : Cal P w K mg base "ring_area" 2 ["ring"] (spP K C R_ring_area) :=
  F.okP sc_ring_area ln_ring_area (fun _ _ _ _ _ _ _ hr => bd_ring_area c_ring_sides m_sum hr) wk_ring_area
def R_goes_round (ds : List Da) (Q : Da → Prop) : Prop := ∃ (r : List Pt) (p : Pt), ds = [dR r, dP p] ∧ r ≠ [] ∧ r.length ≤ 1000 ∧ (∀ p, p ∈ r → Sm p) ∧ Sm p ∧ Q (.bl (decide (turnsW r p ≠ 0)))
abbrev s_goes_round : Stmt := topS 35
abbrev n_goes_round : List Str := ["ring", "corner", "turns", "a", "b"]
theorem sc_goes_round : FnScope n_goes_round ["ring", "corner"] (defScope s_goes_round) := ⟨rfl, rfl, rfl, by decide +kernel, rfl, by decide +kernel, by decide +kernel⟩
def t_goes_round (K : PySem.W.Frag) (C : Addr) : TS :=
  (tSeq (tAsg (tC (.int 0)) (gName 2))
    (tSeq (tFor (iSeq K (tCall (spP K C R_ring_sides) [] E0 (tCons (tVar 0) tNil))) (gTup K 2 (gCons (gName 3) (gCons (gName 4) gNil)))
    (tSeq (tIfS (tAnd (tTest (tChain (rI0 fun i j => .bl (decide (i ≤ j))) (rI0 fun i j => .bl (decide (i < j))) (tOp (rIx K) (tVar 3) (tC (.int 1))) (tOp (rIx K) (tVar 1) (tC (.int 1))) (tOp (rIx K) (tVar 4) (tC (.int 1))))) (tTest (tOp (rI0 fun i j => .bl (decide (j < i))) (tCall (spP K C R_whole_area) [] E0 (tCons (tVar 3) (tCons (tVar 4) (tCons (tVar 1) tNil)))) (tC (.int 0))))) (tAug 2 (tC (.int 1)) (ipI fun i j => i + j)) tNext)
    (tIfS (tAnd (tTest (tChain (rI0 fun i j => .bl (decide (i ≤ j))) (rI0 fun i j => .bl (decide (i < j))) (tOp (rIx K) (tVar 4) (tC (.int 1))) (tOp (rIx K) (tVar 1) (tC (.int 1))) (tOp (rIx K) (tVar 3) (tC (.int 1))))) (tTest (tOp (rI0 fun i j => .bl (decide (i < j))) (tCall (spP K C R_whole_area) [] E0 (tCons (tVar 3) (tCons (tVar 4) (tCons (tVar 1) tNil)))) (tC (.int 0))))) (tAug 2 (tC (.int 1)) (ipI fun i j => i - j)) tNext)))
    (tRet (tOp (rNeD K) (tVar 2) (tC (.int 0))))))
theorem bd_goes_round (c_ring_sides : Cal P w K mg base "ring_sides" 1 ["ring"] (spP K C R_ring_sides)) (c_whole_area : Cal P w K mg base "whole_area" 1 ["a", "b", "c"] (spP K C R_whole_area)) {f : Addr} {cdv : Value} {A : Around} {outer : List PySem.Env} {s : Shared} {H : Hp} {E : XK} (hr : Room 1 (A.deeper (envOfC "goes_round" (defScope s_goes_round) s.heap.objs.size f cdv))) :
    PSs (cxOf CX0 P w K mg base n_goes_round "goes_round" (defScope s_goes_round) f cdv A outer s H E).nox (defBody s_goes_round) (t_goes_round K C) :=
  (pss_cons (ps_set (i := 2) sc_goes_round.nd rfl (Or.inl rfl) pe_int)
    (pss_cons (ps_for PassesOwn.never rfl (pi_seq (pe_callC c_ring_sides (hr.mono (by decide)) (by rfl) (pa_cons (pv 0) pa_nil))) (pg_tup (by rfl) (pgs_cons (pg_name (i := 3) sc_goes_round.nd rfl (Or.inl rfl)) (pgs_cons (pg_name (i := 4) sc_goes_round.nd rfl (Or.inl rfl)) pgs_nil)))
    (pss_cons (ps_if (PW.pt (pw_and (pt_chain op_le op_lt (pe_ix ix_seq (pv 3) pe_int (fun _ _ => rfl)) (pe_ix ix_seq (pv 1) pe_int (fun _ _ => rfl)) (pe_ix ix_seq (pv 4) pe_int (fun _ _ => rfl))) (pw_and1 (pt_cmpR op_gt (pe_callC c_whole_area (hr.mono (by decide)) (by rfl) (pa_cons (pv 3) (pa_cons (pv 4) (pa_cons (pv 1) pa_nil)))) pe_int (nomark _))))) (pss_one (ps_aug (i := 2) sc_goes_round.nd rfl (Or.inl rfl) pe_int ip_add)) pss_nil)
    (pss_one (ps_if (PW.pt (pw_and (pt_chain op_le op_lt (pe_ix ix_seq (pv 4) pe_int (fun _ _ => rfl)) (pe_ix ix_seq (pv 1) pe_int (fun _ _ => rfl)) (pe_ix ix_seq (pv 3) pe_int (fun _ _ => rfl))) (pw_and1 (pt_cmpR op_lt (pe_callC c_whole_area (hr.mono (by decide)) (by rfl) (pa_cons (pv 3) (pa_cons (pv 4) (pa_cons (pv 1) pa_nil)))) pe_int (nomark _))))) (pss_one (ps_aug (i := 2) sc_goes_round.nd rfl (Or.inl rfl) pe_int ip_sub)) pss_nil))))
    (pss_one (ps_ret (pe_cmpR (op_neD hr.units) (pv 2) pe_int (nomark _))))))
theorem ln_goes_round : ∀ ds Q, R_goes_round ds Q → ds.length = 2 := fun ds Q ⟨_, _, e, _⟩ => by rw [e]; rfl
def upB (a b s : Pt) : Bool := (decide (a.2 ≤ s.2) && decide (s.2 < b.2)) && decide (0 < area a b s)
def dnB (a b s : Pt) : Bool := (decide (b.2 ≤ s.2) && decide (s.2 < a.2)) && decide (area a b s < 0)
theorem past_eq (a b s : Pt) : past a b s = (if upB a b s = true then 1 else 0) - (if dnB a b s = true then 1 else 0) := by
  unfold past upB dnB
  simp only [Bool.and_eq_true, decide_eq_true_eq, and_assoc]
theorem past_add {pre : List (Pt × Pt)} {a b p : Pt} {u d : Bool} (hu : upB a b p = u) (hd : dnB a b p = d) : ((pre ++ [(a, b)]).map fun e => past e.1 e.2 p).sum = (pre.map fun e => past e.1 e.2 p).sum + ((if u = true then 1 else 0) - (if d = true then 1 else 0)) := by
  rw [List.map_append, List.sum_append]
  show _ + (past a b p + 0) = _
  rw [past_eq, hu, hd, Int.add_zero]
theorem wk_goes_round : ∀ ds Q, R_goes_round ds Q → SW ⟨K, C, none⟩ (t_goes_round K C) (init ds 3) ⟨fun _ => Q .non, Q, fun _ => False, fun _ => False⟩ := by
  rintro _ Q ⟨r, p, rfl, h0, h1, hsm, hp, q⟩
  unfold t_goes_round
  refine sw_seq (sw_asg ?_)
  walk_at "go"
  refine sw_forM (sides r) dS (iw_sqT ?w) (fun pre A' => ∃ x y T, A' = ⟨[.dat (dR r), .dat (dP p), .dat (.int T), x, y], none⟩ ∧ T = (pre.map fun e => past e.1 e.2 p).sum) ⟨_, _, _, rfl, rfl⟩ ?t ?f
  case w =>
    walk_at "go"
    refine ⟨r, rfl, h0, h1, ?_⟩
    walk_at "go"
    rfl
  case f =>
    rintro _ ⟨x, y, _, rfl, rfl⟩
    walk_at "go"
    have e : (!(((sides r).map fun e => past e.1 e.2 p).sum == 0)) = decide (turnsW r p ≠ 0) := by
      show (!(turnsW r p == 0)) = _
      rw [Bool.beq_eq_decide_eq, decide_not]
    rw [← e] at q
    exact q
  case t =>
    rintro pre ⟨a, b⟩ post _ hs ⟨x, y, _, rfl, rfl⟩
    obtain ⟨m1, m2⟩ := sides_mem1 (r := r) (s := (a, b)) (by rw [hs]; exact List.mem_append_right _ List.mem_cons_self)
    have sa := hsm _ m1
    have sb := hsm _ m2
    walk_at "go"
    refine sw_ifD (b := upB a b p) ?_ (fun hb => ?_) fun hb => sw_next ?_
    · unfold upB
      refine tw_and2 ?_ (fun _ => ?_) rfl
      · walk_at "go"
        rfl
      · walk_at "go"
        refine ⟨a, b, p, rfl, sa, sb, hp, ?_⟩
        walk_at "go"
        rfl
    · walk_at "go"
      refine sw_ifD (b := dnB a b p) ?_ (fun hd => ?_) fun hd => sw_next ?_
      · unfold dnB
        refine tw_and2 ?_ (fun _ => ?_) rfl
        · walk_at "go"
          rfl
        · walk_at "go"
          refine ⟨a, b, p, rfl, sa, sb, hp, ?_⟩
          walk_at "go"
          rfl
      · walk_at "go"
        exact ⟨_, _, _, rfl, by rw [past_add hb hd]; simp <;> omega⟩
      · exact ⟨_, _, _, rfl, by rw [past_add hb hd]; simp <;> omega⟩
    · refine sw_ifD (b := dnB a b p) ?_ (fun hd => ?_) fun hd => sw_next ?_
      · unfold dnB
        refine tw_and2 ?_ (fun _ => ?_) rfl
        · walk_at "go"
          rfl
        · walk_at "go"
          refine ⟨a, b, p, rfl, sa, sb, hp, ?_⟩
          walk_at "go"
          rfl
      · walk_at "go"
        exact ⟨_, _, _, rfl, by rw [past_add hb hd]; simp <;> omega⟩
      · exact ⟨_, _, _, rfl, by rw [past_add hb hd]; simp <;> omega⟩
theorem ok_goes_round (c_ring_sides : Cal P w K mg base "ring_sides" 1 ["ring"] (spP K C R_ring_sides)) (c_whole_area : Cal P w K mg base "whole_area" 1 ["a", "b", "c"] (spP K C R_whole_area)) (F : DefAt K mg "goes_round" ["ring", "corner"] s_goes_round) : Cal P w K mg base "goes_round" 2 ["ring", "corner"] (spP K C R_goes_round) :=
  F.okP sc_goes_round ln_goes_round (fun _ _ _ _ _ _ _ hr => bd_goes_round c_ring_sides c_whole_area hr) wk_goes_round
/-- no side of the one meets a side of the other -/
def Apart (r s : List Pt) : Prop := ∀ e f, e ∈ sides r → f ∈ sides s → sidesMeet e.1 e.2 f.1 f.2 = false
def R_rings_meet (ds : List Da) (Q : Da → Prop) : Prop := ∃ r s : List Pt, ds = [dR r, dR s] ∧ OkRing r ∧ OkRing s ∧ Apart r s ∧ Q (.bl false)
abbrev s_rings_meet : Stmt := topS 36
abbrev n_rings_meet : List Str := ["one", "other", "side", "far"]
theorem sc_rings_meet : FnScope n_rings_meet ["one", "other"] (defScope s_rings_meet) := ⟨rfl, rfl, rfl, by decide +kernel, rfl, by decide +kernel, by decide +kernel⟩
def t_rings_meet (K : PySem.W.Frag) (C : Addr) : TS :=
  (tRet (tCB (L2.rAny K) (tCons (tLc2 (iSeq K (tCall (spP K C R_ring_sides) [] E0 (tCons (tVar 0) tNil))) (gName 2) tYes (iSeq K (tCall (spP K C R_ring_sides) [] E0 (tCons (tVar 1) tNil))) (gName 3) tYes (tCall (spP K C R_sides_meet) [] E0 (tCons (tVar 2) (tCons (tVar 3) tNil))) [2, 3] [3]) tNil)))
theorem bd_rings_meet (c_ring_sides : Cal P w K mg base "ring_sides" 1 ["ring"] (spP K C R_ring_sides)) (c_sides_meet : Cal P w K mg base "sides_meet" 4 ["one", "other"] (spP K C R_sides_meet)) (m_any : mg "any" = none) {f : Addr} {cdv : Value} {A : Around} {outer : List PySem.Env} {s : Shared} {H : Hp} {E : XK} (hr : Room 4 (A.deeper (envOfC "rings_meet" (defScope s_rings_meet) s.heap.objs.size f cdv))) :
    PSs (cxOf CX0 P w K mg base n_rings_meet "rings_meet" (defScope s_rings_meet) f cdv A outer s H E).nox (defBody s_rings_meet) (t_rings_meet K C) :=
  (pss_one (ps_ret (pe_callB (cr_any (by rfl)) (by rfl) m_any (by decide +kernel) (pa_cons (pe_lc2 (own := [("side", 2), ("far", 3)]) (vs1 := [3]) (by rfl) sc_rings_meet.nd (pi_seq (pe_callC c_ring_sides (hr.mono (by decide)) (by rfl) (pa_cons (pv 0) pa_nil))) (blkOk_by (own := [("side", 2), ("far", 3)]) (N := n_rings_meet) (sc := defScope s_rings_meet) (by decide +kernel)) (by decide) (fun _ _ _ _ _ => (pg_name (i := 2) sc_rings_meet.nd rfl (Or.inl rfl))) (fun _ _ _ _ _ => pts_nil) (fun _ _ _ _ _ => (pi_seq (pe_callC c_ring_sides (hr.mono (by decide)) (by rfl) (pa_cons (pv 1) pa_nil)))) (fun _ _ _ _ _ => (pg_name (i := 3) sc_rings_meet.nd rfl (Or.inl rfl))) (fun _ _ _ _ _ => pts_nil) (fun _ _ _ _ _ => (pe_callC c_sides_meet (hr.mono (by decide)) (by rfl) (pa_cons (pv 2) (pa_cons (pv 3) pa_nil))))) pa_nil))))
theorem ln_rings_meet : ∀ ds Q, R_rings_meet ds Q → ds.length = 2 := fun ds Q ⟨_, _, e, _⟩ => by rw [e]; rfl
theorem wk_rings_meet : ∀ ds Q, R_rings_meet ds Q → SW ⟨K, C, none⟩ (t_rings_meet K C) (init ds 2) ⟨fun _ => Q .non, Q, fun _ => False, fun _ => False⟩ := by
  rintro _ Q ⟨r, s, rfl, okr, oks, ap, q⟩
  have l1 := okr.lm
  have l2 := oks.lm
  have tot : ((sides r).flatMap fun e => (sides s).map fun f => sidesMeet e.1 e.2 f.1 f.2) = List.replicate ((sides r).length * (sides s).length) false := by
    rw [List.eq_replicate_iff]
    constructor
    · rw [List.length_flatMap]
      simp only [List.length_map, List.map_const', List.sum_replicate_nat]
    · intro b hb
      obtain ⟨e, he, hb⟩ := List.mem_flatMap.mp hb
      obtain ⟨f, hf, rfl⟩ := List.mem_map.mp hb
      exact ap e f he hf
  unfold t_rings_meet
  refine sw_ret (ew_any (aw_cons (ew_lc2M (sides r) dS (fun _ => sides s) dS (fun e f => .bl (sidesMeet e.1 e.2 f.1 f.2)) (iw_sqT ?w) (by rw [sides_len]; omega) (fun _ _ => by rw [sides_len]; omega) ?l ?t ?p)))
  case w =>
    walk_at "go"
    refine ⟨r, rfl, okr.ne, by omega, ?_⟩
    walk_at "go"
    rfl
  case l =>
    rw [List.length_flatMap]
    simp only [List.length_map, List.map_const', List.sum_replicate_nat, sides_len]
    exact Nat.le_trans (Nat.mul_le_mul l1 l2) (by decide)
  case t =>
    rintro ⟨a, b⟩ he
    obtain ⟨m1, m2⟩ := sides_mem1 he
    walk_at "go"
    refine ⟨rfl, iw_sqT ?_, ?_⟩
    · walk_at "go"
      refine ⟨s, rfl, oks.ne, by omega, ?_⟩
      walk_at "go"
      rfl
    · rintro ⟨c, d⟩ hf
      obtain ⟨m3, m4⟩ := sides_mem1 hf
      walk_at "go"
      refine ⟨a, b, c, d, rfl, okr.sm m1, okr.sm m2, oks.sm m3, oks.sm m4, rfl⟩
  case p =>
    walk_at "go"
    have e : ((sides r).flatMap fun e => (sides s).map fun f => Da.bl (sidesMeet e.1 e.2 f.1 f.2)) = ((sides r).flatMap fun e => (sides s).map fun f => sidesMeet e.1 e.2 f.1 f.2).map fun b => Da.bl b := by
      rw [List.map_flatMap]
      simp only [List.map_map]
      rfl
    rw [e, tot]
    refine ⟨_, isBls_map _ _, onDat_mk ?_⟩
    simpa using q
theorem ok_rings_meet (c_ring_sides : Cal P w K mg base "ring_sides" 1 ["ring"] (spP K C R_ring_sides)) (c_sides_meet : Cal P w K mg base "sides_meet" 4 ["one", "other"] (spP K C R_sides_meet)) (m_any : mg "any" = none) (F : DefAt K mg "rings_meet" ["one", "other"] s_rings_meet) : Cal P w K mg base "rings_meet" 5 ["one", "other"] (spP K C R_rings_meet) :=
  F.okP sc_rings_meet ln_rings_meet (fun _ _ _ _ _ _ _ hr => bd_rings_meet c_ring_sides c_sides_meet m_any hr) wk_rings_meet
structure HoleOk (h o : List Pt) (ahead : List (List Pt)) : Prop where
  ok : OkRing h
  oo : OkRing o
  ar : ringArea h ≤ 0
  ap : Apart o h
  tu : turnsW o (cg h 0) ≠ 0
  ah : ∀ g, g ∈ ahead → OkRing g ∧ Apart g h ∧ turnsW g (cg h 0) = 0 ∧ turnsW h (cg g 0) = 0
def R_is_hole (ds : List Da) (Q : Da → Prop) : Prop := ∃ (h o : List Pt) (ahead : List (List Pt)), ds = [dR h, dR o, .tup (ahead.map dR)] ∧ HoleOk h o ahead ∧ Q (.bl true)
abbrev s_is_hole : Stmt := topS 37
abbrev n_is_hole : List Str := ["value", "outer", "ahead", "hole"]
theorem sc_is_hole : FnScope n_is_hole ["value", "outer", "ahead"] (defScope s_is_hole) := ⟨rfl, rfl, rfl, by decide +kernel, rfl, by decide +kernel, by decide +kernel⟩
def t_is_hole (K : PySem.W.Frag) (C : Addr) : TS :=
  (tSeq (tIfS (tOr (tNot (tB (tCall (spP K C R_is_ring) [] E0 (tCons (tVar 0) tNil)))) (tOr (tTest (tOp (rI0 fun i j => .bl (decide (j < i))) (tCall (spP K C R_ring_area) [] E0 (tCons (tVar 0) tNil)) (tC (.int 0)))) (tOr (tB (tCall (spP K C R_rings_meet) [] E0 (tCons (tVar 1) (tCons (tVar 0) tNil)))) (tNot (tB (tCall (spP K C R_goes_round) [] E0 (tCons (tVar 1) (tCons (tOp (rIx K) (tVar 0) (tC (.int 0))) tNil)))))))) (tRet (tC (.bl false))) tNext)
    (tSeq (tFor (iSeq K (tVar 2)) (gName 3)
    (tIfS (tOr (tB (tCall (spP K C R_rings_meet) [] E0 (tCons (tVar 3) (tCons (tVar 0) tNil)))) (tOr (tB (tCall (spP K C R_goes_round) [] E0 (tCons (tVar 3) (tCons (tOp (rIx K) (tVar 0) (tC (.int 0))) tNil)))) (tB (tCall (spP K C R_goes_round) [] E0 (tCons (tVar 0) (tCons (tOp (rIx K) (tVar 3) (tC (.int 0))) tNil)))))) (tRet (tC (.bl false))) tNext))
    (tRet (tC (.bl true)))))
theorem bd_is_hole (c_is_ring : Cal P w K mg base "is_ring" 7 ["value"] (spP K C R_is_ring)) (c_ring_area : Cal P w K mg base "ring_area" 2 ["ring"] (spP K C R_ring_area)) (c_rings_meet : Cal P w K mg base "rings_meet" 5 ["one", "other"] (spP K C R_rings_meet)) (c_goes_round : Cal P w K mg base "goes_round" 2 ["ring", "corner"] (spP K C R_goes_round)) {f : Addr} {cdv : Value} {A : Around} {outer : List PySem.Env} {s : Shared} {H : Hp} {E : XK} (hr : Room 7 (A.deeper (envOfC "is_hole" (defScope s_is_hole) s.heap.objs.size f cdv))) :
    PSs (cxOf CX0 P w K mg base n_is_hole "is_hole" (defScope s_is_hole) f cdv A outer s H E).nox (defBody s_is_hole) (t_is_hole K C) :=
  (pss_cons (ps_if (PW.pt (pw_or (pt_not (pt_val (pe_callC c_is_ring (hr.mono (by decide)) (by rfl) (pa_cons (pv 0) pa_nil)))) (pw_or (pt_cmpR op_gt (pe_callC c_ring_area (hr.mono (by decide)) (by rfl) (pa_cons (pv 0) pa_nil)) pe_int (nomark _)) (pw_or (pt_val (pe_callC c_rings_meet (hr.mono (by decide)) (by rfl) (pa_cons (pv 1) (pa_cons (pv 0) pa_nil)))) (pw_or1 (pt_not (pt_val (pe_callC c_goes_round (hr.mono (by decide)) (by rfl) (pa_cons (pv 1) (pa_cons (pe_ix ix_seq (pv 0) pe_int (fun _ _ => rfl)) pa_nil)))))))))) (pss_one (ps_ret pe_bl)) pss_nil)
    (pss_cons (ps_for PassesOwn.never rfl (pi_seq (pv 2)) (pg_name (i := 3) sc_is_hole.nd rfl (Or.inl rfl))
    (pss_one (ps_if (PW.pt (pw_or (pt_val (pe_callC c_rings_meet (hr.mono (by decide)) (by rfl) (pa_cons (pv 3) (pa_cons (pv 0) pa_nil)))) (pw_or (pt_val (pe_callC c_goes_round (hr.mono (by decide)) (by rfl) (pa_cons (pv 3) (pa_cons (pe_ix ix_seq (pv 0) pe_int (fun _ _ => rfl)) pa_nil)))) (pw_or1 (pt_val (pe_callC c_goes_round (hr.mono (by decide)) (by rfl) (pa_cons (pv 0) (pa_cons (pe_ix ix_seq (pv 3) pe_int (fun _ _ => rfl)) pa_nil)))))))) (pss_one (ps_ret pe_bl)) pss_nil)))
    (pss_one (ps_ret pe_bl))))
theorem ln_is_hole : ∀ ds Q, R_is_hole ds Q → ds.length = 3 := fun ds Q ⟨_, _, _, e, _⟩ => by rw [e]; rfl
theorem first_cg {r : List Pt} (h : OkRing r) : atI (r.map dP) 0 = some (dP (cg r 0)) := atI_cg (by omega) (by have := h.l3; omega)
theorem OkRing.l1000 {r : List Pt} (h : OkRing r) : r.length ≤ 1000 := Nat.le_trans h.lm (by decide)
theorem wk_is_hole : ∀ ds Q, R_is_hole ds Q → SW ⟨K, C, none⟩ (t_is_hole K C) (init ds 1) ⟨fun _ => Q .non, Q, fun _ => False, fun _ => False⟩ := by
  rintro _ Q ⟨h, o, ahead, rfl, hh, q⟩
  unfold t_is_hole
  refine sw_seq (sw_ifD (b := false) ?_ (fun z => nomatch z) fun _ => sw_next (sw_seq ?_))
  · refine tw_or2 (b := false) (c := false) ?_ (fun _ => tw_or2 (b := false) (c := false) ?_ (fun _ => tw_or2 (b := false) (c := false) ?_ (fun _ => ?_) rfl) rfl) rfl
    · walk_at "go"
      refine ⟨h, rfl, hh.ok, ?_⟩
      walk_at "go"
      rfl
    · walk_at "go"
      refine ⟨h, rfl, hh.ok.ne, hh.ok.l1000, fun p => hh.ok.sm, ?_⟩
      walk_at "go"
      exact decide_eq_false (by have := hh.ar; omega)
    · walk_at "go"
      refine ⟨o, h, rfl, hh.oo, hh.ok, hh.ap, ?_⟩
      walk_at "go"
      rfl
    · walk_at "go"
      refine ix_tup (first_cg hh.ok) ?_
      walk_at "go"
      refine ⟨o, cg h 0, rfl, hh.oo.ne, hh.oo.l1000, fun p => hh.oo.sm, hh.ok.smc 0, ?_⟩
      walk_at "go"
      rw [decide_eq_true hh.tu]
      rfl
  · refine sw_forM ahead dR (iw_sqT (by walk_at "go"; rfl)) (fun pre A' => ∃ x, A' = ⟨[.dat (dR h), .dat (dR o), .dat (.tup (ahead.map dR)), x], none⟩) ⟨_, rfl⟩ ?t ?f
    case f =>
      rintro _ ⟨x, rfl⟩
      walk_at "go"
      exact q
    case t =>
      rintro pre g post _ hs ⟨x, rfl⟩
      obtain ⟨okg, ap, t1, t2⟩ := hh.ah g (by rw [hs]; exact List.mem_append_right _ List.mem_cons_self)
      walk_at "go"
      refine sw_ifD (b := false) ?_ (fun z => nomatch z) fun _ => sw_next ⟨_, rfl⟩
      refine tw_or2 (b := false) (c := false) ?_ (fun _ => tw_or2 (b := false) (c := false) ?_ (fun _ => ?_) rfl) rfl
      · walk_at "go"
        refine ⟨g, h, rfl, okg, hh.ok, ap, ?_⟩
        walk_at "go"
        rfl
      · walk_at "go"
        refine ix_tup (first_cg hh.ok) ?_
        walk_at "go"
        refine ⟨g, cg h 0, rfl, okg.ne, okg.l1000, fun p => okg.sm, hh.ok.smc 0, ?_⟩
        walk_at "go"
        exact decide_eq_false (fun z => z t1)
      · walk_at "go"
        refine ix_tup (first_cg okg) ?_
        walk_at "go"
        refine ⟨h, cg g 0, rfl, hh.ok.ne, hh.ok.l1000, fun p => hh.ok.sm, okg.smc 0, ?_⟩
        walk_at "go"
        exact decide_eq_false (fun z => z t2)
theorem ok_is_hole (c_is_ring : Cal P w K mg base "is_ring" 7 ["value"] (spP K C R_is_ring)) (c_ring_area : Cal P w K mg base "ring_area" 2 ["ring"] (spP K C R_ring_area)) (c_rings_meet : Cal P w K mg base "rings_meet" 5 ["one", "other"] (spP K C R_rings_meet)) (c_goes_round : Cal P w K mg base "goes_round" 2 ["ring", "corner"] (spP K C R_goes_round)) (F : DefAt K mg "is_hole" ["value", "outer", "ahead"] s_is_hole) : Cal P w K mg base "is_hole" 8 ["value", "outer", "ahead"] (spP K C R_is_hole) :=
  F.okP sc_is_hole ln_is_hole (fun _ _ _ _ _ _ _ hr => bd_is_hole c_is_ring c_ring_area c_rings_meet c_goes_round hr) wk_is_hole
structure GoodPlate (o : List Pt) (hs : List (List Pt)) : Prop where
  ok : OkRing o
  ar : 0 ≤ ringArea o
  ln : hs.length ≤ 10
  ho : ∀ i, i < hs.length → HoleOk (hs.getD i []) o (hs.take i)
abbrev dHs (hs : List (List Pt)) : Da := .tup (hs.map dR)
def R_init (o h : Da) : Prop := ∃ (r : List Pt) (hs : List (List Pt)), o = dR r ∧ h = dHs hs ∧ GoodPlate r hs
abbrev s_init : Stmt := inClass (topS 38) 0
abbrev n_init : List Str := ["self", "outer", "holes", "at", "hole"]
theorem sc_init : FnScope n_init ["self", "outer", "holes"] (defScope s_init) := ⟨rfl, rfl, rfl, by decide +kernel, rfl, by decide +kernel, by decide +kernel⟩
def t_init (K : PySem.W.Frag) (C : Addr) : TS :=
  (tSeq (tDrop (tCall (spP K C R_need_ring) [] E0 (tCons (tVar 1) tNil)))
    (tSeq (tIfS (tTest (tOp (rI0 fun i j => .bl (decide (i < j))) (tCall (spP K C R_ring_area) [] E0 (tCons (tVar 1) tNil)) (tC (.int 0)))) tNever tNext)
    (tSeq (tIfS (tNot (tB (tCB (rIsi K) (tCons (tVar 2) (tCons (tC (.ty "tuple")) tNil))))) tNever tNext)
    (tSeq (tFor (iEnT K (tCons (tVar 2) tNil)) (gTup K 2 (gCons (gName 3) (gCons (gName 4) gNil)))
    (tIfS (tNot (tB (tCall (spP K C R_is_hole) [] E0 (tCons (tVar 4) (tCons (tVar 1) (tCons (tSl (rCut K) (tVar 2) tNoPart (tPart (tVar 3))) tNil)))))) tNever tNext))
    (tSeq (sFld K (tVar 0) (tVar 1) "outer")
    (sFld K (tVar 0) (tVar 2) "holes"))))))
theorem bd_init (c_need_ring : Cal P w K mg base "need_ring" 7 ["value"] (spP K C R_need_ring)) (c_ring_area : Cal P w K mg base "ring_area" 2 ["ring"] (spP K C R_ring_area)) (c_is_hole : Cal P w K mg base "is_hole" 8 ["value", "outer", "ahead"] (spP K C R_is_hole)) (m_tuple : mg "tuple" = none) (m_isinstance : mg "isinstance" = none) (m_enumerate : mg "enumerate" = none) {f : Addr} {cdv : Value} {A : Around} {outer : List PySem.Env} {s : Shared} {H : Hp} {E : XK} (hr : Room 8 (A.deeper (envOfC "Plate.__init__" (defScope s_init) s.heap.objs.size f cdv))) :
    PSs (cxOf CX0 P w K mg base n_init "Plate.__init__" (defScope s_init) f cdv A outer s H E).nox (defBody s_init) (t_init K C) :=
  (pss_cons (ps_expr (pe_callC c_need_ring (hr.mono (by decide)) (by rfl) (pa_cons (pv 1) pa_nil)))
    (pss_cons (ps_if (pt_cmpR op_lt (pe_callC c_ring_area (hr.mono (by decide)) (by rfl) (pa_cons (pv 1) pa_nil)) pe_int (nomark _)) (pss_one ps_never) pss_nil)
    (pss_cons (ps_if (pt_not (pt_val (pe_callB call_isi (by rfl) m_isinstance (by decide +kernel) (pa_cons (pv 2) (pa_cons (pe_bltn (by rfl) m_tuple (by decide +kernel) rfl) pa_nil))))) (pss_one ps_never) pss_nil)
    (pss_cons (ps_for PassesOwn.never rfl (pi_enumT (by rfl) m_enumerate (pa_cons (pv 2) pa_nil)) (pg_tup (by rfl) (pgs_cons (pg_name (i := 3) sc_init.nd rfl (Or.inl rfl)) (pgs_cons (pg_name (i := 4) sc_init.nd rfl (Or.inl rfl)) pgs_nil)))
    (pss_one (ps_if (pt_not (pt_val (pe_callC c_is_hole (hr.mono (by decide)) (by rfl) (pa_cons (pv 4) (pa_cons (pv 1) (pa_cons (pe_slice sl_cut (pv 2) po_none (po_some (pv 3))) pa_nil)))))) (pss_one ps_never) pss_nil)))
    (pss_cons (ps_fld (pv 0) (pv 1) rfl)
    (pss_one (ps_fld (pv 0) (pv 2) rfl)))))))
theorem wk_init {x : Addr} {r : List Pt} {hs : List (List Pt)} (gp : GoodPlate r hs) : SW ⟨K, C, none⟩ (tSeq (tDrop (tCall (spP K C R_need_ring) [] E0 (tCons (tVar 1) tNil)))
    (tSeq (tIfS (tTest (tOp (rI0 fun i j => .bl (decide (i < j))) (tCall (spP K C R_ring_area) [] E0 (tCons (tVar 1) tNil)) (tC (.int 0)))) tNever tNext)
    (tSeq (tIfS (tNot (tB (tCB (rIsi K) (tCons (tVar 2) (tCons (tC (.ty "tuple")) tNil))))) tNever tNext)
    (tFor (iEnT K (tCons (tVar 2) tNil)) (gTup K 2 (gCons (gName 3) (gCons (gName 4) gNil)))
    (tIfS (tNot (tB (tCall (spP K C R_is_hole) [] E0 (tCons (tVar 4) (tCons (tVar 1) (tCons (tSl (rCut K) (tVar 2) tNoPart (tPart (tVar 3))) tNil)))))) tNever tNext))))) (init [.obj x, dR r, dHs hs] 2)
    ⟨fun A' => A'.sl[0]? = some (.dat (.obj x)) ∧ A'.sl[1]? = some (.dat (dR r)) ∧ A'.sl[2]? = some (.dat (dHs hs)), fun _ => False, fun _ => False, fun _ => False⟩ := by
  refine sw_seq (sw_drop ?_)
  walk_at "go"
  refine ⟨r, rfl, gp.ok, ?_⟩
  walk_at "go"
  refine sw_ifD (b := false) ?_ (fun z => nomatch z) fun _ => sw_next (sw_seq (sw_ifD (b := false) ?_ (fun z => nomatch z) fun _ => sw_next ?_))
  · walk_at "go"
    refine ⟨r, rfl, gp.ok.ne, gp.ok.l1000, fun p => gp.ok.sm, ?_⟩
    walk_at "go"
    exact decide_eq_false (by have := gp.ar; omega)
  · walk_at "go"
    rfl
  · refine sw_forM (List.range hs.length) (fun i => .tup [.int (i : Nat), dR (hs.getD i [])]) (iw_enumM hs dR [] (by walk_at "go"; rfl)) (fun _ A' => ∃ y z, A' = ⟨[.dat (.obj x), .dat (dR r), .dat (dHs hs), y, z], none⟩) ⟨_, _, rfl⟩ ?t ?f
    case f =>
      rintro _ ⟨y, z, rfl⟩
      exact ⟨rfl, rfl, rfl⟩
    case t =>
      rintro pre m post _ hs2 ⟨y, z, rfl⟩
      have hm : m < hs.length := List.mem_range.mp (by rw [hs2]; exact List.mem_append_right _ List.mem_cons_self)
      walk_at "go"
      refine sw_ifD (b := false) ?_ (fun z => nomatch z) fun _ => sw_next ⟨_, _, rfl⟩
      walk_at "go"
      rw [cut_to _ _ (by rw [List.length_map]; omega), ← List.map_take]
      refine ⟨_, _, _, rfl, gp.ho m hm, ?_⟩
      walk_at "go"
      rfl
end
end G
set_option Elab.async false
set_option linter.all false
set_option maxRecDepth 100000
namespace G
open PySem PySem.Spec L2
open Evl (Ex)
open PyProof.Rows (envOfC)
local macro_rules | `(tactic| walk_at "go") => `(tactic| repeat' (first
  | ((with_reducible refine' ew_v ?h ?k ?_); (case h => exact rfl); (case k => exact rfl))
  | with_reducible refine ew_int ?_
  | with_reducible refine ew_bl ?_
  | with_reducible refine ew_str ?_
  | with_reducible refine ew_non ?_
  | with_reducible refine ew_plus ?_
  | with_reducible refine ew_sub ?_
  | with_reducible refine ew_mul ?_
  | with_reducible refine ew_mulW ?_
  | with_reducible refine ew_fdiv ?_
  | with_reducible refine ew_mod ?_
  | with_reducible refine ew_ix ?_
  | with_reducible refine ew_lt ?_
  | with_reducible refine ew_le ?_
  | with_reducible refine ew_gt ?_
  | with_reducible refine ew_ge ?_
  | with_reducible refine ew_eqD ?_
  | with_reducible refine ew_neD ?_
  | with_reducible refine ew_neg ?_
  | with_reducible refine ew_tup ?_
  | with_reducible refine ew_lst ?_
  | with_reducible refine ew_len ?_
  | with_reducible refine ew_abs ?_
  | with_reducible refine ew_int1 ?_
  | with_reducible refine ew_gcd ?_
  | with_reducible refine ew_tupOf ?_
  | with_reducible refine ew_callP ?_
  | with_reducible refine ew_callG ?_
  | with_reducible refine ew_revL ?_
  | with_reducible refine ew_slice ?_
  | with_reducible refine ow_no ?_
  | with_reducible refine ow_some ?_
  | with_reducible refine ew_notV ?_
  | with_reducible refine ew_pow ?_
  | with_reducible refine aw_nil ?_
  | with_reducible refine aw_cons ?_
  | with_reducible refine onI2_mk ?_
  | with_reducible refine onI_mk ?_
  | with_reducible refine onB_mk ?_
  | with_reducible refine onD2_mk ?_
  | with_reducible refine onDat_mk ?_
  | with_reducible refine onL_mk ?_
  | with_reducible refine onTup_mk ?_
  | with_reducible refine onSeqT_mk ?_
  | with_reducible refine onSeqL_mk ?_
  | with_reducible refine onDs_nil ?_
  | with_reducible refine onDs_cons ?_
  | with_reducible refine onGDs_mk ?_
  | with_reducible refine on1_mk ?_
  | with_reducible refine on2_mk ?_
  | with_reducible refine plus_int ?_
  | with_reducible refine sq_tup ?_
  | with_reducible refine sq_lst ?_
  | with_reducible refine cut_tup ?_
  | with_reducible refine cut_lst ?_
  | ((with_reducible refine' ix_tup ?e ?_); (case e => first | exact rfl | assumption))
  | ((with_reducible refine' ix_lst ?e ?_); (case e => first | exact rfl | assumption))
  | ((with_reducible refine' And.intro (a := CMul _ _) ?c ?_); (case c => first | (refine mulL ⟨?_, ?_⟩ <;> omega) | (refine mulR ⟨?_, ?_⟩ <;> omega)))
  | ((with_reducible refine' And.intro (a := CMulW _ _) ?c ?_); (case c => assumption))
  | ((with_reducible refine' And.intro (a := 0 < _) ?c ?_); (case c => decide))
  | ((with_reducible refine' And.intro (a := List.length _ ≤ 100000) ?c ?_); (case c => exact Nat.le_of_ble_eq_true rfl))
  | ((with_reducible refine' And.intro (a := fit _ = true) ?c ?_); (case c => first | exact rfl | assumption))
  | with_reducible refine gw_nm ?_
  | ((with_reducible refine' gw_nmI ?h ?_); (case h => decide))
  | ((with_reducible refine' gw_tp ?h ?_); (case h => exact rfl))
  | with_reducible refine gsw_cons ?_
  | with_reducible refine gsw_nil ?_
  | with_reducible refine tw_tst ?_
  | with_reducible refine tw_b ?_
  | with_reducible refine tw_not ?_
  | with_reducible refine tw_yes ?_
  | with_reducible refine sw_seq ?_
  | with_reducible refine sw_ret ?_
  | with_reducible refine sw_asg ?_
  | with_reducible refine sw_par ?_
  | ((with_reducible refine' sw_aug ?h ?_); (case h => exact rfl))
  | with_reducible refine sw_next ?_
  | with_reducible refine sw_brk ?_
  | ((with_reducible refine' ew_andD ?h ?g ?_); (case h => (walk_at "go"; exact rfl)); (case g => (intro _; walk_at "go"; exact rfl)))
  | ((with_reducible refine' ew_orD ?h ?g ?_); (case h => (walk_at "go"; exact rfl)); (case g => (intro _; walk_at "go"; exact rfl)))
  | ((with_reducible refine' tw_and2 ?h ?g ?_); (case h => (walk_at "go"; exact rfl)); (case g => (intro _; walk_at "go"; exact rfl)))
  | ((with_reducible refine' tw_or2 ?h ?g ?_); (case h => (walk_at "go"; exact rfl)); (case g => (intro _; walk_at "go"; exact rfl)))
  | ((with_reducible refine' ew_chD ?h ?g ?k ?_); (case h => (walk_at "go"; exact rfl)); (case g => (walk_at "go"; exact rfl)); (case k => (walk_at "go"; exact rfl)))
  | ((with_reducible refine' ew_isiInt ?h ?_); (case h => (walk_at "go"; exact rfl)))
  | ((with_reducible refine' ew_isiBool ?h ?_); (case h => (walk_at "go"; exact rfl)))
  | ((with_reducible refine' ew_isiTup ?h ?_); (case h => (walk_at "go"; exact rfl)))))
section
variable {P : Program} {w : World} {K : PySem.W.Frag} {mg : Str → Option Value} {base : Heap} {C : Addr}

/-- a plate's data -/
abbrev dPl (o : List Pt) (hs : List (List Pt)) : Da := .plate (dR o) (dHs hs)
/-- what is handed on of a plate: its rings have corners of small size -/
structure PlB (o : List Pt) (hs : List (List Pt)) : Prop where
  ln : hs.length ≤ 10
  ne : ∀ r, r ∈ o :: hs → r ≠ [] ∧ r.length ≤ 100
  sm : ∀ r, r ∈ o :: hs → ∀ p, p ∈ r → (-400 ≤ p.1 ∧ p.1 ≤ 400) ∧ -400 ≤ p.2 ∧ p.2 ≤ 400
theorem PlB.s {o : List Pt} {hs : List (List Pt)} (h : PlB o hs) {r : List Pt} (hr : r ∈ o :: hs) {p : Pt} (hp : p ∈ r) : Sm p := by
  obtain ⟨⟨a, b⟩, c, d⟩ := h.sm r hr p hp
  exact ⟨by omega, by omega, by omega, by omega⟩
def R_all_rings (ds : List Da) (Q : Da → Prop) : Prop := ∃ o hs, ds = [dPl o hs] ∧ PlB o hs ∧ Q (dHs (o :: hs))
abbrev s_all_rings : Stmt := topS 39
abbrev n_all_rings : List Str := ["plate"]
theorem sc_all_rings : FnScope n_all_rings ["plate"] (defScope s_all_rings) := ⟨rfl, rfl, rfl, by decide +kernel, rfl, by decide +kernel, by decide +kernel⟩
def t_all_rings (K : PySem.W.Frag) (C : Addr) : TS :=
  (tRet (tOp (rPlus K) (tTup (tCons (tFld K (tVar 0) "outer") tNil)) (tFld K (tVar 0) "holes")))
theorem bd_all_rings {f : Addr} {cdv : Value} {A : Around} {outer : List PySem.Env} {s : Shared} {H : Hp} {E : XK} (hr : Room 0 (A.deeper (envOfC "all_rings" (defScope s_all_rings) s.heap.objs.size f cdv))) :
    PSs (cxOf CX0 P w K mg base n_all_rings "all_rings" (defScope s_all_rings) f cdv A outer s H E).nox (defBody s_all_rings) (t_all_rings K C) :=
  (pss_one (ps_ret (pe_op op_plus (pe_tup (pa_cons (pe_fld (pv 0) rfl) pa_nil)) (pe_fld (pv 0) rfl))))
theorem ln_all_rings : ∀ ds Q, R_all_rings ds Q → ds.length = 1 := fun ds Q ⟨_, _, e, _⟩ => by rw [e]; rfl
theorem wk_all_rings (T : PlateCls K C) : ∀ ds Q, R_all_rings ds Q → SW ⟨K, C, none⟩ (t_all_rings K C) (init ds 0) ⟨fun _ => Q .non, Q, fun _ => False, fun _ => False⟩ := by
  rintro _ Q ⟨o, hs, rfl, pb, q⟩
  have := pb.ln
  unfold t_all_rings
  refine sw_ret (ew_plus (ew_tup (aw_cons (ew_outer T ?_))))
  walk_at "go"
  refine ⟨_, _, rfl, ?_⟩
  walk_at "go"
  refine ew_holes T ?_
  walk_at "go"
  refine ⟨_, _, rfl, ?_⟩
  refine plus_tup (by simp; omega) ?_
  exact q
theorem ok_all_rings (T : PlateCls K C) (F : DefAt K mg "all_rings" ["plate"] s_all_rings) : Cal P w K mg base "all_rings" 1 ["plate"] (spP K C R_all_rings) :=
  F.okP sc_all_rings ln_all_rings (fun _ _ _ _ _ _ _ hr => bd_all_rings hr) (wk_all_rings T)
theorem flat_len {rs : List (List Pt)} {n : Nat} (h : ∀ r, r ∈ rs → r.length ≤ n) : rs.flatten.length ≤ rs.length * n := by
  induction rs with
  | nil => exact Nat.zero_le _
  | cons r rs ih =>
    rw [List.flatten_cons, List.length_append, List.length_cons, Nat.succ_mul]
    have h1 := h r List.mem_cons_self
    have h2 := ih fun r hr => h r (List.mem_cons_of_mem _ hr)
    omega
theorem PlB.flat {o : List Pt} {hs : List (List Pt)} (h : PlB o hs) : (o :: hs).flatten.length ≤ 1100 := by
  have h1 := flat_len (rs := o :: hs) (n := 100) fun r hr => (h.ne r hr).2
  have h2 := h.ln
  rw [List.length_cons] at h1
  omega
def R_corners_of (ds : List Da) (Q : Da → Prop) : Prop := ∃ o hs, ds = [dPl o hs] ∧ PlB o hs ∧ Q (dR (o :: hs).flatten)
abbrev s_corners_of : Stmt := topS 40
abbrev n_corners_of : List Str := ["plate", "ring", "corner"]
theorem sc_corners_of : FnScope n_corners_of ["plate"] (defScope s_corners_of) := ⟨rfl, rfl, rfl, by decide +kernel, rfl, by decide +kernel, by decide +kernel⟩
def t_corners_of (K : PySem.W.Frag) (C : Addr) : TS :=
  (tRet (tCB (rTupOf K) (tCons (tLc2 (iSeq K (tCall (spP K C R_all_rings) [] E0 (tCons (tVar 0) tNil))) (gName 1) tYes (iSeq K (tVar 1)) (gName 2) tYes (tVar 2) [1, 2] [2]) tNil)))
theorem bd_corners_of (c_all_rings : Cal P w K mg base "all_rings" 1 ["plate"] (spP K C R_all_rings)) (m_tuple : mg "tuple" = none) {f : Addr} {cdv : Value} {A : Around} {outer : List PySem.Env} {s : Shared} {H : Hp} {E : XK} (hr : Room 1 (A.deeper (envOfC "corners_of" (defScope s_corners_of) s.heap.objs.size f cdv))) :
    PSs (cxOf CX0 P w K mg base n_corners_of "corners_of" (defScope s_corners_of) f cdv A outer s H E).nox (defBody s_corners_of) (t_corners_of K C) :=
  (pss_one (ps_ret (pe_callTy call_tupG (by rfl) m_tuple (by decide +kernel) (pa_cons (pe_lc2 (own := [("ring", 1), ("corner", 2)]) (vs1 := [2]) (by rfl) sc_corners_of.nd (pi_seq (pe_callC c_all_rings (hr.mono (by decide)) (by rfl) (pa_cons (pv 0) pa_nil))) (blkOk_by (own := [("ring", 1), ("corner", 2)]) (N := n_corners_of) (sc := defScope s_corners_of) (by decide +kernel)) (by decide) (fun _ _ _ _ _ => (pg_name (i := 1) sc_corners_of.nd rfl (Or.inl rfl))) (fun _ _ _ _ _ => pts_nil) (fun _ _ _ _ _ => (pi_seq (pv 1))) (fun _ _ _ _ _ => (pg_name (i := 2) sc_corners_of.nd rfl (Or.inl rfl))) (fun _ _ _ _ _ => pts_nil) (fun _ _ _ _ _ => (pv 2))) pa_nil))))
theorem ln_corners_of : ∀ ds Q, R_corners_of ds Q → ds.length = 1 := fun ds Q ⟨_, _, e, _⟩ => by rw [e]; rfl
theorem wk_corners_of : ∀ ds Q, R_corners_of ds Q → SW ⟨K, C, none⟩ (t_corners_of K C) (init ds 2) ⟨fun _ => Q .non, Q, fun _ => False, fun _ => False⟩ := by
  rintro _ Q ⟨o, hs, rfl, pb, q⟩
  have hl := pb.ln
  have hf := pb.flat
  have e : ((o :: hs).flatMap fun r => r.map dP) = ((o :: hs).flatten).map dP := by
    rw [List.map_flatten]; rfl
  unfold t_corners_of
  refine sw_ret (ew_tupOf (aw_cons (ew_lc2M (o :: hs) dR (fun r => r) dP (fun _ p => dP p) (iw_sqT ?w) (by rw [List.length_cons]; omega) (fun r hr => Nat.le_trans (pb.ne r hr).2 (by decide)) (by rw [e, List.length_map]; omega) ?t ?p)))
  case w =>
    walk_at "go"
    refine ⟨o, hs, rfl, pb, ?_⟩
    walk_at "go"
    rfl
  case t =>
    intro r hr
    walk_at "go"
    refine ⟨rfl, iw_sqT (by walk_at "go"; rfl), fun p hp => ?_⟩
    walk_at "go"
    rfl
  case p =>
    walk_at "go"
    rw [e]
    exact q
theorem ok_corners_of (c_all_rings : Cal P w K mg base "all_rings" 1 ["plate"] (spP K C R_all_rings)) (m_tuple : mg "tuple" = none) (F : DefAt K mg "corners_of" ["plate"] s_corners_of) : Cal P w K mg base "corners_of" 2 ["plate"] (spP K C R_corners_of) :=
  F.okP sc_corners_of ln_corners_of (fun _ _ _ _ _ _ _ hr => bd_corners_of c_all_rings m_tuple hr) wk_corners_of
/-- the corners' numbers, ring by ring -/
def nums : Int → List (List Pt) → List (List Int)
  | _, [] => []
  | f, r :: rs => ((List.range r.length).map fun (k : Nat) => f + (k : Int)) :: nums (f + r.length) rs
theorem nums_app : ∀ (rs : List (List Pt)) (f : Int) (r : List Pt), nums f (rs ++ [r]) = nums f rs ++ [(List.range r.length).map fun (k : Nat) => f + (rs.flatten.length : Int) + (k : Int)]
  | [], f, r => by
    show [_] = [_]
    rw [List.flatten_nil]
    show [(List.range r.length).map fun (k : Nat) => f + (k : Int)] = [(List.range r.length).map fun (k : Nat) => f + ((0 : Nat) : Int) + (k : Int)]
    simp
  | s :: rs, f, r => by
    show (_ :: nums (f + s.length) (rs ++ [r])) = (_ :: nums (f + s.length) rs) ++ _
    rw [nums_app rs (f + s.length) r, List.flatten_cons, List.length_append]
    rw [List.cons_append]
    congr 2
    simp only [Int.natCast_add, Int.add_assoc]
theorem nums_len : ∀ (rs : List (List Pt)) (f : Int), (nums f rs).length = rs.length
  | [], _ => rfl
  | _ :: rs, f => by
    show (nums _ rs).length + 1 = rs.length + 1
    rw [nums_len rs]
abbrev dIs (l : List Int) : Da := .tup (l.map .int)
theorem flat_split {rs pre : List (List Pt)} {r : List Pt} {post : List (List Pt)} (h : rs = pre ++ r :: post) : pre.flatten.length + r.length ≤ rs.flatten.length := by
  rw [h, List.flatten_append, List.flatten_cons, List.length_append, List.length_append]
  omega
def R_rings_of (ds : List Da) (Q : Da → Prop) : Prop := ∃ o hs, ds = [dPl o hs] ∧ PlB o hs ∧ Q (.tup ((nums 0 (o :: hs)).map dIs))
abbrev s_rings_of : Stmt := topS 41
abbrev n_rings_of : List Str := ["plate", "found", "first", "ring"]
theorem sc_rings_of : FnScope n_rings_of ["plate"] (defScope s_rings_of) := ⟨rfl, rfl, rfl, by decide +kernel, rfl, by decide +kernel, by decide +kernel⟩
def t_rings_of (K : PySem.W.Frag) (C : Addr) : TS :=
  (tSeq (tPar 1 2 (tCons (tLst tNil) (tCons (tC (.int 0)) tNil)))
    (tSeq (tFor (iSeq K (tCall (spP K C R_all_rings) [] E0 (tCons (tVar 0) tNil))) (gName 3)
    (tSeq (tDrop (tBM K "list" rAppend (tVar 1) (tCons (tTupRg (tRg2 (tVar 2) (tOp (rPlus K) (tVar 2) (tCB (rLen K) (tCons (tVar 3) tNil))))) tNil)))
    (tAug 2 (tCB (rLen K) (tCons (tVar 3) tNil)) (ipI fun i j => i + j))))
    (tRet (tCB (rTupOf K) (tCons (tVar 1) tNil)))))
theorem bd_rings_of (c_all_rings : Cal P w K mg base "all_rings" 1 ["plate"] (spP K C R_all_rings)) (m_len : mg "len" = none) (m_tuple : mg "tuple" = none) (m_range : mg "range" = none) {f : Addr} {cdv : Value} {A : Around} {outer : List PySem.Env} {s : Shared} {H : Hp} {E : XK} (hr : Room 1 (A.deeper (envOfC "rings_of" (defScope s_rings_of) s.heap.objs.size f cdv))) :
    PSs (cxOf CX0 P w K mg base n_rings_of "rings_of" (defScope s_rings_of) f cdv A outer s H E).nox (defBody s_rings_of) (t_rings_of K C) :=
  (pss_cons (ps_par (i := 1) (j := 2) (by rfl) sc_rings_of.nd rfl rfl (by decide) rfl rfl (pa_cons (pe_lst pa_nil) (pa_cons pe_int pa_nil)) (by rfl))
    (pss_cons (ps_for PassesOwn.never rfl (pi_seq (pe_callC c_all_rings (hr.mono (by decide)) (by rfl) (pa_cons (pv 0) pa_nil))) (pg_name (i := 3) sc_rings_of.nd rfl (Or.inl rfl))
    (pss_cons (ps_expr (pe_bm PySem.F.plainAttrs_list PySem.F.slot_list_append PySem.F.type_list_append mt_append (pv 1) (pa_cons (pe_tupRg (by rfl) (by rfl) m_tuple (prg_2 (by rfl) m_range (pv 2) (pe_op op_plus (pv 2) (pe_callB call_lenG (by rfl) m_len PySem.boot_len (pa_cons (pv 3) pa_nil))))) pa_nil)))
    (pss_one (ps_aug (i := 2) sc_rings_of.nd rfl (Or.inl rfl) (pe_callB call_lenG (by rfl) m_len PySem.boot_len (pa_cons (pv 3) pa_nil)) ip_add))))
    (pss_one (ps_ret (pe_callTy call_tupG (by rfl) m_tuple (by decide +kernel) (pa_cons (pv 1) pa_nil))))))
theorem ln_rings_of : ∀ ds Q, R_rings_of ds Q → ds.length = 1 := fun ds Q ⟨_, _, e, _⟩ => by rw [e]; rfl
theorem wk_rings_of : ∀ ds Q, R_rings_of ds Q → SW ⟨K, C, none⟩ (t_rings_of K C) (init ds 3) ⟨fun _ => Q .non, Q, fun _ => False, fun _ => False⟩ := by
  rintro _ Q ⟨o, hs, rfl, pb, q⟩
  have hl := pb.ln
  have hf := pb.flat
  unfold t_rings_of
  refine sw_seq (sw_parNew rfl rfl ?_)
  refine sw_seq (sw_forM (o :: hs) dR (iw_sqT ?w) (fun pre A' => ∃ x l n, A' = ⟨[.dat (dPl o hs), .acc, .dat (.int n), x], some l⟩ ∧ n = ((pre.flatten.length : Nat) : Int) ∧ l = (nums 0 pre).map dIs) ⟨_, _, _, rfl, rfl, rfl⟩ ?t ?f)
  case w =>
    walk_at "go"
    refine ⟨o, hs, rfl, pb, ?_⟩
    walk_at "go"
    rfl
  case f =>
    rintro _ ⟨x, l, n, rfl, rfl, rfl⟩
    walk_at "go"
    refine sq_acc rfl ?_
    exact q
  case t =>
    rintro pre r post _ he ⟨x, l, n, rfl, rfl, rfl⟩
    have hr : r ∈ o :: hs := by rw [he]; exact List.mem_append_right _ List.mem_cons_self
    have l1 := (pb.ne r hr).2
    have l2 : pre.length + (post.length + 1) = hs.length + 1 := by
      have := congrArg List.length he
      rw [List.length_cons, List.length_append, List.length_cons] at this
      omega
    have l3 : pre.flatten.length + r.length ≤ 1100 := Nat.le_trans (flat_split he) hf
    refine gw_nm (sw_seq ?_)
    refine sw_app rfl rfl (by rw [List.length_map, nums_len]; omega) ?_
    refine ew_tupRg (a := ((pre.flatten.length : Nat) : Int)) (b := ((pre.flatten.length : Nat) : Int) + (r.length : Nat)) ?_ ?_ (.of_le (by omega) (by omega) (by omega) (by omega)) ?_
    · walk_at "go"
      rfl
    · walk_at "go"
      rw [List.length_map]
    · refine onDat_mk ?_
      walk_at "go"
      have z : (((pre.flatten.length : Nat) : Int) + (r.length : Nat) - (pre.flatten.length : Nat)).toNat = r.length := by omega
      rw [z, List.length_map]
      refine ⟨_, _, _, rfl, ?_, ?_⟩
      · rw [List.flatten_append, List.length_append]
        simp
      · rw [nums_app, List.map_append]
        simp
theorem ok_rings_of (c_all_rings : Cal P w K mg base "all_rings" 1 ["plate"] (spP K C R_all_rings)) (m_len : mg "len" = none) (m_tuple : mg "tuple" = none) (m_range : mg "range" = none) (F : DefAt K mg "rings_of" ["plate"] s_rings_of) : Cal P w K mg base "rings_of" 2 ["plate"] (spP K C R_rings_of) :=
  F.okP sc_rings_of ln_rings_of (fun _ _ _ _ _ _ _ hr => bd_rings_of c_all_rings m_len m_tuple m_range hr) wk_rings_of
/-- the sides by their ends' numbers -/
def ixSides : Int → List (List Pt) → List (Int × Int)
  | _, [] => []
  | f, r :: rs => ((List.range (r.length - 1)).map fun (k : Nat) => (f + (k : Int), f + (k : Int) + 1)) ++ [(f + ((r.length - 1 : Nat) : Int), f)] ++ ixSides (f + r.length) rs
def ixOne (f : Int) (n : Nat) : List (Int × Int) := ((List.range (n - 1)).map fun (k : Nat) => (f + (k : Int), f + (k : Int) + 1)) ++ [(f + ((n - 1 : Nat) : Int), f)]
theorem ixSides_app : ∀ (rs : List (List Pt)) (f : Int) (r : List Pt), ixSides f (rs ++ [r]) = ixSides f rs ++ ixOne (f + (rs.flatten.length : Int)) r.length
  | [], f, r => by
    show ixOne f r.length ++ [] = [] ++ ixOne (f + ((0 : Nat) : Int)) r.length
    simp
  | s :: rs, f, r => by
    show ixOne f s.length ++ ixSides (f + s.length) (rs ++ [r]) = (ixOne f s.length ++ ixSides (f + s.length) rs) ++ _
    rw [ixSides_app rs (f + s.length) r, List.flatten_cons, List.length_append, List.append_assoc]
    congr 3
    omega
theorem ixOne_len {f : Int} {n : Nat} (h : 0 < n) : (ixOne f n).length = n := by
  unfold ixOne
  simp
  omega
theorem ixSides_len : ∀ (rs : List (List Pt)) (f : Int), (∀ r, r ∈ rs → r ≠ []) → (ixSides f rs).length = rs.flatten.length
  | [], _, _ => rfl
  | r :: rs, f, h => by
    show (ixOne f r.length ++ ixSides (f + r.length) rs).length = _
    rw [List.length_append, ixOne_len (List.length_pos_iff.mpr (h r List.mem_cons_self)), ixSides_len rs _ fun s hs => h s (List.mem_cons_of_mem _ hs), List.flatten_cons, List.length_append]
/-- the numbers of the ring that stands behind pre -/
def numAt (pre : List (List Pt)) (r : List Pt) : List Int := (List.range r.length).map fun (k : Nat) => (pre.flatten.length : Int) + (k : Int)
theorem nums_split : ∀ (rs : List (List Pt)) (f : Int) (as : List (List Int)) (a : List Int) (bs : List (List Int)), nums f rs = as ++ a :: bs → ∃ pre r post, rs = pre ++ r :: post ∧ as = nums f pre ∧ a = (List.range r.length).map fun (k : Nat) => f + (pre.flatten.length : Int) + (k : Int)
  | [], f, as, a, bs, h => by
    cases as <;> cases h
  | s :: rs, f, [], a, bs, h => by
    have h : ((List.range s.length).map fun (k : Nat) => f + (k : Int)) :: nums (f + s.length) rs = a :: bs := h
    refine ⟨[], s, rs, rfl, rfl, ?_⟩
    rw [← (List.cons.inj h).1]
    show _ = (List.range s.length).map fun (k : Nat) => f + ((0 : Nat) : Int) + (k : Int)
    simp
  | s :: rs, f, b :: as, a, bs, h => by
    have h : ((List.range s.length).map fun (k : Nat) => f + (k : Int)) :: nums (f + s.length) rs = b :: (as ++ a :: bs) := h
    obtain ⟨pre, r, post, h1, h2, h3⟩ := nums_split rs _ as a bs (List.cons.inj h).2
    refine ⟨s :: pre, r, post, by rw [h1]; rfl, ?_, ?_⟩
    · rw [h2, ← (List.cons.inj h).1]
      rfl
    · rw [h3, List.flatten_cons, List.length_append]
      simp only [Int.natCast_add, Int.add_assoc]
theorem atI_ints {l : List Int} {z : Int} {j : Nat} {x : Int} (hj : ixN l.length z = some j) (h : l[j]? = some x) : atI (l.map Da.int) z = some (.int x) := by
  unfold atI
  rw [List.length_map, hj]
  show (l.map Da.int)[j]? = _
  rw [List.getElem?_map, h]
  rfl
def R_sides_of (ds : List Da) (Q : Da → Prop) : Prop := ∃ o hs, ds = [dPl o hs] ∧ PlB o hs ∧ Q (.tup ((ixSides 0 (o :: hs)).map dP))
abbrev s_sides_of : Stmt := topS 42
abbrev n_sides_of : List Str := ["plate", "found", "ring", "at"]
theorem sc_sides_of : FnScope n_sides_of ["plate"] (defScope s_sides_of) := ⟨rfl, rfl, rfl, by decide +kernel, rfl, by decide +kernel, by decide +kernel⟩
def t_sides_of (K : PySem.W.Frag) (C : Addr) : TS :=
  (tSeq (tAsg (tLst tNil) (gName 1))
    (tSeq (tFor (iSeq K (tCall (spP K C R_rings_of) [] E0 (tCons (tVar 0) tNil))) (gName 2)
    (tSeq (tDrop (tBM K "list" rExtend (tVar 1) (tCons (tLc (iSeq K (tSl (rCut K) (tVar 2) tNoPart (tPart (tUn (rU fun i => .int (-i)) (tC (.int 1)))))) (gName 3) tYes (tTup (tCons (tVar 3) (tCons (tOp (rPlus K) (tVar 3) (tC (.int 1))) tNil))) [3]) tNil)))
    (tDrop (tBM K "list" rAppend (tVar 1) (tCons (tTup (tCons (tOp (rIx K) (tVar 2) (tUn (rU fun i => .int (-i)) (tC (.int 1)))) (tCons (tOp (rIx K) (tVar 2) (tC (.int 0))) tNil))) tNil)))))
    (tRet (tCB (rTupOf K) (tCons (tVar 1) tNil)))))
theorem bd_sides_of (c_rings_of : Cal P w K mg base "rings_of" 2 ["plate"] (spP K C R_rings_of)) (m_tuple : mg "tuple" = none) {f : Addr} {cdv : Value} {A : Around} {outer : List PySem.Env} {s : Shared} {H : Hp} {E : XK} (hr : Room 2 (A.deeper (envOfC "sides_of" (defScope s_sides_of) s.heap.objs.size f cdv))) :
    PSs (cxOf CX0 P w K mg base n_sides_of "sides_of" (defScope s_sides_of) f cdv A outer s H E).nox (defBody s_sides_of) (t_sides_of K C) :=
  (pss_cons (ps_set (i := 1) sc_sides_of.nd rfl (Or.inl rfl) (pe_lst pa_nil))
    (pss_cons (ps_for PassesOwn.never rfl (pi_seq (pe_callC c_rings_of (hr.mono (by decide)) (by rfl) (pa_cons (pv 0) pa_nil))) (pg_name (i := 2) sc_sides_of.nd rfl (Or.inl rfl))
    (pss_cons (ps_expr (pe_bm PySem.F.plainAttrs_list PySem.F.slot_list_extend PySem.F.type_list_extend mt_extend (pv 1) (pa_cons (pe_lc (own := [("at", 3)]) (by rfl) sc_sides_of.nd (pi_seq (pe_slice sl_cut (pv 2) po_none (po_some (pe_un un_neg pe_int)))) (blkOk_by (own := [("at", 3)]) (N := n_sides_of) (sc := defScope s_sides_of) (by decide +kernel)) (fun _ _ _ _ _ => (pg_name (i := 3) sc_sides_of.nd rfl (Or.inl rfl))) (fun _ _ _ _ _ => pts_nil) (fun _ _ _ _ _ => (pe_tup (pa_cons (pv 3) (pa_cons (pe_op op_plus (pv 3) pe_int) pa_nil))))) pa_nil)))
    (pss_one (ps_expr (pe_bm PySem.F.plainAttrs_list PySem.F.slot_list_append PySem.F.type_list_append mt_append (pv 1) (pa_cons (pe_tup (pa_cons (pe_ix ix_seq (pv 2) (pe_un un_neg pe_int) (fun _ _ => rfl)) (pa_cons (pe_ix ix_seq (pv 2) pe_int (fun _ _ => rfl)) pa_nil))) pa_nil))))))
    (pss_one (ps_ret (pe_callTy call_tupG (by rfl) m_tuple (by decide +kernel) (pa_cons (pv 1) pa_nil))))))
theorem ln_sides_of : ∀ ds Q, R_sides_of ds Q → ds.length = 1 := fun ds Q ⟨_, _, e, _⟩ => by rw [e]; rfl
theorem cut_init (ds : List Da) (h : 0 < ds.length) : cutD ds none (some (-1)) = ds.take (ds.length - 1) := by
  unfold cutD
  rw [HT.sIx_none, List.drop_zero, Nat.sub_zero]
  congr 1
  unfold HT.sIx
  show ((-1 : Int) + (ds.length : Int)).toNat = _
  omega
theorem wk_sides_of : ∀ ds Q, R_sides_of ds Q → SW ⟨K, C, none⟩ (t_sides_of K C) (init ds 3) ⟨fun _ => Q .non, Q, fun _ => False, fun _ => False⟩ := by
  rintro _ Q ⟨o, hs, rfl, pb, q⟩
  have hl := pb.ln
  have hf := pb.flat
  unfold t_sides_of
  refine sw_seq (sw_new rfl rfl ?_)
  refine sw_seq (sw_forM (nums 0 (o :: hs)) dIs (iw_sqT ?w) (fun pre A' => ∃ x y l rs, A' = ⟨[.dat (dPl o hs), .acc, x, y], some l⟩ ∧ l = (ixSides 0 rs).map dP ∧ pre = nums 0 rs ∧ ∃ post, o :: hs = rs ++ post) ⟨_, _, _, [], rfl, rfl, rfl, _, rfl⟩ ?t ?f)
  case w =>
    walk_at "go"
    refine ⟨o, hs, rfl, pb, ?_⟩
    walk_at "go"
    rfl
  case f =>
    rintro _ ⟨x, y, l, rs, rfl, rfl, h1, post, h2⟩
    have e : rs = o :: hs := by
      have z := congrArg List.length h1
      rw [nums_len, nums_len] at z
      have z2 := congrArg List.length h2
      rw [List.length_append] at z2
      have z3 : post = [] := List.length_eq_zero_iff.mp (by omega)
      rw [h2, z3, List.append_nil]
    subst e
    walk_at "go"
    refine sq_acc rfl ?_
    exact q
  case t =>
    rintro pre a bs _ he ⟨x, y, l, rs0, rfl, rfl, h1, post0, h2⟩
    obtain ⟨rs, r, post, h3, h4, h5⟩ := nums_split _ _ _ _ _ he
    have e0 : rs0 = rs := by
      have z := congrArg List.length (h1.symm.trans h4)
      rw [nums_len, nums_len] at z
      have z2 := h2.symm.trans h3
      exact (List.append_inj z2 z).1
    subst e0
    have hr : r ∈ o :: hs := by rw [h3]; exact List.mem_append_right _ List.mem_cons_self
    obtain ⟨n0, l1⟩ := pb.ne r hr
    have n0 := List.length_pos_iff.mpr n0
    have l3 : rs0.flatten.length + r.length ≤ 1100 := Nat.le_trans (flat_split h3) hf
    have l4 : (ixSides 0 rs0).length ≤ 1100 := by
      rw [ixSides_len _ _ fun s hs' => (pb.ne s (by rw [h3]; exact List.mem_append_left _ hs')).1]
      omega
    have la : a.length = r.length := by rw [h5]; simp
    have ga : ∀ k, k < r.length → a[k]? = some (0 + (rs0.flatten.length : Int) + (k : Int)) := fun k hk => by
      rw [h5, List.getElem?_map, List.getElem?_range hk]
      rfl
    refine gw_nm (sw_seq ?_)
    refine sw_extend rfl rfl (by rw [List.length_map]; omega) ?_
    have cutA : cutD (a.map Da.int) none (some (-1)) = (List.range (r.length - 1)).map fun (k : Nat) => Da.int (0 + (rs0.flatten.length : Int) + (k : Int)) := by
      rw [cut_init _ (by rw [List.length_map]; omega), List.length_map, la, h5, List.map_map, ← List.map_take, List.take_range]
      rw [Nat.min_eq_left (by omega)]
      rfl
    refine ew_lcM (List.range (r.length - 1)) (fun (k : Nat) => Da.int (0 + (rs0.flatten.length : Int) + (k : Int))) (fun (k : Nat) => dP (0 + (rs0.flatten.length : Int) + (k : Int), 0 + (rs0.flatten.length : Int) + (k : Int) + 1)) (iw_sqT ?_) (by rw [List.length_range]; omega) (fun k hk => ?_) ?_
    · walk_at "go"
      rw [cutA]
    · walk_at "go"
      rfl
    · refine onL_mk ⟨by rw [List.length_map, List.length_range]; omega, ?_⟩
      have i1 : ixN a.length (-1) = some (r.length - 1) := by
        unfold ixN
        rw [if_neg (by decide), if_pos (by omega), la]
        congr 1
        omega
      have i2 : ixN a.length 0 = some 0 := Evl.ixN_nat (j := 0) (by omega)
      refine sw_app rfl rfl (by rw [List.length_append, List.length_map, List.length_map, List.length_range]; omega) ?_
      walk_at "go"
      refine ix_tup (atI_ints i1 (ga _ (by omega))) ?_
      walk_at "go"
      refine ix_tup (atI_ints i2 (ga 0 (by omega))) ?_
      walk_at "go"
      refine ⟨_, _, _, rs0 ++ [r], rfl, ?_, ?_, post, by rw [h3]; simp⟩
      · rw [ixSides_app]
        unfold ixOne
        simp
      · rw [nums_app, ← h4, ← h5]
theorem ok_sides_of (c_rings_of : Cal P w K mg base "rings_of" 2 ["plate"] (spP K C R_rings_of)) (m_tuple : mg "tuple" = none) (F : DefAt K mg "sides_of" ["plate"] s_sides_of) : Cal P w K mg base "sides_of" 3 ["plate"] (spP K C R_sides_of) :=
  F.okP sc_sides_of ln_sides_of (fun _ _ _ _ _ _ _ hr => bd_sides_of c_rings_of m_tuple hr) wk_sides_of
end
end G
set_option Elab.async false
set_option linter.all false
set_option maxRecDepth 100000
namespace G
open PySem PySem.Spec L2
open Evl (Ex)
open PyProof.Rows (envOfC)
local macro_rules | `(tactic| walk_at "go") => `(tactic| repeat' (first
  | ((with_reducible refine' ew_v ?h ?k ?_); (case h => exact rfl); (case k => exact rfl))
  | with_reducible refine ew_int ?_
  | with_reducible refine ew_bl ?_
  | with_reducible refine ew_str ?_
  | with_reducible refine ew_non ?_
  | with_reducible refine ew_plus ?_
  | with_reducible refine ew_sub ?_
  | with_reducible refine ew_mul ?_
  | with_reducible refine ew_mulW ?_
  | with_reducible refine ew_fdiv ?_
  | with_reducible refine ew_mod ?_
  | with_reducible refine ew_ix ?_
  | with_reducible refine ew_lt ?_
  | with_reducible refine ew_le ?_
  | with_reducible refine ew_gt ?_
  | with_reducible refine ew_ge ?_
  | with_reducible refine ew_eqD ?_
  | with_reducible refine ew_neD ?_
  | with_reducible refine ew_neg ?_
  | with_reducible refine ew_tup ?_
  | with_reducible refine ew_lst ?_
  | with_reducible refine ew_len ?_
  | with_reducible refine ew_abs ?_
  | with_reducible refine ew_int1 ?_
  | with_reducible refine ew_gcd ?_
  | with_reducible refine ew_tupOf ?_
  | with_reducible refine ew_callP ?_
  | with_reducible refine ew_callG ?_
  | with_reducible refine ew_revL ?_
  | with_reducible refine ew_slice ?_
  | with_reducible refine ow_no ?_
  | with_reducible refine ow_some ?_
  | with_reducible refine ew_notV ?_
  | with_reducible refine ew_pow ?_
  | with_reducible refine aw_nil ?_
  | with_reducible refine aw_cons ?_
  | with_reducible refine onI2_mk ?_
  | with_reducible refine onI_mk ?_
  | with_reducible refine onB_mk ?_
  | with_reducible refine onD2_mk ?_
  | with_reducible refine onDat_mk ?_
  | with_reducible refine onL_mk ?_
  | with_reducible refine onTup_mk ?_
  | with_reducible refine onSeqT_mk ?_
  | with_reducible refine onSeqL_mk ?_
  | with_reducible refine onDs_nil ?_
  | with_reducible refine onDs_cons ?_
  | with_reducible refine onGDs_mk ?_
  | with_reducible refine on1_mk ?_
  | with_reducible refine on2_mk ?_
  | with_reducible refine plus_int ?_
  | with_reducible refine sq_tup ?_
  | with_reducible refine sq_lst ?_
  | with_reducible refine cut_tup ?_
  | with_reducible refine cut_lst ?_
  | ((with_reducible refine' ix_tup ?e ?_); (case e => first | exact rfl | assumption))
  | ((with_reducible refine' ix_lst ?e ?_); (case e => first | exact rfl | assumption))
  | ((with_reducible refine' And.intro (a := CMul _ _) ?c ?_); (case c => first | (refine mulL ⟨?_, ?_⟩ <;> omega) | (refine mulR ⟨?_, ?_⟩ <;> omega)))
  | ((with_reducible refine' And.intro (a := CMulW _ _) ?c ?_); (case c => assumption))
  | ((with_reducible refine' And.intro (a := 0 < _) ?c ?_); (case c => decide))
  | ((with_reducible refine' And.intro (a := List.length _ ≤ 100000) ?c ?_); (case c => exact Nat.le_of_ble_eq_true rfl))
  | ((with_reducible refine' And.intro (a := fit _ = true) ?c ?_); (case c => first | exact rfl | assumption))
  | with_reducible refine gw_nm ?_
  | ((with_reducible refine' gw_nmI ?h ?_); (case h => decide))
  | ((with_reducible refine' gw_tp ?h ?_); (case h => exact rfl))
  | with_reducible refine gsw_cons ?_
  | with_reducible refine gsw_nil ?_
  | with_reducible refine tw_tst ?_
  | with_reducible refine tw_b ?_
  | with_reducible refine tw_not ?_
  | with_reducible refine tw_yes ?_
  | with_reducible refine sw_seq ?_
  | with_reducible refine sw_ret ?_
  | with_reducible refine sw_asg ?_
  | with_reducible refine sw_par ?_
  | ((with_reducible refine' sw_aug ?h ?_); (case h => exact rfl))
  | with_reducible refine sw_next ?_
  | with_reducible refine sw_brk ?_
  | ((with_reducible refine' ew_andD ?h ?g ?_); (case h => (walk_at "go"; exact rfl)); (case g => (intro _; walk_at "go"; exact rfl)))
  | ((with_reducible refine' ew_orD ?h ?g ?_); (case h => (walk_at "go"; exact rfl)); (case g => (intro _; walk_at "go"; exact rfl)))
  | ((with_reducible refine' tw_and2 ?h ?g ?_); (case h => (walk_at "go"; exact rfl)); (case g => (intro _; walk_at "go"; exact rfl)))
  | ((with_reducible refine' tw_or2 ?h ?g ?_); (case h => (walk_at "go"; exact rfl)); (case g => (intro _; walk_at "go"; exact rfl)))
  | ((with_reducible refine' ew_chD ?h ?g ?k ?_); (case h => (walk_at "go"; exact rfl)); (case g => (walk_at "go"; exact rfl)); (case k => (walk_at "go"; exact rfl)))
  | ((with_reducible refine' ew_isiInt ?h ?_); (case h => (walk_at "go"; exact rfl)))
  | ((with_reducible refine' ew_isiBool ?h ?_); (case h => (walk_at "go"; exact rfl)))
  | ((with_reducible refine' ew_isiTup ?h ?_); (case h => (walk_at "go"; exact rfl)))))
section
variable {P : Program} {w : World} {K : PySem.W.Frag} {mg : Str → Option Value} {base : Heap} {C : Addr}

structure PtB (p : FP) : Prop where
  a : 0 < p.1.2
  b : p.1.2 < 2 ^ 40
  c : 0 < p.2.2
  d : p.2.2 < 2 ^ 40
def R_left_by (ds : List Da) (Q : Da → Prop) : Prop := ∃ (a b : Pt) (p : FP), ds = [dP a, dP b, dFP p] ∧ Sm a ∧ Sm b ∧ PtB p ∧ Q (.int (leftBy a b p))
abbrev s_left_by : Stmt := topS 44
abbrev n_left_by : List Str := ["a", "b", "point", "x", "q", "y", "r"]
theorem sc_left_by : FnScope n_left_by ["a", "b", "point"] (defScope s_left_by) := ⟨rfl, rfl, rfl, by decide +kernel, rfl, by decide +kernel, by decide +kernel⟩
def t_left_by (K : PySem.W.Frag) (C : Addr) : TS :=
  (tSeq (tAsg (tVar 2) (gTup K 2 (gCons (gTup K 2 (gCons (gName 3) (gCons (gName 4) gNil))) (gCons (gTup K 2 (gCons (gName 5) (gCons (gName 6) gNil))) gNil))))
    (tRet (tOp (rI0 fun i j => .int (i - j)) (tOp (rI CMul fun i j => .int (i * j)) (tOp (rI CMul fun i j => .int (i * j)) (tOp (rI0 fun i j => .int (i - j)) (tOp (rIx K) (tVar 1) (tC (.int 0))) (tOp (rIx K) (tVar 0) (tC (.int 0)))) (tOp (rI0 fun i j => .int (i - j)) (tVar 5) (tOp (rI CMul fun i j => .int (i * j)) (tOp (rIx K) (tVar 0) (tC (.int 1))) (tVar 6)))) (tVar 4)) (tOp (rI CMul fun i j => .int (i * j)) (tOp (rI CMul fun i j => .int (i * j)) (tOp (rI0 fun i j => .int (i - j)) (tOp (rIx K) (tVar 1) (tC (.int 1))) (tOp (rIx K) (tVar 0) (tC (.int 1)))) (tOp (rI0 fun i j => .int (i - j)) (tVar 3) (tOp (rI CMul fun i j => .int (i * j)) (tOp (rIx K) (tVar 0) (tC (.int 0))) (tVar 4)))) (tVar 6)))))
theorem bd_left_by {f : Addr} {cdv : Value} {A : Around} {outer : List PySem.Env} {s : Shared} {H : Hp} {E : XK} (hr : Room 0 (A.deeper (envOfC "left_by" (defScope s_left_by) s.heap.objs.size f cdv))) :
    PSs (cxOf CX0 P w K mg base n_left_by "left_by" (defScope s_left_by) f cdv A outer s H E).nox (defBody s_left_by) (t_left_by K C) :=
  (pss_cons (ps_asg (pv 2) (pg_tup (by rfl) (pgs_cons (pg_tup (by rfl) (pgs_cons (pg_name (i := 3) sc_left_by.nd rfl (Or.inl rfl)) (pgs_cons (pg_name (i := 4) sc_left_by.nd rfl (Or.inl rfl)) pgs_nil))) (pgs_cons (pg_tup (by rfl) (pgs_cons (pg_name (i := 5) sc_left_by.nd rfl (Or.inl rfl)) (pgs_cons (pg_name (i := 6) sc_left_by.nd rfl (Or.inl rfl)) pgs_nil))) pgs_nil))))
    (pss_one (ps_ret (pe_op op_sub (pe_op op_mul (pe_op op_mul (pe_op op_sub (pe_ix ix_seq (pv 1) pe_int (fun _ _ => rfl)) (pe_ix ix_seq (pv 0) pe_int (fun _ _ => rfl))) (pe_op op_sub (pv 5) (pe_op op_mul (pe_ix ix_seq (pv 0) pe_int (fun _ _ => rfl)) (pv 6)))) (pv 4)) (pe_op op_mul (pe_op op_mul (pe_op op_sub (pe_ix ix_seq (pv 1) pe_int (fun _ _ => rfl)) (pe_ix ix_seq (pv 0) pe_int (fun _ _ => rfl))) (pe_op op_sub (pv 3) (pe_op op_mul (pe_ix ix_seq (pv 0) pe_int (fun _ _ => rfl)) (pv 4)))) (pv 6))))))
theorem ln_left_by : ∀ ds Q, R_left_by ds Q → ds.length = 3 := fun ds Q ⟨_, _, _, e, _⟩ => by rw [e]; rfl
theorem wk_left_by : ∀ ds Q, R_left_by ds Q → SW ⟨K, C, none⟩ (t_left_by K C) (init ds 4) ⟨fun _ => Q .non, Q, fun _ => False, fun _ => False⟩ := by
  rintro _ Q ⟨a, b, p, rfl, ⟨a1, a2, a3, a4⟩, ⟨b1, b2, b3, b4⟩, ⟨p1, p2, p3, p4⟩, q⟩
  unfold t_left_by
  walk_at "go"
  exact q
theorem ok_left_by (F : DefAt K mg "left_by" ["a", "b", "point"] s_left_by) : Cal P w K mg base "left_by" 1 ["a", "b", "point"] (spP K C R_left_by) :=
  F.okP sc_left_by ln_left_by (fun _ _ _ _ _ _ _ hr => bd_left_by hr) wk_left_by
def R_is_between (ds : List Da) (Q : Da → Prop) : Prop := ∃ (i j : Int) (f : Fr), ds = [.int i, .int j, dP f] ∧ 0 < f.2 ∧ f.2 < 2 ^ 40 ∧ Q (.bl (isBetween i j f))
abbrev s_is_between : Stmt := topS 45
abbrev n_is_between : List Str := ["one", "other", "worth"]
theorem sc_is_between : FnScope n_is_between ["one", "other", "worth"] (defScope s_is_between) := ⟨rfl, rfl, rfl, by decide +kernel, rfl, by decide +kernel, by decide +kernel⟩
def t_is_between (K : PySem.W.Frag) (C : Addr) : TS :=
  (tRet (tChain (rI0 fun i j => .bl (decide (i ≤ j))) (rI0 fun i j => .bl (decide (i ≤ j))) (tOp (rI CMul fun i j => .int (i * j)) (tCB (rMn K) (tCons (tVar 0) (tCons (tVar 1) tNil))) (tOp (rIx K) (tVar 2) (tC (.int 1)))) (tOp (rIx K) (tVar 2) (tC (.int 0))) (tOp (rI CMul fun i j => .int (i * j)) (tCB (rMx K) (tCons (tVar 0) (tCons (tVar 1) tNil))) (tOp (rIx K) (tVar 2) (tC (.int 1))))))
theorem bd_is_between (m_min : mg "min" = none) (m_max : mg "max" = none) {f : Addr} {cdv : Value} {A : Around} {outer : List PySem.Env} {s : Shared} {H : Hp} {E : XK} (hr : Room 0 (A.deeper (envOfC "is_between" (defScope s_is_between) s.heap.objs.size f cdv))) :
    PSs (cxOf CX0 P w K mg base n_is_between "is_between" (defScope s_is_between) f cdv A outer s H E).nox (defBody s_is_between) (t_is_between K C) :=
  (pss_one (ps_ret (pe_chain op_le op_le (pe_op op_mul (pe_callB (call_mn (by rfl)) (by rfl) m_min (by decide +kernel) (pa_cons (pv 0) (pa_cons (pv 1) pa_nil))) (pe_ix ix_seq (pv 2) pe_int (fun _ _ => rfl))) (pe_ix ix_seq (pv 2) pe_int (fun _ _ => rfl)) (pe_op op_mul (pe_callB (call_mx (by rfl)) (by rfl) m_max (by decide +kernel) (pa_cons (pv 0) (pa_cons (pv 1) pa_nil))) (pe_ix ix_seq (pv 2) pe_int (fun _ _ => rfl))))))
theorem ln_is_between : ∀ ds Q, R_is_between ds Q → ds.length = 3 := fun ds Q ⟨_, _, _, e, _⟩ => by rw [e]; rfl
theorem wk_is_between : ∀ ds Q, R_is_between ds Q → SW ⟨K, C, none⟩ (t_is_between K C) (init ds 0) ⟨fun _ => Q .non, Q, fun _ => False, fun _ => False⟩ := by
  rintro _ Q ⟨i, j, f, rfl, h1, h2, q⟩
  unfold t_is_between
  refine sw_ret (ew_chD (a := lo2 i j * f.2) (b := f.1) (c := hi2 i j * f.2) (g1 := fun i j => decide (i ≤ j)) (g2 := fun i j => decide (i ≤ j)) ?_ ?_ ?_ q)
  · refine ew_mul (ew_min2 ?_)
    walk_at "go"
    rfl
  · walk_at "go"
    rfl
  · refine ew_mul (ew_max2 ?_)
    walk_at "go"
    rfl
theorem ok_is_between (m_min : mg "min" = none) (m_max : mg "max" = none) (F : DefAt K mg "is_between" ["one", "other", "worth"] s_is_between) : Cal P w K mg base "is_between" 1 ["one", "other", "worth"] (spP K C R_is_between) :=
  F.okP sc_is_between ln_is_between (fun _ _ _ _ _ _ _ hr => bd_is_between m_min m_max hr) wk_is_between
def R_is_on (ds : List Da) (Q : Da → Prop) : Prop := ∃ (a b : Pt) (p : FP), ds = [dP a, dP b, dFP p] ∧ Sm a ∧ Sm b ∧ PtB p ∧ Q (.bl (isOn a b p))
abbrev s_is_on : Stmt := topS 46
abbrev n_is_on : List Str := ["a", "b", "point"]
theorem sc_is_on : FnScope n_is_on ["a", "b", "point"] (defScope s_is_on) := ⟨rfl, rfl, rfl, by decide +kernel, rfl, by decide +kernel, by decide +kernel⟩
def t_is_on (K : PySem.W.Frag) (C : Addr) : TS :=
  (tRet (tAndV (tOp (rEqD K) (tCall (spP K C R_left_by) [] E0 (tCons (tVar 0) (tCons (tVar 1) (tCons (tVar 2) tNil)))) (tC (.int 0))) (tAndV (tCall (spP K C R_is_between) [] E0 (tCons (tOp (rIx K) (tVar 0) (tC (.int 0))) (tCons (tOp (rIx K) (tVar 1) (tC (.int 0))) (tCons (tOp (rIx K) (tVar 2) (tC (.int 0))) tNil)))) (tCall (spP K C R_is_between) [] E0 (tCons (tOp (rIx K) (tVar 0) (tC (.int 1))) (tCons (tOp (rIx K) (tVar 1) (tC (.int 1))) (tCons (tOp (rIx K) (tVar 2) (tC (.int 1))) tNil)))))))
theorem bd_is_on (c_left_by : Cal P w K mg base "left_by" 1 ["a", "b", "point"] (spP K C R_left_by)) (c_is_between : Cal P w K mg base "is_between" 1 ["one", "other", "worth"] (spP K C R_is_between)) {f : Addr} {cdv : Value} {A : Around} {outer : List PySem.Env} {s : Shared} {H : Hp} {E : XK} (hr : Room 1 (A.deeper (envOfC "is_on" (defScope s_is_on) s.heap.objs.size f cdv))) :
    PSs (cxOf CX0 P w K mg base n_is_on "is_on" (defScope s_is_on) f cdv A outer s H E).nox (defBody s_is_on) (t_is_on K C) :=
  (pss_one (ps_ret (pe_and (pe_cmpR (op_eqD hr.units) (pe_callC c_left_by (hr.mono (by decide)) (by rfl) (pa_cons (pv 0) (pa_cons (pv 1) (pa_cons (pv 2) pa_nil)))) pe_int (nomark _)) (pe_and (pe_callC c_is_between (hr.mono (by decide)) (by rfl) (pa_cons (pe_ix ix_seq (pv 0) pe_int (fun _ _ => rfl)) (pa_cons (pe_ix ix_seq (pv 1) pe_int (fun _ _ => rfl)) (pa_cons (pe_ix ix_seq (pv 2) pe_int (fun _ _ => rfl)) pa_nil)))) (pe_one (pe_callC c_is_between (hr.mono (by decide)) (by rfl) (pa_cons (pe_ix ix_seq (pv 0) pe_int (fun _ _ => rfl)) (pa_cons (pe_ix ix_seq (pv 1) pe_int (fun _ _ => rfl)) (pa_cons (pe_ix ix_seq (pv 2) pe_int (fun _ _ => rfl)) pa_nil)))))))))
theorem ln_is_on : ∀ ds Q, R_is_on ds Q → ds.length = 3 := fun ds Q ⟨_, _, _, e, _⟩ => by rw [e]; rfl
theorem wk_is_on : ∀ ds Q, R_is_on ds Q → SW ⟨K, C, none⟩ (t_is_on K C) (init ds 0) ⟨fun _ => Q .non, Q, fun _ => False, fun _ => False⟩ := by
  rintro _ Q ⟨a, b, p, rfl, ha, hb, hp, q⟩
  unfold t_is_on
  refine sw_ret (ew_andD (a := leftBy a b p == 0) (c := isBetween a.1 b.1 p.1 && isBetween a.2 b.2 p.2) ?_ (fun _ => ew_andD ?_ (fun _ => ?_) rfl) ?_)
  · walk_at "go"
    refine ⟨a, b, p, rfl, ha, hb, hp, ?_⟩
    walk_at "go"
    rfl
  · walk_at "go"
    refine ⟨_, _, _, rfl, hp.a, hp.b, ?_⟩
    walk_at "go"
    rfl
  · walk_at "go"
    refine ⟨_, _, _, rfl, hp.c, hp.d, ?_⟩
    walk_at "go"
    rfl
  · unfold isOn at q
    rw [Bool.beq_eq_decide_eq]
    exact q
theorem ok_is_on (c_left_by : Cal P w K mg base "left_by" 1 ["a", "b", "point"] (spP K C R_left_by)) (c_is_between : Cal P w K mg base "is_between" 1 ["one", "other", "worth"] (spP K C R_is_between)) (F : DefAt K mg "is_on" ["a", "b", "point"] s_is_on) : Cal P w K mg base "is_on" 2 ["a", "b", "point"] (spP K C R_is_on) :=
  F.okP sc_is_on ln_is_on (fun _ _ _ _ _ _ _ hr => bd_is_on c_left_by c_is_between hr) wk_is_on
def R_rises_past (ds : List Da) (Q : Da → Prop) : Prop := ∃ (a b : Pt) (h : Fr), ds = [dP a, dP b, dP h] ∧ Sm a ∧ Sm b ∧ Q (.bl (risesPast a b h))
abbrev s_rises_past : Stmt := topS 47
abbrev n_rises_past : List Str := ["a", "b", "height"]
theorem sc_rises_past : FnScope n_rises_past ["a", "b", "height"] (defScope s_rises_past) := ⟨rfl, rfl, rfl, by decide +kernel, rfl, by decide +kernel, by decide +kernel⟩
def t_rises_past (K : PySem.W.Frag) (C : Addr) : TS :=
  (tRet (tChain (rI0 fun i j => .bl (decide (i ≤ j))) (rI0 fun i j => .bl (decide (i < j))) (tOp (rI CMul fun i j => .int (i * j)) (tOp (rIx K) (tVar 0) (tC (.int 1))) (tOp (rIx K) (tVar 2) (tC (.int 1)))) (tOp (rIx K) (tVar 2) (tC (.int 0))) (tOp (rI CMul fun i j => .int (i * j)) (tOp (rIx K) (tVar 1) (tC (.int 1))) (tOp (rIx K) (tVar 2) (tC (.int 1))))))
theorem bd_rises_past {f : Addr} {cdv : Value} {A : Around} {outer : List PySem.Env} {s : Shared} {H : Hp} {E : XK} (hr : Room 0 (A.deeper (envOfC "rises_past" (defScope s_rises_past) s.heap.objs.size f cdv))) :
    PSs (cxOf CX0 P w K mg base n_rises_past "rises_past" (defScope s_rises_past) f cdv A outer s H E).nox (defBody s_rises_past) (t_rises_past K C) :=
  (pss_one (ps_ret (pe_chain op_le op_lt (pe_op op_mul (pe_ix ix_seq (pv 0) pe_int (fun _ _ => rfl)) (pe_ix ix_seq (pv 2) pe_int (fun _ _ => rfl))) (pe_ix ix_seq (pv 2) pe_int (fun _ _ => rfl)) (pe_op op_mul (pe_ix ix_seq (pv 1) pe_int (fun _ _ => rfl)) (pe_ix ix_seq (pv 2) pe_int (fun _ _ => rfl))))))
theorem ln_rises_past : ∀ ds Q, R_rises_past ds Q → ds.length = 3 := fun ds Q ⟨_, _, _, e, _⟩ => by rw [e]; rfl
theorem wk_rises_past : ∀ ds Q, R_rises_past ds Q → SW ⟨K, C, none⟩ (t_rises_past K C) (init ds 0) ⟨fun _ => Q .non, Q, fun _ => False, fun _ => False⟩ := by
  rintro _ Q ⟨a, b, h, rfl, ⟨a1, a2, a3, a4⟩, ⟨b1, b2, b3, b4⟩, q⟩
  unfold t_rises_past
  walk_at "go"
  exact q
theorem ok_rises_past (F : DefAt K mg "rises_past" ["a", "b", "height"] s_rises_past) : Cal P w K mg base "rises_past" 1 ["a", "b", "height"] (spP K C R_rises_past) :=
  F.okP sc_rises_past ln_rises_past (fun _ _ _ _ _ _ _ hr => bd_rises_past hr) wk_rises_past
def upP (a b : Pt) (p : FP) : Bool := risesPast a b p.2 && decide (0 < leftBy a b p)
theorem goPast_eq (a b : Pt) (p : FP) : goPast a b p = (if upP a b p = true then 1 else 0) - (if upP b a p = true then 1 else 0) := rfl
theorem go_add {pre : List (Pt × Pt)} {a b : Pt} {p : FP} {u d : Bool} (hu : upP a b p = u) (hd : upP b a p = d) : ((pre ++ [(a, b)]).map fun e => goPast e.1 e.2 p).sum = (pre.map fun e => goPast e.1 e.2 p).sum + ((if u = true then 1 else 0) - (if d = true then 1 else 0)) := by
  rw [List.map_append, List.sum_append]
  show _ + (goPast a b p + 0) = _
  rw [goPast_eq, hu, hd, Int.add_zero]
def R_ring_turns (ds : List Da) (Q : Da → Prop) : Prop := ∃ (r : List Pt) (p : FP), ds = [dR r, dFP p] ∧ r ≠ [] ∧ r.length ≤ 1000 ∧ (∀ p, p ∈ r → Sm p) ∧ PtB p ∧ Q (.int (ringTurns r p))
abbrev s_ring_turns : Stmt := topS 48
abbrev n_ring_turns : List Str := ["ring", "point", "turns", "a", "b"]
theorem sc_ring_turns : FnScope n_ring_turns ["ring", "point"] (defScope s_ring_turns) := ⟨rfl, rfl, rfl, by decide +kernel, rfl, by decide +kernel, by decide +kernel⟩
def t_ring_turns (K : PySem.W.Frag) (C : Addr) : TS :=
  (tSeq (tAsg (tC (.int 0)) (gName 2))
    (tSeq (tFor (iSeq K (tCall (spP K C R_ring_sides) [] E0 (tCons (tVar 0) tNil))) (gTup K 2 (gCons (gName 3) (gCons (gName 4) gNil)))
    (tSeq (tIfS (tAnd (tB (tCall (spP K C R_rises_past) [] E0 (tCons (tVar 3) (tCons (tVar 4) (tCons (tOp (rIx K) (tVar 1) (tC (.int 1))) tNil))))) (tTest (tOp (rI0 fun i j => .bl (decide (j < i))) (tCall (spP K C R_left_by) [] E0 (tCons (tVar 3) (tCons (tVar 4) (tCons (tVar 1) tNil)))) (tC (.int 0))))) (tAug 2 (tC (.int 1)) (ipI fun i j => i + j)) tNext)
    (tIfS (tAnd (tB (tCall (spP K C R_rises_past) [] E0 (tCons (tVar 4) (tCons (tVar 3) (tCons (tOp (rIx K) (tVar 1) (tC (.int 1))) tNil))))) (tTest (tOp (rI0 fun i j => .bl (decide (j < i))) (tCall (spP K C R_left_by) [] E0 (tCons (tVar 4) (tCons (tVar 3) (tCons (tVar 1) tNil)))) (tC (.int 0))))) (tAug 2 (tC (.int 1)) (ipI fun i j => i - j)) tNext)))
    (tRet (tVar 2))))
theorem bd_ring_turns (c_ring_sides : Cal P w K mg base "ring_sides" 1 ["ring"] (spP K C R_ring_sides)) (c_rises_past : Cal P w K mg base "rises_past" 1 ["a", "b", "height"] (spP K C R_rises_past)) (c_left_by : Cal P w K mg base "left_by" 1 ["a", "b", "point"] (spP K C R_left_by)) {f : Addr} {cdv : Value} {A : Around} {outer : List PySem.Env} {s : Shared} {H : Hp} {E : XK} (hr : Room 1 (A.deeper (envOfC "ring_turns" (defScope s_ring_turns) s.heap.objs.size f cdv))) :
    PSs (cxOf CX0 P w K mg base n_ring_turns "ring_turns" (defScope s_ring_turns) f cdv A outer s H E).nox (defBody s_ring_turns) (t_ring_turns K C) :=
  (pss_cons (ps_set (i := 2) sc_ring_turns.nd rfl (Or.inl rfl) pe_int)
    (pss_cons (ps_for PassesOwn.never rfl (pi_seq (pe_callC c_ring_sides (hr.mono (by decide)) (by rfl) (pa_cons (pv 0) pa_nil))) (pg_tup (by rfl) (pgs_cons (pg_name (i := 3) sc_ring_turns.nd rfl (Or.inl rfl)) (pgs_cons (pg_name (i := 4) sc_ring_turns.nd rfl (Or.inl rfl)) pgs_nil)))
    (pss_cons (ps_if (PW.pt (pw_and (pt_val (pe_callC c_rises_past (hr.mono (by decide)) (by rfl) (pa_cons (pv 3) (pa_cons (pv 4) (pa_cons (pe_ix ix_seq (pv 1) pe_int (fun _ _ => rfl)) pa_nil))))) (pw_and1 (pt_cmpR op_gt (pe_callC c_left_by (hr.mono (by decide)) (by rfl) (pa_cons (pv 3) (pa_cons (pv 4) (pa_cons (pv 1) pa_nil)))) pe_int (nomark _))))) (pss_one (ps_aug (i := 2) sc_ring_turns.nd rfl (Or.inl rfl) pe_int ip_add)) pss_nil)
    (pss_one (ps_if (PW.pt (pw_and (pt_val (pe_callC c_rises_past (hr.mono (by decide)) (by rfl) (pa_cons (pv 4) (pa_cons (pv 3) (pa_cons (pe_ix ix_seq (pv 1) pe_int (fun _ _ => rfl)) pa_nil))))) (pw_and1 (pt_cmpR op_gt (pe_callC c_left_by (hr.mono (by decide)) (by rfl) (pa_cons (pv 4) (pa_cons (pv 3) (pa_cons (pv 1) pa_nil)))) pe_int (nomark _))))) (pss_one (ps_aug (i := 2) sc_ring_turns.nd rfl (Or.inl rfl) pe_int ip_sub)) pss_nil))))
    (pss_one (ps_ret (pv 2)))))
theorem ln_ring_turns : ∀ ds Q, R_ring_turns ds Q → ds.length = 2 := fun ds Q ⟨_, _, e, _⟩ => by rw [e]; rfl
theorem wk_ring_turns : ∀ ds Q, R_ring_turns ds Q → SW ⟨K, C, none⟩ (t_ring_turns K C) (init ds 3) ⟨fun _ => Q .non, Q, fun _ => False, fun _ => False⟩ := by
  rintro _ Q ⟨r, p, rfl, h0, h1, hsm, hp, q⟩
  unfold t_ring_turns
  refine sw_seq (sw_asg ?_)
  walk_at "go"
  refine sw_forM (sides r) dS (iw_sqT ?w) (fun pre A' => ∃ x y T, A' = ⟨[.dat (dR r), .dat (dFP p), .dat (.int T), x, y], none⟩ ∧ T = (pre.map fun e => goPast e.1 e.2 p).sum) ⟨_, _, _, rfl, rfl⟩ ?t ?f
  case w =>
    walk_at "go"
    refine ⟨r, rfl, h0, h1, ?_⟩
    walk_at "go"
    rfl
  case f =>
    rintro _ ⟨x, y, _, rfl, rfl⟩
    walk_at "go"
    exact q
  case t =>
    rintro pre ⟨a, b⟩ post _ hs ⟨x, y, _, rfl, rfl⟩
    obtain ⟨m1, m2⟩ := sides_mem1 (r := r) (s := (a, b)) (by rw [hs]; exact List.mem_append_right _ List.mem_cons_self)
    have sa := hsm _ m1
    have sb := hsm _ m2
    walk_at "go"
    refine sw_ifD (b := upP a b p) ?_ (fun hb => ?_) fun hb => sw_next ?_
    · unfold upP
      refine tw_and2 ?_ (fun _ => ?_) rfl
      · walk_at "go"
        refine ⟨a, b, p.2, rfl, sa, sb, ?_⟩
        walk_at "go"
        rfl
      · walk_at "go"
        refine ⟨a, b, p, rfl, sa, sb, hp, ?_⟩
        walk_at "go"
        rfl
    · walk_at "go"
      refine sw_ifD (b := upP b a p) ?_ (fun hd => ?_) fun hd => sw_next ?_
      · unfold upP
        refine tw_and2 ?_ (fun _ => ?_) rfl
        · walk_at "go"
          refine ⟨b, a, p.2, rfl, sb, sa, ?_⟩
          walk_at "go"
          rfl
        · walk_at "go"
          refine ⟨b, a, p, rfl, sb, sa, hp, ?_⟩
          walk_at "go"
          rfl
      · walk_at "go"
        exact ⟨_, _, _, rfl, by rw [go_add hb hd]; simp <;> omega⟩
      · exact ⟨_, _, _, rfl, by rw [go_add hb hd]; simp <;> omega⟩
    · refine sw_ifD (b := upP b a p) ?_ (fun hd => ?_) fun hd => sw_next ?_
      · unfold upP
        refine tw_and2 ?_ (fun _ => ?_) rfl
        · walk_at "go"
          refine ⟨b, a, p.2, rfl, sb, sa, ?_⟩
          walk_at "go"
          rfl
        · walk_at "go"
          refine ⟨b, a, p, rfl, sb, sa, hp, ?_⟩
          walk_at "go"
          rfl
      · walk_at "go"
        exact ⟨_, _, _, rfl, by rw [go_add hb hd]; simp <;> omega⟩
      · exact ⟨_, _, _, rfl, by rw [go_add hb hd]; simp <;> omega⟩
theorem ok_ring_turns (c_ring_sides : Cal P w K mg base "ring_sides" 1 ["ring"] (spP K C R_ring_sides)) (c_rises_past : Cal P w K mg base "rises_past" 1 ["a", "b", "height"] (spP K C R_rises_past)) (c_left_by : Cal P w K mg base "left_by" 1 ["a", "b", "point"] (spP K C R_left_by)) (F : DefAt K mg "ring_turns" ["ring", "point"] s_ring_turns) : Cal P w K mg base "ring_turns" 2 ["ring", "point"] (spP K C R_ring_turns) :=
  F.okP sc_ring_turns ln_ring_turns (fun _ _ _ _ _ _ _ hr => bd_ring_turns c_ring_sides c_rises_past c_left_by hr) wk_ring_turns
def R_ring_side (ds : List Da) (Q : Da → Prop) : Prop := ∃ (r : List Pt) (p : FP), ds = [dR r, dFP p] ∧ r ≠ [] ∧ r.length ≤ 1000 ∧ (∀ p, p ∈ r → Sm p) ∧ PtB p ∧ Q (.int (ringSide r p))
abbrev s_ring_side : Stmt := topS 49
abbrev n_ring_side : List Str := ["ring", "point", "a", "b"]
theorem sc_ring_side : FnScope n_ring_side ["ring", "point"] (defScope s_ring_side) := ⟨rfl, rfl, rfl, by decide +kernel, rfl, by decide +kernel, by decide +kernel⟩
def t_ring_side (K : PySem.W.Frag) (C : Addr) : TS :=
  (tSeq (tIfS (tB (tCB (L2.rAny K) (tCons (tLc (iSeq K (tCall (spP K C R_ring_sides) [] E0 (tCons (tVar 0) tNil))) (gTup K 2 (gCons (gName 2) (gCons (gName 3) gNil))) tYes (tCall (spP K C R_is_on) [] E0 (tCons (tVar 2) (tCons (tVar 3) (tCons (tVar 1) tNil)))) [2, 3]) tNil))) (tRet (tC (.int 0))) tNext)
    (tRet (tIf (tTest (tOp (rEqD K) (tCall (spP K C R_ring_turns) [] E0 (tCons (tVar 0) (tCons (tVar 1) tNil))) (tC (.int 0)))) (tUn (rU fun i => .int (-i)) (tC (.int 1))) (tC (.int 1)))))
theorem bd_ring_side (c_ring_sides : Cal P w K mg base "ring_sides" 1 ["ring"] (spP K C R_ring_sides)) (c_is_on : Cal P w K mg base "is_on" 2 ["a", "b", "point"] (spP K C R_is_on)) (c_ring_turns : Cal P w K mg base "ring_turns" 2 ["ring", "point"] (spP K C R_ring_turns)) (m_any : mg "any" = none) {f : Addr} {cdv : Value} {A : Around} {outer : List PySem.Env} {s : Shared} {H : Hp} {E : XK} (hr : Room 2 (A.deeper (envOfC "ring_side" (defScope s_ring_side) s.heap.objs.size f cdv))) :
    PSs (cxOf CX0 P w K mg base n_ring_side "ring_side" (defScope s_ring_side) f cdv A outer s H E).nox (defBody s_ring_side) (t_ring_side K C) :=
  (pss_cons (ps_if (pt_val (pe_callB (cr_any (by rfl)) (by rfl) m_any (by decide +kernel) (pa_cons (pe_lc (own := [("a", 2), ("b", 3)]) (by rfl) sc_ring_side.nd (pi_seq (pe_callC c_ring_sides (hr.mono (by decide)) (by rfl) (pa_cons (pv 0) pa_nil))) (blkOk_by (own := [("a", 2), ("b", 3)]) (N := n_ring_side) (sc := defScope s_ring_side) (by decide +kernel)) (fun _ _ _ _ _ => (pg_tup (by rfl) (pgs_cons (pg_name (i := 2) sc_ring_side.nd rfl (Or.inl rfl)) (pgs_cons (pg_name (i := 3) sc_ring_side.nd rfl (Or.inl rfl)) pgs_nil)))) (fun _ _ _ _ _ => pts_nil) (fun _ _ _ _ _ => (pe_callC c_is_on (hr.mono (by decide)) (by rfl) (pa_cons (pv 2) (pa_cons (pv 3) (pa_cons (pv 1) pa_nil)))))) pa_nil))) (pss_one (ps_ret pe_int)) pss_nil)
    (pss_one (ps_ret (pe_ifExp (pt_cmpR (op_eqD hr.units) (pe_callC c_ring_turns (hr.mono (by decide)) (by rfl) (pa_cons (pv 0) (pa_cons (pv 1) pa_nil))) pe_int (nomark _)) (pe_un un_neg pe_int) pe_int))))
theorem ln_ring_side : ∀ ds Q, R_ring_side ds Q → ds.length = 2 := fun ds Q ⟨_, _, e, _⟩ => by rw [e]; rfl
theorem wk_ring_side : ∀ ds Q, R_ring_side ds Q → SW ⟨K, C, none⟩ (t_ring_side K C) (init ds 2) ⟨fun _ => Q .non, Q, fun _ => False, fun _ => False⟩ := by
  rintro _ Q ⟨r, p, rfl, h0, h1, hsm, hp, q⟩
  unfold ringSide at q
  unfold t_ring_side
  refine sw_seq (sw_ifD (b := (sides r).any fun e => isOn e.1 e.2 p) ?_ (fun hb => ?_) fun hb => sw_next ?_)
  · refine tw_b (ew_any (aw_cons (ew_lcM (sides r) dS (fun e => .bl (isOn e.1 e.2 p)) (iw_sqT ?w) (by rw [sides_len]; omega) ?t ?p)))
    case w =>
      walk_at "go"
      refine ⟨r, rfl, h0, h1, ?_⟩
      walk_at "go"
      rfl
    case t =>
      rintro ⟨a, b⟩ hs
      obtain ⟨m1, m2⟩ := sides_mem1 hs
      walk_at "go"
      exact ⟨a, b, p, rfl, hsm _ m1, hsm _ m2, hp, rfl⟩
    case p =>
      walk_at "go"
      refine ⟨_, isBls_map _ _, ?_⟩
      refine onB_mk ?_
      rw [List.any_map]
      rfl
  · walk_at "go"
    rw [if_pos hb] at q
    exact q
  · rw [hb, if_neg Bool.false_ne_true] at q
    refine sw_ret (ew_ifD (b := ringTurns r p == 0) ?_ (fun hz => ?_) fun hz => ?_)
    · walk_at "go"
      refine ⟨r, p, rfl, h0, h1, hsm, hp, ?_⟩
      walk_at "go"
      rfl
    · walk_at "go"
      rw [if_pos (by simpa using hz)] at q
      exact q
    · walk_at "go"
      rw [if_neg (by simpa using hz)] at q
      exact q
theorem ok_ring_side (c_ring_sides : Cal P w K mg base "ring_sides" 1 ["ring"] (spP K C R_ring_sides)) (c_is_on : Cal P w K mg base "is_on" 2 ["a", "b", "point"] (spP K C R_is_on)) (c_ring_turns : Cal P w K mg base "ring_turns" 2 ["ring", "point"] (spP K C R_ring_turns)) (m_any : mg "any" = none) (F : DefAt K mg "ring_side" ["ring", "point"] s_ring_side) : Cal P w K mg base "ring_side" 3 ["ring", "point"] (spP K C R_ring_side) :=
  F.okP sc_ring_side ln_ring_side (fun _ _ _ _ _ _ _ hr => bd_ring_side c_ring_sides c_is_on c_ring_turns m_any hr) wk_ring_side
theorem PlB.o {o : List Pt} {hs : List (List Pt)} (h : PlB o hs) : o ≠ [] ∧ o.length ≤ 1000 ∧ ∀ p, p ∈ o → Sm p := ⟨(h.ne o List.mem_cons_self).1, Nat.le_trans (h.ne o List.mem_cons_self).2 (by decide), fun p hp => h.s List.mem_cons_self hp⟩
theorem PlB.h {o : List Pt} {hs : List (List Pt)} (h : PlB o hs) {r : List Pt} (hr : r ∈ hs) : r ≠ [] ∧ r.length ≤ 1000 ∧ ∀ p, p ∈ r → Sm p := ⟨(h.ne r (List.mem_cons_of_mem _ hr)).1, Nat.le_trans (h.ne r (List.mem_cons_of_mem _ hr)).2 (by decide), fun p hp => h.s (List.mem_cons_of_mem _ hr) hp⟩
def R_side_of (ds : List Da) (Q : Da → Prop) : Prop := ∃ o hs p, ds = [dPl o hs, dFP p] ∧ PlB o hs ∧ PtB p ∧ Q (.int (sideOf o hs p))
abbrev s_side_of : Stmt := topS 50
abbrev n_side_of : List Str := ["plate", "point", "found", "hole"]
theorem sc_side_of : FnScope n_side_of ["plate", "point"] (defScope s_side_of) := ⟨rfl, rfl, rfl, by decide +kernel, rfl, by decide +kernel, by decide +kernel⟩
def t_side_of (K : PySem.W.Frag) (C : Addr) : TS :=
  (tSeq (tAsg (tCall (spP K C R_ring_side) [] E0 (tCons (tFld K (tVar 0) "outer") (tCons (tVar 1) tNil))) (gName 2))
    (tSeq (tFor (iSeq K (tFld K (tVar 0) "holes")) (gName 3)
    (tAsg (tIf (tTest (tOp (rEqD K) (tVar 2) (tC (.int 1)))) (tCB (rMn K) (tCons (tVar 2) (tCons (tUn (rU fun i => .int (-i)) (tCall (spP K C R_ring_side) [] E0 (tCons (tVar 3) (tCons (tVar 1) tNil)))) tNil))) (tVar 2)) (gName 2)))
    (tRet (tVar 2))))
theorem bd_side_of (c_ring_side : Cal P w K mg base "ring_side" 3 ["ring", "point"] (spP K C R_ring_side)) (m_min : mg "min" = none) {f : Addr} {cdv : Value} {A : Around} {outer : List PySem.Env} {s : Shared} {H : Hp} {E : XK} (hr : Room 3 (A.deeper (envOfC "side_of" (defScope s_side_of) s.heap.objs.size f cdv))) :
    PSs (cxOf CX0 P w K mg base n_side_of "side_of" (defScope s_side_of) f cdv A outer s H E).nox (defBody s_side_of) (t_side_of K C) :=
  (pss_cons (ps_set (i := 2) sc_side_of.nd rfl (Or.inl rfl) (pe_callC c_ring_side (hr.mono (by decide)) (by rfl) (pa_cons (pe_fld (pv 0) rfl) (pa_cons (pv 1) pa_nil))))
    (pss_cons (ps_for PassesOwn.never rfl (pi_seq (pe_fld (pv 0) rfl)) (pg_name (i := 3) sc_side_of.nd rfl (Or.inl rfl))
    (pss_one (ps_set (i := 2) sc_side_of.nd rfl (Or.inl rfl) (pe_ifExp (pt_cmpR (op_eqD hr.units) (pv 2) pe_int (nomark _)) (pe_callB (call_mn (by rfl)) (by rfl) m_min (by decide +kernel) (pa_cons (pv 2) (pa_cons (pe_un un_neg (pe_callC c_ring_side (hr.mono (by decide)) (by rfl) (pa_cons (pv 3) (pa_cons (pv 1) pa_nil)))) pa_nil))) (pv 2)))))
    (pss_one (ps_ret (pv 2)))))
theorem ln_side_of : ∀ ds Q, R_side_of ds Q → ds.length = 2 := fun ds Q ⟨_, _, _, e, _⟩ => by rw [e]; rfl
theorem wk_side_of (T : PlateCls K C) : ∀ ds Q, R_side_of ds Q → SW ⟨K, C, none⟩ (t_side_of K C) (init ds 2) ⟨fun _ => Q .non, Q, fun _ => False, fun _ => False⟩ := by
  rintro _ Q ⟨o, hs, p, rfl, pb, hp, q⟩
  unfold sideOf at q
  unfold t_side_of
  obtain ⟨o1, o2, o3⟩ := pb.o
  refine sw_seq (sw_asg (ew_callP (aw_cons (ew_outer T ?_))))
  walk_at "go"
  refine ⟨_, _, rfl, ?_⟩
  walk_at "go"
  refine ⟨o, p, rfl, o1, o2, o3, hp, ?_⟩
  walk_at "go"
  refine sw_forM hs dR (iw_sqT ?w) (fun pre A' => ∃ x f, A' = ⟨[.dat (dPl o hs), .dat (dFP p), .dat (.int f), x], none⟩ ∧ f = pre.foldl (fun f h => if f = 1 then lo2 f (-ringSide h p) else f) (ringSide o p)) ⟨_, _, rfl, rfl⟩ ?t ?f
  case w =>
    refine ew_holes T ?_
    walk_at "go"
    exact ⟨_, _, rfl, rfl⟩
  case f =>
    rintro _ ⟨x, f, rfl, rfl⟩
    walk_at "go"
    exact q
  case t =>
    rintro pre h post _ he ⟨x, f, rfl, hf⟩
    obtain ⟨g1, g2, g3⟩ := pb.h (r := h) (by rw [he]; exact List.mem_append_right _ List.mem_cons_self)
    walk_at "go"
    refine ew_ifD (b := f == 1) (by walk_at "go"; rfl) (fun hz => ?_) fun hz => ?_
    · refine ew_min2 ?_
      walk_at "go"
      refine ⟨h, p, rfl, g1, g2, g3, hp, ?_⟩
      walk_at "go"
      refine ⟨_, _, rfl, ?_⟩
      rw [List.foldl_append]
      show _ = if List.foldl _ _ pre = 1 then lo2 (List.foldl _ _ pre) (-ringSide h p) else List.foldl _ _ pre
      rw [← hf, if_pos (show f = 1 by simpa using hz)]
      rfl
    · walk_at "go"
      refine ⟨_, _, rfl, ?_⟩
      rw [List.foldl_append]
      show _ = if List.foldl _ _ pre = 1 then lo2 (List.foldl _ _ pre) (-ringSide h p) else List.foldl _ _ pre
      rw [← hf, if_neg (show ¬ f = 1 by simpa using hz)]
theorem ok_side_of (T : PlateCls K C) (c_ring_side : Cal P w K mg base "ring_side" 3 ["ring", "point"] (spP K C R_ring_side)) (m_min : mg "min" = none) (F : DefAt K mg "side_of" ["plate", "point"] s_side_of) : Cal P w K mg base "side_of" 4 ["plate", "point"] (spP K C R_side_of) :=
  F.okP sc_side_of ln_side_of (fun _ _ _ _ _ _ _ hr => bd_side_of c_ring_side m_min hr) (wk_side_of T)
theorem eqv_fp (p s : FP) : PyData.eqv (dFP p).py (dFP s).py = decide (p = s) := by
  show (PyData.eqv (dP p.1).py (dP s.1).py && (PyData.eqv (dP p.2).py (dP s.2).py && true)) = _
  rw [eqv_pt, eqv_pt, Bool.and_true]
  obtain ⟨a, b⟩ := p
  obtain ⟨c, d⟩ := s
  by_cases h : a = c <;> by_cases g : b = d <;> simp [h, g]
theorem find_here {α : Type} {f : α → Bool} {pre post : List α} {x : α} (h : ∀ y, y ∈ pre → f y = false) (hx : f x = true) : (pre ++ x :: post).find? f = some x := by
  rw [List.find?_append, List.find?_eq_none.mpr (fun y hy => by rw [h y hy]; exact Bool.false_ne_true), List.find?_cons, hx]
  rfl
theorem find_no {α : Type} {f : α → Bool} {xs : List α} (h : ∀ y, y ∈ xs → f y = false) : xs.find? f = none := List.find?_eq_none.mpr fun y hy => by rw [h y hy]; exact Bool.false_ne_true
def cornerIs (cs : List Pt) (p : FP) (i : Nat) : Bool := decide ((((cg cs i).1, 1), ((cg cs i).2, 1)) = p)
def sideD (o : List Pt) (hs : List (List Pt)) (p : FP) : Da := if sideOf o hs p = 1 then .tup [.str "inside"] else .tup [.str "outside"]
def whereD (o : List Pt) (hs : List (List Pt)) (p : FP) : Da :=
  match (List.range (o :: hs).flatten.length).find? (cornerIs (o :: hs).flatten p) with
  | some i => .tup [.str "corner", .int (i : Nat)]
  | none => match (ixSides 0 (o :: hs)).find? (fun e => isOn (cg (o :: hs).flatten e.1) (cg (o :: hs).flatten e.2) p) with
    | some e => .tup [.str "side", .int e.1]
    | none => sideD o hs p
theorem ixOne_mem {f : Int} {n : Nat} {e : Int × Int} (hn : 0 < n) (h : e ∈ ixOne f n) : f ≤ e.1 ∧ e.1 < f + n ∧ f ≤ e.2 ∧ e.2 < f + n := by
  unfold ixOne at h
  rcases List.mem_append.mp h with h | h
  · obtain ⟨k, hk, rfl⟩ := List.mem_map.mp h
    have hk := List.mem_range.mp hk
    refine ⟨?_, ?_, ?_, ?_⟩ <;> simp only <;> omega
  · rw [List.mem_singleton.mp h]
    refine ⟨?_, ?_, ?_, ?_⟩ <;> simp only <;> omega
theorem ixSides_mem : ∀ (rs : List (List Pt)) (f : Int) (e : Int × Int), (∀ r, r ∈ rs → r ≠ []) → e ∈ ixSides f rs → f ≤ e.1 ∧ e.1 < f + rs.flatten.length ∧ f ≤ e.2 ∧ e.2 < f + rs.flatten.length
  | [], _, _, _, h => by cases h
  | r :: rs, f, e, hn, h => by
    have h : e ∈ ixOne f r.length ++ ixSides (f + r.length) rs := h
    rw [List.flatten_cons, List.length_append]
    rcases List.mem_append.mp h with h | h
    · have := ixOne_mem (List.length_pos_iff.mpr (hn r List.mem_cons_self)) h
      omega
    · have := ixSides_mem rs _ e (fun s hs => hn s (List.mem_cons_of_mem _ hs)) h
      omega
def R_where_in (ds : List Da) (Q : Da → Prop) : Prop := ∃ o hs p, ds = [dPl o hs, dFP p] ∧ PlB o hs ∧ PtB p ∧ Q (whereD o hs p)
abbrev s_where_in : Stmt := topS 51
abbrev n_where_in : List Str := ["plate", "point", "corners", "at", "corner", "after"]
theorem sc_where_in : FnScope n_where_in ["plate", "point"] (defScope s_where_in) := ⟨rfl, rfl, rfl, by decide +kernel, rfl, by decide +kernel, by decide +kernel⟩
def t_where_in (K : PySem.W.Frag) (C : Addr) : TS :=
  (tSeq (tAsg (tCall (spP K C R_corners_of) [] E0 (tCons (tVar 0) tNil)) (gName 2))
    (tSeq (tFor (iEnT K (tCons (tVar 2) tNil)) (gTup K 2 (gCons (gName 3) (gCons (gName 4) gNil)))
    (tIfS (tTest (tOp (rEqD K) (tCall (spP K C R_point_at) [] E0 (tCons (tOp (rIx K) (tVar 4) (tC (.int 0))) (tCons (tOp (rIx K) (tVar 4) (tC (.int 1))) tNil))) (tVar 1))) (tRet (tTup (tCons (tC (.str "corner")) (tCons (tVar 3) tNil)))) tNext))
    (tSeq (tFor (iSeq K (tCall (spP K C R_sides_of) [] E0 (tCons (tVar 0) tNil))) (gTup K 2 (gCons (gName 3) (gCons (gName 5) gNil)))
    (tIfS (tB (tCall (spP K C R_is_on) [] E0 (tCons (tOp (rIx K) (tVar 2) (tVar 3)) (tCons (tOp (rIx K) (tVar 2) (tVar 5)) (tCons (tVar 1) tNil))))) (tRet (tTup (tCons (tC (.str "side")) (tCons (tVar 3) tNil)))) tNext))
    (tRet (tIf (tTest (tOp (rEqD K) (tCall (spP K C R_side_of) [] E0 (tCons (tVar 0) (tCons (tVar 1) tNil))) (tC (.int 1)))) (tTup (tCons (tC (.str "inside")) tNil)) (tTup (tCons (tC (.str "outside")) tNil)))))))
theorem bd_where_in (c_corners_of : Cal P w K mg base "corners_of" 2 ["plate"] (spP K C R_corners_of)) (c_point_at : Cal P w K mg base "point_at" 1 ["x", "y"] (spP K C R_point_at)) (c_sides_of : Cal P w K mg base "sides_of" 3 ["plate"] (spP K C R_sides_of)) (c_is_on : Cal P w K mg base "is_on" 2 ["a", "b", "point"] (spP K C R_is_on)) (c_side_of : Cal P w K mg base "side_of" 4 ["plate", "point"] (spP K C R_side_of)) (m_enumerate : mg "enumerate" = none) {f : Addr} {cdv : Value} {A : Around} {outer : List PySem.Env} {s : Shared} {H : Hp} {E : XK} (hr : Room 4 (A.deeper (envOfC "where_in" (defScope s_where_in) s.heap.objs.size f cdv))) :
    PSs (cxOf CX0 P w K mg base n_where_in "where_in" (defScope s_where_in) f cdv A outer s H E).nox (defBody s_where_in) (t_where_in K C) :=
  (pss_cons (ps_set (i := 2) sc_where_in.nd rfl (Or.inl rfl) (pe_callC c_corners_of (hr.mono (by decide)) (by rfl) (pa_cons (pv 0) pa_nil)))
    (pss_cons (ps_for PassesOwn.never rfl (pi_enumT (by rfl) m_enumerate (pa_cons (pv 2) pa_nil)) (pg_tup (by rfl) (pgs_cons (pg_name (i := 3) sc_where_in.nd rfl (Or.inl rfl)) (pgs_cons (pg_name (i := 4) sc_where_in.nd rfl (Or.inl rfl)) pgs_nil)))
    (pss_one (ps_if (pt_cmpR (op_eqD hr.units) (pe_callC c_point_at (hr.mono (by decide)) (by rfl) (pa_cons (pe_ix ix_seq (pv 4) pe_int (fun _ _ => rfl)) (pa_cons (pe_ix ix_seq (pv 4) pe_int (fun _ _ => rfl)) pa_nil))) (pv 1) (nomark _)) (pss_one (ps_ret (pe_tup (pa_cons pe_str (pa_cons (pv 3) pa_nil))))) pss_nil)))
    (pss_cons (ps_for PassesOwn.never rfl (pi_seq (pe_callC c_sides_of (hr.mono (by decide)) (by rfl) (pa_cons (pv 0) pa_nil))) (pg_tup (by rfl) (pgs_cons (pg_name (i := 3) sc_where_in.nd rfl (Or.inl rfl)) (pgs_cons (pg_name (i := 5) sc_where_in.nd rfl (Or.inl rfl)) pgs_nil)))
    (pss_one (ps_if (pt_val (pe_callC c_is_on (hr.mono (by decide)) (by rfl) (pa_cons (pe_ix ix_seq (pv 2) (pv 3) (fun _ _ => rfl)) (pa_cons (pe_ix ix_seq (pv 2) (pv 5) (fun _ _ => rfl)) (pa_cons (pv 1) pa_nil))))) (pss_one (ps_ret (pe_tup (pa_cons pe_str (pa_cons (pv 3) pa_nil))))) pss_nil)))
    (pss_one (ps_ret (pe_ifExp (pt_cmpR (op_eqD hr.units) (pe_callC c_side_of (hr.mono (by decide)) (by rfl) (pa_cons (pv 0) (pa_cons (pv 1) pa_nil))) pe_int (nomark _)) (pe_tup (pa_cons pe_str pa_nil)) (pe_tup (pa_cons pe_str pa_nil))))))))
theorem ln_where_in : ∀ ds Q, R_where_in ds Q → ds.length = 2 := fun ds Q ⟨_, _, _, e, _⟩ => by rw [e]; rfl
theorem wk_where_in : ∀ ds Q, R_where_in ds Q → SW ⟨K, C, none⟩ (t_where_in K C) (init ds 4) ⟨fun _ => Q .non, Q, fun _ => False, fun _ => False⟩ := by
  rintro _ Q ⟨o, hs, p, rfl, pb, hp, q⟩
  have hf := pb.flat
  have sm : ∀ z, Sm (cg (o :: hs).flatten z) := fun z => by
    have ne : (o :: hs).flatten ≠ [] := fun e => by
      have z := congrArg List.length e
      rw [List.flatten_cons, List.length_append] at z
      have := List.length_pos_iff.mpr (pb.ne o List.mem_cons_self).1
      have z : o.length + hs.flatten.length = 0 := z
      omega
    obtain ⟨r, hr, h⟩ := List.mem_flatten.mp (cg_mem z ne)
    exact pb.s hr h
  unfold whereD at q
  unfold t_where_in
  refine sw_seq (sw_asg ?_)
  walk_at "go"
  refine ⟨o, hs, rfl, pb, ?_⟩
  generalize hcs : (o :: hs).flatten = cs at *
  walk_at "go"
  refine sw_forM (List.range cs.length) (fun i => .tup [.int (i : Nat), dP (cs.getD i (0, 0))]) (iw_enumM cs dP (0, 0) (by walk_at "go"; rfl)) (fun pre A' => ∃ x y z, A' = ⟨[.dat (dPl o hs), .dat (dFP p), .dat (dR cs), x, y, z], none⟩ ∧ ∀ i, i ∈ pre → cornerIs cs p i = false) ⟨_, _, _, rfl, fun _ z => nomatch z⟩ ?t ?f
  case t =>
    rintro pre m post _ he ⟨x, y, z, rfl, hn⟩
    have hm : m < cs.length := List.mem_range.mp (by rw [he]; exact List.mem_append_right _ List.mem_cons_self)
    rw [getD_cg hm]
    walk_at "go"
    refine sw_ifD (b := cornerIs cs p m) ?_ (fun hb => ?_) fun hb => sw_next ?_
    · walk_at "go"
      refine ⟨_, _, rfl, ?_⟩
      walk_at "go"
      exact eqv_fp _ _
    · walk_at "go"
      rw [he, find_here hn hb] at q
      exact q
    · exact ⟨_, _, _, rfl, fun i hi => by
        rcases List.mem_append.mp hi with h | h
        · exact hn i h
        · rw [List.mem_singleton.mp h]; exact hb⟩
  case f =>
    rintro _ ⟨x, y, z, rfl, hn⟩
    rw [find_no hn] at q
    have q : Q (match (ixSides 0 (o :: hs)).find? (fun e => isOn (cg cs e.1) (cg cs e.2) p) with
      | some e => .tup [.str "side", .int e.1]
      | none => sideD o hs p) := q
    refine sw_seq (sw_forM (ixSides 0 (o :: hs)) dP (iw_sqT ?w) (fun pre A' => ∃ x y z, A' = ⟨[.dat (dPl o hs), .dat (dFP p), .dat (dR cs), x, y, z], none⟩ ∧ ∀ e, e ∈ pre → isOn (cg cs e.1) (cg cs e.2) p = false) ⟨_, _, _, rfl, fun _ z => nomatch z⟩ ?t2 ?f2)
    case w =>
      walk_at "go"
      refine ⟨o, hs, rfl, pb, ?_⟩
      walk_at "go"
      rfl
    case t2 =>
      rintro pre e post _ he ⟨x, y, z, rfl, hn⟩
      obtain ⟨b1, b2, b3, b4⟩ := ixSides_mem _ _ e (fun r hr => (pb.ne r hr).1) (by rw [he]; exact List.mem_append_right _ List.mem_cons_self)
      rw [hcs] at b2 b4
      walk_at "go"
      refine sw_ifD (b := isOn (cg cs e.1) (cg cs e.2) p) ?_ (fun hb => ?_) fun hb => sw_next ?_
      · walk_at "go"
        refine ix_tup (atI_cg (by omega) (by omega)) ?_
        walk_at "go"
        refine ix_tup (atI_cg (by omega) (by omega)) ?_
        walk_at "go"
        refine ⟨_, _, _, rfl, sm _, sm _, hp, ?_⟩
        walk_at "go"
        rfl
      · walk_at "go"
        rw [he, find_here hn hb] at q
        exact q
      · exact ⟨_, _, _, rfl, fun i hi => by
          rcases List.mem_append.mp hi with h | h
          · exact hn i h
          · rw [List.mem_singleton.mp h]; exact hb⟩
    case f2 =>
      rintro _ ⟨x, y, z, rfl, hn⟩
      rw [find_no hn] at q
      have q : Q (sideD o hs p) := q
      unfold sideD at q
      refine sw_ret (ew_ifD (b := sideOf o hs p == 1) ?_ (fun hz => ?_) fun hz => ?_)
      · walk_at "go"
        refine ⟨o, hs, p, rfl, pb, hp, ?_⟩
        walk_at "go"
        rfl
      · walk_at "go"
        rw [if_pos (by simpa using hz)] at q
        exact q
      · walk_at "go"
        rw [if_neg (by simpa using hz)] at q
        exact q
theorem ok_where_in (c_corners_of : Cal P w K mg base "corners_of" 2 ["plate"] (spP K C R_corners_of)) (c_point_at : Cal P w K mg base "point_at" 1 ["x", "y"] (spP K C R_point_at)) (c_sides_of : Cal P w K mg base "sides_of" 3 ["plate"] (spP K C R_sides_of)) (c_is_on : Cal P w K mg base "is_on" 2 ["a", "b", "point"] (spP K C R_is_on)) (c_side_of : Cal P w K mg base "side_of" 4 ["plate", "point"] (spP K C R_side_of)) (m_enumerate : mg "enumerate" = none) (F : DefAt K mg "where_in" ["plate", "point"] s_where_in) : Cal P w K mg base "where_in" 5 ["plate", "point"] (spP K C R_where_in) :=
  F.okP sc_where_in ln_where_in (fun _ _ _ _ _ _ _ hr => bd_where_in c_corners_of c_point_at c_sides_of c_is_on c_side_of m_enumerate hr) wk_where_in
end
end G
set_option Elab.async false
set_option linter.all false
set_option maxRecDepth 100000
namespace G
open PySem PySem.Spec L2
open Evl (Ex)
open PyProof.Rows (envOfC)
local macro_rules | `(tactic| walk_at "go") => `(tactic| repeat' (first
  | ((with_reducible refine' ew_v ?h ?k ?_); (case h => exact rfl); (case k => exact rfl))
  | with_reducible refine ew_int ?_
  | with_reducible refine ew_bl ?_
  | with_reducible refine ew_str ?_
  | with_reducible refine ew_non ?_
  | with_reducible refine ew_plus ?_
  | with_reducible refine ew_sub ?_
  | with_reducible refine ew_mul ?_
  | with_reducible refine ew_mulW ?_
  | with_reducible refine ew_fdiv ?_
  | with_reducible refine ew_mod ?_
  | with_reducible refine ew_ix ?_
  | with_reducible refine ew_lt ?_
  | with_reducible refine ew_le ?_
  | with_reducible refine ew_gt ?_
  | with_reducible refine ew_ge ?_
  | with_reducible refine ew_eqD ?_
  | with_reducible refine ew_neD ?_
  | with_reducible refine ew_neg ?_
  | with_reducible refine ew_tup ?_
  | with_reducible refine ew_lst ?_
  | with_reducible refine ew_len ?_
  | with_reducible refine ew_abs ?_
  | with_reducible refine ew_int1 ?_
  | with_reducible refine ew_gcd ?_
  | with_reducible refine ew_tupOf ?_
  | with_reducible refine ew_callP ?_
  | with_reducible refine ew_callG ?_
  | with_reducible refine ew_revL ?_
  | with_reducible refine ew_slice ?_
  | with_reducible refine ow_no ?_
  | with_reducible refine ow_some ?_
  | with_reducible refine ew_notV ?_
  | with_reducible refine ew_pow ?_
  | with_reducible refine aw_nil ?_
  | with_reducible refine aw_cons ?_
  | with_reducible refine onI2_mk ?_
  | with_reducible refine onI_mk ?_
  | with_reducible refine onB_mk ?_
  | with_reducible refine onD2_mk ?_
  | with_reducible refine onDat_mk ?_
  | with_reducible refine onL_mk ?_
  | with_reducible refine onTup_mk ?_
  | with_reducible refine onSeqT_mk ?_
  | with_reducible refine onSeqL_mk ?_
  | with_reducible refine onDs_nil ?_
  | with_reducible refine onDs_cons ?_
  | with_reducible refine onGDs_mk ?_
  | with_reducible refine on1_mk ?_
  | with_reducible refine on2_mk ?_
  | with_reducible refine plus_int ?_
  | with_reducible refine sq_tup ?_
  | with_reducible refine sq_lst ?_
  | with_reducible refine cut_tup ?_
  | with_reducible refine cut_lst ?_
  | ((with_reducible refine' ix_tup ?e ?_); (case e => first | exact rfl | assumption))
  | ((with_reducible refine' ix_lst ?e ?_); (case e => first | exact rfl | assumption))
  | ((with_reducible refine' And.intro (a := CMul _ _) ?c ?_); (case c => first | (refine mulL ⟨?_, ?_⟩ <;> omega) | (refine mulR ⟨?_, ?_⟩ <;> omega)))
  | ((with_reducible refine' And.intro (a := CMulW _ _) ?c ?_); (case c => assumption))
  | ((with_reducible refine' And.intro (a := 0 < _) ?c ?_); (case c => decide))
  | ((with_reducible refine' And.intro (a := List.length _ ≤ 100000) ?c ?_); (case c => exact Nat.le_of_ble_eq_true rfl))
  | ((with_reducible refine' And.intro (a := fit _ = true) ?c ?_); (case c => first | exact rfl | assumption))
  | with_reducible refine gw_nm ?_
  | ((with_reducible refine' gw_nmI ?h ?_); (case h => decide))
  | ((with_reducible refine' gw_tp ?h ?_); (case h => exact rfl))
  | with_reducible refine gsw_cons ?_
  | with_reducible refine gsw_nil ?_
  | with_reducible refine tw_tst ?_
  | with_reducible refine tw_b ?_
  | with_reducible refine tw_not ?_
  | with_reducible refine tw_yes ?_
  | with_reducible refine sw_seq ?_
  | with_reducible refine sw_ret ?_
  | with_reducible refine sw_asg ?_
  | with_reducible refine sw_par ?_
  | ((with_reducible refine' sw_aug ?h ?_); (case h => exact rfl))
  | with_reducible refine sw_next ?_
  | with_reducible refine sw_brk ?_
  | ((with_reducible refine' ew_andD ?h ?g ?_); (case h => (walk_at "go"; exact rfl)); (case g => (intro _; walk_at "go"; exact rfl)))
  | ((with_reducible refine' ew_orD ?h ?g ?_); (case h => (walk_at "go"; exact rfl)); (case g => (intro _; walk_at "go"; exact rfl)))
  | ((with_reducible refine' tw_and2 ?h ?g ?_); (case h => (walk_at "go"; exact rfl)); (case g => (intro _; walk_at "go"; exact rfl)))
  | ((with_reducible refine' tw_or2 ?h ?g ?_); (case h => (walk_at "go"; exact rfl)); (case g => (intro _; walk_at "go"; exact rfl)))
  | ((with_reducible refine' ew_chD ?h ?g ?k ?_); (case h => (walk_at "go"; exact rfl)); (case g => (walk_at "go"; exact rfl)); (case k => (walk_at "go"; exact rfl)))
  | ((with_reducible refine' ew_isiInt ?h ?_); (case h => (walk_at "go"; exact rfl)))
  | ((with_reducible refine' ew_isiBool ?h ?_); (case h => (walk_at "go"; exact rfl)))
  | ((with_reducible refine' ew_isiTup ?h ?_); (case h => (walk_at "go"; exact rfl)))))
section
variable {P : Program} {w : World} {K : PySem.W.Frag} {mg : Str → Option Value} {base : Heap} {C : Addr}

def R_in_order (ds : List Da) (Q : Da → Prop) : Prop := ∃ some : List Fr, ds = [.lst (some.map dP)] ∧ some.length ≤ 5000 ∧ (∀ f, f ∈ some → FrB f 1000000) ∧ Q (.tup ((inOrder some).map dP))
abbrev s_in_order : Stmt := topS 52
abbrev n_in_order : List Str := ["some", "found", "one", "at"]
theorem sc_in_order : FnScope n_in_order ["some"] (defScope s_in_order) := ⟨rfl, rfl, rfl, by decide +kernel, rfl, by decide +kernel, by decide +kernel⟩
def t_in_order (K : PySem.W.Frag) (C : Addr) : TS :=
  (tSeq (tAsg (tLst tNil) (gName 1))
    (tSeq (tFor (iSeq K (tVar 0)) (gName 2)
    (tSeq (tAsg (tCB (rLen K) (tCons (tVar 1) tNil)) (gName 3))
    (tSeq (tWhile (tAnd (tTest (tOp (rI0 fun i j => .bl (decide (j < i))) (tVar 3) (tC (.int 0)))) (tTest (tOp (rI0 fun i j => .bl (decide (j < i))) (tCall (spP K C R_compared) [] E0 (tCons (tOp (rIx K) (tVar 1) (tOp (rI0 fun i j => .int (i - j)) (tVar 3) (tC (.int 1)))) (tCons (tVar 2) tNil))) (tC (.int 0))))) (tAug 3 (tC (.int 1)) (ipI fun i j => i - j)))
    (tDrop (tBM K "list" rIns (tVar 1) (tCons (tVar 3) (tCons (tVar 2) tNil)))))))
    (tRet (tCB (rTupOf K) (tCons (tVar 1) tNil)))))
theorem bd_in_order (c_compared : Cal P w K mg base "compared" 1 ["one", "other"] (spP K C R_compared)) (m_len : mg "len" = none) (m_tuple : mg "tuple" = none) {f : Addr} {cdv : Value} {A : Around} {outer : List PySem.Env} {s : Shared} {H : Hp} {E : XK} (hr : Room 1 (A.deeper (envOfC "in_order" (defScope s_in_order) s.heap.objs.size f cdv))) :
    PSs (cxOf CX0 P w K mg base n_in_order "in_order" (defScope s_in_order) f cdv A outer s H E).nox (defBody s_in_order) (t_in_order K C) :=
  (pss_cons (ps_set (i := 1) sc_in_order.nd rfl (Or.inl rfl) (pe_lst pa_nil))
    (pss_cons (ps_for PassesOwn.never rfl (pi_seq (pv 0)) (pg_name (i := 2) sc_in_order.nd rfl (Or.inl rfl))
    (pss_cons (ps_set (i := 3) sc_in_order.nd rfl (Or.inl rfl) (pe_callB call_lenG (by rfl) m_len PySem.boot_len (pa_cons (pv 1) pa_nil)))
    (pss_cons (ps_while PassesOwn.never (PW.pt (pw_and (pt_cmpR op_gt (pv 3) pe_int (nomark _)) (pw_and1 (pt_cmpR op_gt (pe_callC c_compared (hr.mono (by decide)) (by rfl) (pa_cons (pe_ix ix_seq (pv 1) (pe_op op_sub (pv 3) pe_int) (fun _ _ => rfl)) (pa_cons (pv 2) pa_nil))) pe_int (nomark _))))) (pss_one (ps_aug (i := 3) sc_in_order.nd rfl (Or.inl rfl) pe_int ip_sub)))
    (pss_one (ps_expr (pe_bm PySem.F.plainAttrs_list PySem.F.slot_list_insert PySem.F.type_list_insert mt_ins (pv 1) (pa_cons (pv 3) (pa_cons (pv 2) pa_nil))))))))
    (pss_one (ps_ret (pe_callTy call_tupG (by rfl) m_tuple (by decide +kernel) (pa_cons (pv 1) pa_nil))))))
theorem ln_in_order : ∀ ds Q, R_in_order ds Q → ds.length = 1 := fun ds Q ⟨_, e, _⟩ => by rw [e]; rfl
theorem wk_in_order : ∀ ds Q, R_in_order ds Q → SW ⟨K, C, none⟩ (t_in_order K C) (init ds 3) ⟨fun _ => Q .non, Q, fun _ => False, fun _ => False⟩ := by
  rintro _ Q ⟨some, rfl, hl, hb, q⟩
  unfold t_in_order
  refine sw_seq (sw_new rfl rfl ?_)
  refine sw_seq (sw_forM some dP (iw_sqL (by walk_at "go"; rfl)) (fun pre A' => ∃ x y ac, A' = ⟨[.dat (.lst (some.map dP)), .acc, x, y], .some ac⟩ ∧ ac = (pre.foldl insF []).map dP) ⟨_, _, _, rfl, rfl⟩ ?t ?f)
  case f =>
    rintro _ ⟨x, y, _, rfl, rfl⟩
    walk_at "go"
    refine sq_acc rfl ?_
    exact q
  case t =>
    rintro pre f post _ he ⟨x, y, _, rfl, rfl⟩
    have hf : FrB f 1000000 := hb f (by rw [he]; exact List.mem_append_right _ List.mem_cons_self)
    have hpre : ∀ g, g ∈ pre.foldl insF [] → FrB g 1000000 := fun g hg => by
      rcases foldl_mem _ _ _ hg with h | h
      · cases h
      · exact hb g (by rw [he]; exact List.mem_append_left _ h)
    have hlen : (pre.foldl insF []).length ≤ 5000 := by
      rw [foldl_len, List.length_nil]
      have := congrArg List.length he
      rw [List.length_append] at this
      omega
    have hfold : (pre ++ [f]).foldl insF [] = insF (pre.foldl insF []) f := by rw [List.foldl_append]; rfl
    rw [hfold]
    generalize pre.foldl insF [] = l at *
    refine gw_nm (sw_seq (sw_asg ?_))
    walk_at "go"
    refine sq_acc rfl ?_
    rw [List.length_map]
    walk_at "go"
    refine sw_while (fun n A' => n ≤ l.length ∧ insAt l f l.length = insAt l f n ∧ A' = ⟨[.dat (.lst (some.map dP)), .acc, .dat (dP f), .dat (.int (n : Nat))], .some (l.map dP)⟩) l.length ⟨Nat.le_refl _, rfl, rfl⟩ ?_
    rintro n _ ⟨hn, hi, rfl⟩
    have last : insAt l f n = n → insF l f = l.take n ++ [f] ++ l.drop n := fun e => by
      unfold insF
      rw [hi, e]
    refine (tw_and2 (b := decide (0 < (n : Int))) (c := decide (0 < cmpF (cg l ((n : Int) - 1)) f)) ?_ (fun h0 => ?_) rfl).mono fun b hbb => ?_
    · walk_at "go"
      rfl
    · have h0 := of_decide_eq_true h0
      walk_at "go"
      refine ix_acc rfl (atI_cg (by omega) (by omega)) ?_
      walk_at "go"
      have ne : l ≠ [] := fun z => by rw [z] at hn; simp at hn; omega
      refine ⟨_, _, rfl, hpre _ (cg_mem _ ne), hf, ?_⟩
      walk_at "go"
      rfl
    · cases n with
      | zero =>
        rw [← hbb]
        refine iteF ?_
        refine sw_ins rfl rfl (by rw [List.length_map]; omega) ?_
        walk_at "go"
        refine ⟨by omega, by omega, ?_⟩
        walk_at "go"
        refine ⟨_, _, _, rfl, ?_⟩
        rw [last rfl]
        rfl
      | succ n =>
        have z : ((n + 1 : Nat) : Int) - 1 = (n : Int) := by omega
        have step : insAt l f (n + 1) = if 0 < cmpF (cg l n) f then insAt l f n else n + 1 := rfl
        by_cases hc : 0 < cmpF (cg l n) f
        · rw [← hbb, z, decide_eq_true hc, decide_eq_true (by omega)]
          refine iteT ?_
          walk_at "go"
          refine ⟨n, Nat.lt_succ_self n, by omega, by rw [hi, step, if_pos hc], ?_⟩
          show AS.mk [_, _, _, Sl.dat (.int (((n + 1 : Nat) : Int) - 1))] _ = _
          rw [z]
        · rw [← hbb, z, decide_eq_false hc, Bool.and_false]
          refine iteF ?_
          refine sw_ins rfl rfl (by rw [List.length_map]; omega) ?_
          walk_at "go"
          refine ⟨by omega, by omega, ?_⟩
          walk_at "go"
          refine ⟨_, _, _, rfl, ?_⟩
          rw [last (by rw [step, if_neg hc]), List.map_append, List.map_append, List.map_take, List.map_drop]
          rfl
theorem ok_in_order (c_compared : Cal P w K mg base "compared" 1 ["one", "other"] (spP K C R_compared)) (m_len : mg "len" = none) (m_tuple : mg "tuple" = none) (F : DefAt K mg "in_order" ["some"] s_in_order) : Cal P w K mg base "in_order" 2 ["some"] (spP K C R_in_order) :=
  F.okP sc_in_order ln_in_order (fun _ _ _ _ _ _ _ hr => bd_in_order c_compared m_len m_tuple hr) wk_in_order
theorem PlB.side {o : List Pt} {hs : List (List Pt)} (h : PlB o hs) {r : List Pt} (hr : r ∈ o :: hs) {e : Pt × Pt} (he : e ∈ sides r) {x : Fr} (hx : HtB x) (g : goesBy x e = true) : CrB x e := by
  obtain ⟨m1, m2⟩ := sides_mem1 he
  obtain ⟨a, b⟩ := h.sm r hr _ m1
  obtain ⟨c, d⟩ := h.sm r hr _ m2
  exact crB hx (goesBy_ne g hx.a) a b c d
theorem raw_len {rs : List (List Pt)} {h : Fr} : (crossRaw rs h).length ≤ rs.flatten.length := by
  unfold crossRaw
  induction rs with
  | nil => exact Nat.le_refl _
  | cons r rs ih =>
    rw [List.flatMap_cons, List.flatten_cons, List.length_append, List.length_append, List.length_map]
    have := List.length_filter_le (goesBy h) (sides r)
    rw [sides_len] at this
    omega
theorem PlB.raw {o : List Pt} {hs : List (List Pt)} (h : PlB o hs) {x : Fr} (hx : HtB x) {f : Fr} (hf : f ∈ crossRaw (o :: hs) x) : f.1.natAbs ≤ 2880000 ∧ 0 < f.2 ∧ f.2 ≤ 1600 := by
  obtain ⟨r, hr, hf⟩ := List.mem_flatMap.mp hf
  obtain ⟨e, he, rfl⟩ := List.mem_map.mp hf
  obtain ⟨he, g⟩ := List.mem_filter.mp he
  exact (h.side hr he hx g).s4
def R_crossings_at (ds : List Da) (Q : Da → Prop) : Prop := ∃ o hs h, ds = [dPl o hs, dP h] ∧ PlB o hs ∧ HtB h ∧ Q (.tup ((crossAt (o :: hs) h).map dP))
abbrev s_crossings_at : Stmt := topS 53
abbrev n_crossings_at : List Str := ["plate", "height", "found", "ring", "a", "b", "part"]
theorem sc_crossings_at : FnScope n_crossings_at ["plate", "height"] (defScope s_crossings_at) := ⟨rfl, rfl, rfl, by decide +kernel, rfl, by decide +kernel, by decide +kernel⟩
def t_crossings_at (K : PySem.W.Frag) (C : Addr) : TS :=
  (tSeq (tAsg (tLst tNil) (gName 2))
    (tSeq (tFor (iSeq K (tCall (spP K C R_all_rings) [] E0 (tCons (tVar 0) tNil))) (gName 3)
    (tFor (iSeq K (tCall (spP K C R_ring_sides) [] E0 (tCons (tVar 3) tNil))) (gTup K 2 (gCons (gName 4) (gCons (gName 5) gNil)))
    (tIfS (tOr (tB (tCall (spP K C R_rises_past) [] E0 (tCons (tVar 4) (tCons (tVar 5) (tCons (tVar 1) tNil))))) (tB (tCall (spP K C R_rises_past) [] E0 (tCons (tVar 5) (tCons (tVar 4) (tCons (tVar 1) tNil)))))) (tSeq (tAsg (tCall (spP K C R_times) [] E0 (tCons (tCall (spP K C R_minus) [] E0 (tCons (tVar 1) (tCons (tCall (spP K C R_whole) [] E0 (tCons (tOp (rIx K) (tVar 4) (tC (.int 1))) tNil)) tNil))) (tCons (tCall (spP K C R_fraction) [] E0 (tCons (tOp (rI0 fun i j => .int (i - j)) (tOp (rIx K) (tVar 5) (tC (.int 0))) (tOp (rIx K) (tVar 4) (tC (.int 0)))) (tCons (tOp (rI0 fun i j => .int (i - j)) (tOp (rIx K) (tVar 5) (tC (.int 1))) (tOp (rIx K) (tVar 4) (tC (.int 1)))) tNil))) tNil))) (gName 6))
    (tDrop (tBM K "list" rAppend (tVar 2) (tCons (tCall (spP K C R_plus) [] E0 (tCons (tCall (spP K C R_whole) [] E0 (tCons (tOp (rIx K) (tVar 4) (tC (.int 0))) tNil)) (tCons (tVar 6) tNil))) tNil)))) tNext)))
    (tRet (tCall (spP K C R_in_order) [] E0 (tCons (tVar 2) tNil)))))
theorem bd_crossings_at (c_all_rings : Cal P w K mg base "all_rings" 1 ["plate"] (spP K C R_all_rings)) (c_ring_sides : Cal P w K mg base "ring_sides" 1 ["ring"] (spP K C R_ring_sides)) (c_rises_past : Cal P w K mg base "rises_past" 1 ["a", "b", "height"] (spP K C R_rises_past)) (c_times : Cal P w K mg base "times" 2 ["one", "other"] (spP K C R_times)) (c_minus : Cal P w K mg base "minus" 2 ["one", "other"] (spP K C R_minus)) (c_whole : Cal P w K mg base "whole" 1 ["number"] (spP K C R_whole)) (c_fraction : Cal P w K mg base "fraction" 1 ["top", "bottom"] (spP K C R_fraction)) (c_plus : Cal P w K mg base "plus" 2 ["one", "other"] (spP K C R_plus)) (c_in_order : Cal P w K mg base "in_order" 2 ["some"] (spP K C R_in_order)) {f : Addr} {cdv : Value} {A : Around} {outer : List PySem.Env} {s : Shared} {H : Hp} {E : XK} (hr : Room 2 (A.deeper (envOfC "crossings_at" (defScope s_crossings_at) s.heap.objs.size f cdv))) :
    PSs (cxOf CX0 P w K mg base n_crossings_at "crossings_at" (defScope s_crossings_at) f cdv A outer s H E).nox (defBody s_crossings_at) (t_crossings_at K C) :=
  (pss_cons (ps_set (i := 2) sc_crossings_at.nd rfl (Or.inl rfl) (pe_lst pa_nil))
    (pss_cons (ps_for PassesOwn.never rfl (pi_seq (pe_callC c_all_rings (hr.mono (by decide)) (by rfl) (pa_cons (pv 0) pa_nil))) (pg_name (i := 3) sc_crossings_at.nd rfl (Or.inl rfl))
    (pss_one (ps_for PassesOwn.never rfl (pi_seq (pe_callC c_ring_sides (hr.mono (by decide)) (by rfl) (pa_cons (pv 3) pa_nil))) (pg_tup (by rfl) (pgs_cons (pg_name (i := 4) sc_crossings_at.nd rfl (Or.inl rfl)) (pgs_cons (pg_name (i := 5) sc_crossings_at.nd rfl (Or.inl rfl)) pgs_nil)))
    (pss_one (ps_if (PW.pt (pw_or (pt_val (pe_callC c_rises_past (hr.mono (by decide)) (by rfl) (pa_cons (pv 4) (pa_cons (pv 5) (pa_cons (pv 1) pa_nil))))) (pw_or1 (pt_val (pe_callC c_rises_past (hr.mono (by decide)) (by rfl) (pa_cons (pv 5) (pa_cons (pv 4) (pa_cons (pv 1) pa_nil)))))))) (pss_cons (ps_set (i := 6) sc_crossings_at.nd rfl (Or.inl rfl) (pe_callC c_times (hr.mono (by decide)) (by rfl) (pa_cons (pe_callC c_minus (hr.mono (by decide)) (by rfl) (pa_cons (pv 1) (pa_cons (pe_callC c_whole (hr.mono (by decide)) (by rfl) (pa_cons (pe_ix ix_seq (pv 4) pe_int (fun _ _ => rfl)) pa_nil)) pa_nil))) (pa_cons (pe_callC c_fraction (hr.mono (by decide)) (by rfl) (pa_cons (pe_op op_sub (pe_ix ix_seq (pv 5) pe_int (fun _ _ => rfl)) (pe_ix ix_seq (pv 4) pe_int (fun _ _ => rfl))) (pa_cons (pe_op op_sub (pe_ix ix_seq (pv 5) pe_int (fun _ _ => rfl)) (pe_ix ix_seq (pv 4) pe_int (fun _ _ => rfl))) pa_nil))) pa_nil))))
    (pss_one (ps_expr (pe_bm PySem.F.plainAttrs_list PySem.F.slot_list_append PySem.F.type_list_append mt_append (pv 2) (pa_cons (pe_callC c_plus (hr.mono (by decide)) (by rfl) (pa_cons (pe_callC c_whole (hr.mono (by decide)) (by rfl) (pa_cons (pe_ix ix_seq (pv 4) pe_int (fun _ _ => rfl)) pa_nil)) (pa_cons (pv 6) pa_nil))) pa_nil))))) pss_nil)))))
    (pss_one (ps_ret (pe_callC c_in_order (hr.mono (by decide)) (by rfl) (pa_cons (pv 2) pa_nil))))))
theorem ln_crossings_at : ∀ ds Q, R_crossings_at ds Q → ds.length = 2 := fun ds Q ⟨_, _, _, e, _⟩ => by rw [e]; rfl
theorem wk_crossings_at : ∀ ds Q, R_crossings_at ds Q → SW ⟨K, C, none⟩ (t_crossings_at K C) (init ds 5) ⟨fun _ => Q .non, Q, fun _ => False, fun _ => False⟩ := by
  rintro _ Q ⟨o, hs, h, rfl, pb, hb, q⟩
  have hf := pb.flat
  unfold t_crossings_at
  refine sw_seq (sw_new rfl rfl ?_)
  refine sw_seq (sw_forM (o :: hs) dR (iw_sqT ?w) (fun pre A' => ∃ x a b z, A' = ⟨[.dat (dPl o hs), .dat (dP h), .acc, x, a, b, z], some ((crossRaw pre h).map dP)⟩) ⟨_, _, _, _, rfl⟩ ?t ?f)
  case w =>
    walk_at "go"
    refine ⟨o, hs, rfl, pb, ?_⟩
    walk_at "go"
    rfl
  case f =>
    rintro _ ⟨x, a, b, z, rfl⟩
    refine sw_freeze rfl ?_
    have ln : (crossRaw (o :: hs) h).length ≤ 5000 := Nat.le_trans raw_len (by omega)
    have fb : ∀ f, f ∈ crossRaw (o :: hs) h → FrB f 1000000 := fun f hf => by
      obtain ⟨h1, h2, h3⟩ := pb.raw hb hf
      exact ⟨by omega, by omega, h2, by omega⟩
    generalize hrw : crossRaw (o :: hs) h = rw at *
    refine sw_ret (ew_callP (aw_cons ((ew_var (x := .dat (.lst (rw.map dP))) rfl (fun z => nomatch z) ?_))))
    walk_at "go"
    refine ⟨rw, rfl, ln, fb, ?_⟩
    unfold crossAt at q
    rw [hrw] at q
    exact q
  case t =>
    rintro pre r post _ he ⟨x, a, b, z, rfl⟩
    have hr : r ∈ o :: hs := by rw [he]; exact List.mem_append_right _ List.mem_cons_self
    have l1 := (pb.ne r hr).2
    have l3 : (crossRaw pre h).length + r.length ≤ 1100 := by
      have e := raw_len (rs := pre) (h := h)
      have := flat_split he
      omega
    have e2 : crossRaw (pre ++ [r]) h = crossRaw pre h ++ ((sides r).filter (goesBy h)).map (crossX h) := by
      unfold crossRaw
      rw [List.flatMap_append, List.flatMap_singleton]
    rw [e2]
    generalize crossRaw pre h = l at *
    refine gw_nm (sw_forM (sides r) dS (iw_sqT ?w2) (fun pre2 A' => ∃ a b z ac, A' = ⟨[.dat (dPl o hs), .dat (dP h), .acc, .dat (dR r), a, b, z], some ac⟩ ∧ ac = (l ++ (pre2.filter (goesBy h)).map (crossX h)).map dP) ⟨_, _, _, _, rfl, by simp⟩ ?t2 ?f2)
    case w2 =>
      walk_at "go"
      refine ⟨r, rfl, (pb.ne r hr).1, by omega, ?_⟩
      walk_at "go"
      rfl
    case f2 =>
      rintro _ ⟨a, b, z, ac, rfl, rfl⟩
      exact ⟨_, _, _, _, rfl⟩
    case t2 =>
      rintro pre2 ⟨a, b⟩ post2 _ he2 ⟨x, y, z, ac, rfl, hac⟩
      have hes : (a, b) ∈ sides r := by rw [he2]; exact List.mem_append_right _ List.mem_cons_self
      obtain ⟨m1, m2⟩ := sides_mem1 hes
      have lp : pre2.length ≤ r.length := by
        have := congrArg List.length he2
        rw [sides_len, List.length_append] at this
        omega
      have lac : ac.length ≤ 90000 := by
        rw [hac, List.length_map, List.length_append, List.length_map]
        have := List.length_filter_le (goesBy h) pre2
        omega
      walk_at "go"
      refine sw_ifD (b := goesBy h (a, b)) ?_ (fun hg => ?_) fun hg => sw_next ?_
      · unfold goesBy
        refine tw_or2 ?_ (fun _ => ?_) rfl
        · walk_at "go"
          refine ⟨a, b, h, rfl, pb.s hr m1, pb.s hr m2, ?_⟩
          walk_at "go"
          rfl
        · walk_at "go"
          refine ⟨b, a, h, rfl, pb.s hr m2, pb.s hr m1, ?_⟩
          walk_at "go"
          rfl
      · obtain ⟨ne, s1, s2, s3, s4⟩ := pb.side hr hes hb hg
        obtain ⟨b1, b2⟩ := pb.sm r hr _ m1
        obtain ⟨b3, b4⟩ := pb.sm r hr _ m2
        simp only at ne s1 s2 s3 s4 b1 b2 b3 b4
        obtain ⟨hb1, hb2, hb3, hb4⟩ := hb
        refine sw_seq (sw_asg (ew_callP (aw_cons (ew_callP (aw_cons ?_)))))
        walk_at "go"
        refine ⟨_, rfl, ?_⟩
        walk_at "go"
        refine ⟨h, (a.2, 1), rfl, ⟨by omega, by omega, hb1, by omega⟩, ⟨by simp only; omega, by simp only; omega, by simp only; omega, by simp only; omega⟩, ?_⟩
        walk_at "go"
        refine ⟨b.1 - a.1, b.2 - a.2, rfl, ne, by omega, by omega, ?_⟩
        walk_at "go"
        refine ⟨fMinus h (a.2, 1), mkFr (b.1 - a.1) (b.2 - a.2), rfl, ⟨by omega, by omega, s2.2.1, by omega⟩, ⟨by omega, by omega, s1.2.1, by omega⟩, ?_⟩
        refine gw_nm (sw_app rfl rfl lac ?_)
        walk_at "go"
        refine ⟨_, rfl, ?_⟩
        walk_at "go"
        refine ⟨(a.1, 1), fTimes (fMinus h (a.2, 1)) (mkFr (b.1 - a.1) (b.2 - a.2)), rfl, ⟨by simp only; omega, by simp only; omega, by simp only; omega, by simp only; omega⟩, ⟨by omega, by omega, s3.2.1, by omega⟩, ?_⟩
        walk_at "go"
        refine ⟨_, _, _, _, rfl, ?_⟩
        rw [hac, List.filter_append, List.filter_cons, hg]
        simp
        exact ⟨rfl, rfl⟩
      · refine ⟨_, _, _, _, rfl, ?_⟩
        rw [hac, List.filter_append, List.filter_cons, hg]
        simp
theorem ok_crossings_at (c_all_rings : Cal P w K mg base "all_rings" 1 ["plate"] (spP K C R_all_rings)) (c_ring_sides : Cal P w K mg base "ring_sides" 1 ["ring"] (spP K C R_ring_sides)) (c_rises_past : Cal P w K mg base "rises_past" 1 ["a", "b", "height"] (spP K C R_rises_past)) (c_times : Cal P w K mg base "times" 2 ["one", "other"] (spP K C R_times)) (c_minus : Cal P w K mg base "minus" 2 ["one", "other"] (spP K C R_minus)) (c_whole : Cal P w K mg base "whole" 1 ["number"] (spP K C R_whole)) (c_fraction : Cal P w K mg base "fraction" 1 ["top", "bottom"] (spP K C R_fraction)) (c_plus : Cal P w K mg base "plus" 2 ["one", "other"] (spP K C R_plus)) (c_in_order : Cal P w K mg base "in_order" 2 ["some"] (spP K C R_in_order)) (F : DefAt K mg "crossings_at" ["plate", "height"] s_crossings_at) : Cal P w K mg base "crossings_at" 3 ["plate", "height"] (spP K C R_crossings_at) :=
  F.okP sc_crossings_at ln_crossings_at (fun _ _ _ _ _ _ _ hr => bd_crossings_at c_all_rings c_ring_sides c_rises_past c_times c_minus c_whole c_fraction c_plus c_in_order hr) wk_crossings_at
/-- the heights of the corners, from below -/
structure NsOf (cs : List Pt) (ns : List Int) : Prop where
  up : ns.Pairwise (· < ·)
  mem : ∀ k : Int, k ∈ ns ↔ ∃ x, x ∈ cs ∧ x.2 = k
theorem sorted_uniq : ∀ {ns ms : List Int}, ns.Pairwise (· < ·) → ms.Pairwise (· < ·) → (∀ k, k ∈ ns ↔ k ∈ ms) → ns = ms
  | [], [], _, _, _ => rfl
  | [], m :: ms, _, _, h => absurd ((h m).mpr List.mem_cons_self) (by simp)
  | n :: ns, [], _, _, h => absurd ((h n).mp List.mem_cons_self) (by simp)
  | n :: ns, m :: ms, h1, h2, h => by
    obtain ⟨a1, a2⟩ := List.pairwise_cons.mp h1
    obtain ⟨b1, b2⟩ := List.pairwise_cons.mp h2
    have e : n = m := by
      rcases List.mem_cons.mp ((h n).mp List.mem_cons_self) with e | e
      · exact e
      · rcases List.mem_cons.mp ((h m).mpr List.mem_cons_self) with f | f
        · exact f.symm
        · have := a1 m f
          have := b1 n e
          omega
    subst e
    rw [sorted_uniq a2 b2 fun k => ⟨fun hk => ?_, fun hk => ?_⟩]
    · rcases List.mem_cons.mp ((h k).mp (List.mem_cons_of_mem _ hk)) with e | e
      · have := a1 k hk
        omega
      · exact e
    · rcases List.mem_cons.mp ((h k).mpr (List.mem_cons_of_mem _ hk)) with e | e
      · have := b1 k hk
        omega
      · exact e
theorem NsOf.uniq {cs : List Pt} {ns ms : List Int} (h : NsOf cs ns) (g : NsOf cs ms) : ns = ms := sorted_uniq h.up g.up fun k => (h.mem k).trans (g.mem k).symm
def stripD (rs : List (List Pt)) (e : Int × Int) : Da := .tup [.int e.1, .int e.2, .tup ((crossAt rs (mkFr (e.1 + e.2) 2)).map dP)]
theorem mid_B {l h : Int} (h1 : -400 ≤ l ∧ l ≤ 400) (h2 : -400 ≤ h ∧ h ≤ 400) : HtB (mkFr (l + h) 2) := by
  obtain ⟨a, b, c, _⟩ := mkFr_B (t := l + h) (b := 2) (by decide)
  exact ⟨a, by omega, by omega, by omega⟩
theorem zip_ints : ∀ (a b : List Int), ((a.map Da.int).zip (b.map Da.int)).map (fun p => Da.tup [p.1, p.2]) = (a.zip b).map dP
  | [], _ => rfl
  | _ :: _, [] => rfl
  | x :: a, y :: b => congrArg (_ :: ·) (zip_ints a b)
theorem PlB.ns {o : List Pt} {hs : List (List Pt)} (h : PlB o hs) {ns : List Int} (hn : NsOf (o :: hs).flatten ns) {k : Int} (hk : k ∈ ns) : -400 ≤ k ∧ k ≤ 400 := by
  obtain ⟨x, hx, rfl⟩ := (hn.mem k).mp hk
  obtain ⟨r, hr, hx⟩ := List.mem_flatten.mp hx
  exact (h.sm r hr x hx).2
theorem nodup_len {ns : List Int} (h : ns.Pairwise (· < ·)) : ∀ (a b : Int), (∀ k, k ∈ ns → a ≤ k ∧ k ≤ b) → (ns.length : Int) ≤ max 0 (b - a + 1) := by
  induction ns with
  | nil => intro a b _; simp; omega
  | cons n ns ih =>
    intro a b hb
    obtain ⟨h1, h2⟩ := List.pairwise_cons.mp h
    have z := ih h2 (n + 1) b fun k hk => ⟨h1 k hk, (hb k (List.mem_cons_of_mem _ hk)).2⟩
    have y := hb n List.mem_cons_self
    rw [List.length_cons]
    omega
def R_strips (ds : List Da) (Q : Da → Prop) : Prop := ∃ o hs ns, ds = [dPl o hs] ∧ PlB o hs ∧ NsOf (o :: hs).flatten ns ∧ Q (.tup ((ns.zip (ns.drop 1)).map (stripD (o :: hs))))
abbrev s_strips : Stmt := topS 54
abbrev n_strips : List Str := ["plate", "heights", "found", "low", "high", "corner"]
theorem sc_strips : FnScope n_strips ["plate"] (defScope s_strips) := ⟨rfl, rfl, rfl, by decide +kernel, rfl, by decide +kernel, by decide +kernel⟩
def t_strips (w : World) (K : PySem.W.Frag) (C : Addr) : TS :=
  (tSeq (tAsg (tCB (rSrtSet w) (tCons (tScI w (iSeq K (tCall (spP K C R_corners_of) [] E0 (tCons (tVar 0) tNil))) (gName 5) tYes (tOp (rIx K) (tVar 5) (tC (.int 1))) [5]) tNil)) (gName 1))
    (tSeq (tAsg (tLst tNil) (gName 2))
    (tSeq (tFor (iZip K (tCons (tVar 1) (tCons (tSl (rCut K) (tVar 1) (tPart (tC (.int 1))) tNoPart) tNil))) (gTup K 2 (gCons (gName 3) (gCons (gName 4) gNil)))
    (tDrop (tBM K "list" rAppend (tVar 2) (tCons (tTup (tCons (tVar 3) (tCons (tVar 4) (tCons (tCall (spP K C R_crossings_at) [] E0 (tCons (tVar 0) (tCons (tCall (spP K C R_fraction) [] E0 (tCons (tOp (rPlus K) (tVar 3) (tVar 4)) (tCons (tC (.int 2)) tNil))) tNil))) tNil)))) tNil))))
    (tRet (tCB (rTupOf K) (tCons (tVar 2) tNil))))))
theorem bd_strips (c_corners_of : Cal P w K mg base "corners_of" 2 ["plate"] (spP K C R_corners_of)) (c_crossings_at : Cal P w K mg base "crossings_at" 3 ["plate", "height"] (spP K C R_crossings_at)) (c_fraction : Cal P w K mg base "fraction" 1 ["top", "bottom"] (spP K C R_fraction)) (m_sorted : mg "sorted" = none) (m_zip : mg "zip" = none) (m_tuple : mg "tuple" = none) {f : Addr} {cdv : Value} {A : Around} {outer : List PySem.Env} {s : Shared} {H : Hp} {E : XK} (hr : Room 3 (A.deeper (envOfC "strips" (defScope s_strips) s.heap.objs.size f cdv))) :
    PSs (cxOf CX0 P w K mg base n_strips "strips" (defScope s_strips) f cdv A outer s H E).nox (defBody s_strips) (t_strips w K C) :=
  (pss_cons (ps_set (i := 1) sc_strips.nd rfl (Or.inl rfl) (pe_callB (call_srtSet (by rfl)) (by rfl) m_sorted (by decide +kernel) (pa_cons (pe_scI (own := [("corner", 5)]) (by rfl) sc_strips.nd (pi_seq (pe_callC c_corners_of (hr.mono (by decide)) (by rfl) (pa_cons (pv 0) pa_nil))) (blkOk_by (own := [("corner", 5)]) (N := n_strips) (sc := defScope s_strips) (by decide +kernel)) (fun _ _ _ _ _ => (pg_name (i := 5) sc_strips.nd rfl (Or.inl rfl))) (fun _ _ _ _ _ => pts_nil) (fun _ _ _ _ _ => (pe_ix ix_seq (pv 5) pe_int (fun _ _ => rfl)))) pa_nil)))
    (pss_cons (ps_set (i := 2) sc_strips.nd rfl (Or.inl rfl) (pe_lst pa_nil))
    (pss_cons (ps_for PassesOwn.never rfl (pi_zip (by rfl) m_zip (pa_cons (pv 1) (pa_cons (pe_slice sl_cut (pv 1) (po_some pe_int) po_none) pa_nil))) (pg_tup (by rfl) (pgs_cons (pg_name (i := 3) sc_strips.nd rfl (Or.inl rfl)) (pgs_cons (pg_name (i := 4) sc_strips.nd rfl (Or.inl rfl)) pgs_nil)))
    (pss_one (ps_expr (pe_bm PySem.F.plainAttrs_list PySem.F.slot_list_append PySem.F.type_list_append mt_append (pv 2) (pa_cons (pe_tup (pa_cons (pv 3) (pa_cons (pv 4) (pa_cons (pe_callC c_crossings_at (hr.mono (by decide)) (by rfl) (pa_cons (pv 0) (pa_cons (pe_callC c_fraction (hr.mono (by decide)) (by rfl) (pa_cons (pe_op op_plus (pv 3) (pv 4)) (pa_cons pe_int pa_nil))) pa_nil))) pa_nil)))) pa_nil)))))
    (pss_one (ps_ret (pe_callTy call_tupG (by rfl) m_tuple (by decide +kernel) (pa_cons (pv 2) pa_nil)))))))
theorem ln_strips : ∀ ds Q, R_strips ds Q → ds.length = 1 := fun ds Q ⟨_, _, _, e, _⟩ => by rw [e]; rfl
theorem wk_strips : ∀ ds Q, R_strips ds Q → SW ⟨K, C, none⟩ (t_strips w K C) (init ds 5) ⟨fun _ => Q .non, Q, fun _ => False, fun _ => False⟩ := by
  rintro _ Q ⟨o, hs, ns, rfl, pb, hns, q⟩
  have hf := pb.flat
  unfold t_strips
  refine sw_seq (sw_asg (ew_srtSet (o :: hs).flatten dP (fun c => c.2) (iw_sqT ?w) (by omega) ?t0 ?p))
  case w =>
    walk_at "go"
    refine ⟨o, hs, rfl, pb, ?_⟩
    walk_at "go"
    rfl
  case t0 =>
    intro c hc
    walk_at "go"
    rfl
  case p =>
    intro ms up mem
    have e : ms = ns := NsOf.uniq ⟨up, mem⟩ hns
    subst e
    have hln : ms.length ≤ 1000 := by
      have := nodup_len up (-400) 400 fun k hk => pb.ns hns hk
      omega
    refine gw_nm (sw_seq (sw_new rfl rfl ?_))
    have zl : (ms.zip (ms.drop 1)).length ≤ 1000 := by
      rw [List.length_zip]
      omega
    have hcut : cutD (ms.map Da.int) (some 1) none = (ms.drop 1).map Da.int := by
      unfold cutD
      rw [HT.sIx_none, List.map_drop]
      show ((ms.map Da.int).drop (HT.sIx (ms.map Da.int).length 0 (some ((1 : Nat) : Int)))).take ((ms.map Da.int).length - HT.sIx (ms.map Da.int).length 0 (some ((1 : Nat) : Int))) = _
      rw [HT.sIx_nat]
      by_cases h : 1 ≤ (ms.map Da.int).length
      · rw [Nat.min_eq_left h, ← List.length_drop, List.take_length]
      · have e : ms.map Da.int = [] := List.length_eq_zero_iff.mp (by omega)
        rw [e]
        rfl
    refine sw_seq (sw_forM (ms.zip (ms.drop 1)) dP ?w2 (fun pre A' => ∃ x y z ac, A' = ⟨[.dat (dPl o hs), .dat (.lst (ms.map .int)), .acc, x, y, z], some ac⟩ ∧ ac = pre.map (stripD (o :: hs))) ⟨_, _, _, _, rfl, rfl⟩ ?t2 ?f2)
    case w2 =>
      rw [← zip_ints]
      refine iw_zip ?_
      walk_at "go"
      rw [hcut]
    case f2 =>
      rintro _ ⟨x, y, z, ac, rfl, rfl⟩
      walk_at "go"
      refine sq_acc rfl ?_
      exact q
    case t2 =>
      rintro pre ⟨l, h⟩ post _ he ⟨x, y, z, ac, rfl, hac⟩
      have hm : (l, h) ∈ ms.zip (ms.drop 1) := by rw [he]; exact List.mem_append_right _ List.mem_cons_self
      obtain ⟨m1, m2⟩ := List.of_mem_zip hm
      have b1 := pb.ns hns m1
      have b2 := pb.ns hns (List.mem_of_mem_drop m2)
      have lac : ac.length ≤ 90000 := by
        rw [hac, List.length_map]
        have := congrArg List.length he
        rw [List.length_append] at this
        omega
      refine gw_tp rfl (gsw_cons (gw_nm (gsw_cons (gw_nm (gsw_nil (sw_app rfl rfl lac ?_))))))
      walk_at "go"
      refine ⟨l + h, 2, rfl, by decide, by decide, by decide, ?_⟩
      walk_at "go"
      refine ⟨o, hs, mkFr (l + h) 2, rfl, pb, mid_B b1 b2, ?_⟩
      walk_at "go"
      refine ⟨_, _, _, _, rfl, ?_⟩
      rw [hac, List.map_append]
      rfl
theorem ok_strips (c_corners_of : Cal P w K mg base "corners_of" 2 ["plate"] (spP K C R_corners_of)) (c_crossings_at : Cal P w K mg base "crossings_at" 3 ["plate", "height"] (spP K C R_crossings_at)) (c_fraction : Cal P w K mg base "fraction" 1 ["top", "bottom"] (spP K C R_fraction)) (m_sorted : mg "sorted" = none) (m_zip : mg "zip" = none) (m_tuple : mg "tuple" = none) (F : DefAt K mg "strips" ["plate"] s_strips) : Cal P w K mg base "strips" 4 ["plate"] (spP K C R_strips) :=
  F.okP sc_strips ln_strips (fun _ _ _ _ _ _ _ hr => bd_strips c_corners_of c_crossings_at c_fraction m_sorted m_zip m_tuple hr) wk_strips
theorem at_B {rs : List (List Pt)} {h f : Fr} (hf : f ∈ crossAt rs h) : f ∈ crossRaw rs h := by
  rcases foldl_mem _ _ _ hf with z | z
  · cases z
  · exact z
theorem atI0 (x : Da) (xs : List Da) : atI (x :: xs) 0 = some x := by
  unfold atI
  rw [show ixN (x :: xs).length 0 = some 0 from Evl.ixN_nat (j := 0) (Nat.succ_pos _)]
  rfl
theorem atI1 (x y : Da) (xs : List Da) : atI (x :: y :: xs) 1 = some y := by
  unfold atI
  rw [show ixN (x :: y :: xs).length 1 = some 1 from Evl.ixN_nat (j := 1) (Nat.succ_lt_succ (Nat.succ_pos _))]
  rfl
def R_inner_point (ds : List Da) (Q : Da → Prop) : Prop := ∃ o hs l h rest p0 p1 ps, ds = [dPl o hs] ∧ PlB o hs ∧ NsOf (o :: hs).flatten (l :: h :: rest) ∧ crossAt (o :: hs) (mkFr (l + h) 2) = p0 :: p1 :: ps ∧ Q (dFP (fHalf (fPlus p0 p1), mkFr (l + h) 2))
abbrev s_inner_point : Stmt := topS 55
abbrev n_inner_point : List Str := ["plate", "low", "high", "places"]
theorem sc_inner_point : FnScope n_inner_point ["plate"] (defScope s_inner_point) := ⟨rfl, rfl, rfl, by decide +kernel, rfl, by decide +kernel, by decide +kernel⟩
def t_inner_point (K : PySem.W.Frag) (C : Addr) : TS :=
  (tSeq (tAsg (tOp (rIx K) (tCall (spP K C R_strips) [] E0 (tCons (tVar 0) tNil)) (tC (.int 0))) (gTup K 3 (gCons (gName 1) (gCons (gName 2) (gCons (gName 3) gNil)))))
    (tRet (tTup (tCons (tCall (spP K C R_half) [] E0 (tCons (tCall (spP K C R_plus) [] E0 (tCons (tOp (rIx K) (tVar 3) (tC (.int 0))) (tCons (tOp (rIx K) (tVar 3) (tC (.int 1))) tNil))) tNil)) (tCons (tCall (spP K C R_fraction) [] E0 (tCons (tOp (rPlus K) (tVar 1) (tVar 2)) (tCons (tC (.int 2)) tNil))) tNil)))))
theorem bd_inner_point (c_strips : Cal P w K mg base "strips" 4 ["plate"] (spP K C R_strips)) (c_half : Cal P w K mg base "half" 2 ["one"] (spP K C R_half)) (c_plus : Cal P w K mg base "plus" 2 ["one", "other"] (spP K C R_plus)) (c_fraction : Cal P w K mg base "fraction" 1 ["top", "bottom"] (spP K C R_fraction)) {f : Addr} {cdv : Value} {A : Around} {outer : List PySem.Env} {s : Shared} {H : Hp} {E : XK} (hr : Room 4 (A.deeper (envOfC "inner_point" (defScope s_inner_point) s.heap.objs.size f cdv))) :
    PSs (cxOf CX0 P w K mg base n_inner_point "inner_point" (defScope s_inner_point) f cdv A outer s H E).nox (defBody s_inner_point) (t_inner_point K C) :=
  (pss_cons (ps_asg (pe_ix ix_seq (pe_callC c_strips (hr.mono (by decide)) (by rfl) (pa_cons (pv 0) pa_nil)) pe_int (fun _ _ => rfl)) (pg_tup (by rfl) (pgs_cons (pg_name (i := 1) sc_inner_point.nd rfl (Or.inl rfl)) (pgs_cons (pg_name (i := 2) sc_inner_point.nd rfl (Or.inl rfl)) (pgs_cons (pg_name (i := 3) sc_inner_point.nd rfl (Or.inl rfl)) pgs_nil)))))
    (pss_one (ps_ret (pe_tup (pa_cons (pe_callC c_half (hr.mono (by decide)) (by rfl) (pa_cons (pe_callC c_plus (hr.mono (by decide)) (by rfl) (pa_cons (pe_ix ix_seq (pv 3) pe_int (fun _ _ => rfl)) (pa_cons (pe_ix ix_seq (pv 3) pe_int (fun _ _ => rfl)) pa_nil))) pa_nil)) (pa_cons (pe_callC c_fraction (hr.mono (by decide)) (by rfl) (pa_cons (pe_op op_plus (pv 1) (pv 2)) (pa_cons pe_int pa_nil))) pa_nil))))))
theorem ln_inner_point : ∀ ds Q, R_inner_point ds Q → ds.length = 1 := fun ds Q ⟨_, _, _, _, _, _, _, _, e, _⟩ => by rw [e]; rfl
theorem wk_inner_point : ∀ ds Q, R_inner_point ds Q → SW ⟨K, C, none⟩ (t_inner_point K C) (init ds 3) ⟨fun _ => Q .non, Q, fun _ => False, fun _ => False⟩ := by
  rintro _ Q ⟨o, hs, l, h, rest, p0, p1, ps, rfl, pb, hns, hc, q⟩
  have b1 := pb.ns hns List.mem_cons_self
  have b2 := pb.ns hns (List.mem_cons_of_mem _ List.mem_cons_self)
  have hb := mid_B b1 b2
  have c0 := pb.raw hb (at_B (rs := o :: hs) (f := p0) (by rw [hc]; exact List.mem_cons_self))
  have c1 := pb.raw hb (at_B (rs := o :: hs) (f := p1) (by rw [hc]; exact List.mem_cons_of_mem _ List.mem_cons_self))
  unfold t_inner_point
  refine sw_seq (sw_asg (ew_ix ?_))
  walk_at "go"
  refine ⟨o, hs, _, rfl, pb, hns, ?_⟩
  walk_at "go"
  show ixP _ (.dat (.tup (stripD (o :: hs) (l, h) :: _))) _ _
  refine ix_tup (atI0 _ _) ?_
  unfold stripD
  walk_at "go"
  rw [hc]
  refine ix_tup (atI0 _ _) ?_
  walk_at "go"
  refine ix_tup (atI1 _ _ _) ?_
  walk_at "go"
  have f0 : FrB p0 30000 := ⟨by omega, by omega, c0.2.1, by omega⟩
  have f1 : FrB p1 30000 := ⟨by omega, by omega, c1.2.1, by omega⟩
  refine ⟨p0, p1, rfl, f0, f1, ?_⟩
  walk_at "go"
  have hp : 0 < (fPlus p0 p1).2 ∧ (fPlus p0 p1).2 ≤ 400000000 := by
    have m := mul_size (x := p0.2) (y := p1.2) (m := 1600) (n := 1600) (by omega) (by omega)
    have p : 0 < p0.2 * p1.2 := Int.mul_pos c0.2.1 c1.2.1
    obtain ⟨h1, h2, _, _⟩ := mkFr_B (t := p0.1 * p1.2 + p1.1 * p0.2) (b := p0.2 * p1.2) (by omega)
    unfold fPlus
    omega
  refine ⟨_, rfl, hp.1, hp.2, ?_⟩
  walk_at "go"
  refine ⟨l + h, 2, rfl, by decide, by decide, by decide, ?_⟩
  walk_at "go"
  exact q
theorem ok_inner_point (c_strips : Cal P w K mg base "strips" 4 ["plate"] (spP K C R_strips)) (c_half : Cal P w K mg base "half" 2 ["one"] (spP K C R_half)) (c_plus : Cal P w K mg base "plus" 2 ["one", "other"] (spP K C R_plus)) (c_fraction : Cal P w K mg base "fraction" 1 ["top", "bottom"] (spP K C R_fraction)) (F : DefAt K mg "inner_point" ["plate"] s_inner_point) : Cal P w K mg base "inner_point" 5 ["plate"] (spP K C R_inner_point) :=
  F.okP sc_inner_point ln_inner_point (fun _ _ _ _ _ _ _ hr => bd_inner_point c_strips c_half c_plus c_fraction hr) wk_inner_point
end
end G
set_option Elab.async false
set_option linter.all false
set_option maxRecDepth 100000
/-! defs that are called where no repr is under way; the script; the law itself entered so. -/
namespace G
open PySem PySem.Spec L2 PyProof.Rows
open Evl (Ex)
/-- a def's promise where the frames around hold no guard -/
structure FnG (P : Program) (w : World) (K : PySem.W.Frag) (mg : Str → Option Value) (base : Heap) (k : Nat) (f : Addr) (fd : FuncData) (ps : List Str) (sp : Sp) : Prop where
  len : ∀ vs H Q E, sp vs H Q E → vs.length = ps.length
  run : ∀ (A : Around) (outer : List PySem.Env) (s : Shared) (H : Hp) (args : Args) (us : List Value) (vs : List V) (Q : VK) (E : XK), A.guards = some [] → Room k A → Env0 P w K mg base A outer s H → BindsTo s fd args (ps.zip us) → Vals vs us → sp vs H Q E →
    codeAny (model P w) A (.call (.ref f) args) (CR CX0 outer P w H s Q E) s
section
variable {P : Program} {w : World} {K : PySem.W.Frag} {mg : Str → Option Value} {base : Heap}
theorem fnG_of {k : Nat} {f : Addr} {name qual : Str} {params : Arguments} {body : List Stmt} {scope : Scope} {dV kV doc pm cdv ct oc : Value} {an od : Option Addr} {osl : Array (Option Value)} {N ps : List Str} {sp : Sp}
    (at1 : K.lookup f = some ⟨oc, od, .func (PySem.W.fnOf name qual params body scope dV kV doc pm an cdv ct), osl⟩) (code : PySem.W.codeIn K cdv qual = true) (Sc : FnScope N ps scope) (len : ∀ vs H Q E, sp vs H Q E → vs.length = ps.length)
    (run : ∀ (A : Around) (outer : List PySem.Env) (s : Shared) (H : Hp) (vs : List V) (Q : VK) (E : XK), (A.deeper (envOfC qual scope s.heap.objs.size f cdv)).guards = some [] → Room k (A.deeper (envOfC qual scope s.heap.objs.size f cdv)) → sp vs H Q E →
      ∃ t, PSs (cxOf CX0 P w K mg base N qual scope f cdv A outer s H E) body t ∧ t { nx := fun _ H' => Q .non H', rt := Q } (start N vs) H) :
    FnG P w K mg base (k + 1) f (PySem.W.fnOf name qual params body scope dV kV doc pm an cdv ct) ps sp := by
  refine ⟨len, fun A outer s H args us vs Q E gd room env bind rel pr => ?_⟩
  have size := len _ _ _ _ pr
  have inK : K.In s.heap := env.mod.kin.keeps fun b o e => (env.bs b o e).1
  have free : s.heap.NoLimit := env.mod.nolimit.keeps fun b o e => (env.bs b o e).1
  have kinds : ∀ y ∈ ps.zip us, scope.names.lookup y.1 = some .local ∨ (scope.names.lookup y.1 = some .cell ∧ ((cellsFrom (s.heap.objs.size + 1) scope.names []).lookup y.1).isSome = true) := fun y hy => by
    rcases Sc.par y.1 (List.of_mem_zip hy).1 with z | z
    · exact Or.inl z
    · exact Or.inr ⟨z, PySem.W.cellsFrom_some _ _ _ (Or.inl z)⟩
  refine codeAny_call_function room.depth (inK _ _ at1) rfl Sc.co Sc.gen rfl (PySem.W.codeRec_of inK code) (bind _ _ _ _ ?_)
  refine wpAny_newFunctionEnv_cells Sc.kind kinds fun ev hev s1 x => ?_
  subst hev
  refine ⟨free.keeps x.toInCall.keep, codeAny_func ?_⟩
  obtain ⟨t, ht, done⟩ := run A outer s H vs Q E gd (room.deeper _) pr
  have I : Inv (cxOf CX0 P w K mg base N qual scope f cdv A outer s H E) [] (start N vs) H s1 := inv_start Sc room.hd env size rel x
  refine wpAny_mono (ht.run [] s1 (start N vs) H _ I done) (fun fl s' hs => ?_) fun e s' hs => hs
  cases fl with
  | ret u =>
    obtain ⟨v, σ', H', J, rv, q⟩ := hs
    exact ⟨v, H', J.os, J.bare, J.base, J.hok, rv, q⟩
  | next =>
    obtain ⟨σ', H', J, q⟩ := hs
    exact ⟨V.non, H', J.os, J.bare, J.base, J.hok, rfl, q⟩
  | brk => exact hs.choose_spec.choose_spec.2.elim
  | cont => exact hs.choose_spec.choose_spec.2.elim
end
section
variable {X : Cx} {k : Nat} {f : Addr} {fd : FuncData} {ps : List Str} {sp : Sp}
theorem runG {pins : List (Addr × Obj)} {σ : L2.St} {H : Hp} {s : Shared} {Q : VK} {us : List Value} {vs : List V} (F : FnG X.prog X.w X.K X.mg X.base k f fd ps sp) (gd : X.A.guards = some []) (room : Room k X.A) (bind : Binds X.K fd ps [])
    (I : Inv X pins σ H s) (rel : Vals vs us) (pr : sp vs H Q E0) : wpAny (model X.prog X.w) X.A (call (.ref f) us) (EP X pins σ Q) X.xe s := by
  have size : us.length = ps.length := by rw [← rel.length]; exact F.len _ _ _ _ pr
  have b1 := bind s us I.kIn (by rw [List.append_nil]; exact size)
  rw [List.append_nil] at b1
  refine wpAny_call (codeAny_mono (F.run X.A X.stack s H ⟨us, []⟩ us vs Q E0 gd room I.env0 b1 rel pr) fun r s' hq => ?_)
  cases r with
  | error e => exact (pass0 pins σ H s e s' I hq)
  | ok fl =>
    cases fl with
    | ret u => exact I.after hq
    | next => exact hq.elim
    | brk => exact hq.elim
    | cont => exact hq.elim
end
/-- .. as its callers know it -/
structure CalG (P : Program) (w : World) (K : PySem.W.Frag) (mg : Str → Option Value) (base : Heap) (name : Str) (k : Nat) (ps : List Str) (sp : Sp) : Prop where
  ex : ∃ f fd, FnG P w K mg base k f fd ps sp ∧ mg name = some (.ref f) ∧ PySem.W.keepIn K (.ref f) = true ∧ Binds K fd ps []
theorem pe_callGd {X : Cx} {k : Nat} {name : Str} {ps : List Str} {sp : Sp} {e : Expr} {es : List Expr} {t : TA} {p pos : Pos} (c : CalG X.prog X.w X.K X.mg X.base name k ps sp) (gd : X.A.guards = some []) (room : Room k X.A) (gl : Gl X name) (ha : PA X (e :: es) t)
    (hdb : (name == ("__debug__" : Str)) = false := by decide) (he : starEach (e :: es) X.env = (false, eval e X.env) :: starEach es X.env := by rfl) (hpl : (backTo pos (starEach es X.env)).any (·.1) = false := by rfl) :
    PE X (.Call (.Name name p) (e :: es) [] pos) (tCall sp [] E0 t) := by
  obtain ⟨f, fd, F, hm, hk, hb⟩ := c.ex
  refine ⟨fun pins s σ H Q I hyp => ?_⟩
  refine wpAny_Call_Name_kw (ld_glob I gl hm ?_ hdb)
  refine PySem.W.callWith_K (h₀ := X.base) I.ok.mod.kin hk (thn (ha.run pos pins s σ H _ I hyp) fun us s1 ⟨vs, H1, I1, r, q⟩ => ⟨I1.kIn, ?_⟩) he hpl
  have q : sp (vs ++ []) H1 Q E0 := q
  rw [List.append_nil] at q
  exact runG F gd room hb I1 r q
/-! ### the script, cut -/
theorem sqL_up {K : PySem.W.Frag} {H H' : Hp} {a : Addr} {xs : List V} (h : SqL K H a xs) (e : Ex H H') : SqL K H' a xs := by
  rcases h with (h | ⟨o, h⟩) | h
  · exact .inl (.inl (e _ _ h))
  · exact .inl (.inr ⟨o, e _ _ h⟩)
  · exact .inr h
theorem ew_scr {W : Wd} {A : AS} {P : Sl → Prop} {ta : TE} {tl th : TO} {ds : List Da} {lo hi : Option Int} (h : EW W ta A (· = .dat (.scr ds))) (h1 : OW W tl A (· = lo)) (h2 : OW W th A (· = hi)) (p : P (.dat (.lst (cutD ds lo hi)))) : EW W (tSl (rCut W.K) ta tl th) A P := fun S H σ l E Q q =>
  h S H σ l E _ fun S1 H1 v x e1 s1 ex => h1 S1 H1 σ l (E.ext e1) _ fun S2 H2 lo' e2 elo => h2 S2 H2 σ l (E.ext (e1.trans e2)) _ fun S3 H3 hi' e3 ehi => by
    subst ex elo ehi
    have s1 : Dt W.K W.C S1 v (.scr ds) := s1
    cases s1 with
    | @scr a xs _ g1 g2 =>
      have e4 := (e1.trans e2).trans e3
      refine .inl ⟨a, xs, rfl, g1 H3 ((e2.trans e3).ss.trans e4.w.sh), fun p' hp => q _ _ _ _ (e4.trans (.new e4.w hp)) (sd <| new_lst (Evl.fresh_back e4.w.sh hp) (cut_ok (g2.mono (e2.trans e3).ss) lo' hi')) p⟩
/-! ### the law entered -/
section
variable {P : Program} {w : World} {K : PySem.W.Frag} {mg mb : Str → Option Value} {k : Nat} {fa a : Addr} {fd : FuncData} {x : Str} {sp : Sp} {s1 : Shared} {vs : List Value} {ns : List Int}
theorem lawG (inK : K.In s1.heap) (names : s1.heap.Ns mainGlobals mg) (bn : s1.heap.Ns builtinsNs mb) (boot : ∀ x : Str, x ≠ "__name__" → mb x = bootBuiltins x) (free : s1.heap.NoLimit) (bare : s1.gens = #[])
    (script : s1.heap.get? a = some { cls := .type "list", data := .seq vs.toArray }) (hi : IntsAre vs ns) (few : ns.length ≤ sizeLine) (room : Room k callerA)
    (F : ∀ base : Heap, K.In base → base.Ns mainGlobals mg → FnG P w K mg base k fa fd [x] sp) (bind : ∀ (s : Shared) (u : Value), BindsTo s fd ⟨[u], []⟩ [(x, u)])
    (pr : ∀ H : Hp, SqL K H a (ns.map V.int) → sp [.ref a] H (fun v _ => v = .bl true) fun _ _ _ => False) :
    codeAny (model P w) callerA (.call (.ref fa) ⟨[.ref a], []⟩) (fun r s' => r = .ok (.ret (.bool true)) ∧ OldK s1.heap s'.heap ∧ s'.os = s1.os ∧ AllBare s'.gens) s1 := by
  have rv := vals_ints hi
  have core : ∀ H : Hp, Only H → SqL K H a (ns.map V.int) → HOk P w H s1.heap → (∀ b, H b ≠ none → b = a) → (H a ≠ none → K.lookup a = none) →
      codeAny (model P w) callerA (.call (.ref fa) ⟨[.ref a], []⟩) (fun r s' => r = .ok (.ret (.bool true)) ∧ OldK s1.heap s'.heap ∧ s'.os = s1.os ∧ AllBare s'.gens) s1 := by
    intro H only seq good alone apart
    have isA : ∀ {b : Addr} {u : HO}, H b = some u → b = a := fun {b u} q => alone b (fun z => by rw [q] at z; cases z)
    have low : ∀ {b : Addr} {o : Obj}, s1.heap.get? b = some o → H b = none → (hidT s1.heap H).get? b = some o := fun e n => hidT_get e n
    have noDict : ∀ {b : Addr} {o : Obj} {es : Array DictEntry} {ep : Nat}, s1.heap.get? b = some o → o.data = .dict es ep → H b = none := fun {b o es ep} e d => by
      cases q : H b with
      | none => rfl
      | some u =>
        have eb := isA q
        subst eb
        rw [script] at e
        cases e
        cases d
    have under : ∀ {b : Addr} {m : Str → Option Value}, s1.heap.Ns b m → (hidT s1.heap H).Ns b m := fun {b m} h => by
      obtain ⟨o, es, ep, e, d, r⟩ := h
      exact ⟨o, es, ep, low e (noDict e d), d, r⟩
    have inB : K.In (hidT s1.heap H) := fun b o e => low (inK b o e) (by
      cases q : H b with
      | none => rfl
      | some u =>
        have eb := isA q
        subst eb
        rw [apart (fun z => by rw [q] at z; cases z)] at e
        cases e)
    have mod : Mod K mg (hidT s1.heap H) := ⟨inB, under names, ⟨mb, under bn, boot⟩, by obtain ⟨mc, g1, g2⟩ := free; exact ⟨mc, under g1, g2⟩⟩
    have env : Env0 P w K mg (hidT s1.heap H) callerA [] s1 H := ⟨rfl, mod, fun b o e => of_hidT e, Nat.le_of_eq (hidT_size _ _), trivial, fun b hb => (List.not_mem_nil hb).elim, good, .of_eq bare⟩
    refine codeAny_mono ((F _ inB (under names)).run callerA [] s1 H ⟨[.ref a], []⟩ [.ref a] [.ref a] _ _ rfl room env (bind s1 (.ref a)) (.cons rfl .nil) (pr H seq)) fun r s' h => ?_
    cases r with
    | error e => exact False.elim h
    | ok fl =>
      cases fl with
      | next => exact h.elim
      | brk => exact h.elim
      | cont => exact h.elim
      | ret u =>
        obtain ⟨v, H', os, bare', un, good', ru, q⟩ := h
        have q : v = .bl true := q
        subst q
        have ru : u = Value.bool true := ru
        subst ru
        refine ⟨rfl, OldK.of_keep fun b o e => ?_, os, bare'⟩
        cases q : H b with
        | none => exact un.keep b o e q (fun z => List.not_mem_nil z) (fun z => by simp at z)
        | some u =>
          rcases only b with z | ⟨ob, xs, z⟩
          · rw [q] at z; cases z
          · obtain ⟨g1, _⟩ := good b _ z
            obtain ⟨g2, _⟩ := good' b _ (un.frzs b ob _ z)
            rw [e] at g1
            cases g1
            exact g2
  have lenV := hi.length
  cases hk : K.lookup a with
  | some o =>
    have e := inK a o hk
    rw [script] at e
    cases e
    exact core (fun _ => none) (fun _ => .inl rfl) (.inr ⟨_, vs.toArray, _, hk, rfl, rfl, rfl, by rw [List.size_toArray, lenV]; exact few, by simpa using rv⟩) (fun b u z => nomatch (show (none : Option HO) = some u from z)) (fun b z => (z rfl).elim) fun z => (z rfl).elim
  | none =>
    have here : ∀ b, b = a → (if b = a then some (HO.frz { cls := .type "list", data := .seq vs.toArray } (.lst (ns.map V.int))) else none) = some (HO.frz { cls := .type "list", data := .seq vs.toArray } (.lst (ns.map V.int))) := fun b e => if_pos e
    have away : ∀ b, ¬ b = a → (if b = a then some (HO.frz { cls := .type "list", data := .seq vs.toArray } (.lst (ns.map V.int))) else none) = none := fun b e => if_neg e
    refine core (fun b => if b = a then some (.frz { cls := .type "list", data := .seq vs.toArray } (.lst (ns.map V.int))) else none) (fun b => ?_) (.inl (.inr ⟨_, here a rfl⟩)) (fun b u z => ?_) (fun b z => ?_) fun _ => hk
    · by_cases e : b = a
      · exact .inr ⟨_, _, here b e⟩
      · exact .inl (away b e)
    · by_cases e : b = a
      · have z := (here b e).symm.trans z
        cases z
        subst e
        exact ⟨script, by rw [List.length_map]; exact few, vs, _, rv, script⟩
      · have z := (away b e).symm.trans z
        cases z
    · by_cases e : b = a
      · exact e
      · exact (z (away b e)).elim
end
/-- the goal that the head leaves -/
theorem walkG {l : PySem.W.OpenLaw} {n k : Nat} {q : Program} {loose : List Str} {XP : (Str → Option Value) → Heap → Prop} {YP : World → Heap → Prop} {d : DefRec} {K : Params → PySem.W.Frag} {sp : World → Sp} {x : Str}
    (hn : l.most = some n) (hn2 : n ≤ sizeLine) (hdf : d.params.defaults = []) (room : Room k callerA) (inK : ∀ (w : World) (h : Heap), YP w h → (K w.params).In h)
    (F : ∀ (w : World) (mg : Str → Option Value) (fa : Addr) (h : Heap), (K w.params).In h → h.Ns mainGlobals mg → mg d.name = some (.ref fa) →
      ∃ fd : FuncData, (∀ (s : Shared) (u : Value), BindsTo s fd ⟨[u], []⟩ [(x, u)]) ∧ ∀ base : Heap, (K w.params).In base → base.Ns mainGlobals mg → FnG l.prog w (K w.params) mg base k fa fd [x] (sp w))
    (pr : ∀ (w : World) (H : Hp) (a : Addr) (ns : List Int), ns.length ≤ n → SqL (K w.params) H a (ns.map V.int) → sp w [.ref a] H (fun v _ => v = .bl true) fun _ _ _ => False) :
    PySem.W.WalkO q loose XP YP l.row.toRowW d [] (fun f vs => PySem.call f vs) := by
  refine Att.attach_call hn hdf fun w s0 s1 mg mb fa o pm cd doc a vs ns G Y ho hd hcd hmg hobj hints hlen hg => ?_
  have KX := inK w _ Y
  obtain ⟨fd, hb, hF⟩ := F w mg fa _ KX G.T.g hmg
  exact lawG KX G.T.g G.T.b G.T.builtins G.T.nolimit hg hobj hints (Nat.le_trans hlen hn2) room hF hb fun H hS => pr w H a ns hlen hS
end G
set_option Elab.async false
set_option linter.all false
set_option maxRecDepth 100000
/-! repr's texts: how long they are; two texts told apart. -/
namespace G
open PySem PySem.Spec L2 PyProof.Rows
theorem int_long {i : Int} (h : i.natAbs.log2 < 1920) : (PyData.int i).shown.length ≤ 1921 := by
  show (Str.ofString (toString i)).length ≤ 1921
  rw [PySem.ofString_length]
  exact PySem.int_text_length_le (k := 1920) (by decide) h
theorem one_long (d : PyData) : (PyData.tuple [d]).shown.length = d.shown.length + 3 := by
  show ((("(" : Str) ++ d.shown) ++ (",)" : String)).length = _
  rw [strLen_append, strLen_append]
  show 1 + d.shown.length + 2 = _
  omega
theorem two_long (d e : PyData) : (PyData.tuple [d, e]).shown.length = d.shown.length + e.shown.length + 4 := by
  show ((("(" : Str) ++ ((d.shown ++ (", " : String)) ++ e.shown)) ++ (")" : String)).length = _
  rw [strLen_append, strLen_append, strLen_append, strLen_append]
  show 1 + (d.shown.length + 2 + e.shown.length) + 1 = _
  omega
/-- what is asked of data whose repr is told -/
structure RepOk (d : Da) : Prop where
  ex : ∃ ds, d = .tup ds ∧ Da.flats ds = true ∧ d.py.showable = true ∧ d.py.hasDict = false ∧ d.py.depth ≤ 60 ∧ d.py.shown.length ≤ sizeLine
theorem log_small {i : Int} (h : i.natAbs < 2 ^ 1000) : i.natAbs.log2 < 1920 := by
  by_cases z : i.natAbs = 0
  · rw [z]; decide
  · have := (Nat.log2_lt z).mpr h
    omega
theorem pair_rep {f : Fr} (h1 : f.1.natAbs.log2 < 1920) (h2 : f.2.natAbs.log2 < 1920) : (dP f).py.showable = true ∧ (dP f).py.shown.length ≤ 4000 := by
  constructor
  · show (decide (f.1.natAbs.log2 < 1920) && (decide (f.2.natAbs.log2 < 1920) && true)) = true
    rw [decide_eq_true h1, decide_eq_true h2]
    rfl
  · have e := two_long (.int f.1) (.int f.2)
    have a := int_long h1
    have b := int_long h2
    show (PyData.tuple [.int f.1, .int f.2]).shown.length ≤ 4000
    omega
theorem rep_fp {p : FP} (h1 : p.1.1.natAbs.log2 < 1920) (h2 : p.1.2.natAbs.log2 < 1920) (h3 : p.2.1.natAbs.log2 < 1920) (h4 : p.2.2.natAbs.log2 < 1920) : RepOk (dFP p) := by
  obtain ⟨a1, a2⟩ := pair_rep (f := p.1) h1 h2
  obtain ⟨b1, b2⟩ := pair_rep (f := p.2) h3 h4
  refine ⟨_, rfl, rfl, ?_, rfl, by show 2 ≤ 60; decide, ?_⟩
  · show ((dP p.1).py.showable && ((dP p.2).py.showable && true)) = true
    rw [a1, b1]
    rfl
  · have e := two_long (dP p.1).py (dP p.2).py
    show (PyData.tuple [(dP p.1).py, (dP p.2).py]).shown.length ≤ sizeLine
    have : sizeLine = 16777216 := sizeLine_eq
    omega
theorem rep_num {x : Str} {i : Int} (hx : (reprText x).length ≤ 100) (hi : i.natAbs.log2 < 1920) : RepOk (.tup [.str x, .int i]) := by
  refine ⟨_, rfl, rfl, ?_, rfl, by show 1 ≤ 60; decide, ?_⟩
  · show (true && (decide (i.natAbs.log2 < 1920) && true)) = true
    rw [decide_eq_true hi]
    rfl
  · have e := two_long (.str x) (.int i)
    have b := int_long hi
    have : sizeLine = 16777216 := sizeLine_eq
    have a : (PyData.str x).shown.length ≤ 100 := hx
    show (PyData.tuple [.str x, .int i]).shown.length ≤ sizeLine
    omega
theorem rep_one {x : Str} (hx : (reprText x).length ≤ 100) : RepOk (.tup [.str x]) := by
  refine ⟨_, rfl, rfl, rfl, rfl, by show 1 ≤ 60; decide, ?_⟩
  have e := one_long (.str x)
  have : sizeLine = 16777216 := sizeLine_eq
  have a : (PyData.str x).shown.length ≤ 100 := hx
  show (PyData.tuple [.str x]).shown.length ≤ sizeLine
  omega
theorem rp1 : (reprText (Str.ofString "corner")).length ≤ 100 := by decide +kernel
theorem rp2 : (reprText (Str.ofString "side")).length ≤ 100 := by decide +kernel
theorem rp3 : (reprText (Str.ofString "inside")).length ≤ 100 := by decide +kernel
theorem rp4 : (reprText (Str.ofString "outside")).length ≤ 100 := by decide +kernel
section
variable {W : Wd} {A : AS} {P : Sl → Prop} {ta tb : TE}
theorem ew_repT {d : Da} (r : RepOk d) (h : EW W ta A (· = .dat d)) (p : P (.dat (.str d.py.shown))) : EW W (tCB (rReprD W.K) (tCons ta tNil)) A P := ew_reprD (aw_cons (h.mono fun x e => by
  subst e
  obtain ⟨ds, e, h1, h2, h3, h4, h5⟩ := r.ex
  exact aw_nil (on1_mk (onDat_mk (.inr ⟨ds, e, h1, h2, h3, h4, h5, p⟩)))))
theorem ew_repI {i : Int} (r : i.natAbs.log2 < 1920) (h : EW W ta A (· = .dat (.int i))) (p : P (.dat (.str (toString i)))) : EW W (tCB (rReprD W.K) (tCons ta tNil)) A P := ew_reprD (aw_cons (h.mono fun x e => by
  subst e
  exact aw_nil (on1_mk (onDat_mk (.inl ⟨i, rfl, r, p⟩)))))
theorem ew_neS {x y : Str} (h : EW W ta A (· = .dat (.str x))) (g : EW W tb A (· = .dat (.str y))) (p : P (.dat (.bl (!decide (x = y))))) : EW W (tOp rNe ta tb) A P :=
  ew_op (R := fun a b P => a = .dat (.str x) ∧ b = .dat (.str y) ∧ P (.dat (.bl (!decide (x = y))))) (fun S H σ l v u a b E hx hy P ⟨e1, e2, p⟩ Q q => by
    subst e1 e2
    have e1 : v = .str x := by cases (hx : Dt W.K W.C S v (.str x)); rfl
    have e2 : u = .str y := by cases (hy : Dt W.K W.C S u (.str y)); rfl
    subst e1 e2
    refine ⟨rfl, ?_⟩
    have z : decide (V.str x = V.str y) = decide (x = y) := by
      by_cases h : x = y
      · rw [h, decide_eq_true rfl, decide_eq_true rfl]
      · rw [decide_eq_false h, decide_eq_false (fun z => h (by cases z; rfl))]
    rw [z]
    exact q S H _ _ (.refl E.w) (sd (Dt.bl _)) p) (h.mono fun a ea => g.mono fun b eb => ⟨ea, eb, p⟩)
/-- a text is its own -/
theorem ew_neS0 {x : Str} (h : EW W ta A (· = .dat (.str x))) (g : EW W tb A (· = .dat (.str x))) (p : P (.dat (.bl false))) : EW W (tOp rNe ta tb) A P := ew_neS h g (by rw [decide_eq_true rfl]; exact p)
end
end G
set_option Elab.async false
set_option linter.all false
set_option maxRecDepth 100000
namespace G
open PySem PySem.Spec L2
open Evl (Ex)
open PyProof.Rows (envOfC)
local macro_rules | `(tactic| walk_at "go") => `(tactic| repeat' (first
  | ((with_reducible refine' ew_v ?h ?k ?_); (case h => exact rfl); (case k => exact rfl))
  | with_reducible refine ew_int ?_
  | with_reducible refine ew_bl ?_
  | with_reducible refine ew_str ?_
  | with_reducible refine ew_non ?_
  | with_reducible refine ew_plus ?_
  | with_reducible refine ew_sub ?_
  | with_reducible refine ew_mul ?_
  | with_reducible refine ew_mulW ?_
  | with_reducible refine ew_fdiv ?_
  | with_reducible refine ew_mod ?_
  | with_reducible refine ew_ix ?_
  | with_reducible refine ew_lt ?_
  | with_reducible refine ew_le ?_
  | with_reducible refine ew_gt ?_
  | with_reducible refine ew_ge ?_
  | with_reducible refine ew_eqD ?_
  | with_reducible refine ew_neD ?_
  | with_reducible refine ew_neg ?_
  | with_reducible refine ew_tup ?_
  | with_reducible refine ew_lst ?_
  | with_reducible refine ew_len ?_
  | with_reducible refine ew_abs ?_
  | with_reducible refine ew_int1 ?_
  | with_reducible refine ew_gcd ?_
  | with_reducible refine ew_tupOf ?_
  | with_reducible refine ew_callP ?_
  | with_reducible refine ew_callG ?_
  | with_reducible refine ew_revL ?_
  | with_reducible refine ew_slice ?_
  | with_reducible refine ow_no ?_
  | with_reducible refine ow_some ?_
  | with_reducible refine ew_notV ?_
  | with_reducible refine ew_pow ?_
  | with_reducible refine aw_nil ?_
  | with_reducible refine aw_cons ?_
  | with_reducible refine onI2_mk ?_
  | with_reducible refine onI_mk ?_
  | with_reducible refine onB_mk ?_
  | with_reducible refine onD2_mk ?_
  | with_reducible refine onDat_mk ?_
  | with_reducible refine onL_mk ?_
  | with_reducible refine onTup_mk ?_
  | with_reducible refine onSeqT_mk ?_
  | with_reducible refine onSeqL_mk ?_
  | with_reducible refine onDs_nil ?_
  | with_reducible refine onDs_cons ?_
  | with_reducible refine onGDs_mk ?_
  | with_reducible refine on1_mk ?_
  | with_reducible refine on2_mk ?_
  | with_reducible refine plus_int ?_
  | with_reducible refine sq_tup ?_
  | with_reducible refine sq_lst ?_
  | with_reducible refine cut_tup ?_
  | with_reducible refine cut_lst ?_
  | ((with_reducible refine' ix_tup ?e ?_); (case e => first | exact rfl | assumption))
  | ((with_reducible refine' ix_lst ?e ?_); (case e => first | exact rfl | assumption))
  | ((with_reducible refine' And.intro (a := CMul _ _) ?c ?_); (case c => first | (refine mulL ⟨?_, ?_⟩ <;> omega) | (refine mulR ⟨?_, ?_⟩ <;> omega)))
  | ((with_reducible refine' And.intro (a := CMulW _ _) ?c ?_); (case c => assumption))
  | ((with_reducible refine' And.intro (a := 0 < _) ?c ?_); (case c => decide))
  | ((with_reducible refine' And.intro (a := List.length _ ≤ 100000) ?c ?_); (case c => exact Nat.le_of_ble_eq_true rfl))
  | ((with_reducible refine' And.intro (a := fit _ = true) ?c ?_); (case c => first | exact rfl | assumption))
  | with_reducible refine gw_nm ?_
  | ((with_reducible refine' gw_nmI ?h ?_); (case h => decide))
  | ((with_reducible refine' gw_tp ?h ?_); (case h => exact rfl))
  | with_reducible refine gsw_cons ?_
  | with_reducible refine gsw_nil ?_
  | with_reducible refine tw_tst ?_
  | with_reducible refine tw_b ?_
  | with_reducible refine tw_not ?_
  | with_reducible refine tw_yes ?_
  | with_reducible refine sw_seq ?_
  | with_reducible refine sw_ret ?_
  | with_reducible refine sw_asg ?_
  | with_reducible refine sw_par ?_
  | ((with_reducible refine' sw_aug ?h ?_); (case h => exact rfl))
  | with_reducible refine sw_next ?_
  | with_reducible refine sw_brk ?_
  | ((with_reducible refine' ew_andD ?h ?g ?_); (case h => (walk_at "go"; exact rfl)); (case g => (intro _; walk_at "go"; exact rfl)))
  | ((with_reducible refine' ew_orD ?h ?g ?_); (case h => (walk_at "go"; exact rfl)); (case g => (intro _; walk_at "go"; exact rfl)))
  | ((with_reducible refine' tw_and2 ?h ?g ?_); (case h => (walk_at "go"; exact rfl)); (case g => (intro _; walk_at "go"; exact rfl)))
  | ((with_reducible refine' tw_or2 ?h ?g ?_); (case h => (walk_at "go"; exact rfl)); (case g => (intro _; walk_at "go"; exact rfl)))
  | ((with_reducible refine' ew_chD ?h ?g ?k ?_); (case h => (walk_at "go"; exact rfl)); (case g => (walk_at "go"; exact rfl)); (case k => (walk_at "go"; exact rfl)))
  | ((with_reducible refine' ew_isiInt ?h ?_); (case h => (walk_at "go"; exact rfl)))
  | ((with_reducible refine' ew_isiBool ?h ?_); (case h => (walk_at "go"; exact rfl)))
  | ((with_reducible refine' ew_isiTup ?h ?_); (case h => (walk_at "go"; exact rfl)))))
section
variable {P : Program} {w : World} {K : PySem.W.Frag} {mg : Str → Option Value} {base : Heap} {C : Addr}

/-- any number below the bound -/
def R_l_any (ds : List Da) (Q : Da → Prop) : Prop := ∃ b : Int, ds = [.int b] ∧ 0 < b ∧ b < 1000000 ∧ ∀ r : Int, 0 ≤ r → r < b → Q (.int r)
abbrev s_l_any : Stmt := topS 58
abbrev n_l_any : List Str := ["_law_deal_here", "_law_bound", "_law_rest"]
theorem sc_l_any : FnScope n_l_any ["_law_deal_here", "_law_bound"] (defScope s_l_any) := ⟨rfl, rfl, rfl, by decide +kernel, rfl, by decide +kernel, by decide +kernel⟩
def t_l_any (K : PySem.W.Frag) (C : Addr) : TS :=
  (tSeq (tWhile (tAnd (tTest (tOp (rNeD K) (tOp (rIx K) (tVar 0) (tC (.int 0))) (tLst tNil))) (tTest (tOp (rEqD K) (tOp (rIx K) (tOp (rIx K) (tVar 0) (tC (.int 0))) (tUn (rU fun i => .int (-i)) (tC (.int 1)))) (tC (.int 0))))) (tDrop (tBM0 K "list" rPop (tOp (rIx K) (tVar 0) (tC (.int 0))))))
    (tSeq (tIfS (tTest (tOp (rNeD K) (tOp (rIx K) (tVar 0) (tC (.int 0))) (tLst tNil))) (tSeq (tAsg (tCB rInt1 (tCons (tBM0 K "list" rPop (tOp (rIx K) (tVar 0) (tC (.int 0)))) tNil)) (gName 2))
    (tSeq (tDrop (tBM K "list" rAppend (tOp (rIx K) (tVar 0) (tC (.int 0))) (tCons (tOp (rI CDiv fun i j => .int (i / j)) (tVar 2) (tVar 1)) tNil)))
    (tRet (tOp (rI (fun _ j => 0 < j) fun i j => .int (i % j)) (tVar 2) (tVar 1))))) tNext)
    (tSeq (tAsg (tOp (rI (fun _ j => 0 < j) fun i j => .int (i % j)) (tCB rInt1 (tCons (tOp (rPlus K) (tOp (rI CMul fun i j => .int (i * j)) (tOp (rIx K) (tVar 0) (tC (.int 1))) (tC (.int 48271))) (tC (.int 83))) tNil)) (tC (.int 2147483647))) (gSub (tVar 0) (tC (.int 1)) rSetL))
    (tRet (tOp (rI (fun _ j => 0 < j) fun i j => .int (i % j)) (tCB rInt1 (tCons (tOp (rI CDiv fun i j => .int (i / j)) (tOp (rIx K) (tVar 0) (tC (.int 1))) (tC (.int 64))) tNil)) (tVar 1))))))
theorem bd_l_any (m_int : mg "int" = none) {f : Addr} {cdv : Value} {A : Around} {outer : List PySem.Env} {s : Shared} {H : Hp} {E : XK} (hr : Room 0 (A.deeper (envOfC "_law_any" (defScope s_l_any) s.heap.objs.size f cdv))) :
    PSs (cxOf CX0 P w K mg base n_l_any "_law_any" (defScope s_l_any) f cdv A outer s H E).nox (defBody s_l_any) (t_l_any K C) :=
  (pss_cons (ps_while PassesOwn.never (PW.pt (pw_and (pt_cmpR (op_neD hr.units) (pe_ix ix_seq (pv 0) pe_int (fun _ _ => rfl)) (pe_lst pa_nil) (nomark _)) (pw_and1 (pt_cmpR (op_eqD hr.units) (pe_ix ix_seq (pe_ix ix_seq (pv 0) pe_int (fun _ _ => rfl)) (pe_un un_neg pe_int) (fun _ _ => rfl)) pe_int (nomark _))))) (pss_one (ps_expr (pe_bm0 PySem.F.plainAttrs_list PySem.F.slot_list_pop PySem.F.type_list_pop mt_pop (pe_ix ix_seq (pv 0) pe_int (fun _ _ => rfl))))))
    (pss_cons (ps_if (pt_cmpR (op_neD hr.units) (pe_ix ix_seq (pv 0) pe_int (fun _ _ => rfl)) (pe_lst pa_nil) (nomark _)) (pss_cons (ps_set (i := 2) sc_l_any.nd rfl (Or.inl rfl) (pe_callTy call_int1G (by rfl) m_int (by decide +kernel) (pa_cons (pe_bm0 PySem.F.plainAttrs_list PySem.F.slot_list_pop PySem.F.type_list_pop mt_pop (pe_ix ix_seq (pv 0) pe_int (fun _ _ => rfl))) pa_nil)))
    (pss_cons (ps_expr (pe_bm PySem.F.plainAttrs_list PySem.F.slot_list_append PySem.F.type_list_append mt_append (pe_ix ix_seq (pv 0) pe_int (fun _ _ => rfl)) (pa_cons (pe_op op_fdiv (pv 2) (pv 1)) pa_nil)))
    (pss_one (ps_ret (pe_op op_mod (pv 2) (pv 1)))))) pss_nil)
    (pss_cons (ps_asg (pe_op op_mod (pe_callTy call_int1G (by rfl) m_int (by decide +kernel) (pa_cons (pe_op op_plus (pe_op op_mul (pe_ix ix_seq (pv 0) pe_int (fun _ _ => rfl)) pe_int) pe_int) pa_nil)) pe_int) (pg_sub (pv 0) pe_int set_list))
    (pss_one (ps_ret (pe_op op_mod (pe_callTy call_int1G (by rfl) m_int (by decide +kernel) (pa_cons (pe_op op_fdiv (pe_ix ix_seq (pv 0) pe_int (fun _ _ => rfl)) pe_int) pa_nil)) (pv 1)))))))
theorem ln_l_any : ∀ ds Q, R_l_any ds Q → ds.length + 1 = 2 := fun ds Q ⟨_, e, _⟩ => by rw [e]; rfl
theorem wk_l_any : ∀ p ds Q, R_l_any ds Q → SW ⟨K, C, some p⟩ (t_l_any K C) ⟨.deal :: (ds.map .dat ++ List.replicate 1 .un), none⟩ ⟨fun _ => Q .non, Q, fun _ => False, fun _ => False⟩ := by
  rintro p _ Q ⟨b, rfl, h0, h1, q⟩ S0 H0 S H σ l a D m
  obtain ⟨v0, s0, e0⟩ := paired_at (i := 0) a.e.sl rfl
  obtain ⟨v1, s1, e1⟩ := paired_at (i := 1) a.e.sl rfl
  have len : σ.length = 3 := a.e.sl.length
  cases v0 with
  | none => exact absurd e0 id
  | some v0 =>
    cases v1 with
    | none => exact absurd e1 id
    | some v1 =>
      obtain ⟨p', hp, rfl⟩ := e0
      cases hp
      have e1 : v1 = .int b := dt_int e1
      subst e1
      obtain ⟨_, _, _, cells, mix, ln, k1, k2⟩ := a.e.w.dk p rfl
      have d : Dk p S0 H0 H cells mix := ⟨⟨S, a.x⟩, k1, k2, ln⟩
      clear k1 k2 ln
      unfold t_l_any
      -- the numbers of naught go
      refine ⟨fun n σ' H' => σ' = σ ∧ ∃ cells mix, cells.length = n ∧ Dk p S0 H0 H' cells mix, ⟨_, rfl, cells, mix, rfl, d⟩, ?_⟩
      clear d cells mix
      rintro n τ H1 ⟨hτ, cells, mix, rfl, d⟩
      have hτ := hτ.symm
      subst hτ
      refine dk_any d s0 fun H2 d2 => ?_
      have fin : ∀ {H2 : Hp} {cells : List Int} {mix : Int}, Dk p S0 H0 H2 cells mix → (tSeq (tIfS (tTest (tOp (rNeD K) (tOp (rIx K) (tVar 0) (tC (.int 0))) (tLst tNil))) (tSeq (tAsg (tCB rInt1 (tCons (tBM0 K "list" rPop (tOp (rIx K) (tVar 0) (tC (.int 0)))) tNil)) (gName 2))
    (tSeq (tDrop (tBM K "list" rAppend (tOp (rIx K) (tVar 0) (tC (.int 0))) (tCons (tOp (rI CDiv fun i j => .int (i / j)) (tVar 2) (tVar 1)) tNil)))
    (tRet (tOp (rI (fun _ j => 0 < j) fun i j => .int (i % j)) (tVar 2) (tVar 1))))) tNext)
    (tSeq (tAsg (tOp (rI (fun _ j => 0 < j) fun i j => .int (i % j)) (tCB rInt1 (tCons (tOp (rPlus K) (tOp (rI CMul fun i j => .int (i * j)) (tOp (rIx K) (tVar 0) (tC (.int 1))) (tC (.int 48271))) (tC (.int 83))) tNil)) (tC (.int 2147483647))) (gSub (tVar 0) (tC (.int 1)) rSetL))
    (tRet (tOp (rI (fun _ j => 0 < j) fun i j => .int (i % j)) (tCB rInt1 (tCons (tOp (rI CDiv fun i j => .int (i / j)) (tOp (rIx K) (tVar 0) (tC (.int 1))) (tC (.int 64))) tNil)) (tVar 1))))) D σ H2 := by
        intro H2 cells mix d
        refine dk_any d s0 fun H3 d3 => ?_
        cases hn : noCells cells with
        | false =>
          obtain ⟨cs, c, rfl⟩ := last_split cells hn
          refine iteT (dk_pop d3 s0 fun H4 d4 => .inl ⟨c, rfl, ?_⟩)
          have g0 : (σ.set 2 (some (.int c)))[0]? = some (some (.ref p.1)) := by rw [List.getElem?_set_ne (by decide)]; exact s0
          have g1 : (σ.set 2 (some (.int c)))[1]? = some (some (.int b)) := by rw [List.getElem?_set_ne (by decide)]; exact s1
          have g2 : (σ.set 2 (some (.int c)))[2]? = some (some (.int c)) := List.getElem?_set_self (by omega)
          have lcs : cs.length + 1 ≤ 63 := by have := d3.ln; rwa [List.length_append] at this
          refine dk_cells d4 g0 ⟨.inl ⟨rfl, _, .of d4.h2⟩, _, g2, _, g1, c, b, rfl, rfl, ⟨h0, by omega⟩, p.2, _, _, rfl, rfl, d4.h2, szl (by rw [List.length_map]; omega), ?_⟩
          have d5 : Dk p S0 H0 (upd H4 p.2 (.lst (cs.map V.int ++ [V.int (c / b)]))) (cs ++ [c / b]) mix := by
            have z := d4.setC (cs := cs ++ [c / b]) (by rw [List.length_append]; exact lcs)
            rw [List.map_append] at z
            exact z
          refine ⟨_, g2, _, g1, c, b, rfl, rfl, h0, ?_⟩
          obtain ⟨S5, x5⟩ := d5.ex
          exact m.rt S5 _ _ _ x5 (.int _) (q (c % b) (Int.emod_nonneg _ (by omega)) (Int.emod_lt_of_pos _ h0))
        | true =>
          refine iteF (dk_mix d3 s0 ⟨mix, 48271, rfl, rfl, .inr ⟨by decide, by decide⟩, .inl ⟨_, _, rfl, rfl, .inl ⟨_, rfl, _, 2147483647, rfl, rfl, (show (0 : Int) < 2147483647 by decide), ?_⟩⟩⟩)
          refine ⟨.ref p.1, s0, p.1, _, 1, 1, rfl, rfl, d3.h1, rfl, ?_⟩
          have d5 := d3.setM (k := (mix * 48271 + 83) % 2147483647)
          refine dk_mix d5 s0 ⟨_, 64, rfl, rfl, ⟨by decide, by decide⟩, .inl ⟨_, rfl, _, s1, _, b, rfl, rfl, h0, ?_⟩⟩
          obtain ⟨S5, x5⟩ := d5.ex
          exact m.rt S5 _ _ _ x5 (.int _) (q _ (Int.emod_nonneg _ (by omega)) (Int.emod_lt_of_pos _ h0))
      cases hn : noCells cells with
      | true => exact iteF (iteF (fin d2))
      | false =>
        obtain ⟨cs, c, rfl⟩ := last_split cells hn
        have at1 : atI ((cs ++ [c]).map V.int) (-1) = some (.int c) := by
          unfold atI ixN
          rw [if_neg (by decide), List.length_map, List.length_append, if_pos (by simp; omega)]
          show ((cs ++ [c]).map V.int)[((-1 : Int) + ((cs.length + 1 : Nat) : Int)).toNat]? = _
          rw [show ((-1 : Int) + ((cs.length + 1 : Nat) : Int)).toNat = cs.length from by omega, List.getElem?_map]
          simp
        refine iteT (dk_cells d2 s0 ⟨1, rfl, .inl ⟨p.2, _, -1, .int c, rfl, rfl, .of d2.h2, at1, .int c, .int 0, .int c, .int 0, rfl, rfl, _, rfl, ?_⟩⟩)
        cases hc : PyData.eqv (.int c) (.int 0) with
        | false => exact iteF (fin d2)
        | true =>
          refine iteT ⟨fun σ' H' => σ' = σ ∧ ∃ mix, Dk p S0 H0 H' cs mix, fun σ' H' ⟨e, mix, d⟩ => ⟨cs.length, by simp, e, cs, mix, rfl, d⟩, ?_⟩
          exact dk_pop d2 s0 fun H4 d4 => ⟨rfl, mix, d4⟩
theorem ok_l_any (m_int : mg "int" = none) (F : DefAt K mg "_law_any" ["_law_deal_here", "_law_bound"] s_l_any) : Cal P w K mg base "_law_any" 1 ["_law_deal_here", "_law_bound"] (spG K C R_l_any) :=
  F.okG sc_l_any ln_l_any (fun _ _ _ _ _ _ _ hr => bd_l_any m_int hr) wk_l_any
end
end G
set_option Elab.async false
set_option linter.all false
set_option maxRecDepth 100000
namespace G
open PySem PySem.Spec L2
open Evl (Ex)
open PyProof.Rows (envOfC)
local macro_rules | `(tactic| walk_at "go") => `(tactic| repeat' (first
  | ((with_reducible refine' ew_v ?h ?k ?_); (case h => exact rfl); (case k => exact rfl))
  | with_reducible refine ew_int ?_
  | with_reducible refine ew_bl ?_
  | with_reducible refine ew_str ?_
  | with_reducible refine ew_non ?_
  | with_reducible refine ew_plus ?_
  | with_reducible refine ew_sub ?_
  | with_reducible refine ew_mul ?_
  | with_reducible refine ew_mulW ?_
  | with_reducible refine ew_fdiv ?_
  | with_reducible refine ew_mod ?_
  | with_reducible refine ew_ix ?_
  | with_reducible refine ew_lt ?_
  | with_reducible refine ew_le ?_
  | with_reducible refine ew_gt ?_
  | with_reducible refine ew_ge ?_
  | with_reducible refine ew_eqD ?_
  | with_reducible refine ew_neD ?_
  | with_reducible refine ew_neg ?_
  | with_reducible refine ew_tup ?_
  | with_reducible refine ew_lst ?_
  | with_reducible refine ew_len ?_
  | with_reducible refine ew_abs ?_
  | with_reducible refine ew_int1 ?_
  | with_reducible refine ew_gcd ?_
  | with_reducible refine ew_tupOf ?_
  | with_reducible refine ew_callP ?_
  | with_reducible refine ew_callG ?_
  | with_reducible refine ew_revL ?_
  | with_reducible refine ew_slice ?_
  | with_reducible refine ow_no ?_
  | with_reducible refine ow_some ?_
  | with_reducible refine ew_notV ?_
  | with_reducible refine ew_pow ?_
  | with_reducible refine aw_nil ?_
  | with_reducible refine aw_cons ?_
  | with_reducible refine onI2_mk ?_
  | with_reducible refine onI_mk ?_
  | with_reducible refine onB_mk ?_
  | with_reducible refine onD2_mk ?_
  | with_reducible refine onDat_mk ?_
  | with_reducible refine onL_mk ?_
  | with_reducible refine onTup_mk ?_
  | with_reducible refine onSeqT_mk ?_
  | with_reducible refine onSeqL_mk ?_
  | with_reducible refine onDs_nil ?_
  | with_reducible refine onDs_cons ?_
  | with_reducible refine onGDs_mk ?_
  | with_reducible refine on1_mk ?_
  | with_reducible refine on2_mk ?_
  | with_reducible refine plus_int ?_
  | with_reducible refine sq_tup ?_
  | with_reducible refine sq_lst ?_
  | with_reducible refine cut_tup ?_
  | with_reducible refine cut_lst ?_
  | ((with_reducible refine' ix_tup ?e ?_); (case e => first | exact rfl | assumption))
  | ((with_reducible refine' ix_lst ?e ?_); (case e => first | exact rfl | assumption))
  | ((with_reducible refine' And.intro (a := CMul _ _) ?c ?_); (case c => first | (refine mulL ⟨?_, ?_⟩ <;> omega) | (refine mulR ⟨?_, ?_⟩ <;> omega)))
  | ((with_reducible refine' And.intro (a := CMulW _ _) ?c ?_); (case c => assumption))
  | ((with_reducible refine' And.intro (a := 0 < _) ?c ?_); (case c => decide))
  | ((with_reducible refine' And.intro (a := List.length _ ≤ 100000) ?c ?_); (case c => exact Nat.le_of_ble_eq_true rfl))
  | ((with_reducible refine' And.intro (a := fit _ = true) ?c ?_); (case c => first | exact rfl | assumption))
  | with_reducible refine gw_nm ?_
  | ((with_reducible refine' gw_nmI ?h ?_); (case h => decide))
  | ((with_reducible refine' gw_tp ?h ?_); (case h => exact rfl))
  | with_reducible refine gsw_cons ?_
  | with_reducible refine gsw_nil ?_
  | with_reducible refine tw_tst ?_
  | with_reducible refine tw_b ?_
  | with_reducible refine tw_not ?_
  | with_reducible refine tw_yes ?_
  | with_reducible refine sw_seq ?_
  | with_reducible refine sw_ret ?_
  | with_reducible refine sw_asg ?_
  | with_reducible refine sw_par ?_
  | ((with_reducible refine' sw_aug ?h ?_); (case h => exact rfl))
  | with_reducible refine sw_next ?_
  | with_reducible refine sw_brk ?_
  | ((with_reducible refine' ew_andD ?h ?g ?_); (case h => (walk_at "go"; exact rfl)); (case g => (intro _; walk_at "go"; exact rfl)))
  | ((with_reducible refine' ew_orD ?h ?g ?_); (case h => (walk_at "go"; exact rfl)); (case g => (intro _; walk_at "go"; exact rfl)))
  | ((with_reducible refine' tw_and2 ?h ?g ?_); (case h => (walk_at "go"; exact rfl)); (case g => (intro _; walk_at "go"; exact rfl)))
  | ((with_reducible refine' tw_or2 ?h ?g ?_); (case h => (walk_at "go"; exact rfl)); (case g => (intro _; walk_at "go"; exact rfl)))
  | ((with_reducible refine' ew_chD ?h ?g ?k ?_); (case h => (walk_at "go"; exact rfl)); (case g => (walk_at "go"; exact rfl)); (case k => (walk_at "go"; exact rfl)))
  | ((with_reducible refine' ew_isiInt ?h ?_); (case h => (walk_at "go"; exact rfl)))
  | ((with_reducible refine' ew_isiBool ?h ?_); (case h => (walk_at "go"; exact rfl)))
  | ((with_reducible refine' ew_isiTup ?h ?_); (case h => (walk_at "go"; exact rfl)))))
section
variable {P : Program} {w : World} {K : PySem.W.Frag} {mg : Str → Option Value} {base : Heap} {C : Addr}

def R_l_of (ds : List Da) (Q : Da → Prop) : Prop := ∃ xs : List Da, (ds = [.lst xs] ∨ ds = [.tup xs]) ∧ 0 < xs.length ∧ xs.length < 1000000 ∧ ∀ d, d ∈ xs → Q d
abbrev s_l_of : Stmt := topS 59
abbrev n_l_of : List Str := ["_law_deal_here", "_law_some"]
theorem sc_l_of : FnScope n_l_of ["_law_deal_here", "_law_some"] (defScope s_l_of) := ⟨rfl, rfl, rfl, by decide +kernel, rfl, by decide +kernel, by decide +kernel⟩
def t_l_of (K : PySem.W.Frag) (C : Addr) : TS :=
  (tRet (tOp (rIx K) (tVar 1) (tCall (spG K C R_l_any) [] E0 (tCons (tVar 0) (tCons (tCB (rLen K) (tCons (tVar 1) tNil)) tNil)))))
theorem bd_l_of (c_l_any : Cal P w K mg base "_law_any" 1 ["_law_deal_here", "_law_bound"] (spG K C R_l_any)) (m_len : mg "len" = none) {f : Addr} {cdv : Value} {A : Around} {outer : List PySem.Env} {s : Shared} {H : Hp} {E : XK} (hr : Room 1 (A.deeper (envOfC "_law_of" (defScope s_l_of) s.heap.objs.size f cdv))) :
    PSs (cxOf CX0 P w K mg base n_l_of "_law_of" (defScope s_l_of) f cdv A outer s H E).nox (defBody s_l_of) (t_l_of K C) :=
  (pss_one (ps_ret (pe_ix ix_seq (pv 1) (pe_callC c_l_any (hr.mono (by decide)) (by rfl) (pa_cons (pv 0) (pa_cons (pe_callB call_lenG (by rfl) m_len PySem.boot_len (pa_cons (pv 1) pa_nil)) pa_nil))) (fun _ _ => rfl))))
theorem ln_l_of : ∀ ds Q, R_l_of ds Q → ds.length + 1 = 2 := fun ds Q ⟨_, e, _⟩ => by rcases e with e | e <;> (rw [e]; rfl)
theorem wk_l_of : ∀ p ds Q, R_l_of ds Q → SW ⟨K, C, some p⟩ (t_l_of K C) ⟨.deal :: (ds.map .dat ++ List.replicate 0 .un), none⟩ ⟨fun _ => Q .non, Q, fun _ => False, fun _ => False⟩ := by
  rintro p _ Q ⟨xs, rfl | rfl, h0, h1, q⟩
  · unfold t_l_of
    walk_at "go"
    refine ⟨_, rfl, by omega, by omega, fun r r0 r1 => ?_⟩
    obtain ⟨d, hd, e⟩ := atI_mem r0 r1
    refine ix_lst e ?_
    exact q d hd
  · unfold t_l_of
    walk_at "go"
    refine ⟨_, rfl, by omega, by omega, fun r r0 r1 => ?_⟩
    obtain ⟨d, hd, e⟩ := atI_mem r0 r1
    refine ix_tup e ?_
    exact q d hd
theorem ok_l_of (c_l_any : Cal P w K mg base "_law_any" 1 ["_law_deal_here", "_law_bound"] (spG K C R_l_any)) (m_len : mg "len" = none) (F : DefAt K mg "_law_of" ["_law_deal_here", "_law_some"] s_l_of) : Cal P w K mg base "_law_of" 2 ["_law_deal_here", "_law_some"] (spG K C R_l_of) :=
  F.okG sc_l_of ln_l_of (fun _ _ _ _ _ _ _ hr => bd_l_of c_l_any m_len hr) wk_l_of
def R_l_star (ds : List Da) (Q : Da → Prop) : Prop := ∃ (c : Pt) (most each : Int), ds = [dP c, .int most, .int each] ∧ (1 ≤ most ∧ most ≤ 9) ∧ (1 ≤ each ∧ each ≤ 9) ∧ ∀ r, StarBase c most r → Q (dR r)
abbrev s_l_star : Stmt := topS 60
abbrev n_l_star : List Str := ["_law_deal_here", "_law_centre", "_law_most", "_law_each", "_law_ways", "_law_places", "_law_quarter", "_law_some", "_law_found", "_law_at", "_law_far", "_law_right", "_law_up", "_law_turn"]
theorem sc_l_star : FnScope n_l_star ["_law_deal_here", "_law_centre", "_law_most", "_law_each"] (defScope s_l_star) := ⟨rfl, rfl, rfl, by decide +kernel, rfl, by decide +kernel, by decide +kernel⟩
def t_l_star (K : PySem.W.Frag) (C : Addr) : TS :=
  (tSeq (tAsg (tLst (tCons (tTup (tCons (tC (.int 2)) (tCons (tC (.int 0)) tNil))) (tCons (tTup (tCons (tC (.int 2)) (tCons (tC (.int 1)) tNil))) (tCons (tTup (tCons (tC (.int 2)) (tCons (tC (.int 2)) tNil))) (tCons (tTup (tCons (tC (.int 1)) (tCons (tC (.int 2)) tNil))) (tCons (tTup (tCons (tC (.int 0)) (tCons (tC (.int 2)) tNil))) (tCons (tTup (tCons (tUn (rU fun i => .int (-i)) (tC (.int 1))) (tCons (tC (.int 2)) tNil))) (tCons (tTup (tCons (tUn (rU fun i => .int (-i)) (tC (.int 2))) (tCons (tC (.int 2)) tNil))) (tCons (tTup (tCons (tUn (rU fun i => .int (-i)) (tC (.int 2))) (tCons (tC (.int 1)) tNil))) tNil))))))))) (gName 4))
    (tSeq (tAsg (tOp (rPlus K) (tVar 4) (tLc (iSeq K (tVar 4)) (gTup K 2 (gCons (gName 11) (gCons (gName 12) gNil))) tYes (tTup (tCons (tOp (rI0 fun i j => .int (i - j)) (tC (.int 0)) (tVar 11)) (tCons (tOp (rI0 fun i j => .int (i - j)) (tC (.int 0)) (tVar 12)) tNil))) [11, 12])) (gName 4))
    (tSeq (tAsg (tLst tNil) (gName 5))
    (tSeq (tFor (iRng1 (tCons (tC (.int 4)) tNil)) (gName 6)
    (tSeq (tAsg (tLc (iRng1 (tCons (tOp (rPlus K) (tC (.int 1)) (tCall (spG K C R_l_any) [] E0 (tCons (tVar 0) (tCons (tVar 3) tNil)))) tNil)) (gName 13) tYes (tOp (rPlus K) (tOp (rI CMul fun i j => .int (i * j)) (tC (.int 4)) (tVar 6)) (tCall (spG K C R_l_any) [] E0 (tCons (tVar 0) (tCons (tC (.int 4)) tNil)))) [13]) (gName 7))
    (tAsg (tOp (rPlus K) (tVar 5) (tLc (iRng2 (tCons (tOp (rI CMul fun i j => .int (i * j)) (tC (.int 4)) (tVar 6)) (tCons (tOp (rPlus K) (tOp (rI CMul fun i j => .int (i * j)) (tC (.int 4)) (tVar 6)) (tC (.int 4))) tNil))) (gName 9) (tTest (tOp (rInD2 K) (tVar 9) (tVar 7))) (tVar 9) [9])) (gName 5))))
    (tSeq (tAsg (tLst tNil) (gName 8))
    (tSeq (tFor (iSeq K (tVar 5)) (gName 9)
    (tSeq (tAsg (tOp (rPlus K) (tC (.int 1)) (tCall (spG K C R_l_any) [] E0 (tCons (tVar 0) (tCons (tVar 2) tNil)))) (gName 10))
    (tDrop (tBM K "list" rAppend (tVar 8) (tCons (tTup (tCons (tOp (rPlus K) (tOp (rIx K) (tVar 1) (tC (.int 0))) (tOp (rI CMul fun i j => .int (i * j)) (tVar 10) (tOp (rIx K) (tOp (rIx K) (tVar 4) (tVar 9)) (tC (.int 0))))) (tCons (tOp (rPlus K) (tOp (rIx K) (tVar 1) (tC (.int 1))) (tOp (rI CMul fun i j => .int (i * j)) (tVar 10) (tOp (rIx K) (tOp (rIx K) (tVar 4) (tVar 9)) (tC (.int 1))))) tNil))) tNil)))))
    (tRet (tCB (rTupOf K) (tCons (tVar 8) tNil)))))))))
theorem bd_l_star (c_l_any : Cal P w K mg base "_law_any" 1 ["_law_deal_here", "_law_bound"] (spG K C R_l_any)) (m_range : mg "range" = none) (m_tuple : mg "tuple" = none) {f : Addr} {cdv : Value} {A : Around} {outer : List PySem.Env} {s : Shared} {H : Hp} {E : XK} (hr : Room 1 (A.deeper (envOfC "_law_star" (defScope s_l_star) s.heap.objs.size f cdv))) :
    PSs (cxOf CX0 P w K mg base n_l_star "_law_star" (defScope s_l_star) f cdv A outer s H E).nox (defBody s_l_star) (t_l_star K C) :=
  (pss_cons (ps_set (i := 4) sc_l_star.nd rfl (Or.inl rfl) (pe_lst (pa_cons (pe_tup (pa_cons pe_int (pa_cons pe_int pa_nil))) (pa_cons (pe_tup (pa_cons pe_int (pa_cons pe_int pa_nil))) (pa_cons (pe_tup (pa_cons pe_int (pa_cons pe_int pa_nil))) (pa_cons (pe_tup (pa_cons pe_int (pa_cons pe_int pa_nil))) (pa_cons (pe_tup (pa_cons pe_int (pa_cons pe_int pa_nil))) (pa_cons (pe_tup (pa_cons (pe_un un_neg pe_int) (pa_cons pe_int pa_nil))) (pa_cons (pe_tup (pa_cons (pe_un un_neg pe_int) (pa_cons pe_int pa_nil))) (pa_cons (pe_tup (pa_cons (pe_un un_neg pe_int) (pa_cons pe_int pa_nil))) pa_nil))))))))))
    (pss_cons (ps_set (i := 4) sc_l_star.nd rfl (Or.inl rfl) (pe_op op_plus (pv 4) (pe_lc (own := [("_law_right", 11), ("_law_up", 12)]) (by rfl) sc_l_star.nd (pi_seq (pv 4)) (blkOk_by (own := [("_law_right", 11), ("_law_up", 12)]) (N := n_l_star) (sc := defScope s_l_star) (by decide +kernel)) (fun _ _ _ _ _ => (pg_tup (by rfl) (pgs_cons (pg_name (i := 11) sc_l_star.nd rfl (Or.inl rfl)) (pgs_cons (pg_name (i := 12) sc_l_star.nd rfl (Or.inl rfl)) pgs_nil)))) (fun _ _ _ _ _ => pts_nil) (fun _ _ _ _ _ => (pe_tup (pa_cons (pe_op op_sub pe_int (pv 11)) (pa_cons (pe_op op_sub pe_int (pv 12)) pa_nil)))))))
    (pss_cons (ps_set (i := 5) sc_l_star.nd rfl (Or.inl rfl) (pe_lst pa_nil))
    (pss_cons (ps_for PassesOwn.never rfl (pi_range1 (by rfl) m_range (pa_cons pe_int pa_nil)) (pg_name (i := 6) sc_l_star.nd rfl (Or.inr rfl))
    (pss_cons (ps_set (i := 7) sc_l_star.nd rfl (Or.inr rfl) (pe_lc (own := [("_law_turn", 13)]) (by rfl) sc_l_star.nd (pi_range1 (by rfl) m_range (pa_cons (pe_op op_plus pe_int (pe_callC c_l_any (hr.mono (by decide)) (by rfl) (pa_cons (pv 0) (pa_cons (pv 3) pa_nil)))) pa_nil)) (blkOk_by (own := [("_law_turn", 13)]) (N := n_l_star) (sc := defScope s_l_star) (by decide +kernel)) (fun _ _ _ _ _ => (pg_name (i := 13) sc_l_star.nd rfl (Or.inl rfl))) (fun _ _ _ _ _ => pts_nil) (fun _ _ _ _ _ => (pe_op op_plus (pe_op op_mul pe_int (pv 6)) (pe_callC c_l_any (hr.mono (by decide)) (by rfl) (pa_cons (pv 0) (pa_cons pe_int pa_nil)))))))
    (pss_one (ps_set (i := 5) sc_l_star.nd rfl (Or.inl rfl) (pe_op op_plus (pv 5) (pe_lc (own := [("_law_at", 9)]) (by rfl) sc_l_star.nd (pi_range2 (by rfl) m_range (pa_cons (pe_op op_mul pe_int (pv 6)) (pa_cons (pe_op op_plus (pe_op op_mul pe_int (pv 6)) pe_int) pa_nil))) (blkOk_by (own := [("_law_at", 9)]) (N := n_l_star) (sc := defScope s_l_star) (by decide +kernel)) (fun _ _ _ _ _ => (pg_name (i := 9) sc_l_star.nd rfl (Or.inl rfl))) (fun _ _ _ _ _ => (pts_one (pt_cmpR (op_inD2 (hr_in hr)) (pv 9) (pv 7) (by rfl)))) (fun _ _ _ _ _ => (pv 9))))))))
    (pss_cons (ps_set (i := 8) sc_l_star.nd rfl (Or.inl rfl) (pe_lst pa_nil))
    (pss_cons (ps_for PassesOwn.never rfl (pi_seq (pv 5)) (pg_name (i := 9) sc_l_star.nd rfl (Or.inl rfl))
    (pss_cons (ps_set (i := 10) sc_l_star.nd rfl (Or.inl rfl) (pe_op op_plus pe_int (pe_callC c_l_any (hr.mono (by decide)) (by rfl) (pa_cons (pv 0) (pa_cons (pv 2) pa_nil)))))
    (pss_one (ps_expr (pe_bm PySem.F.plainAttrs_list PySem.F.slot_list_append PySem.F.type_list_append mt_append (pv 8) (pa_cons (pe_tup (pa_cons (pe_op op_plus (pe_ix ix_seq (pv 1) pe_int (fun _ _ => rfl)) (pe_op op_mul (pv 10) (pe_ix ix_seq (pe_ix ix_seq (pv 4) (pv 9) (fun _ _ => rfl)) pe_int (fun _ _ => rfl)))) (pa_cons (pe_op op_plus (pe_ix ix_seq (pv 1) pe_int (fun _ _ => rfl)) (pe_op op_mul (pv 10) (pe_ix ix_seq (pe_ix ix_seq (pv 4) (pv 9) (fun _ _ => rfl)) pe_int (fun _ _ => rfl)))) pa_nil))) pa_nil))))))
    (pss_one (ps_ret (pe_callTy call_tupG (by rfl) m_tuple (by decide +kernel) (pa_cons (pv 8) pa_nil))))))))))
theorem ln_l_star : ∀ ds Q, R_l_star ds Q → ds.length + 1 = 4 := fun ds Q ⟨_, _, _, e, _⟩ => by rw [e]; rfl
structure Quad (n : Nat) (L : List Nat) : Prop where
  up : L.Pairwise (· < ·)
  lt : ∀ a, a ∈ L → a < 4 * n
  qu : ∀ q, q < n → ∃ a, a ∈ L ∧ 4 * q ≤ a ∧ a < 4 * q + 4
theorem Quad.next {n : Nat} {L : List Nat} {b : Nat → Bool} (h : Quad n L) (hb : ∃ x, x < 4 ∧ b x = true) : Quad (n + 1) (L ++ ((List.range 4).filter b).map fun x => 4 * n + x) := by
  refine ⟨List.pairwise_append.mpr ⟨h.up, ?_, fun x hx y hy => ?_⟩, fun a ha => ?_, fun q hq => ?_⟩
  · refine List.Pairwise.map _ (fun x y (z : x < y) => ?_) (List.Pairwise.filter _ (List.pairwise_lt_range))
    omega
  · obtain ⟨z, _, rfl⟩ := List.mem_map.mp hy
    have := h.lt x hx
    omega
  · rcases List.mem_append.mp ha with ha | ha
    · have := h.lt a ha
      omega
    · obtain ⟨z, hz, rfl⟩ := List.mem_map.mp ha
      have := List.mem_range.mp (List.mem_filter.mp hz).1
      omega
  · by_cases e : q < n
    · obtain ⟨a, h1, h2⟩ := h.qu q e
      exact ⟨a, List.mem_append_left _ h1, h2⟩
    · obtain ⟨x, hx, hbx⟩ := hb
      exact ⟨4 * n + x, List.mem_append_right _ (List.mem_map.mpr ⟨x, List.mem_filter.mpr ⟨List.mem_range.mpr hx, hbx⟩, rfl⟩), by omega, by omega⟩
theorem flats_ints : ∀ l : List Int, Da.flats (l.map Da.int) = true
  | [] => rfl
  | _ :: l => flats_ints l
theorem lays_ints : ∀ l : List Int, PyData.canLayAll0 (Da.pys (l.map Da.int)) = true
  | [] => rfl
  | _ :: l => lays_ints l
theorem range_split {n m : Nat} {pre post : List Nat} (h : List.range n = pre ++ m :: post) : pre.length = m ∧ m < n := by
  have e : (List.range n)[pre.length]? = some m := by rw [h]; simp
  have hl : pre.length < n := by
    have := (List.getElem?_eq_some_iff.mp e).1
    rwa [List.length_range] at this
  rw [List.getElem?_range hl] at e
  have := Option.some.inj e
  omega
theorem quad_len {n : Nat} {L : List Nat} (h : L.Pairwise (· < ·)) (lt : ∀ a, a ∈ L → a < n) : L.length ≤ n := by
  have : ∀ (L : List Nat) (k : Nat), L.Pairwise (· < ·) → (∀ a, a ∈ L → k ≤ a ∧ a < n) → L.length ≤ n - k := by
    intro L
    induction L with
    | nil => intros; exact Nat.zero_le _
    | cons x L ih =>
      intro k hp hb
      obtain ⟨h1, h2⟩ := List.pairwise_cons.mp hp
      have z := ih (x + 1) h2 fun a ha => ⟨h1 a ha, (hb a (List.mem_cons_of_mem _ ha)).2⟩
      have y := hb x List.mem_cons_self
      rw [List.length_cons]
      omega
  simpa using this L 0 h fun a ha => ⟨Nat.zero_le _, lt a ha⟩
theorem noAcc_tail {x : Sl} {xs : List Sl} (h : noAcc (x :: xs) = true) : noAcc xs = true := by cases x <;> first | exact h | cases h
theorem wk_l_star : ∀ p ds Q, R_l_star ds Q → SW ⟨K, C, some p⟩ (t_l_star K C) ⟨.deal :: (ds.map .dat ++ List.replicate 10 .un), none⟩ ⟨fun _ => Q .non, Q, fun _ => False, fun _ => False⟩ := by
  rintro p _ Q ⟨c, most, each, rfl, ⟨m0, m1⟩, ⟨e0, e1⟩, q⟩
  unfold t_l_star
  refine sw_seq (sw_asg ?_)
  refine ew_lst ?_
  walk_at "go"
  refine ew_lcM ((ways.take 8)) dP (fun u => dP (0 - u.1, 0 - u.2)) (iw_sqL ?_) (by decide) (fun u hu => ?_) ?_
  · walk_at "go"
    rfl
  · walk_at "go"
    rfl
  refine plus_lst (by decide) ?_
  refine gw_nm (sw_seq (sw_asg (ew_lst (aw_nil (onDs_nil ⟨by decide, gw_nm ?_⟩)))))
  refine sw_seq (sw_forM (List.range 4) (fun (m : Nat) => .int (0 + (m : Nat))) (iw_r1 (n := 4) (by walk_at "go"; rfl) (by decide)) (fun pre A' => ∃ x6 x7 x8 x9 x10 x11 x12 x13 L, A' = ⟨[.deal, .dat (dP c), .dat (.int most), .dat (.int each), .dat (.lst (ways.map dP)), .dat (.lst (L.map fun (a : Nat) => .int (a : Int))), x6, x7, x8, x9, x10, x11, x12, x13], none⟩ ∧ noAcc [x6, x7, x8, x9, x10, x11, x12, x13] = true ∧ Quad pre.length L) ⟨_, _, _, _, _, _, _, _, [], rfl, rfl, ⟨.nil, (fun _ z => nomatch z), fun q z => absurd z (Nat.not_lt_zero _)⟩⟩ ?t ?f)
  case t =>
    rintro pre m post _ hs ⟨x6, x7, x8, x9, x10, x11, x12, x13, L, rfl, hna, hq⟩
    obtain ⟨hpl, hm⟩ := range_split hs
    have hm4 : 0 + (m : Int) < 4 := by omega
    refine gw_nm (sw_seq (sw_asg (ew_lcE (fun (x : Nat) => .int (0 + (x : Int))) (fun _ d => ∃ z : Int, (4 * (0 + (m : Int)) ≤ z ∧ z < 4 * (0 + (m : Int)) + 4) ∧ d = .int z) (iw_rng1 ?_))))
    walk_at "go"
    refine ⟨each, rfl, by omega, by omega, fun r r0 r1 => ?_⟩
    walk_at "go"
    refine ⟨by omega, by omega, List.range (1 + r).toNat, rfl, by rw [List.length_range]; omega, fun x hx => ?_, fun ys hys => ?_⟩
    · walk_at "go"
      refine ⟨4, rfl, by decide, by decide, fun z z0 z1 => ?_⟩
      walk_at "go"
      exact ⟨_, ⟨by omega, by omega⟩, rfl⟩
    · obtain ⟨zs, rfl, hz, hzl⟩ := paired_ints (fun z => 4 * (0 + (m : Int)) ≤ z ∧ z < 4 * (0 + (m : Int)) + 4) hys
      rw [List.length_range] at hzl
      refine gw_nm (sw_asg (ew_plus ?_))
      walk_at "go"
      refine ew_lcF (List.range 4) (fun (x : Nat) => .int (4 * (0 + (m : Int)) + (x : Int))) (fun (x : Nat) => .int (4 * (0 + (m : Int)) + (x : Int))) (fun x => (zs.map Da.int).any fun z => PyData.eqv z.py (Da.int (4 * (0 + (m : Int)) + (x : Int))).py) ?w (by decide) ?t2 ?p2
      case w =>
        have e : List.range 4 = List.range ((4 * (0 + (m : Int)) + 4) - 4 * (0 + (m : Int))).toNat := by
          congr 1
          omega
        rw [e]
        refine iw_r2 ?_ ⟨by omega, by omega, by omega, by omega⟩
        walk_at "go"
        rfl
      case t2 =>
        intro x hx
        walk_at "go"
        refine ⟨tw_tst (ew_inD2 ?_), fun _ => ?_⟩
        · walk_at "go"
          exact ⟨_, .inl rfl, flats_ints _, lays_ints _, rfl⟩
        · walk_at "go"
          rfl
      case p2 =>
        have ll : L.length ≤ 16 := by
          have := quad_len hq.up hq.lt
          have : pre.length < 4 := by omega
          omega
        refine plus_lst (by
          have := List.length_filter_le (fun (x : Nat) => (zs.map Da.int).any fun z => PyData.eqv z.py (Da.int (4 * (0 + (m : Int)) + (x : Int))).py) (List.range 4)
          rw [List.length_range] at this
          rw [List.length_map, List.length_map]
          omega) ?_
        refine gw_nm ⟨.dat (.int (0 + (m : Int))), .dat (.lst (zs.map .int)), x8, x9, x10, x11, x12, x13, L ++ ((List.range 4).filter fun (x : Nat) => (zs.map Da.int).any fun z => PyData.eqv z.py (Da.int (4 * (0 + (m : Int)) + (x : Int))).py).map fun x => 4 * pre.length + x, ?_, (noAcc_tail (noAcc_tail hna) : noAcc [x8, x9, x10, x11, x12, x13] = true), ?_⟩
        · rw [List.map_append, List.map_map]
          have e : ∀ l : List Nat, l.map (fun (x : Nat) => Da.int (4 * (0 + (m : Int)) + (x : Int))) = l.map ((fun (a : Nat) => Da.int (a : Int)) ∘ fun x => 4 * pre.length + x) := fun l => by
            refine List.map_congr_left fun x _ => ?_
            show Da.int (4 * (0 + (m : Int)) + (x : Int)) = Da.int ((4 * pre.length + x : Nat) : Int)
            congr 1
            omega
          rw [e]
          rfl
        · rw [List.length_append]
          refine hq.next ?_
          match zs, hzl, hz with
          | [], hzl, _ =>
            simp at hzl
            omega
          | z :: zs, _, hz =>
            have b := hz z List.mem_cons_self
            refine ⟨(z - 4 * (0 + (m : Int))).toNat, by omega, ?_⟩
            rw [List.map_cons, List.any_cons]
            have e : PyData.eqv (Da.int z).py (Da.int (4 * (0 + (m : Int)) + ((z - 4 * (0 + (m : Int))).toNat : Int))).py = true := by
              show (z == 4 * (0 + (m : Int)) + ((z - 4 * (0 + (m : Int))).toNat : Int)) = true
              rw [beq_iff_eq]
              omega
            rw [e]
            rfl
  case f =>
    rintro _ ⟨x6, x7, x8, x9, x10, x11, x12, x13, L, rfl, hna, hq⟩
    rw [List.length_range] at hq
    have ll : L.length ≤ 16 := quad_len hq.up hq.lt
    refine sw_seq (sw_new rfl hna ?_)
    refine sw_seq (sw_forM L (fun (a : Nat) => .int (a : Int)) (iw_sqL (by walk_at "go"; rfl)) (fun pre A' => ∃ x6 x7 x9 x10 x11 x12 x13 Fs ac, A' = ⟨[.deal, .dat (dP c), .dat (.int most), .dat (.int each), .dat (.lst (ways.map dP)), .dat (.lst (L.map fun (a : Nat) => .int (a : Int))), x6, x7, .acc, x9, x10, x11, x12, x13], some ac⟩ ∧ ac = (Fs.map (starPt c)).map dP ∧ Fs.map (·.1) = pre ∧ ∀ e, e ∈ Fs → 1 ≤ e.2 ∧ e.2 ≤ most) ⟨_, _, _, _, _, _, _, [], _, rfl, rfl, rfl, fun _ z => nomatch z⟩ ?t3 ?f3)
    case t3 =>
      rintro pre a post _ he ⟨x6, x7, x9, x10, x11, x12, x13, Fs, ac, rfl, hac, hF, hb⟩
      have ha : a < 16 := hq.lt a (by rw [he]; exact List.mem_append_right _ List.mem_cons_self)
      have fl : Fs.length ≤ 16 := by
        have e1 := congrArg List.length hF
        have e2 := congrArg List.length he
        rw [List.length_map] at e1
        rw [List.length_append] at e2
        omega
      refine gw_nm (sw_seq (sw_asg ?_))
      walk_at "go"
      refine ⟨most, rfl, by omega, by omega, fun r r0 r1 => ?_⟩
      refine gw_nm (sw_app rfl rfl (by rw [hac, List.length_map, List.length_map]; omega) ?_)
      have e := atI_cg (r := ways) (z := (a : Int)) (by omega) (by show (a : Int) < 16; omega)
      walk_at "go"
      refine ⟨_, _, _, _, _, _, _, Fs ++ [(a, 1 + r)], _, rfl, ?_, ?_, ?_⟩
      · rw [hac, List.map_append, List.map_append]
        rfl
      · rw [List.map_append, hF]
        rfl
      · intro e he
        rcases List.mem_append.mp he with h | h
        · exact hb e h
        · rw [List.mem_singleton.mp h]
          exact ⟨by simp only; omega, by simp only; omega⟩
    case f3 =>
      rintro _ ⟨x6, x7, x9, x10, x11, x12, x13, Fs, ac, rfl, rfl, hF, hb⟩
      walk_at "go"
      refine sq_acc rfl ?_
      refine q _ ⟨Fs, ⟨?_, fun e he => ?_, fun k hk => ?_⟩, rfl⟩
      · have := hq.up
        rw [← hF] at this
        exact List.pairwise_map.mp this
      · have := hq.lt e.1 (by rw [← hF]; exact List.mem_map.mpr ⟨e, he, rfl⟩)
        have := hb e he
        omega
      · obtain ⟨a, ha, h1, h2⟩ := hq.qu k hk
        rw [← hF] at ha
        obtain ⟨e, he, rfl⟩ := List.mem_map.mp ha
        exact ⟨e, he, h1, h2⟩
theorem ok_l_star (c_l_any : Cal P w K mg base "_law_any" 1 ["_law_deal_here", "_law_bound"] (spG K C R_l_any)) (m_range : mg "range" = none) (m_tuple : mg "tuple" = none) (F : DefAt K mg "_law_star" ["_law_deal_here", "_law_centre", "_law_most", "_law_each"] s_l_star) : Cal P w K mg base "_law_star" 2 ["_law_deal_here", "_law_centre", "_law_most", "_law_each"] (spG K C R_l_star) :=
  F.okG sc_l_star ln_l_star (fun _ _ _ _ _ _ _ hr => bd_l_star c_l_any m_range m_tuple hr) wk_l_star
end
end G
set_option Elab.async false
set_option linter.all false
set_option maxRecDepth 100000
namespace G
open PySem PySem.Spec L2
open Evl (Ex)
open PyProof.Rows (envOfC)
local macro_rules | `(tactic| walk_at "go") => `(tactic| repeat' (first
  | ((with_reducible refine' ew_v ?h ?k ?_); (case h => exact rfl); (case k => exact rfl))
  | with_reducible refine ew_int ?_
  | with_reducible refine ew_bl ?_
  | with_reducible refine ew_str ?_
  | with_reducible refine ew_non ?_
  | with_reducible refine ew_plus ?_
  | with_reducible refine ew_sub ?_
  | with_reducible refine ew_mul ?_
  | with_reducible refine ew_mulW ?_
  | with_reducible refine ew_fdiv ?_
  | with_reducible refine ew_mod ?_
  | with_reducible refine ew_ix ?_
  | with_reducible refine ew_lt ?_
  | with_reducible refine ew_le ?_
  | with_reducible refine ew_gt ?_
  | with_reducible refine ew_ge ?_
  | with_reducible refine ew_eqD ?_
  | with_reducible refine ew_neD ?_
  | with_reducible refine ew_neg ?_
  | with_reducible refine ew_tup ?_
  | with_reducible refine ew_lst ?_
  | with_reducible refine ew_len ?_
  | with_reducible refine ew_abs ?_
  | with_reducible refine ew_int1 ?_
  | with_reducible refine ew_gcd ?_
  | with_reducible refine ew_tupOf ?_
  | with_reducible refine ew_callP ?_
  | with_reducible refine ew_callG ?_
  | with_reducible refine ew_revL ?_
  | with_reducible refine ew_slice ?_
  | with_reducible refine ow_no ?_
  | with_reducible refine ow_some ?_
  | with_reducible refine ew_notV ?_
  | with_reducible refine ew_pow ?_
  | with_reducible refine aw_nil ?_
  | with_reducible refine aw_cons ?_
  | with_reducible refine onI2_mk ?_
  | with_reducible refine onI_mk ?_
  | with_reducible refine onB_mk ?_
  | with_reducible refine onD2_mk ?_
  | with_reducible refine onDat_mk ?_
  | with_reducible refine onL_mk ?_
  | with_reducible refine onTup_mk ?_
  | with_reducible refine onSeqT_mk ?_
  | with_reducible refine onSeqL_mk ?_
  | with_reducible refine onDs_nil ?_
  | with_reducible refine onDs_cons ?_
  | with_reducible refine onGDs_mk ?_
  | with_reducible refine on1_mk ?_
  | with_reducible refine on2_mk ?_
  | with_reducible refine plus_int ?_
  | with_reducible refine sq_tup ?_
  | with_reducible refine sq_lst ?_
  | with_reducible refine cut_tup ?_
  | with_reducible refine cut_lst ?_
  | ((with_reducible refine' ix_tup ?e ?_); (case e => first | exact rfl | assumption))
  | ((with_reducible refine' ix_lst ?e ?_); (case e => first | exact rfl | assumption))
  | ((with_reducible refine' And.intro (a := CMul _ _) ?c ?_); (case c => first | (refine mulL ⟨?_, ?_⟩ <;> omega) | (refine mulR ⟨?_, ?_⟩ <;> omega)))
  | ((with_reducible refine' And.intro (a := CMulW _ _) ?c ?_); (case c => assumption))
  | ((with_reducible refine' And.intro (a := 0 < _) ?c ?_); (case c => decide))
  | ((with_reducible refine' And.intro (a := List.length _ ≤ 100000) ?c ?_); (case c => exact Nat.le_of_ble_eq_true rfl))
  | ((with_reducible refine' And.intro (a := fit _ = true) ?c ?_); (case c => first | exact rfl | assumption))
  | with_reducible refine gw_nm ?_
  | ((with_reducible refine' gw_nmI ?h ?_); (case h => decide))
  | ((with_reducible refine' gw_tp ?h ?_); (case h => exact rfl))
  | with_reducible refine gsw_cons ?_
  | with_reducible refine gsw_nil ?_
  | with_reducible refine tw_tst ?_
  | with_reducible refine tw_b ?_
  | with_reducible refine tw_not ?_
  | with_reducible refine tw_yes ?_
  | with_reducible refine sw_seq ?_
  | with_reducible refine sw_ret ?_
  | with_reducible refine sw_asg ?_
  | with_reducible refine sw_par ?_
  | ((with_reducible refine' sw_aug ?h ?_); (case h => exact rfl))
  | with_reducible refine sw_next ?_
  | with_reducible refine sw_brk ?_
  | ((with_reducible refine' ew_andD ?h ?g ?_); (case h => (walk_at "go"; exact rfl)); (case g => (intro _; walk_at "go"; exact rfl)))
  | ((with_reducible refine' ew_orD ?h ?g ?_); (case h => (walk_at "go"; exact rfl)); (case g => (intro _; walk_at "go"; exact rfl)))
  | ((with_reducible refine' tw_and2 ?h ?g ?_); (case h => (walk_at "go"; exact rfl)); (case g => (intro _; walk_at "go"; exact rfl)))
  | ((with_reducible refine' tw_or2 ?h ?g ?_); (case h => (walk_at "go"; exact rfl)); (case g => (intro _; walk_at "go"; exact rfl)))
  | ((with_reducible refine' ew_chD ?h ?g ?k ?_); (case h => (walk_at "go"; exact rfl)); (case g => (walk_at "go"; exact rfl)); (case k => (walk_at "go"; exact rfl)))
  | ((with_reducible refine' ew_isiInt ?h ?_); (case h => (walk_at "go"; exact rfl)))
  | ((with_reducible refine' ew_isiBool ?h ?_); (case h => (walk_at "go"; exact rfl)))
  | ((with_reducible refine' ew_isiTup ?h ?_); (case h => (walk_at "go"; exact rfl)))))
section
variable {P : Program} {w : World} {K : PySem.W.Frag} {mg : Str → Option Value} {base : Heap} {C : Addr}

def R_l_wave (ds : List Da) (Q : Da → Prop) : Prop := ∃ m : Nat, ds = [.int (m : Int)] ∧ 2 ≤ m ∧ m ≤ 5 ∧ ∀ r, WaveBase m r → Q (dR r)
abbrev s_l_wave : Stmt := topS 61
abbrev n_l_wave : List Str := ["_law_deal_here", "_law_many", "_law_low", "_law_high", "_law_at"]
theorem sc_l_wave : FnScope n_l_wave ["_law_deal_here", "_law_many"] (defScope s_l_wave) := ⟨rfl, rfl, rfl, by decide +kernel, rfl, by decide +kernel, by decide +kernel⟩
def t_l_wave (K : PySem.W.Frag) (C : Addr) : TS :=
  (tSeq (tAsg (tLc (iRng2 (tCons (tC (.int 1)) (tCons (tVar 1) tNil))) (gName 4) tYes (tTup (tCons (tOp (rI CMul fun i j => .int (i * j)) (tC (.int 20)) (tVar 4)) (tCons (tOp (rI0 fun i j => .int (i - j)) (tUn (rU fun i => .int (-i)) (tC (.int 20))) (tCall (spG K C R_l_any) [] E0 (tCons (tVar 0) (tCons (tC (.int 20)) tNil)))) tNil))) [4]) (gName 2))
    (tSeq (tAsg (tLc (iRng2 (tCons (tC (.int 1)) (tCons (tVar 1) tNil))) (gName 4) tYes (tTup (tCons (tOp (rI CMul fun i j => .int (i * j)) (tC (.int 20)) (tVar 4)) (tCons (tOp (rPlus K) (tC (.int 20)) (tCall (spG K C R_l_any) [] E0 (tCons (tVar 0) (tCons (tC (.int 20)) tNil)))) tNil))) [4]) (gName 3))
    (tRet (tCB (rTupOf K) (tCons (tOp (rPlus K) (tOp (rPlus K) (tOp (rPlus K) (tLst (tCons (tTup (tCons (tC (.int 0)) (tCons (tC (.int 0)) tNil))) tNil)) (tVar 2)) (tLst (tCons (tTup (tCons (tOp (rI CMul fun i j => .int (i * j)) (tC (.int 20)) (tVar 1)) (tCons (tC (.int 0)) tNil))) tNil))) (tRevL K (tVar 3))) tNil)))))
theorem bd_l_wave (c_l_any : Cal P w K mg base "_law_any" 1 ["_law_deal_here", "_law_bound"] (spG K C R_l_any)) (m_range : mg "range" = none) (m_tuple : mg "tuple" = none) {f : Addr} {cdv : Value} {A : Around} {outer : List PySem.Env} {s : Shared} {H : Hp} {E : XK} (hr : Room 1 (A.deeper (envOfC "_law_wave" (defScope s_l_wave) s.heap.objs.size f cdv))) :
    PSs (cxOf CX0 P w K mg base n_l_wave "_law_wave" (defScope s_l_wave) f cdv A outer s H E).nox (defBody s_l_wave) (t_l_wave K C) :=
  (pss_cons (ps_setLc (i := 2) (own := [("_law_at", 4)]) (by rfl) sc_l_wave.nd rfl rfl (sw_true rfl rfl rfl (by decide +kernel)) (pi_range2 (by rfl) m_range (pa_cons pe_int (pa_cons (pv 1) pa_nil))) (blkOk_by (own := [("_law_at", 4)]) (N := n_l_wave) (sc := defScope s_l_wave) (by decide +kernel)) (fun _ _ _ _ _ => (pg_name (i := 4) sc_l_wave.nd rfl (Or.inl rfl))) (fun _ _ _ _ _ => pts_nil) (fun _ _ _ _ _ => (pe_tup (pa_cons (pe_op op_mul pe_int (pv 4)) (pa_cons (pe_op op_sub (pe_un un_neg pe_int) (pe_callC c_l_any (hr.mono (by decide)) (by rfl) (pa_cons (pv 0) (pa_cons pe_int pa_nil)))) pa_nil)))))
    (pss_cons (ps_setLc (i := 3) (own := [("_law_at", 4)]) (by rfl) sc_l_wave.nd rfl rfl (sw_true rfl rfl rfl (by decide +kernel)) (pi_range2 (by rfl) m_range (pa_cons pe_int (pa_cons (pv 1) pa_nil))) (blkOk_by (own := [("_law_at", 4)]) (N := n_l_wave) (sc := defScope s_l_wave) (by decide +kernel)) (fun _ _ _ _ _ => (pg_name (i := 4) sc_l_wave.nd rfl (Or.inl rfl))) (fun _ _ _ _ _ => pts_nil) (fun _ _ _ _ _ => (pe_tup (pa_cons (pe_op op_mul pe_int (pv 4)) (pa_cons (pe_op op_plus pe_int (pe_callC c_l_any (hr.mono (by decide)) (by rfl) (pa_cons (pv 0) (pa_cons pe_int pa_nil)))) pa_nil)))))
    (pss_one (ps_ret (pe_callTy call_tupG (by rfl) m_tuple (by decide +kernel) (pa_cons (pe_op op_plus (pe_op op_plus (pe_op op_plus (pe_lst (pa_cons (pe_tup (pa_cons pe_int (pa_cons pe_int pa_nil))) pa_nil)) (pv 2)) (pe_lst (pa_cons (pe_tup (pa_cons (pe_op op_mul pe_int (pv 1)) (pa_cons pe_int pa_nil))) pa_nil))) (pe_revL (pv 3))) pa_nil))))))
theorem ln_l_wave : ∀ ds Q, R_l_wave ds Q → ds.length + 1 = 2 := fun ds Q ⟨_, e, _⟩ => by rw [e]; rfl
theorem wk_l_wave : ∀ p ds Q, R_l_wave ds Q → SW ⟨K, C, some p⟩ (t_l_wave K C) ⟨.deal :: (ds.map .dat ++ List.replicate 3 .un), none⟩ ⟨fun _ => Q .non, Q, fun _ => False, fun _ => False⟩ := by
  rintro p _ Q ⟨m, rfl, m0, m1, q⟩
  have em : ((m : Int) - 1).toNat = m - 1 := by omega
  unfold t_l_wave
  refine sw_seq (sw_asg (ew_lcR (List.range (m - 1)) (fun (i : Nat) => .int (1 + (i : Nat))) (fun (i : Nat) d => ∃ z : Int, (0 ≤ z ∧ z < 20) ∧ d = dP ((20 * (1 + (i : Int)), -20 - z) : Pt)) ?w (by rw [List.length_range]; omega) ?t ?p1))
  case w =>
    rw [← em]
    refine iw_r2 ?_ ⟨by omega, by omega, by omega, by omega⟩
    walk_at "go"
    rfl
  case t =>
    intro i hi
    walk_at "go"
    refine ⟨20, rfl, by decide, by decide, fun z z0 z1 => ?_⟩
    walk_at "go"
    exact ⟨z, ⟨z0, z1⟩, rfl⟩
  case p1 =>
    intro ys hys
    obtain ⟨f, hf, rfl⟩ := paired_range (fun z : Int => 0 ≤ z ∧ z < 20) (fun (i : Nat) z => dP ((20 * (1 + (i : Int)), -20 - z) : Pt)) 0 hys
    refine gw_nm (sw_seq (sw_asg (ew_lcR (List.range (m - 1)) (fun (i : Nat) => .int (1 + (i : Nat))) (fun (i : Nat) d => ∃ z : Int, (0 ≤ z ∧ z < 20) ∧ d = dP ((20 * (1 + (i : Int)), 20 + z) : Pt)) ?w2 (by rw [List.length_range]; omega) ?t2 ?p2)))
    case w2 =>
      rw [← em]
      refine iw_r2 ?_ ⟨by omega, by omega, by omega, by omega⟩
      walk_at "go"
      rfl
    case t2 =>
      intro i hi
      walk_at "go"
      refine ⟨20, rfl, by decide, by decide, fun z z0 z1 => ?_⟩
      walk_at "go"
      exact ⟨z, ⟨z0, z1⟩, rfl⟩
    case p2 =>
      intro ys hys
      obtain ⟨g, hg, rfl⟩ := paired_range (fun z : Int => 0 ≤ z ∧ z < 20) (fun (i : Nat) z => dP ((20 * (1 + (i : Int)), 20 + z) : Pt)) 0 hys
      walk_at "go"
      refine plus_lst (by rw [List.length_map, List.length_range]; simp only [List.length_singleton]; omega) ?_
      walk_at "go"
      refine plus_lst (by rw [List.length_append, List.length_map, List.length_range]; simp only [List.length_singleton]; omega) ?_
      walk_at "go"
      refine plus_lst (by rw [List.length_append, List.length_append, List.length_reverse, List.length_map, List.length_map, List.length_range]; simp only [List.length_singleton]; omega) ?_
      walk_at "go"
      have z := q (waveR m f g) ⟨f, g, hf, hg, rfl⟩
      unfold waveR at z
      unfold dR at z
      rw [List.map_append, List.map_append, List.map_append, List.map_reverse, List.map_map, List.map_map] at z
      exact z
theorem ok_l_wave (c_l_any : Cal P w K mg base "_law_any" 1 ["_law_deal_here", "_law_bound"] (spG K C R_l_any)) (m_range : mg "range" = none) (m_tuple : mg "tuple" = none) (F : DefAt K mg "_law_wave" ["_law_deal_here", "_law_many"] s_l_wave) : Cal P w K mg base "_law_wave" 2 ["_law_deal_here", "_law_many"] (spG K C R_l_wave) :=
  F.okG sc_l_wave ln_l_wave (fun _ _ _ _ _ _ _ hr => bd_l_wave c_l_any m_range m_tuple hr) wk_l_wave
def dM (m : Int × Int × Int × Int) : Da := .tup [.int m.1, .int m.2.1, .int m.2.2.1, .int m.2.2.2]
abbrev dRule (t : Rule) : Da := .tup [.int t.a, .int t.b, .int t.c, .int t.d, .int t.e, .int t.f]
def R_l_map (ds : List Da) (Q : Da → Prop) : Prop := ds = [] ∧ ∀ t, RuleOk t → Q (dRule t)
abbrev s_l_map : Stmt := topS 63
abbrev n_l_map : List Str := ["_law_deal_here", "_law_menu"]
theorem sc_l_map : FnScope n_l_map ["_law_deal_here"] (defScope s_l_map) := ⟨rfl, rfl, rfl, by decide +kernel, rfl, by decide +kernel, by decide +kernel⟩
def t_l_map (K : PySem.W.Frag) (C : Addr) : TS :=
  (tSeq (tAsg (tLst (tCons (tTup (tCons (tC (.int 1)) (tCons (tC (.int 0)) (tCons (tC (.int 0)) (tCons (tC (.int 1)) tNil))))) (tCons (tTup (tCons (tC (.int 1)) (tCons (tC (.int 1)) (tCons (tC (.int 0)) (tCons (tC (.int 1)) tNil))))) (tCons (tTup (tCons (tC (.int 1)) (tCons (tC (.int 0)) (tCons (tC (.int 1)) (tCons (tC (.int 1)) tNil))))) (tCons (tTup (tCons (tC (.int 0)) (tCons (tUn (rU fun i => .int (-i)) (tC (.int 1))) (tCons (tC (.int 1)) (tCons (tC (.int 0)) tNil))))) (tCons (tTup (tCons (tUn (rU fun i => .int (-i)) (tC (.int 1))) (tCons (tC (.int 0)) (tCons (tC (.int 0)) (tCons (tUn (rU fun i => .int (-i)) (tC (.int 1))) tNil))))) (tCons (tTup (tCons (tC (.int 2)) (tCons (tC (.int 1)) (tCons (tC (.int 1)) (tCons (tC (.int 1)) tNil))))) (tCons (tTup (tCons (tC (.int 0)) (tCons (tC (.int 1)) (tCons (tC (.int 1)) (tCons (tC (.int 0)) tNil))))) (tCons (tTup (tCons (tC (.int 1)) (tCons (tC (.int 0)) (tCons (tC (.int 0)) (tCons (tUn (rU fun i => .int (-i)) (tC (.int 1))) tNil))))) tNil))))))))) (gName 1))
    (tRet (tOp (rPlus K) (tCall (spG K C R_l_of) [] E0 (tCons (tVar 0) (tCons (tVar 1) tNil))) (tTup (tCons (tOp (rI0 fun i j => .int (i - j)) (tCall (spG K C R_l_any) [] E0 (tCons (tVar 0) (tCons (tC (.int 101)) tNil))) (tC (.int 50))) (tCons (tOp (rI0 fun i j => .int (i - j)) (tCall (spG K C R_l_any) [] E0 (tCons (tVar 0) (tCons (tC (.int 101)) tNil))) (tC (.int 50))) tNil))))))
theorem bd_l_map (c_l_of : Cal P w K mg base "_law_of" 2 ["_law_deal_here", "_law_some"] (spG K C R_l_of)) (c_l_any : Cal P w K mg base "_law_any" 1 ["_law_deal_here", "_law_bound"] (spG K C R_l_any)) {f : Addr} {cdv : Value} {A : Around} {outer : List PySem.Env} {s : Shared} {H : Hp} {E : XK} (hr : Room 2 (A.deeper (envOfC "_law_map" (defScope s_l_map) s.heap.objs.size f cdv))) :
    PSs (cxOf CX0 P w K mg base n_l_map "_law_map" (defScope s_l_map) f cdv A outer s H E).nox (defBody s_l_map) (t_l_map K C) :=
  (pss_cons (ps_set (i := 1) sc_l_map.nd rfl (Or.inl rfl) (pe_lst (pa_cons (pe_tup (pa_cons pe_int (pa_cons pe_int (pa_cons pe_int (pa_cons pe_int pa_nil))))) (pa_cons (pe_tup (pa_cons pe_int (pa_cons pe_int (pa_cons pe_int (pa_cons pe_int pa_nil))))) (pa_cons (pe_tup (pa_cons pe_int (pa_cons pe_int (pa_cons pe_int (pa_cons pe_int pa_nil))))) (pa_cons (pe_tup (pa_cons pe_int (pa_cons (pe_un un_neg pe_int) (pa_cons pe_int (pa_cons pe_int pa_nil))))) (pa_cons (pe_tup (pa_cons (pe_un un_neg pe_int) (pa_cons pe_int (pa_cons pe_int (pa_cons (pe_un un_neg pe_int) pa_nil))))) (pa_cons (pe_tup (pa_cons pe_int (pa_cons pe_int (pa_cons pe_int (pa_cons pe_int pa_nil))))) (pa_cons (pe_tup (pa_cons pe_int (pa_cons pe_int (pa_cons pe_int (pa_cons pe_int pa_nil))))) (pa_cons (pe_tup (pa_cons pe_int (pa_cons pe_int (pa_cons pe_int (pa_cons (pe_un un_neg pe_int) pa_nil))))) pa_nil))))))))))
    (pss_one (ps_ret (pe_op op_plus (pe_callC c_l_of (hr.mono (by decide)) (by rfl) (pa_cons (pv 0) (pa_cons (pv 1) pa_nil))) (pe_tup (pa_cons (pe_op op_sub (pe_callC c_l_any (hr.mono (by decide)) (by rfl) (pa_cons (pv 0) (pa_cons pe_int pa_nil))) pe_int) (pa_cons (pe_op op_sub (pe_callC c_l_any (hr.mono (by decide)) (by rfl) (pa_cons (pv 0) (pa_cons pe_int pa_nil))) pe_int) pa_nil)))))))
theorem ln_l_map : ∀ ds Q, R_l_map ds Q → ds.length + 1 = 1 := fun ds Q ⟨e, _⟩ => by rw [e]; rfl
theorem wk_l_map : ∀ p ds Q, R_l_map ds Q → SW ⟨K, C, some p⟩ (t_l_map K C) ⟨.deal :: (ds.map .dat ++ List.replicate 1 .un), none⟩ ⟨fun _ => Q .non, Q, fun _ => False, fun _ => False⟩ := by
  rintro p _ Q ⟨rfl, q⟩
  unfold t_l_map
  refine sw_seq (sw_asg ?_)
  walk_at "go"
  refine ⟨menu.map dM, .inl rfl, by decide, by decide, fun d hd => ?_⟩
  obtain ⟨m, hm, rfl⟩ := List.mem_map.mp hd
  walk_at "go"
  refine ⟨101, rfl, by decide, by decide, fun x x0 x1 => ?_⟩
  walk_at "go"
  refine ⟨101, rfl, by decide, by decide, fun y y0 y1 => ?_⟩
  walk_at "go"
  unfold dM
  refine plus_tup (by simp) ?_
  exact q ⟨m.1, m.2.1, m.2.2.1, m.2.2.2, x - 50, y - 50⟩ ⟨hm, by simp only; omega, by simp only; omega, by simp only; omega, by simp only; omega⟩
theorem ok_l_map (c_l_of : Cal P w K mg base "_law_of" 2 ["_law_deal_here", "_law_some"] (spG K C R_l_of)) (c_l_any : Cal P w K mg base "_law_any" 1 ["_law_deal_here", "_law_bound"] (spG K C R_l_any)) (F : DefAt K mg "_law_map" ["_law_deal_here"] s_l_map) : Cal P w K mg base "_law_map" 3 ["_law_deal_here"] (spG K C R_l_map) :=
  F.okG sc_l_map ln_l_map (fun _ _ _ _ _ _ _ hr => bd_l_map c_l_of c_l_any hr) wk_l_map
def R_l_put (ds : List Da) (Q : Da → Prop) : Prop := ∃ r t, ds = [dR r, dRule t] ∧ RuleOk t ∧ r.length ≤ 1000 ∧ Q (dR (putR t r))
abbrev s_l_put : Stmt := topS 64
abbrev n_l_put : List Str := ["_law_ring_here", "_law_rule", "_law_a", "_law_b", "_law_c", "_law_d", "_law_right", "_law_up", "_law_found", "_law_x", "_law_y"]
theorem sc_l_put : FnScope n_l_put ["_law_ring_here", "_law_rule"] (defScope s_l_put) := ⟨rfl, rfl, rfl, by decide +kernel, rfl, by decide +kernel, by decide +kernel⟩
def t_l_put (K : PySem.W.Frag) (C : Addr) : TS :=
  (tSeq (tAsg (tVar 1) (gTup K 6 (gCons (gName 2) (gCons (gName 3) (gCons (gName 4) (gCons (gName 5) (gCons (gName 6) (gCons (gName 7) gNil))))))))
    (tSeq (tAsg (tLc (iSeq K (tVar 0)) (gTup K 2 (gCons (gName 9) (gCons (gName 10) gNil))) tYes (tTup (tCons (tOp (rPlus K) (tOp (rPlus K) (tOp (rI CMul fun i j => .int (i * j)) (tVar 2) (tVar 9)) (tOp (rI CMul fun i j => .int (i * j)) (tVar 3) (tVar 10))) (tVar 6)) (tCons (tOp (rPlus K) (tOp (rPlus K) (tOp (rI CMul fun i j => .int (i * j)) (tVar 4) (tVar 9)) (tOp (rI CMul fun i j => .int (i * j)) (tVar 5) (tVar 10))) (tVar 7)) tNil))) [9, 10]) (gName 8))
    (tRet (tCB (rTupOf K) (tCons (tIf (tTest (tOp (rI0 fun i j => .bl (decide (j < i))) (tOp (rI0 fun i j => .int (i - j)) (tOp (rI CMul fun i j => .int (i * j)) (tVar 2) (tVar 5)) (tOp (rI CMul fun i j => .int (i * j)) (tVar 3) (tVar 4))) (tC (.int 0)))) (tVar 8) (tRevL K (tVar 8))) tNil)))))
theorem bd_l_put (m_tuple : mg "tuple" = none) {f : Addr} {cdv : Value} {A : Around} {outer : List PySem.Env} {s : Shared} {H : Hp} {E : XK} (hr : Room 0 (A.deeper (envOfC "_law_put" (defScope s_l_put) s.heap.objs.size f cdv))) :
    PSs (cxOf CX0 P w K mg base n_l_put "_law_put" (defScope s_l_put) f cdv A outer s H E).nox (defBody s_l_put) (t_l_put K C) :=
  (pss_cons (ps_asg (pv 1) (pg_tup (by rfl) (pgs_cons (pg_name (i := 2) sc_l_put.nd rfl (Or.inr rfl)) (pgs_cons (pg_name (i := 3) sc_l_put.nd rfl (Or.inr rfl)) (pgs_cons (pg_name (i := 4) sc_l_put.nd rfl (Or.inr rfl)) (pgs_cons (pg_name (i := 5) sc_l_put.nd rfl (Or.inr rfl)) (pgs_cons (pg_name (i := 6) sc_l_put.nd rfl (Or.inr rfl)) (pgs_cons (pg_name (i := 7) sc_l_put.nd rfl (Or.inr rfl)) pgs_nil))))))))
    (pss_cons (ps_setLc (i := 8) (own := [("_law_x", 9), ("_law_y", 10)]) (by rfl) sc_l_put.nd rfl rfl (sw_true rfl rfl rfl (by decide +kernel)) (pi_seq (pv 0)) (blkOk_by (own := [("_law_x", 9), ("_law_y", 10)]) (N := n_l_put) (sc := defScope s_l_put) (by decide +kernel)) (fun _ _ _ _ _ => (pg_tup (by rfl) (pgs_cons (pg_name (i := 9) sc_l_put.nd rfl (Or.inl rfl)) (pgs_cons (pg_name (i := 10) sc_l_put.nd rfl (Or.inl rfl)) pgs_nil)))) (fun _ _ _ _ _ => pts_nil) (fun _ _ _ _ _ => (pe_tup (pa_cons (pe_op op_plus (pe_op op_plus (pe_op op_mul (pv 2) (pv 9)) (pe_op op_mul (pv 3) (pv 10))) (pv 6)) (pa_cons (pe_op op_plus (pe_op op_plus (pe_op op_mul (pv 4) (pv 9)) (pe_op op_mul (pv 5) (pv 10))) (pv 7)) pa_nil)))))
    (pss_one (ps_ret (pe_callTy call_tupG (by rfl) m_tuple (by decide +kernel) (pa_cons (pe_ifExp (pt_cmpR op_gt (pe_op op_sub (pe_op op_mul (pv 2) (pv 5)) (pe_op op_mul (pv 3) (pv 4))) pe_int (nomark _)) (pv 8) (pe_revL (pv 8))) pa_nil))))))
theorem ln_l_put : ∀ ds Q, R_l_put ds Q → ds.length = 2 := fun ds Q ⟨_, _, e, _⟩ => by rw [e]; rfl
theorem wk_l_put : ∀ ds Q, R_l_put ds Q → SW ⟨K, C, none⟩ (t_l_put K C) (init ds 9) ⟨fun _ => Q .non, Q, fun _ => False, fun _ => False⟩ := by
  rintro _ Q ⟨r, t, rfl, ht, hl, q⟩
  obtain ⟨⟨a1, a2⟩, ⟨b1, b2⟩, ⟨c1, c2⟩, d1, d2⟩ := ht.sm
  unfold t_l_put
  refine sw_seq (sw_asg ?_)
  walk_at "go"
  show EW _ _ ⟨[.dat (dR r), .dat (dRule t), .dat (.int t.a), .dat (.int t.b), .dat (.int t.c), .dat (.int t.d), .dat (.int t.e), .dat (.int t.f), .un, .un, .un], none⟩ _
  refine ew_lcM r dP (fun u => dP (t.at u)) (iw_sqT (by walk_at "go"; rfl)) (by omega) (fun u hu => ?_) ?_
  · walk_at "go"
    rfl
  · walk_at "go"
    refine ew_ifD (b := decide (0 < t.det)) (by walk_at "go"; rfl) (fun hb => ?_) fun hb => ?_
    · walk_at "go"
      have e : putR t r = r.map t.at := by unfold putR; rw [if_pos (of_decide_eq_true hb)]
      rw [e] at q
      unfold dR at q
      rw [List.map_map] at q
      exact q
    · walk_at "go"
      have e : putR t r = (r.map t.at).reverse := by unfold putR; rw [if_neg (of_decide_eq_false hb)]
      rw [e] at q
      unfold dR at q
      rw [List.map_reverse, List.map_map] at q
      exact q
theorem ok_l_put (m_tuple : mg "tuple" = none) (F : DefAt K mg "_law_put" ["_law_ring_here", "_law_rule"] s_l_put) : Cal P w K mg base "_law_put" 1 ["_law_ring_here", "_law_rule"] (spP K C R_l_put) :=
  F.okP sc_l_put ln_l_put (fun _ _ _ _ _ _ _ hr => bd_l_put m_tuple hr) wk_l_put
theorem range_pre {n m : Nat} {pre post : List Nat} (h : List.range n = pre ++ m :: post) : pre = List.range m := by
  obtain ⟨h1, h2⟩ := range_split h
  have e : (List.range n).take pre.length = pre := by rw [h]; exact List.take_left
  rw [List.take_range, Nat.min_eq_left (by omega), h1] at e
  exact e.symm
theorem flat_congr {α β : Type} {f g : α → List β} : ∀ {l : List α}, (∀ x, x ∈ l → f x = g x) → l.flatMap f = l.flatMap g
  | [], _ => rfl
  | x :: l, h => by
    rw [List.flatMap_cons, List.flatMap_cons, h x List.mem_cons_self, flat_congr fun y hy => h y (List.mem_cons_of_mem _ hy)]
theorem cut_from (ds : List Da) (i : Nat) (h : i ≤ ds.length) : cutD ds (some (i : Int)) none = ds.drop i := by
  unfold cutD
  rw [HT.sIx_nat, HT.sIx_none, Nat.min_eq_left h, ← List.length_drop, List.take_length]
def R_l_more (ds : List Da) (Q : Da → Prop) : Prop := ∃ r, ds = [dR r] ∧ r ≠ [] ∧ r.length ≤ 100 ∧ (∀ p, p ∈ r → Sm p) ∧ ∀ s, More r s → Q (dR s)
abbrev s_l_more : Stmt := topS 62
abbrev n_l_more : List Str := ["_law_deal_here", "_law_ring_here", "_law_found", "_law_at", "_law_a", "_law_b"]
theorem sc_l_more : FnScope n_l_more ["_law_deal_here", "_law_ring_here"] (defScope s_l_more) := ⟨rfl, rfl, rfl, by decide +kernel, rfl, by decide +kernel, by decide +kernel⟩
def t_l_more (K : PySem.W.Frag) (C : Addr) : TS :=
  (tSeq (tAsg (tLst tNil) (gName 2))
    (tSeq (tFor (iRng1 (tCons (tCB (rLen K) (tCons (tVar 1) tNil)) tNil)) (gName 3)
    (tSeq (tPar 4 5 (tCons (tOp (rIx K) (tVar 1) (tOp (rI0 fun i j => .int (i - j)) (tVar 3) (tC (.int 1)))) (tCons (tOp (rIx K) (tVar 1) (tVar 3)) tNil)))
    (tSeq (tIfS (tAnd (tTest (tOp (rEqD K) (tOp (rI (fun _ j => 0 < j) fun i j => .int (i % j)) (tCB rInt1 (tCons (tOp (rPlus K) (tOp (rIx K) (tVar 4) (tC (.int 0))) (tOp (rIx K) (tVar 5) (tC (.int 0)))) tNil)) (tC (.int 2))) (tC (.int 0)))) (tAnd (tTest (tOp (rEqD K) (tOp (rI (fun _ j => 0 < j) fun i j => .int (i % j)) (tCB rInt1 (tCons (tOp (rPlus K) (tOp (rIx K) (tVar 4) (tC (.int 1))) (tOp (rIx K) (tVar 5) (tC (.int 1)))) tNil)) (tC (.int 2))) (tC (.int 0)))) (tTest (tOp (rEqD K) (tCall (spG K C R_l_any) [] E0 (tCons (tVar 0) (tCons (tC (.int 5)) tNil))) (tC (.int 0)))))) (tDrop (tBM K "list" rAppend (tVar 2) (tCons (tTup (tCons (tOp (rI CDiv fun i j => .int (i / j)) (tOp (rPlus K) (tOp (rIx K) (tVar 4) (tC (.int 0))) (tOp (rIx K) (tVar 5) (tC (.int 0)))) (tC (.int 2))) (tCons (tOp (rI CDiv fun i j => .int (i / j)) (tOp (rPlus K) (tOp (rIx K) (tVar 4) (tC (.int 1))) (tOp (rIx K) (tVar 5) (tC (.int 1)))) (tC (.int 2))) tNil))) tNil))) tNext)
    (tDrop (tBM K "list" rAppend (tVar 2) (tCons (tVar 5) tNil))))))
    (tSeq (tAsg (tCall (spG K C R_l_any) [] E0 (tCons (tVar 0) (tCons (tCB (rLen K) (tCons (tVar 2) tNil)) tNil))) (gName 3))
    (tRet (tCB (rTupOf K) (tCons (tOp (rPlus K) (tSl (rCut K) (tVar 2) (tPart (tVar 3)) tNoPart) (tSl (rCut K) (tVar 2) tNoPart (tPart (tVar 3)))) tNil))))))
theorem bd_l_more (c_l_any : Cal P w K mg base "_law_any" 1 ["_law_deal_here", "_law_bound"] (spG K C R_l_any)) (m_len : mg "len" = none) (m_range : mg "range" = none) (m_int : mg "int" = none) (m_tuple : mg "tuple" = none) {f : Addr} {cdv : Value} {A : Around} {outer : List PySem.Env} {s : Shared} {H : Hp} {E : XK} (hr : Room 1 (A.deeper (envOfC "_law_more" (defScope s_l_more) s.heap.objs.size f cdv))) :
    PSs (cxOf CX0 P w K mg base n_l_more "_law_more" (defScope s_l_more) f cdv A outer s H E).nox (defBody s_l_more) (t_l_more K C) :=
  (pss_cons (ps_set (i := 2) sc_l_more.nd rfl (Or.inl rfl) (pe_lst pa_nil))
    (pss_cons (ps_for PassesOwn.never rfl (pi_range1 (by rfl) m_range (pa_cons (pe_callB call_lenG (by rfl) m_len PySem.boot_len (pa_cons (pv 1) pa_nil)) pa_nil)) (pg_name (i := 3) sc_l_more.nd rfl (Or.inl rfl))
    (pss_cons (ps_par (i := 4) (j := 5) (by rfl) sc_l_more.nd rfl rfl (by decide) rfl rfl (pa_cons (pe_ix ix_seq (pv 1) (pe_op op_sub (pv 3) pe_int) (fun _ _ => rfl)) (pa_cons (pe_ix ix_seq (pv 1) (pv 3) (fun _ _ => rfl)) pa_nil)) (by rfl))
    (pss_cons (ps_if (PW.pt (pw_and (pt_cmpR (op_eqD hr.units) (pe_op op_mod (pe_callTy call_int1G (by rfl) m_int (by decide +kernel) (pa_cons (pe_op op_plus (pe_ix ix_seq (pv 4) pe_int (fun _ _ => rfl)) (pe_ix ix_seq (pv 5) pe_int (fun _ _ => rfl))) pa_nil)) pe_int) pe_int (nomark _)) (pw_and (pt_cmpR (op_eqD hr.units) (pe_op op_mod (pe_callTy call_int1G (by rfl) m_int (by decide +kernel) (pa_cons (pe_op op_plus (pe_ix ix_seq (pv 4) pe_int (fun _ _ => rfl)) (pe_ix ix_seq (pv 5) pe_int (fun _ _ => rfl))) pa_nil)) pe_int) pe_int (nomark _)) (pw_and1 (pt_cmpR (op_eqD hr.units) (pe_callC c_l_any (hr.mono (by decide)) (by rfl) (pa_cons (pv 0) (pa_cons pe_int pa_nil))) pe_int (nomark _)))))) (pss_one (ps_expr (pe_bm PySem.F.plainAttrs_list PySem.F.slot_list_append PySem.F.type_list_append mt_append (pv 2) (pa_cons (pe_tup (pa_cons (pe_op op_fdiv (pe_op op_plus (pe_ix ix_seq (pv 4) pe_int (fun _ _ => rfl)) (pe_ix ix_seq (pv 5) pe_int (fun _ _ => rfl))) pe_int) (pa_cons (pe_op op_fdiv (pe_op op_plus (pe_ix ix_seq (pv 4) pe_int (fun _ _ => rfl)) (pe_ix ix_seq (pv 5) pe_int (fun _ _ => rfl))) pe_int) pa_nil))) pa_nil)))) pss_nil)
    (pss_one (ps_expr (pe_bm PySem.F.plainAttrs_list PySem.F.slot_list_append PySem.F.type_list_append mt_append (pv 2) (pa_cons (pv 5) pa_nil)))))))
    (pss_cons (ps_set (i := 3) sc_l_more.nd rfl (Or.inl rfl) (pe_callC c_l_any (hr.mono (by decide)) (by rfl) (pa_cons (pv 0) (pa_cons (pe_callB call_lenG (by rfl) m_len PySem.boot_len (pa_cons (pv 2) pa_nil)) pa_nil))))
    (pss_one (ps_ret (pe_callTy call_tupG (by rfl) m_tuple (by decide +kernel) (pa_cons (pe_op op_plus (pe_slice sl_cut (pv 2) (po_some (pv 3)) po_none) (pe_slice sl_cut (pv 2) po_none (po_some (pv 3)))) pa_nil)))))))
theorem ln_l_more : ∀ ds Q, R_l_more ds Q → ds.length + 1 = 2 := fun ds Q ⟨_, e, _⟩ => by rw [e]; rfl
theorem wk_l_more : ∀ p ds Q, R_l_more ds Q → SW ⟨K, C, some p⟩ (t_l_more K C) ⟨.deal :: (ds.map .dat ++ List.replicate 4 .un), none⟩ ⟨fun _ => Q .non, Q, fun _ => False, fun _ => False⟩ := by
  rintro p _ Q ⟨r, rfl, h0, hl, hsm, q⟩
  unfold t_l_more
  refine sw_seq (sw_new rfl rfl ?_)
  refine sw_seq (sw_forM (List.range r.length) (fun (m : Nat) => .int (0 + (m : Nat))) (iw_r1 (n := (r.length : Int)) (by walk_at "go"; rw [List.length_map]) ⟨by omega, by omega⟩) (fun pre A' => ∃ x y z f ac, A' = ⟨[.deal, .dat (dR r), .acc, x, y, z], some ac⟩ ∧ ac = (pre.flatMap (piece r f)).map dP ∧ ∀ i : Nat, i ∈ pre → f i = true → evens (cg r ((i : Int) - 1)) (cg r i) = true) ⟨_, _, _, fun _ => false, _, rfl, rfl, (fun _ z => nomatch z)⟩ ?t ?f)
  case t =>
    rintro pre m post _ hs ⟨x, y, z, f, ac, rfl, hac, hf⟩
    obtain ⟨hpl, hm⟩ := range_split hs
    have hpre := range_pre hs
    have lac : ac.length ≤ 2000 := by
      rw [hac, List.length_map]
      have : ∀ l : List Nat, (l.flatMap (piece r f)).length ≤ 2 * l.length := by
        intro l
        induction l with
        | nil => simp
        | cons a l ih =>
          rw [List.flatMap_cons, List.length_append, List.length_cons]
          have : (piece r f a).length ≤ 2 := by unfold piece; split <;> simp
          omega
      have := this pre
      omega
    -- the list behind this turn
    have next : ∀ b : Bool, ((pre ++ [m]).flatMap (piece r fun i => if i = m then b else f i)) = pre.flatMap (piece r f) ++ ((if b = true then [mid (cg r ((m : Int) - 1)) (cg r m)] else []) ++ [cg r m]) := fun b => by
      rw [List.flatMap_append, List.flatMap_singleton]
      congr 1
      · refine flat_congr fun i hi => ?_
        have : i < m := List.mem_range.mp (hpre ▸ hi)
        have e : (fun i => if i = m then b else f i) i = f i := if_neg (show ¬ i = m by omega)
        unfold piece
        rw [e]
      · have e : (fun i => if i = m then b else f i) m = b := if_pos rfl
        unfold piece
        rw [e]
    have keep : ∀ b : Bool, (b = true → evens (cg r ((m : Int) - 1)) (cg r m) = true) → ∀ i : Nat, i ∈ pre ++ [m] → (if i = m then b else f i) = true → evens (cg r ((i : Int) - 1)) (cg r i) = true := fun b hb i hi e => by
      by_cases him : i = m
      · rw [if_pos him] at e
        rw [him]
        exact hb e
      · rw [if_neg him] at e
        rcases List.mem_append.mp hi with h | h
        · exact hf i h e
        · exact absurd (List.mem_singleton.mp h) him
    have cgm : cg r (0 + (m : Int)) = cg r m := by rw [Int.zero_add]
    have cgm1 : cg r (0 + (m : Int) - 1) = cg r ((m : Int) - 1) := by rw [Int.zero_add]
    refine gw_nm (sw_seq (sw_par ?_))
    walk_at "go"
    refine ix_tup (atI_cg (by omega) (by omega)) ?_
    walk_at "go"
    refine ix_tup (atI_cg (by omega) (by omega)) ?_
    rw [cgm, cgm1]
    walk_at "go"
    have no : SW ⟨K, C, some p⟩ (tDrop (tBM K "list" rAppend (tVar 2) (tCons (tVar 5) tNil))) ⟨[.deal, .dat (dR r), .acc, .dat (.int (0 + (m : Int))), .dat (dP (cg r ((m : Int) - 1))), .dat (dP (cg r m))], some ac⟩
        ⟨fun A' => ∃ x y z f ac, A' = ⟨[.deal, .dat (dR r), .acc, x, y, z], some ac⟩ ∧ ac = ((pre ++ [m]).flatMap (piece r f)).map dP ∧ ∀ i : Nat, i ∈ pre ++ [m] → f i = true → evens (cg r ((i : Int) - 1)) (cg r i) = true, fun _ => False, fun _ => False, fun _ => False⟩ := by
      refine sw_app rfl rfl (by omega) ?_
      walk_at "go"
      refine ⟨_, _, _, fun i => if i = m then false else f i, _, rfl, ?_, keep false (fun z => nomatch z)⟩
      rw [next, hac, List.map_append]
      rfl
    have no2 : ∀ N : Ns, (∀ A', (∃ x y z f ac, A' = ⟨[.deal, .dat (dR r), .acc, x, y, z], some ac⟩ ∧ ac = ((pre ++ [m]).flatMap (piece r f)).map dP ∧ ∀ i : Nat, i ∈ pre ++ [m] → f i = true → evens (cg r ((i : Int) - 1)) (cg r i) = true) → N.nx A') → SW ⟨K, C, some p⟩ (tDrop (tBM K "list" rAppend (tVar 2) (tCons (tVar 5) tNil))) ⟨[.deal, .dat (dR r), .acc, .dat (.int (0 + (m : Int))), .dat (dP (cg r ((m : Int) - 1))), .dat (dP (cg r m))], some ac⟩ N := fun N h => no.mono h (fun _ z => z.elim) (fun _ z => z.elim) (fun _ z => z.elim)
    refine sw_if (tw_and (TW.mono (P := (· = (((cg r ((m : Int) - 1)).1 + (cg r m).1) % 2 == 0))) (by walk_at "go"; rfl) fun c1 e1 => ?_))
    subst e1
    cases e1 : (((cg r ((m : Int) - 1)).1 + (cg r m).1) % 2 == 0) with
    | false => exact iteF (iteF (sw_next (no2 _ fun _ z => z)))
    | true =>
      refine iteT (tw_and (TW.mono (P := (· = (((cg r ((m : Int) - 1)).2 + (cg r m).2) % 2 == 0))) (by walk_at "go"; rfl) fun c2 e2 => ?_))
      subst e2
      cases e2 : (((cg r ((m : Int) - 1)).2 + (cg r m).2) % 2 == 0) with
      | false => exact iteF (iteF (sw_next (no2 _ fun _ z => z)))
      | true =>
        refine iteT ?_
        have ev : evens (cg r ((m : Int) - 1)) (cg r m) = true := by unfold evens; rw [e1, e2]; rfl
        walk_at "go"
        refine ⟨5, rfl, by decide, by decide, fun z z0 z1 => ?_⟩
        walk_at "go"
        cases PyData.eqv (Da.int z).py (Da.int 0).py with
        | false => exact iteF (sw_next (no2 _ fun _ z => z))
        | true =>
          refine iteT (sw_app rfl rfl (by omega) ?_)
          walk_at "go"
          refine ⟨by constructor <;> omega, ?_⟩
          walk_at "go"
          refine ⟨by constructor <;> omega, ?_⟩
          walk_at "go"
          refine sw_app (ds := ac ++ [dP (mid (cg r ((m : Int) - 1)) (cg r m))]) rfl rfl (by rw [List.length_append, List.length_singleton]; omega) ?_
          walk_at "go"
          refine ⟨_, _, _, fun i => if i = m then true else f i, _, rfl, ?_, keep true (fun _ => ev)⟩
          rw [next, hac, List.map_append]
          simp
  case f =>
    rintro _ ⟨x, y, z, f, ac, rfl, rfl, hf⟩
    have ln := mids_len r f
    have pos : 0 < r.length := List.length_pos_iff.mpr h0
    refine sw_seq (sw_asg ?_)
    walk_at "go"
    refine sq_acc rfl ?_
    walk_at "go"
    rw [List.length_map]
    refine ⟨((withMids r f).length : Nat), rfl, by omega, by omega, fun k k0 k1 => ?_⟩
    refine gw_nm (sw_freeze rfl (sw_ret ?_))
    obtain ⟨j, rfl⟩ : ∃ j : Nat, k = (j : Int) := ⟨k.toNat, by omega⟩
    have hj : j < (withMids r f).length := by omega
    show EW _ _ ⟨[.deal, .dat (dR r), .dat (.lst ((withMids r f).map dP)), .dat (.int (j : Int)), _, _], none⟩ _
    walk_at "go"
    rw [cut_from _ _ (by rw [List.length_map]; omega), cut_to _ _ (by rw [List.length_map]; omega)]
    refine plus_lst (by rw [List.length_drop, List.length_take, List.length_map]; omega) ?_
    walk_at "go"
    have w := q _ ⟨f, fun i hi => hf i (List.mem_range.mpr hi), j, hj, rfl⟩
    unfold dR at w
    rw [List.map_append, List.map_drop, List.map_take] at w
    exact w
theorem ok_l_more (c_l_any : Cal P w K mg base "_law_any" 1 ["_law_deal_here", "_law_bound"] (spG K C R_l_any)) (m_len : mg "len" = none) (m_range : mg "range" = none) (m_int : mg "int" = none) (m_tuple : mg "tuple" = none) (F : DefAt K mg "_law_more" ["_law_deal_here", "_law_ring_here"] s_l_more) : Cal P w K mg base "_law_more" 2 ["_law_deal_here", "_law_ring_here"] (spG K C R_l_more) :=
  F.okG sc_l_more ln_l_more (fun _ _ _ _ _ _ _ hr => bd_l_more c_l_any m_len m_range m_int m_tuple hr) wk_l_more
theorem WaveBase.ne {m : Nat} {r : List Pt} (h : WaveBase m r) : r ≠ [] := fun e => by
  obtain ⟨f, g, _, _, rfl⟩ := h.ex
  have := congrArg List.length e
  unfold waveR at this
  simp at this
theorem put_ne {t : Rule} {r : List Pt} (h : r ≠ []) : putR t r ≠ [] := fun e => h (List.length_eq_zero_iff.mp (by rw [← put_len t r, e]; rfl))
/-- what a star of a hole is like -/
theorem StarBase.lil {k y : Int} {r : List Pt} (h : StarBase (20 * k + 10, y) 3 r) (k0 : 1 ≤ k) (k1 : k < 4) (y0 : -4 ≤ y) (y1 : y ≤ 4) {p : Pt} (hp : p ∈ r) : Lil p := by
  obtain ⟨⟨a, b⟩, c, d⟩ := h.near hp
  simp only at a b c d
  exact ⟨by omega, by omega, by omega, by omega⟩
def R_l_rings (ds : List Da) (Q : Da → Prop) : Prop := ds = [.int 3] ∧ ∀ o hs, PlateBase o hs → Q (.tup [dR o, dHs hs])
abbrev s_l_rings : Stmt := topS 66
abbrev n_l_rings : List Str := ["_law_deal_here", "_law_most", "_law_many", "_law_rule", "_law_outer", "_law_holes", "_law_at", "_law_star_here"]
theorem sc_l_rings : FnScope n_l_rings ["_law_deal_here", "_law_most"] (defScope s_l_rings) := ⟨rfl, rfl, rfl, by decide +kernel, rfl, by decide +kernel, by decide +kernel⟩
def t_l_rings (K : PySem.W.Frag) (C : Addr) : TS :=
  (tSeq (tPar 2 3 (tCons (tOp (rPlus K) (tC (.int 3)) (tCall (spG K C R_l_any) [] E0 (tCons (tVar 0) (tCons (tC (.int 3)) tNil)))) (tCons (tCall (spG K C R_l_map) [] E0 (tCons (tVar 0) tNil)) tNil)))
    (tSeq (tAsg (tCall (spG K C R_l_more) [] E0 (tCons (tVar 0) (tCons (tCall (spP K C R_l_put) [] E0 (tCons (tCall (spG K C R_l_wave) [] E0 (tCons (tVar 0) (tCons (tVar 2) tNil))) (tCons (tVar 3) tNil))) tNil))) (gName 4))
    (tSeq (tAsg (tLst tNil) (gName 5))
    (tSeq (tFor (iRng2 (tCons (tC (.int 1)) (tCons (tCB (rMn K) (tCons (tOp (rI0 fun i j => .int (i - j)) (tVar 2) (tC (.int 1))) (tCons (tOp (rPlus K) (tVar 1) (tC (.int 1))) tNil))) tNil))) (gName 6)
    (tIfS (tTest (tOp (rI0 fun i j => .bl (decide (j < i))) (tCall (spG K C R_l_any) [] E0 (tCons (tVar 0) (tCons (tC (.int 3)) tNil))) (tC (.int 0)))) (tSeq (tAsg (tCall (spG K C R_l_star) [] E0 (tCons (tVar 0) (tCons (tTup (tCons (tOp (rPlus K) (tOp (rI CMul fun i j => .int (i * j)) (tC (.int 20)) (tVar 6)) (tC (.int 10))) (tCons (tOp (rI0 fun i j => .int (i - j)) (tCall (spG K C R_l_any) [] E0 (tCons (tVar 0) (tCons (tC (.int 9)) tNil))) (tC (.int 4))) tNil))) (tCons (tC (.int 3)) (tCons (tOp (rPlus K) (tC (.int 1)) (tCall (spG K C R_l_any) [] E0 (tCons (tVar 0) (tCons (tC (.int 2)) tNil)))) tNil))))) (gName 7))
    (tDrop (tBM K "list" rAppend (tVar 5) (tCons (tRevT K (tCall (spG K C R_l_more) [] E0 (tCons (tVar 0) (tCons (tCall (spP K C R_l_put) [] E0 (tCons (tVar 7) (tCons (tVar 3) tNil))) tNil)))) tNil)))) tNext))
    (tRet (tTup (tCons (tVar 4) (tCons (tCB (rTupOf K) (tCons (tVar 5) tNil)) tNil))))))))
theorem bd_l_rings (c_l_any : Cal P w K mg base "_law_any" 1 ["_law_deal_here", "_law_bound"] (spG K C R_l_any)) (c_l_map : Cal P w K mg base "_law_map" 3 ["_law_deal_here"] (spG K C R_l_map)) (c_l_more : Cal P w K mg base "_law_more" 2 ["_law_deal_here", "_law_ring_here"] (spG K C R_l_more)) (c_l_put : Cal P w K mg base "_law_put" 1 ["_law_ring_here", "_law_rule"] (spP K C R_l_put)) (c_l_wave : Cal P w K mg base "_law_wave" 2 ["_law_deal_here", "_law_many"] (spG K C R_l_wave)) (c_l_star : Cal P w K mg base "_law_star" 2 ["_law_deal_here", "_law_centre", "_law_most", "_law_each"] (spG K C R_l_star)) (m_min : mg "min" = none) (m_range : mg "range" = none) (m_tuple : mg "tuple" = none) {f : Addr} {cdv : Value} {A : Around} {outer : List PySem.Env} {s : Shared} {H : Hp} {E : XK} (hr : Room 3 (A.deeper (envOfC "_law_rings" (defScope s_l_rings) s.heap.objs.size f cdv))) :
    PSs (cxOf CX0 P w K mg base n_l_rings "_law_rings" (defScope s_l_rings) f cdv A outer s H E).nox (defBody s_l_rings) (t_l_rings K C) :=
  (pss_cons (ps_par (i := 2) (j := 3) (by rfl) sc_l_rings.nd rfl rfl (by decide) rfl rfl (pa_cons (pe_op op_plus pe_int (pe_callC c_l_any (hr.mono (by decide)) (by rfl) (pa_cons (pv 0) (pa_cons pe_int pa_nil)))) (pa_cons (pe_callC c_l_map (hr.mono (by decide)) (by rfl) (pa_cons (pv 0) pa_nil)) pa_nil)) (by rfl))
    (pss_cons (ps_set (i := 4) sc_l_rings.nd rfl (Or.inl rfl) (pe_callC c_l_more (hr.mono (by decide)) (by rfl) (pa_cons (pv 0) (pa_cons (pe_callC c_l_put (hr.mono (by decide)) (by rfl) (pa_cons (pe_callC c_l_wave (hr.mono (by decide)) (by rfl) (pa_cons (pv 0) (pa_cons (pv 2) pa_nil))) (pa_cons (pv 3) pa_nil))) pa_nil))))
    (pss_cons (ps_set (i := 5) sc_l_rings.nd rfl (Or.inl rfl) (pe_lst pa_nil))
    (pss_cons (ps_for PassesOwn.never rfl (pi_range2 (by rfl) m_range (pa_cons pe_int (pa_cons (pe_callB (call_mn (by rfl)) (by rfl) m_min (by decide +kernel) (pa_cons (pe_op op_sub (pv 2) pe_int) (pa_cons (pe_op op_plus (pv 1) pe_int) pa_nil))) pa_nil))) (pg_name (i := 6) sc_l_rings.nd rfl (Or.inl rfl))
    (pss_one (ps_if (pt_cmpR op_gt (pe_callC c_l_any (hr.mono (by decide)) (by rfl) (pa_cons (pv 0) (pa_cons pe_int pa_nil))) pe_int (nomark _)) (pss_cons (ps_set (i := 7) sc_l_rings.nd rfl (Or.inl rfl) (pe_callC c_l_star (hr.mono (by decide)) (by rfl) (pa_cons (pv 0) (pa_cons (pe_tup (pa_cons (pe_op op_plus (pe_op op_mul pe_int (pv 6)) pe_int) (pa_cons (pe_op op_sub (pe_callC c_l_any (hr.mono (by decide)) (by rfl) (pa_cons (pv 0) (pa_cons pe_int pa_nil))) pe_int) pa_nil))) (pa_cons pe_int (pa_cons (pe_op op_plus pe_int (pe_callC c_l_any (hr.mono (by decide)) (by rfl) (pa_cons (pv 0) (pa_cons pe_int pa_nil)))) pa_nil))))))
    (pss_one (ps_expr (pe_bm PySem.F.plainAttrs_list PySem.F.slot_list_append PySem.F.type_list_append mt_append (pv 5) (pa_cons (pe_revT (pe_callC c_l_more (hr.mono (by decide)) (by rfl) (pa_cons (pv 0) (pa_cons (pe_callC c_l_put (hr.mono (by decide)) (by rfl) (pa_cons (pv 7) (pa_cons (pv 3) pa_nil))) pa_nil)))) pa_nil))))) pss_nil)))
    (pss_one (ps_ret (pe_tup (pa_cons (pv 4) (pa_cons (pe_callTy call_tupG (by rfl) m_tuple (by decide +kernel) (pa_cons (pv 5) pa_nil)) pa_nil)))))))))
theorem ln_l_rings : ∀ ds Q, R_l_rings ds Q → ds.length + 1 = 2 := fun ds Q ⟨e, _⟩ => by rw [e]; rfl
theorem wk_l_rings : ∀ p ds Q, R_l_rings ds Q → SW ⟨K, C, some p⟩ (t_l_rings K C) ⟨.deal :: (ds.map .dat ++ List.replicate 6 .un), none⟩ ⟨fun _ => Q .non, Q, fun _ => False, fun _ => False⟩ := by
  rintro p _ Q ⟨rfl, q⟩
  unfold t_l_rings
  refine sw_seq (sw_par ?_)
  walk_at "go"
  refine ⟨3, rfl, by decide, by decide, fun z z0 z1 => ?_⟩
  obtain ⟨m, hm⟩ : ∃ m : Nat, 3 + z = (m : Int) := ⟨(3 + z).toNat, by omega⟩
  walk_at "go"
  rw [hm]
  refine ⟨rfl, fun t ht => ?_⟩
  walk_at "go"
  refine ⟨m, rfl, by omega, by omega, fun wv hw => ?_⟩
  have lw := hw.len (by omega)
  walk_at "go"
  refine ⟨wv, t, rfl, ht, by omega, ?_⟩
  walk_at "go"
  refine ⟨_, rfl, put_ne hw.ne, by rw [put_len]; omega, fun p hp => ?_, fun o ho => ?_⟩
  · obtain ⟨u, hu, rfl⟩ := put_mem hp
    exact ((hw.lil (by omega) hu).at ht).sm
  refine gw_nm (sw_seq (sw_new rfl rfl ?_))
  refine sw_seq (sw_forM (List.range (m - 2)) (fun (i : Nat) => .int (1 + (i : Nat))) ?w (fun pre A' => ∃ x y L ac, A' = ⟨[.deal, .dat (.int 3), .dat (.int (m : Int)), .dat (dRule t), .dat (dR o), .acc, x, y], some ac⟩ ∧ ac = (L.map (·.2)).map dR ∧ L.Pairwise (fun a b : Int × List Pt => a.1 < b.1) ∧ ∀ e, e ∈ L → 1 ≤ e.1 ∧ e.1 < 1 + (pre.length : Int) ∧ HoleBase t e.1 e.2) ⟨_, _, [], _, rfl, rfl, .nil, (fun _ z => nomatch z)⟩ ?tn ?f)
  case w =>
    have e : ((if (3 : Int) + 1 < (m : Int) - 1 then (3 : Int) + 1 else (m : Int) - 1) - 1).toNat = m - 2 := by
      rw [if_neg (by omega)]
      omega
    rw [← e]
    refine iw_r2 ?_ ⟨by omega, by omega, by split <;> omega, by split <;> omega⟩
    refine aw_cons ?_
    walk_at "go"
    refine ew_min2 ?_
    walk_at "go"
    rfl
  case tn =>
    rintro pre i post _ hs ⟨x, y, L, ac, rfl, hac, hup, hL⟩
    obtain ⟨hpl, hi⟩ := range_split hs
    have lL : L.length ≤ 1000 := by
      have : ∀ (L : List (Int × List Pt)) (k : Int), L.Pairwise (fun a b : Int × List Pt => a.1 < b.1) → (∀ e, e ∈ L → k ≤ e.1 ∧ e.1 < 10) → (L.length : Int) ≤ max 0 (10 - k) := by
        intro L
        induction L with
        | nil => intros; simp; omega
        | cons x L ih =>
          intro k hp hb
          obtain ⟨h1, h2⟩ := List.pairwise_cons.mp hp
          have z := ih (x.1 + 1) h2 fun e he => ⟨h1 e he, (hb e (List.mem_cons_of_mem _ he)).2⟩
          have y := hb x List.mem_cons_self
          rw [List.length_cons]
          omega
      have := this L 1 hup fun e he => ⟨(hL e he).1, by have := (hL e he).2.1; omega⟩
      omega
    refine gw_nm (sw_if ?_)
    walk_at "go"
    refine ⟨3, rfl, by decide, by decide, fun c c0 c1 => ?_⟩
    walk_at "go"
    by_cases hc : 0 < c
    · rw [decide_eq_true hc]
      refine iteT (sw_seq (sw_asg ?_))
      walk_at "go"
      refine ⟨9, rfl, by decide, by decide, fun v v0 v1 => ?_⟩
      walk_at "go"
      refine ⟨2, rfl, by decide, by decide, fun n n0 n1 => ?_⟩
      walk_at "go"
      refine ⟨(20 * (1 + (i : Int)) + 10, v - 4), 3, 1 + n, rfl, ⟨by decide, by decide⟩, ⟨by omega, by omega⟩, fun st hst => ?_⟩
      have lst := hst.len
      refine gw_nm (sw_app rfl rfl (by rw [hac, List.length_map, List.length_map]; omega) (ew_revT ?_))
      walk_at "go"
      refine ⟨st, t, rfl, ht, by omega, ?_⟩
      walk_at "go"
      refine ⟨_, rfl, put_ne hst.ne, by rw [put_len]; omega, fun p hp => ?_, fun mo hmo => ?_⟩
      · obtain ⟨u, hu, rfl⟩ := put_mem hp
        exact ((hst.lil (by omega) (by omega) (by omega) (by omega) hu).at ht).sm
      walk_at "go"
      refine ⟨_, _, L ++ [(1 + (i : Int), mo.reverse)], _, rfl, ?_, ?_, ?_⟩
      · rw [hac, List.map_append, List.map_append, ← List.map_reverse]
        rfl
      · refine List.pairwise_append.mpr ⟨hup, List.pairwise_singleton _ _, fun a ha b hb => ?_⟩
        rw [List.mem_singleton.mp hb]
        have := (hL a ha).2.1
        show a.1 < 1 + (i : Int)
        omega
      · intro e he
        rw [List.length_append, List.length_singleton]
        rcases List.mem_append.mp he with h | h
        · have := hL e h
          exact ⟨this.1, by omega, this.2.2⟩
        · rw [List.mem_singleton.mp h]
          exact ⟨by simp only; omega, by simp only; omega, ⟨v - 4, st, mo, by omega, by omega, hst, hmo, rfl⟩⟩
    · rw [decide_eq_false hc]
      refine iteF (sw_next ⟨_, _, L, _, rfl, hac, hup, fun e he => ?_⟩)
      rw [List.length_append, List.length_singleton]
      have := hL e he
      exact ⟨this.1, by omega, this.2.2⟩
  case f =>
    rintro _ ⟨x, y, L, ac, rfl, rfl, hup, hL⟩
    rw [List.length_range] at hL
    walk_at "go"
    refine sq_acc rfl ?_
    walk_at "go"
    refine q o (L.map (·.2)) ⟨m, t, wv, L, by omega, by omega, ht, hw, ho, hup, fun e he => ?_, rfl⟩
    have := hL e he
    exact ⟨this.1, by omega, by omega, this.2.2⟩
theorem ok_l_rings (c_l_any : Cal P w K mg base "_law_any" 1 ["_law_deal_here", "_law_bound"] (spG K C R_l_any)) (c_l_map : Cal P w K mg base "_law_map" 3 ["_law_deal_here"] (spG K C R_l_map)) (c_l_more : Cal P w K mg base "_law_more" 2 ["_law_deal_here", "_law_ring_here"] (spG K C R_l_more)) (c_l_put : Cal P w K mg base "_law_put" 1 ["_law_ring_here", "_law_rule"] (spP K C R_l_put)) (c_l_wave : Cal P w K mg base "_law_wave" 2 ["_law_deal_here", "_law_many"] (spG K C R_l_wave)) (c_l_star : Cal P w K mg base "_law_star" 2 ["_law_deal_here", "_law_centre", "_law_most", "_law_each"] (spG K C R_l_star)) (m_min : mg "min" = none) (m_range : mg "range" = none) (m_tuple : mg "tuple" = none) (F : DefAt K mg "_law_rings" ["_law_deal_here", "_law_most"] s_l_rings) : Cal P w K mg base "_law_rings" 4 ["_law_deal_here", "_law_most"] (spG K C R_l_rings) :=
  F.okG sc_l_rings ln_l_rings (fun _ _ _ _ _ _ _ hr => bd_l_rings c_l_any c_l_map c_l_more c_l_put c_l_wave c_l_star m_min m_range m_tuple hr) wk_l_rings
end
end G
set_option Elab.async false
set_option linter.all false
set_option maxRecDepth 100000
namespace G
open PySem PySem.Spec L2
open Evl (Ex)
open PyProof.Rows (envOfC)
local macro_rules | `(tactic| walk_at "go") => `(tactic| repeat' (first
  | ((with_reducible refine' ew_v ?h ?k ?_); (case h => exact rfl); (case k => exact rfl))
  | with_reducible refine ew_int ?_
  | with_reducible refine ew_bl ?_
  | with_reducible refine ew_str ?_
  | with_reducible refine ew_non ?_
  | with_reducible refine ew_plus ?_
  | with_reducible refine ew_sub ?_
  | with_reducible refine ew_mul ?_
  | with_reducible refine ew_mulW ?_
  | with_reducible refine ew_fdiv ?_
  | with_reducible refine ew_mod ?_
  | with_reducible refine ew_ix ?_
  | with_reducible refine ew_lt ?_
  | with_reducible refine ew_le ?_
  | with_reducible refine ew_gt ?_
  | with_reducible refine ew_ge ?_
  | with_reducible refine ew_eqD ?_
  | with_reducible refine ew_neD ?_
  | with_reducible refine ew_neg ?_
  | with_reducible refine ew_tup ?_
  | with_reducible refine ew_lst ?_
  | with_reducible refine ew_len ?_
  | with_reducible refine ew_abs ?_
  | with_reducible refine ew_int1 ?_
  | with_reducible refine ew_gcd ?_
  | with_reducible refine ew_tupOf ?_
  | with_reducible refine ew_callP ?_
  | with_reducible refine ew_callG ?_
  | with_reducible refine ew_revL ?_
  | with_reducible refine ew_slice ?_
  | with_reducible refine ow_no ?_
  | with_reducible refine ow_some ?_
  | with_reducible refine ew_notV ?_
  | with_reducible refine ew_pow ?_
  | with_reducible refine aw_nil ?_
  | with_reducible refine aw_cons ?_
  | with_reducible refine onI2_mk ?_
  | with_reducible refine onI_mk ?_
  | with_reducible refine onB_mk ?_
  | with_reducible refine onD2_mk ?_
  | with_reducible refine onDat_mk ?_
  | with_reducible refine onL_mk ?_
  | with_reducible refine onTup_mk ?_
  | with_reducible refine onSeqT_mk ?_
  | with_reducible refine onSeqL_mk ?_
  | with_reducible refine onDs_nil ?_
  | with_reducible refine onDs_cons ?_
  | with_reducible refine onGDs_mk ?_
  | with_reducible refine on1_mk ?_
  | with_reducible refine on2_mk ?_
  | with_reducible refine plus_int ?_
  | with_reducible refine sq_tup ?_
  | with_reducible refine sq_lst ?_
  | with_reducible refine cut_tup ?_
  | with_reducible refine cut_lst ?_
  | ((with_reducible refine' ix_tup ?e ?_); (case e => first | exact rfl | assumption))
  | ((with_reducible refine' ix_lst ?e ?_); (case e => first | exact rfl | assumption))
  | ((with_reducible refine' And.intro (a := CMul _ _) ?c ?_); (case c => first | (refine mulL ⟨?_, ?_⟩ <;> omega) | (refine mulR ⟨?_, ?_⟩ <;> omega)))
  | ((with_reducible refine' And.intro (a := CMulW _ _) ?c ?_); (case c => assumption))
  | ((with_reducible refine' And.intro (a := 0 < _) ?c ?_); (case c => decide))
  | ((with_reducible refine' And.intro (a := List.length _ ≤ 100000) ?c ?_); (case c => exact Nat.le_of_ble_eq_true rfl))
  | ((with_reducible refine' And.intro (a := fit _ = true) ?c ?_); (case c => first | exact rfl | assumption))
  | with_reducible refine gw_nm ?_
  | ((with_reducible refine' gw_nmI ?h ?_); (case h => decide))
  | ((with_reducible refine' gw_tp ?h ?_); (case h => exact rfl))
  | with_reducible refine gsw_cons ?_
  | with_reducible refine gsw_nil ?_
  | with_reducible refine tw_tst ?_
  | with_reducible refine tw_b ?_
  | with_reducible refine tw_not ?_
  | with_reducible refine tw_yes ?_
  | with_reducible refine sw_seq ?_
  | with_reducible refine sw_ret ?_
  | with_reducible refine sw_asg ?_
  | with_reducible refine sw_par ?_
  | ((with_reducible refine' sw_aug ?h ?_); (case h => exact rfl))
  | with_reducible refine sw_next ?_
  | with_reducible refine sw_brk ?_
  | ((with_reducible refine' ew_andD ?h ?g ?_); (case h => (walk_at "go"; exact rfl)); (case g => (intro _; walk_at "go"; exact rfl)))
  | ((with_reducible refine' ew_orD ?h ?g ?_); (case h => (walk_at "go"; exact rfl)); (case g => (intro _; walk_at "go"; exact rfl)))
  | ((with_reducible refine' tw_and2 ?h ?g ?_); (case h => (walk_at "go"; exact rfl)); (case g => (intro _; walk_at "go"; exact rfl)))
  | ((with_reducible refine' tw_or2 ?h ?g ?_); (case h => (walk_at "go"; exact rfl)); (case g => (intro _; walk_at "go"; exact rfl)))
  | ((with_reducible refine' ew_chD ?h ?g ?k ?_); (case h => (walk_at "go"; exact rfl)); (case g => (walk_at "go"; exact rfl)); (case k => (walk_at "go"; exact rfl)))
  | ((with_reducible refine' ew_isiInt ?h ?_); (case h => (walk_at "go"; exact rfl)))
  | ((with_reducible refine' ew_isiBool ?h ?_); (case h => (walk_at "go"; exact rfl)))
  | ((with_reducible refine' ew_isiTup ?h ?_); (case h => (walk_at "go"; exact rfl)))))
section
variable {P : Program} {w : World} {K : PySem.W.Frag} {mg : Str → Option Value} {base : Heap} {C : Addr}

def Bg (n : Nat) (i : Int) : Prop := i.natAbs < 2 ^ n
theorem Bg.sub {n : Nat} {i j : Int} (h : Bg n i) (g : Bg n j) : Bg (n + 1) (i - j) := by
  unfold Bg at *
  have e : (2 : Nat) ^ (n + 1) = 2 ^ n * 2 := Nat.pow_succ ..
  rw [e]
  generalize (2 : Nat) ^ n = k at *
  omega
theorem Bg.mul {m n : Nat} {i j : Int} (h : Bg m i) (g : Bg n j) : Bg (m + n) (i * j) := by
  unfold Bg at *
  rw [Int.natAbs_mul, Nat.pow_add]
  exact Nat.mul_lt_mul'' h g
theorem Bg.up {m n : Nat} {i : Int} (h : Bg m i) (g : m ≤ n) : Bg n i := Nat.lt_of_lt_of_le h (Nat.pow_le_pow_right (by decide) g)
theorem cw {m n : Nat} {i j : Int} (h : Bg m i) (g : Bg n j) (l : m + n + 2 ≤ 1000000) : CMulW i j := wide_mul (h.up (Nat.le_succ m)) (g.up (Nat.le_succ n)) (Nat.succ_pos _) (Nat.succ_pos _) (by omega)
structure BgP (n : Nat) (p : Pt) : Prop where
  a : Bg n p.1
  b : Bg n p.2
/-- a point that the law draws -/
structure PtS (p : FP) : Prop where
  a : 0 < p.1.2
  b : p.1.2 < 2 ^ 30
  c : 0 < p.2.2
  d : p.2.2 < 2 ^ 30
  e : -(2 ^ 60) < p.1.1
  f : p.1.1 < 2 ^ 60
  g : -(2 ^ 60) < p.2.1
  h : p.2.1 < 2 ^ 60
theorem PtS.bg {p : FP} (h : PtS p) : BgP 100 (spot p) := by
  obtain ⟨h1, h2, h3, h4, h5, h6, h7, h8⟩ := h
  have z1 : Bg 60 p.1.1 := by unfold Bg; omega
  have z2 : Bg 60 p.2.1 := by unfold Bg; omega
  have z3 : Bg 30 p.1.2 := by unfold Bg; omega
  have z4 : Bg 30 p.2.2 := by unfold Bg; omega
  exact ⟨(z1.mul z4).up (by decide), (z2.mul z3).up (by decide)⟩
theorem PtS.scl {p : FP} (h : PtS p) {r : List Pt} (hr : ∀ c, c ∈ r → Sm c) {c : Pt} (hc : c ∈ scl r p) : BgP 100 c := by
  obtain ⟨h1, h2, h3, h4, h5, h6, h7, h8⟩ := h
  obtain ⟨u, hu, rfl⟩ := List.mem_map.mp hc
  obtain ⟨u1, u2, u3, u4⟩ := hr u hu
  have z1 : Bg 20 u.1 := by unfold Bg; omega
  have z2 : Bg 20 u.2 := by unfold Bg; omega
  have z3 : Bg 30 p.1.2 := by unfold Bg; omega
  have z4 : Bg 30 p.2.2 := by unfold Bg; omega
  exact ⟨((z1.mul z3).mul z4).up (by decide), ((z2.mul z3).mul z4).up (by decide)⟩
def R_l_scaled (ds : List Da) (Q : Da → Prop) : Prop := ∃ r p, (ds = [dR r, dFP p] ∨ ds = [.lst (r.map dP), dFP p]) ∧ r.length ≤ 1000 ∧ (∀ c, c ∈ r → Sm c) ∧ PtS p ∧ Q (.tup [.lst ((scl r p).map dP), dP (spot p)])
abbrev s_l_scaled : Stmt := topS 67
abbrev n_l_scaled : List Str := ["_law_ring_here", "_law_point_here", "_law_x", "_law_q", "_law_y", "_law_r", "_law_corner"]
theorem sc_l_scaled : FnScope n_l_scaled ["_law_ring_here", "_law_point_here"] (defScope s_l_scaled) := ⟨rfl, rfl, rfl, by decide +kernel, rfl, by decide +kernel, by decide +kernel⟩
def t_l_scaled (K : PySem.W.Frag) (C : Addr) : TS :=
  (tSeq (tAsg (tVar 1) (gTup K 2 (gCons (gTup K 2 (gCons (gName 2) (gCons (gName 3) gNil))) (gCons (gTup K 2 (gCons (gName 4) (gCons (gName 5) gNil))) gNil))))
    (tRet (tTup (tCons (tLc (iSeq K (tVar 0)) (gName 6) tYes (tTup (tCons (tOp (rI CMul fun i j => .int (i * j)) (tOp (rI CMul fun i j => .int (i * j)) (tOp (rIx K) (tVar 6) (tC (.int 0))) (tVar 3)) (tVar 5)) (tCons (tOp (rI CMul fun i j => .int (i * j)) (tOp (rI CMul fun i j => .int (i * j)) (tOp (rIx K) (tVar 6) (tC (.int 1))) (tVar 3)) (tVar 5)) tNil))) [6]) (tCons (tTup (tCons (tOp (rI CMul fun i j => .int (i * j)) (tVar 2) (tVar 5)) (tCons (tOp (rI CMul fun i j => .int (i * j)) (tVar 4) (tVar 3)) tNil))) tNil)))))
theorem bd_l_scaled {f : Addr} {cdv : Value} {A : Around} {outer : List PySem.Env} {s : Shared} {H : Hp} {E : XK} (hr : Room 0 (A.deeper (envOfC "_law_scaled" (defScope s_l_scaled) s.heap.objs.size f cdv))) :
    PSs (cxOf CX0 P w K mg base n_l_scaled "_law_scaled" (defScope s_l_scaled) f cdv A outer s H E).nox (defBody s_l_scaled) (t_l_scaled K C) :=
  (pss_cons (ps_asg (pv 1) (pg_tup (by rfl) (pgs_cons (pg_tup (by rfl) (pgs_cons (pg_name (i := 2) sc_l_scaled.nd rfl (Or.inl rfl)) (pgs_cons (pg_name (i := 3) sc_l_scaled.nd rfl (Or.inr rfl)) pgs_nil))) (pgs_cons (pg_tup (by rfl) (pgs_cons (pg_name (i := 4) sc_l_scaled.nd rfl (Or.inl rfl)) (pgs_cons (pg_name (i := 5) sc_l_scaled.nd rfl (Or.inr rfl)) pgs_nil))) pgs_nil))))
    (pss_one (ps_ret (pe_tup (pa_cons (pe_lc (own := [("_law_corner", 6)]) (by rfl) sc_l_scaled.nd (pi_seq (pv 0)) (blkOk_by (own := [("_law_corner", 6)]) (N := n_l_scaled) (sc := defScope s_l_scaled) (by decide +kernel)) (fun _ _ _ _ _ => (pg_name (i := 6) sc_l_scaled.nd rfl (Or.inl rfl))) (fun _ _ _ _ _ => pts_nil) (fun _ _ _ _ _ => (pe_tup (pa_cons (pe_op op_mul (pe_op op_mul (pe_ix ix_seq (pv 6) pe_int (fun _ _ => rfl)) (pv 3)) (pv 5)) (pa_cons (pe_op op_mul (pe_op op_mul (pe_ix ix_seq (pv 6) pe_int (fun _ _ => rfl)) (pv 3)) (pv 5)) pa_nil))))) (pa_cons (pe_tup (pa_cons (pe_op op_mul (pv 2) (pv 5)) (pa_cons (pe_op op_mul (pv 4) (pv 3)) pa_nil))) pa_nil))))))
theorem ln_l_scaled : ∀ ds Q, R_l_scaled ds Q → ds.length = 2 := fun ds Q ⟨_, _, e, _⟩ => by rcases e with e | e <;> (rw [e]; rfl)
theorem wk_l_scaled : ∀ ds Q, R_l_scaled ds Q → SW ⟨K, C, none⟩ (t_l_scaled K C) (init ds 5) ⟨fun _ => Q .non, Q, fun _ => False, fun _ => False⟩ := by
  rintro _ Q ⟨r, p, e, hl, hsm, ⟨h1, h2, h3, h4, h5, h6, h7, h8⟩, q⟩
  have es : (scl r p).map dP = r.map fun c => dP (c.1 * p.1.2 * p.2.2, c.2 * p.1.2 * p.2.2) := by unfold scl; rw [List.map_map]; rfl
  rw [es] at q
  unfold t_l_scaled
  rcases e with rfl | rfl
  · refine sw_seq (sw_asg ?_)
    walk_at "go"
    refine ew_lcM r dP (fun c => dP (c.1 * p.1.2 * p.2.2, c.2 * p.1.2 * p.2.2)) (iw_sqT (by walk_at "go"; rfl)) (by omega) (fun c hc => ?_) ?_
    · obtain ⟨u1, u2, u3, u4⟩ := hsm c hc
      walk_at "go"
      rfl
    · walk_at "go"
      exact q
  · refine sw_seq (sw_asg ?_)
    walk_at "go"
    refine ew_lcM r dP (fun c => dP (c.1 * p.1.2 * p.2.2, c.2 * p.1.2 * p.2.2)) (iw_sqL (by walk_at "go"; rfl)) (by omega) (fun c hc => ?_) ?_
    · obtain ⟨u1, u2, u3, u4⟩ := hsm c hc
      walk_at "go"
      rfl
    · walk_at "go"
      exact q
theorem ok_l_scaled (F : DefAt K mg "_law_scaled" ["_law_ring_here", "_law_point_here"] s_l_scaled) : Cal P w K mg base "_law_scaled" 1 ["_law_ring_here", "_law_point_here"] (spP K C R_l_scaled) :=
  F.okP sc_l_scaled ln_l_scaled (fun _ _ _ _ _ _ _ hr => bd_l_scaled hr) wk_l_scaled
theorem any_backs {r : List Pt} {f : Pt × Pt → Bool} (h : ∀ i : Nat, i ∈ List.range r.length → f (cg r ((i : Int) - 1), cg r i) = false) : (backs r).any f = false := by
  rw [List.any_eq_false]
  intro e he
  obtain ⟨i, hi, rfl⟩ := List.mem_map.mp he
  rw [h i hi]
  exact Bool.false_ne_true
theorem any_backs1 {r : List Pt} {f : Pt × Pt → Bool} {m : Nat} (hm : m < r.length) (h : f (cg r ((m : Int) - 1), cg r m) = true) : (backs r).any f = true := List.any_eq_true.mpr ⟨_, List.mem_map.mpr ⟨m, List.mem_range.mpr hm, rfl⟩, h⟩
def R_l_on (ds : List Da) (Q : Da → Prop) : Prop := ∃ r s, ds = [.lst (r.map dP), dP s] ∧ r.length ≤ 1000 ∧ (∀ c, c ∈ r → BgP 100 c) ∧ BgP 100 s ∧ Q (.bl (lawOn r s))
abbrev s_l_on : Stmt := topS 68
abbrev n_l_on : List Str := ["_law_ring_here", "_law_spot", "_law_at", "_law_a", "_law_b"]
theorem sc_l_on : FnScope n_l_on ["_law_ring_here", "_law_spot"] (defScope s_l_on) := ⟨rfl, rfl, rfl, by decide +kernel, rfl, by decide +kernel, by decide +kernel⟩
def t_l_on (K : PySem.W.Frag) (C : Addr) : TS :=
  (tSeq (tFor (iRng1 (tCons (tCB (rLen K) (tCons (tVar 0) tNil)) tNil)) (gName 2)
    (tSeq (tPar 3 4 (tCons (tOp (rIx K) (tVar 0) (tOp (rI0 fun i j => .int (i - j)) (tVar 2) (tC (.int 1)))) (tCons (tOp (rIx K) (tVar 0) (tVar 2)) tNil)))
    (tIfS (tTest (tOp (rEqD K) (tOp (rI CMulW fun i j => .int (i * j)) (tOp (rI0 fun i j => .int (i - j)) (tOp (rIx K) (tVar 4) (tC (.int 0))) (tOp (rIx K) (tVar 3) (tC (.int 0)))) (tOp (rI0 fun i j => .int (i - j)) (tOp (rIx K) (tVar 1) (tC (.int 1))) (tOp (rIx K) (tVar 3) (tC (.int 1))))) (tOp (rI CMulW fun i j => .int (i * j)) (tOp (rI0 fun i j => .int (i - j)) (tOp (rIx K) (tVar 4) (tC (.int 1))) (tOp (rIx K) (tVar 3) (tC (.int 1)))) (tOp (rI0 fun i j => .int (i - j)) (tOp (rIx K) (tVar 1) (tC (.int 0))) (tOp (rIx K) (tVar 3) (tC (.int 0))))))) (tIfS (tTest (tOp (rI0 fun i j => .bl (decide (i ≤ j))) (tOp (rPlus K) (tOp (rI CMulW fun i j => .int (i * j)) (tOp (rI0 fun i j => .int (i - j)) (tOp (rIx K) (tVar 1) (tC (.int 0))) (tOp (rIx K) (tVar 3) (tC (.int 0)))) (tOp (rI0 fun i j => .int (i - j)) (tOp (rIx K) (tVar 1) (tC (.int 0))) (tOp (rIx K) (tVar 4) (tC (.int 0))))) (tOp (rI CMulW fun i j => .int (i * j)) (tOp (rI0 fun i j => .int (i - j)) (tOp (rIx K) (tVar 1) (tC (.int 1))) (tOp (rIx K) (tVar 3) (tC (.int 1)))) (tOp (rI0 fun i j => .int (i - j)) (tOp (rIx K) (tVar 1) (tC (.int 1))) (tOp (rIx K) (tVar 4) (tC (.int 1)))))) (tC (.int 0)))) (tRet (tC (.bl true))) tNext) tNext)))
    (tRet (tC (.bl false))))
theorem bd_l_on (m_len : mg "len" = none) (m_range : mg "range" = none) {f : Addr} {cdv : Value} {A : Around} {outer : List PySem.Env} {s : Shared} {H : Hp} {E : XK} (hr : Room 0 (A.deeper (envOfC "_law_on" (defScope s_l_on) s.heap.objs.size f cdv))) :
    PSs (cxOf CX0 P w K mg base n_l_on "_law_on" (defScope s_l_on) f cdv A outer s H E).nox (defBody s_l_on) (t_l_on K C) :=
  (pss_cons (ps_for PassesOwn.never rfl (pi_range1 (by rfl) m_range (pa_cons (pe_callB call_lenG (by rfl) m_len PySem.boot_len (pa_cons (pv 0) pa_nil)) pa_nil)) (pg_name (i := 2) sc_l_on.nd rfl (Or.inl rfl))
    (pss_cons (ps_par (i := 3) (j := 4) (by rfl) sc_l_on.nd rfl rfl (by decide) rfl rfl (pa_cons (pe_ix ix_seq (pv 0) (pe_op op_sub (pv 2) pe_int) (fun _ _ => rfl)) (pa_cons (pe_ix ix_seq (pv 0) (pv 2) (fun _ _ => rfl)) pa_nil)) (by rfl))
    (pss_one (ps_if (pt_cmpR (op_eqD hr.units) (pe_op op_mulW (pe_op op_sub (pe_ix ix_seq (pv 4) pe_int (fun _ _ => rfl)) (pe_ix ix_seq (pv 3) pe_int (fun _ _ => rfl))) (pe_op op_sub (pe_ix ix_seq (pv 1) pe_int (fun _ _ => rfl)) (pe_ix ix_seq (pv 3) pe_int (fun _ _ => rfl)))) (pe_op op_mulW (pe_op op_sub (pe_ix ix_seq (pv 4) pe_int (fun _ _ => rfl)) (pe_ix ix_seq (pv 3) pe_int (fun _ _ => rfl))) (pe_op op_sub (pe_ix ix_seq (pv 1) pe_int (fun _ _ => rfl)) (pe_ix ix_seq (pv 3) pe_int (fun _ _ => rfl)))) (nomark _)) (pss_one (ps_if (pt_cmpR op_le (pe_op op_plus (pe_op op_mulW (pe_op op_sub (pe_ix ix_seq (pv 1) pe_int (fun _ _ => rfl)) (pe_ix ix_seq (pv 3) pe_int (fun _ _ => rfl))) (pe_op op_sub (pe_ix ix_seq (pv 1) pe_int (fun _ _ => rfl)) (pe_ix ix_seq (pv 4) pe_int (fun _ _ => rfl)))) (pe_op op_mulW (pe_op op_sub (pe_ix ix_seq (pv 1) pe_int (fun _ _ => rfl)) (pe_ix ix_seq (pv 3) pe_int (fun _ _ => rfl))) (pe_op op_sub (pe_ix ix_seq (pv 1) pe_int (fun _ _ => rfl)) (pe_ix ix_seq (pv 4) pe_int (fun _ _ => rfl))))) pe_int (nomark _)) (pss_one (ps_ret pe_bl)) pss_nil)) pss_nil))))
    (pss_one (ps_ret pe_bl)))
theorem ln_l_on : ∀ ds Q, R_l_on ds Q → ds.length = 2 := fun ds Q ⟨_, _, e, _⟩ => by rw [e]; rfl
theorem wk_l_on : ∀ ds Q, R_l_on ds Q → SW ⟨K, C, none⟩ (t_l_on K C) (init ds 3) ⟨fun _ => Q .non, Q, fun _ => False, fun _ => False⟩ := by
  rintro _ Q ⟨r, s, rfl, hl, hb, hs, q⟩
  unfold t_l_on
  refine sw_seq (sw_forM (List.range r.length) (fun (m : Nat) => .int (0 + (m : Nat))) (iw_r1 (n := (r.length : Int)) (by walk_at "go"; rw [List.length_map]) ⟨by omega, by omega⟩) (fun pre A' => ∃ x y z, A' = ⟨[.dat (.lst (r.map dP)), .dat (dP s), x, y, z], none⟩ ∧ ∀ i : Nat, i ∈ pre → onSeg (cg r ((i : Int) - 1)) (cg r i) s = false) ⟨_, _, _, rfl, (fun _ z => nomatch z)⟩ ?t ?f)
  case f =>
    rintro _ ⟨x, y, z, rfl, hn⟩
    walk_at "go"
    have e : lawOn r s = false := any_backs (f := fun e => onSeg e.1 e.2 s) hn
    rw [e] at q
    exact q
  case t =>
    rintro pre m post _ he ⟨x, y, z, rfl, hn⟩
    obtain ⟨hpl, hm⟩ := range_split he
    have ne : r ≠ [] := fun e => by rw [e] at hm; exact absurd hm (Nat.not_lt_zero _)
    have cgm : cg r (0 + (m : Int)) = cg r m := by rw [Int.zero_add]
    have cgm1 : cg r (0 + (m : Int) - 1) = cg r ((m : Int) - 1) := by rw [Int.zero_add]
    refine gw_nm (sw_seq (sw_par ?_))
    walk_at "go"
    refine ix_lst (atI_cg (by omega) (by omega)) ?_
    walk_at "go"
    refine ix_lst (atI_cg (by omega) (by omega)) ?_
    rw [cgm, cgm1]
    have hit : onSeg (cg r ((m : Int) - 1)) (cg r m) s = true → lawOn r s = true := fun h => any_backs1 (f := fun e => onSeg e.1 e.2 s) hm h
    have hna := hb _ (cg_mem ((m : Int) - 1) ne)
    have hnb := hb _ (cg_mem (m : Int) ne)
    have next : ∀ A' : AS, onSeg (cg r ((m : Int) - 1)) (cg r m) s = false → (∃ x y z, A' = ⟨[.dat (.lst (r.map dP)), .dat (dP s), x, y, z], none⟩) → ∃ x y z, A' = ⟨[.dat (.lst (r.map dP)), .dat (dP s), x, y, z], none⟩ ∧ ∀ i : Nat, i ∈ pre ++ [m] → onSeg (cg r ((i : Int) - 1)) (cg r i) s = false := fun A' h ⟨x, y, z, e⟩ => ⟨x, y, z, e, fun i hi => by
      rcases List.mem_append.mp hi with h' | h'
      · exact hn i h'
      · rw [List.mem_singleton.mp h']; exact h⟩
    generalize cg r ((m : Int) - 1) = a at *
    generalize cg r (m : Int) = b at *
    have w1 : CMulW (b.1 - a.1) (s.2 - a.2) := cw (hnb.a.sub hna.a) (hs.b.sub hna.b) (by decide)
    have w2 : CMulW (b.2 - a.2) (s.1 - a.1) := cw (hnb.b.sub hna.b) (hs.a.sub hna.a) (by decide)
    have w3 : CMulW (s.1 - a.1) (s.1 - b.1) := cw (hs.a.sub hna.a) (hs.a.sub hnb.a) (by decide)
    have w4 : CMulW (s.2 - a.2) (s.2 - b.2) := cw (hs.b.sub hna.b) (hs.b.sub hnb.b) (by decide)
    walk_at "go"
    refine sw_ifD (b := (b.1 - a.1) * (s.2 - a.2) == (b.2 - a.2) * (s.1 - a.1)) (by walk_at "go"; rfl) (fun h => ?_) fun h => sw_next ?_
    · refine sw_ifD (b := decide ((s.1 - a.1) * (s.1 - b.1) + (s.2 - a.2) * (s.2 - b.2) ≤ 0)) (by walk_at "go"; rfl) (fun h2 => ?_) fun h2 => sw_next ?_
      · walk_at "go"
        rw [hit (by unfold onSeg; rw [h, h2]; rfl)] at q
        exact q
      · exact next _ (by unfold onSeg; rw [h, h2]; rfl) ⟨_, _, _, rfl⟩
    · exact next _ (by unfold onSeg; rw [h]; rfl) ⟨_, _, _, rfl⟩
theorem ok_l_on (m_len : mg "len" = none) (m_range : mg "range" = none) (F : DefAt K mg "_law_on" ["_law_ring_here", "_law_spot"] s_l_on) : Cal P w K mg base "_law_on" 1 ["_law_ring_here", "_law_spot"] (spP K C R_l_on) :=
  F.okP sc_l_on ln_l_on (fun _ _ _ _ _ _ _ hr => bd_l_on m_len m_range hr) wk_l_on
def R_l_crossed (ds : List Da) (Q : Da → Prop) : Prop := ∃ r s d, ds = [.lst (r.map dP), dP s, dP d] ∧ r.length ≤ 1000 ∧ (∀ c, c ∈ r → BgP 100 c) ∧ BgP 100 s ∧ BgP 500 d ∧ Q (dP (lawCrossed r s d))
abbrev s_l_crossed : Stmt := topS 69
abbrev n_l_crossed : List Str := ["_law_ring_here", "_law_spot", "_law_way", "_law_found", "_law_many", "_law_at", "_law_a", "_law_b", "_law_one", "_law_other", "_law_turn"]
theorem sc_l_crossed : FnScope n_l_crossed ["_law_ring_here", "_law_spot", "_law_way"] (defScope s_l_crossed) := ⟨rfl, rfl, rfl, by decide +kernel, rfl, by decide +kernel, by decide +kernel⟩
def t_l_crossed (K : PySem.W.Frag) (C : Addr) : TS :=
  (tSeq (tAsg (tTup (tCons (tC (.int 0)) (tCons (tC (.int 0)) tNil))) (gTup K 2 (gCons (gName 3) (gCons (gName 4) gNil))))
    (tSeq (tFor (iRng1 (tCons (tCB (rLen K) (tCons (tVar 0) tNil)) tNil)) (gName 5)
    (tSeq (tPar 6 7 (tCons (tOp (rIx K) (tVar 0) (tOp (rI0 fun i j => .int (i - j)) (tVar 5) (tC (.int 1)))) (tCons (tOp (rIx K) (tVar 0) (tVar 5)) tNil)))
    (tSeq (tAsg (tOp (rI0 fun i j => .int (i - j)) (tOp (rI CMulW fun i j => .int (i * j)) (tOp (rIx K) (tVar 2) (tC (.int 0))) (tOp (rI0 fun i j => .int (i - j)) (tOp (rIx K) (tVar 6) (tC (.int 1))) (tOp (rIx K) (tVar 1) (tC (.int 1))))) (tOp (rI CMulW fun i j => .int (i * j)) (tOp (rIx K) (tVar 2) (tC (.int 1))) (tOp (rI0 fun i j => .int (i - j)) (tOp (rIx K) (tVar 6) (tC (.int 0))) (tOp (rIx K) (tVar 1) (tC (.int 0)))))) (gName 8))
    (tSeq (tAsg (tOp (rI0 fun i j => .int (i - j)) (tOp (rI CMulW fun i j => .int (i * j)) (tOp (rIx K) (tVar 2) (tC (.int 0))) (tOp (rI0 fun i j => .int (i - j)) (tOp (rIx K) (tVar 7) (tC (.int 1))) (tOp (rIx K) (tVar 1) (tC (.int 1))))) (tOp (rI CMulW fun i j => .int (i * j)) (tOp (rIx K) (tVar 2) (tC (.int 1))) (tOp (rI0 fun i j => .int (i - j)) (tOp (rIx K) (tVar 7) (tC (.int 0))) (tOp (rIx K) (tVar 1) (tC (.int 0)))))) (gName 9))
    (tSeq (tAsg (tOp (rI0 fun i j => .int (i - j)) (tOp (rI CMulW fun i j => .int (i * j)) (tOp (rI0 fun i j => .int (i - j)) (tOp (rIx K) (tVar 7) (tC (.int 0))) (tOp (rIx K) (tVar 6) (tC (.int 0)))) (tOp (rI0 fun i j => .int (i - j)) (tOp (rIx K) (tVar 1) (tC (.int 1))) (tOp (rIx K) (tVar 6) (tC (.int 1))))) (tOp (rI CMulW fun i j => .int (i * j)) (tOp (rI0 fun i j => .int (i - j)) (tOp (rIx K) (tVar 7) (tC (.int 1))) (tOp (rIx K) (tVar 6) (tC (.int 1)))) (tOp (rI0 fun i j => .int (i - j)) (tOp (rIx K) (tVar 1) (tC (.int 0))) (tOp (rIx K) (tVar 6) (tC (.int 0)))))) (gName 10))
    (tSeq (tIfS (tAnd (tTest (tOp (rI0 fun i j => .bl (decide (i < j))) (tVar 8) (tC (.int 0)))) (tAnd (tTest (tOp (rI0 fun i j => .bl (decide (j < i))) (tVar 9) (tC (.int 0)))) (tTest (tOp (rI0 fun i j => .bl (decide (j < i))) (tVar 10) (tC (.int 0)))))) (tPar 3 4 (tCons (tOp (rPlus K) (tVar 3) (tC (.int 1))) (tCons (tOp (rPlus K) (tVar 4) (tC (.int 1))) tNil))) tNext)
    (tIfS (tAnd (tTest (tOp (rI0 fun i j => .bl (decide (j < i))) (tVar 8) (tC (.int 0)))) (tAnd (tTest (tOp (rI0 fun i j => .bl (decide (i < j))) (tVar 9) (tC (.int 0)))) (tTest (tOp (rI0 fun i j => .bl (decide (i < j))) (tVar 10) (tC (.int 0)))))) (tPar 3 4 (tCons (tOp (rI0 fun i j => .int (i - j)) (tVar 3) (tC (.int 1))) (tCons (tOp (rPlus K) (tVar 4) (tC (.int 1))) tNil))) tNext)))))))
    (tRet (tTup (tCons (tVar 3) (tCons (tVar 4) tNil))))))
theorem bd_l_crossed (m_len : mg "len" = none) (m_range : mg "range" = none) {f : Addr} {cdv : Value} {A : Around} {outer : List PySem.Env} {s : Shared} {H : Hp} {E : XK} (hr : Room 0 (A.deeper (envOfC "_law_crossed" (defScope s_l_crossed) s.heap.objs.size f cdv))) :
    PSs (cxOf CX0 P w K mg base n_l_crossed "_law_crossed" (defScope s_l_crossed) f cdv A outer s H E).nox (defBody s_l_crossed) (t_l_crossed K C) :=
  (pss_cons (ps_asg (pe_tup (pa_cons pe_int (pa_cons pe_int pa_nil))) (pg_tup (by rfl) (pgs_cons (pg_name (i := 3) sc_l_crossed.nd rfl (Or.inl rfl)) (pgs_cons (pg_name (i := 4) sc_l_crossed.nd rfl (Or.inl rfl)) pgs_nil))))
    (pss_cons (ps_for PassesOwn.never rfl (pi_range1 (by rfl) m_range (pa_cons (pe_callB call_lenG (by rfl) m_len PySem.boot_len (pa_cons (pv 0) pa_nil)) pa_nil)) (pg_name (i := 5) sc_l_crossed.nd rfl (Or.inl rfl))
    (pss_cons (ps_par (i := 6) (j := 7) (by rfl) sc_l_crossed.nd rfl rfl (by decide) rfl rfl (pa_cons (pe_ix ix_seq (pv 0) (pe_op op_sub (pv 5) pe_int) (fun _ _ => rfl)) (pa_cons (pe_ix ix_seq (pv 0) (pv 5) (fun _ _ => rfl)) pa_nil)) (by rfl))
    (pss_cons (ps_set (i := 8) sc_l_crossed.nd rfl (Or.inl rfl) (pe_op op_sub (pe_op op_mulW (pe_ix ix_seq (pv 2) pe_int (fun _ _ => rfl)) (pe_op op_sub (pe_ix ix_seq (pv 6) pe_int (fun _ _ => rfl)) (pe_ix ix_seq (pv 1) pe_int (fun _ _ => rfl)))) (pe_op op_mulW (pe_ix ix_seq (pv 2) pe_int (fun _ _ => rfl)) (pe_op op_sub (pe_ix ix_seq (pv 6) pe_int (fun _ _ => rfl)) (pe_ix ix_seq (pv 1) pe_int (fun _ _ => rfl))))))
    (pss_cons (ps_set (i := 9) sc_l_crossed.nd rfl (Or.inl rfl) (pe_op op_sub (pe_op op_mulW (pe_ix ix_seq (pv 2) pe_int (fun _ _ => rfl)) (pe_op op_sub (pe_ix ix_seq (pv 7) pe_int (fun _ _ => rfl)) (pe_ix ix_seq (pv 1) pe_int (fun _ _ => rfl)))) (pe_op op_mulW (pe_ix ix_seq (pv 2) pe_int (fun _ _ => rfl)) (pe_op op_sub (pe_ix ix_seq (pv 7) pe_int (fun _ _ => rfl)) (pe_ix ix_seq (pv 1) pe_int (fun _ _ => rfl))))))
    (pss_cons (ps_set (i := 10) sc_l_crossed.nd rfl (Or.inl rfl) (pe_op op_sub (pe_op op_mulW (pe_op op_sub (pe_ix ix_seq (pv 7) pe_int (fun _ _ => rfl)) (pe_ix ix_seq (pv 6) pe_int (fun _ _ => rfl))) (pe_op op_sub (pe_ix ix_seq (pv 1) pe_int (fun _ _ => rfl)) (pe_ix ix_seq (pv 6) pe_int (fun _ _ => rfl)))) (pe_op op_mulW (pe_op op_sub (pe_ix ix_seq (pv 7) pe_int (fun _ _ => rfl)) (pe_ix ix_seq (pv 6) pe_int (fun _ _ => rfl))) (pe_op op_sub (pe_ix ix_seq (pv 1) pe_int (fun _ _ => rfl)) (pe_ix ix_seq (pv 6) pe_int (fun _ _ => rfl))))))
    (pss_cons (ps_if (PW.pt (pw_and (pt_cmpR op_lt (pv 8) pe_int (nomark _)) (pw_and (pt_cmpR op_gt (pv 9) pe_int (nomark _)) (pw_and1 (pt_cmpR op_gt (pv 10) pe_int (nomark _)))))) (pss_one (ps_par (i := 3) (j := 4) (by rfl) sc_l_crossed.nd rfl rfl (by decide) rfl rfl (pa_cons (pe_op op_plus (pv 3) pe_int) (pa_cons (pe_op op_plus (pv 4) pe_int) pa_nil)) (by rfl))) pss_nil)
    (pss_one (ps_if (PW.pt (pw_and (pt_cmpR op_gt (pv 8) pe_int (nomark _)) (pw_and (pt_cmpR op_lt (pv 9) pe_int (nomark _)) (pw_and1 (pt_cmpR op_lt (pv 10) pe_int (nomark _)))))) (pss_one (ps_par (i := 3) (j := 4) (by rfl) sc_l_crossed.nd rfl rfl (by decide) rfl rfl (pa_cons (pe_op op_sub (pv 3) pe_int) (pa_cons (pe_op op_plus (pv 4) pe_int) pa_nil)) (by rfl))) pss_nil))))))))
    (pss_one (ps_ret (pe_tup (pa_cons (pv 3) (pa_cons (pv 4) pa_nil)))))))
theorem ln_l_crossed : ∀ ds Q, R_l_crossed ds Q → ds.length = 3 := fun ds Q ⟨_, _, _, e, _⟩ => by rw [e]; rfl
theorem wk_l_crossed : ∀ ds Q, R_l_crossed ds Q → SW ⟨K, C, none⟩ (t_l_crossed K C) (init ds 8) ⟨fun _ => Q .non, Q, fun _ => False, fun _ => False⟩ := by
  rintro _ Q ⟨r, s, d, rfl, hl, hb, hs, hd, q⟩
  unfold t_l_crossed
  refine sw_seq (sw_asg ?_)
  walk_at "go"
  refine sw_forM (List.range r.length) (fun (m : Nat) => .int (0 + (m : Nat))) (iw_r1 (n := (r.length : Int)) (by walk_at "go"; rw [List.length_map]) ⟨by omega, by omega⟩) (fun pre A' => ∃ u v x5 x6 x7 x8 x9 x10, A' = ⟨[.dat (.lst (r.map dP)), .dat (dP s), .dat (dP d), .dat (.int u), .dat (.int v), x5, x6, x7, x8, x9, x10], none⟩ ∧ (u, v) = (pre.map fun (i : Nat) => (cg r ((i : Int) - 1), cg r i)).foldl (crStep d s) (0, 0)) ⟨_, _, _, _, _, _, _, _, rfl, rfl⟩ ?t ?f
  case f =>
    rintro _ ⟨u, v, x5, x6, x7, x8, x9, x10, rfl, huv⟩
    walk_at "go"
    unfold lawCrossed backs at q
    rw [← huv] at q
    exact q
  case t =>
    rintro pre m post _ he ⟨u, v, x5, x6, x7, x8, x9, x10, rfl, huv⟩
    obtain ⟨hpl, hm⟩ := range_split he
    have ne : r ≠ [] := fun e => by rw [e] at hm; exact absurd hm (Nat.not_lt_zero _)
    have cgm : cg r (0 + (m : Int)) = cg r m := by rw [Int.zero_add]
    have cgm1 : cg r (0 + (m : Int) - 1) = cg r ((m : Int) - 1) := by rw [Int.zero_add]
    refine gw_nm (sw_seq (sw_par ?_))
    walk_at "go"
    refine ix_lst (atI_cg (by omega) (by omega)) ?_
    walk_at "go"
    refine ix_lst (atI_cg (by omega) (by omega)) ?_
    rw [cgm, cgm1]
    have hna := hb _ (cg_mem ((m : Int) - 1) ne)
    have hnb := hb _ (cg_mem (m : Int) ne)
    have step : ((pre ++ [m]).map fun (i : Nat) => (cg r ((i : Int) - 1), cg r i)).foldl (crStep d s) (0, 0) = crStep d s (u, v) (cg r ((m : Int) - 1), cg r m) := by
      rw [List.map_append, List.foldl_append, ← huv]
      rfl
    rw [step]
    generalize cg r ((m : Int) - 1) = a at *
    generalize cg r (m : Int) = b at *
    have w1 : CMulW d.1 (a.2 - s.2) := cw hd.a (hna.b.sub hs.b) (by decide)
    have w2 : CMulW d.2 (a.1 - s.1) := cw hd.b (hna.a.sub hs.a) (by decide)
    have w3 : CMulW d.1 (b.2 - s.2) := cw hd.a (hnb.b.sub hs.b) (by decide)
    have w4 : CMulW d.2 (b.1 - s.1) := cw hd.b (hnb.a.sub hs.a) (by decide)
    have w5 : CMulW (b.1 - a.1) (s.2 - a.2) := cw (hnb.a.sub hna.a) (hs.b.sub hna.b) (by decide)
    have w6 : CMulW (b.2 - a.2) (s.1 - a.1) := cw (hnb.b.sub hna.b) (hs.a.sub hna.a) (by decide)
    walk_at "go"
    refine sw_ifD (b := crUp d s (a, b)) (by unfold crUp; walk_at "go"; rfl) (fun h => ?_) fun h => sw_next ?_
    · walk_at "go"
      refine sw_ifD (b := crDn d s (a, b)) (by unfold crDn; walk_at "go"; rfl) (fun h2 => ?_) fun h2 => sw_next ?_
      · walk_at "go"
        refine ⟨_, _, _, _, _, _, _, _, rfl, ?_⟩
        unfold crStep
        rw [h, h2]
        rfl
      · refine ⟨_, _, _, _, _, _, _, _, rfl, ?_⟩
        unfold crStep
        rw [h, h2]
        rfl
    · refine sw_ifD (b := crDn d s (a, b)) (by unfold crDn; walk_at "go"; rfl) (fun h2 => ?_) fun h2 => sw_next ?_
      · walk_at "go"
        refine ⟨_, _, _, _, _, _, _, _, rfl, ?_⟩
        unfold crStep
        rw [h, h2]
        rfl
      · refine ⟨_, _, _, _, _, _, _, _, rfl, ?_⟩
        unfold crStep
        rw [h, h2]
        rfl
theorem ok_l_crossed (m_len : mg "len" = none) (m_range : mg "range" = none) (F : DefAt K mg "_law_crossed" ["_law_ring_here", "_law_spot", "_law_way"] s_l_crossed) : Cal P w K mg base "_law_crossed" 1 ["_law_ring_here", "_law_spot", "_law_way"] (spP K C R_l_crossed) :=
  F.okP sc_l_crossed ln_l_crossed (fun _ _ _ _ _ _ _ hr => bd_l_crossed m_len m_range hr) wk_l_crossed
end
end G
set_option Elab.async false
set_option linter.all false
set_option maxRecDepth 100000
namespace G
open PySem PySem.Spec L2
open Evl (Ex)
open PyProof.Rows (envOfC)
local macro_rules | `(tactic| walk_at "go") => `(tactic| repeat' (first
  | ((with_reducible refine' ew_v ?h ?k ?_); (case h => exact rfl); (case k => exact rfl))
  | with_reducible refine ew_int ?_
  | with_reducible refine ew_bl ?_
  | with_reducible refine ew_str ?_
  | with_reducible refine ew_non ?_
  | with_reducible refine ew_plus ?_
  | with_reducible refine ew_sub ?_
  | with_reducible refine ew_mul ?_
  | with_reducible refine ew_mulW ?_
  | with_reducible refine ew_fdiv ?_
  | with_reducible refine ew_mod ?_
  | with_reducible refine ew_ix ?_
  | with_reducible refine ew_lt ?_
  | with_reducible refine ew_le ?_
  | with_reducible refine ew_gt ?_
  | with_reducible refine ew_ge ?_
  | with_reducible refine ew_eqD ?_
  | with_reducible refine ew_neD ?_
  | with_reducible refine ew_neg ?_
  | with_reducible refine ew_tup ?_
  | with_reducible refine ew_lst ?_
  | with_reducible refine ew_len ?_
  | with_reducible refine ew_abs ?_
  | with_reducible refine ew_int1 ?_
  | with_reducible refine ew_gcd ?_
  | with_reducible refine ew_tupOf ?_
  | with_reducible refine ew_callP ?_
  | with_reducible refine ew_callG ?_
  | with_reducible refine ew_revL ?_
  | with_reducible refine ew_slice ?_
  | with_reducible refine ow_no ?_
  | with_reducible refine ow_some ?_
  | with_reducible refine ew_notV ?_
  | with_reducible refine ew_pow ?_
  | with_reducible refine aw_nil ?_
  | with_reducible refine aw_cons ?_
  | with_reducible refine onI2_mk ?_
  | with_reducible refine onI_mk ?_
  | with_reducible refine onB_mk ?_
  | with_reducible refine onD2_mk ?_
  | with_reducible refine onDat_mk ?_
  | with_reducible refine onL_mk ?_
  | with_reducible refine onTup_mk ?_
  | with_reducible refine onSeqT_mk ?_
  | with_reducible refine onSeqL_mk ?_
  | with_reducible refine onDs_nil ?_
  | with_reducible refine onDs_cons ?_
  | with_reducible refine onGDs_mk ?_
  | with_reducible refine on1_mk ?_
  | with_reducible refine on2_mk ?_
  | with_reducible refine plus_int ?_
  | with_reducible refine sq_tup ?_
  | with_reducible refine sq_lst ?_
  | with_reducible refine cut_tup ?_
  | with_reducible refine cut_lst ?_
  | ((with_reducible refine' ix_tup ?e ?_); (case e => first | exact rfl | assumption))
  | ((with_reducible refine' ix_lst ?e ?_); (case e => first | exact rfl | assumption))
  | ((with_reducible refine' And.intro (a := CMul _ _) ?c ?_); (case c => first | (refine mulL ⟨?_, ?_⟩ <;> omega) | (refine mulR ⟨?_, ?_⟩ <;> omega)))
  | ((with_reducible refine' And.intro (a := CMulW _ _) ?c ?_); (case c => assumption))
  | ((with_reducible refine' And.intro (a := 0 < _) ?c ?_); (case c => decide))
  | ((with_reducible refine' And.intro (a := List.length _ ≤ 100000) ?c ?_); (case c => exact Nat.le_of_ble_eq_true rfl))
  | ((with_reducible refine' And.intro (a := fit _ = true) ?c ?_); (case c => first | exact rfl | assumption))
  | with_reducible refine gw_nm ?_
  | ((with_reducible refine' gw_nmI ?h ?_); (case h => decide))
  | ((with_reducible refine' gw_tp ?h ?_); (case h => exact rfl))
  | with_reducible refine gsw_cons ?_
  | with_reducible refine gsw_nil ?_
  | with_reducible refine tw_tst ?_
  | with_reducible refine tw_b ?_
  | with_reducible refine tw_not ?_
  | with_reducible refine tw_yes ?_
  | with_reducible refine sw_seq ?_
  | with_reducible refine sw_ret ?_
  | with_reducible refine sw_asg ?_
  | with_reducible refine sw_par ?_
  | ((with_reducible refine' sw_aug ?h ?_); (case h => exact rfl))
  | with_reducible refine sw_next ?_
  | with_reducible refine sw_brk ?_
  | ((with_reducible refine' ew_andD ?h ?g ?_); (case h => (walk_at "go"; exact rfl)); (case g => (intro _; walk_at "go"; exact rfl)))
  | ((with_reducible refine' ew_orD ?h ?g ?_); (case h => (walk_at "go"; exact rfl)); (case g => (intro _; walk_at "go"; exact rfl)))
  | ((with_reducible refine' tw_and2 ?h ?g ?_); (case h => (walk_at "go"; exact rfl)); (case g => (intro _; walk_at "go"; exact rfl)))
  | ((with_reducible refine' tw_or2 ?h ?g ?_); (case h => (walk_at "go"; exact rfl)); (case g => (intro _; walk_at "go"; exact rfl)))
  | ((with_reducible refine' ew_chD ?h ?g ?k ?_); (case h => (walk_at "go"; exact rfl)); (case g => (walk_at "go"; exact rfl)); (case k => (walk_at "go"; exact rfl)))
  | ((with_reducible refine' ew_isiInt ?h ?_); (case h => (walk_at "go"; exact rfl)))
  | ((with_reducible refine' ew_isiBool ?h ?_); (case h => (walk_at "go"; exact rfl)))
  | ((with_reducible refine' ew_isiTup ?h ?_); (case h => (walk_at "go"; exact rfl)))))
section
variable {P : Program} {w : World} {K : PySem.W.Frag} {mg : Str → Option Value} {base : Heap} {C : Addr}

/-- a far half line's way -/
structure FarD (d : Pt) : Prop where
  ex : ∃ f : Int, 10 ^ 60 * 10 ^ 60 ≤ f ∧ f < 10 ^ 60 * 10 ^ 60 + 99 ∧ (d = (f, 1) ∨ d = (f, -1) ∨ d = (0 - f, 1) ∨ d = (1, f) ∨ d = (-1, f) ∨ d = (1, 0 - f) ∨ d = (-1, 0 - f))
theorem FarD.bg {d : Pt} (h : FarD d) : BgP 500 d := by
  obtain ⟨f, h1, h2, h3⟩ := h.ex
  have z : Bg 500 f := by
    have h1' : (0 : Int) ≤ f := Int.le_trans (by decide) h1
    have h2' : f < 2 ^ 400 := Int.lt_trans h2 (by decide)
    unfold Bg
    have e : (f.natAbs : Int) < ((2 ^ 400 : Nat) : Int) := by
      rw [Int.natAbs_of_nonneg h1']
      exact h2'
    exact Nat.lt_of_lt_of_le (Int.ofNat_lt.mp e) (by decide +kernel)
  have zn : Bg 500 (0 - f) := by
    unfold Bg at *
    rw [Int.zero_sub, Int.natAbs_neg]
    exact z
  have o1 : Bg 500 1 := by unfold Bg; decide +kernel
  have o2 : Bg 500 (-1) := by unfold Bg; decide +kernel
  rcases h3 with rfl | rfl | rfl | rfl | rfl | rfl | rfl <;> constructor <;> assumption
/-- what the law says of a ring's side -/
def LawSide (r : List Pt) (p : FP) (v : Int) : Prop := (lawOn (scl r p) (spot p) = true → v = 0) ∧ (lawOn (scl r p) (spot p) = false → ∀ d, FarD d → v = if (lawCrossed (scl r p) (spot p) d).2 % 2 == 1 then 1 else -1)
def R_l_ring_side (ds : List Da) (Q : Da → Prop) : Prop := ∃ r p v, ds = [dR r, dFP p] ∧ r.length ≤ 1000 ∧ (∀ c, c ∈ r → Sm c) ∧ PtS p ∧ LawSide r p v ∧ Q (.int v)
abbrev s_l_ring_side : Stmt := topS 70
abbrev n_l_ring_side : List Str := ["_law_deal_here", "_law_ring_here", "_law_point_here", "_law_corners", "_law_spot", "_law_far", "_law_way"]
theorem sc_l_ring_side : FnScope n_l_ring_side ["_law_deal_here", "_law_ring_here", "_law_point_here"] (defScope s_l_ring_side) := ⟨rfl, rfl, rfl, by decide +kernel, rfl, by decide +kernel, by decide +kernel⟩
def t_l_ring_side (K : PySem.W.Frag) (C : Addr) : TS :=
  (tSeq (tAsg (tCall (spP K C R_l_scaled) [] E0 (tCons (tVar 1) (tCons (tVar 2) tNil))) (gTup K 2 (gCons (gName 3) (gCons (gName 4) gNil))))
    (tSeq (tIfS (tB (tCall (spP K C R_l_on) [] E0 (tCons (tVar 3) (tCons (tVar 4) tNil)))) (tRet (tC (.int 0))) tNext)
    (tSeq (tAsg (tOp (rPlus K) (tOp (rI CMulW fun i j => .int (i * j)) (tOp (rI CPow fun i j => .int (i ^ j.toNat)) (tC (.int 10)) (tC (.int 60))) (tOp (rI CPow fun i j => .int (i ^ j.toNat)) (tC (.int 10)) (tC (.int 60)))) (tCall (spG K C R_l_any) [] E0 (tCons (tVar 0) (tCons (tC (.int 99)) tNil)))) (gName 5))
    (tSeq (tAsg (tCall (spG K C R_l_of) [] E0 (tCons (tVar 0) (tCons (tLst (tCons (tTup (tCons (tVar 5) (tCons (tC (.int 1)) tNil))) (tCons (tTup (tCons (tVar 5) (tCons (tUn (rU fun i => .int (-i)) (tC (.int 1))) tNil))) (tCons (tTup (tCons (tOp (rI0 fun i j => .int (i - j)) (tC (.int 0)) (tVar 5)) (tCons (tC (.int 1)) tNil))) (tCons (tTup (tCons (tC (.int 1)) (tCons (tVar 5) tNil))) (tCons (tTup (tCons (tUn (rU fun i => .int (-i)) (tC (.int 1))) (tCons (tVar 5) tNil))) (tCons (tTup (tCons (tC (.int 1)) (tCons (tOp (rI0 fun i j => .int (i - j)) (tC (.int 0)) (tVar 5)) tNil))) tNil))))))) tNil))) (gName 6))
    (tRet (tIf (tTest (tOp (rEqD K) (tOp (rI (fun _ j => 0 < j) fun i j => .int (i % j)) (tCB rInt1 (tCons (tOp (rIx K) (tCall (spP K C R_l_crossed) [] E0 (tCons (tVar 3) (tCons (tVar 4) (tCons (tVar 6) tNil)))) (tC (.int 1))) tNil)) (tC (.int 2))) (tC (.int 1)))) (tC (.int 1)) (tUn (rU fun i => .int (-i)) (tC (.int 1)))))))))
theorem bd_l_ring_side (c_l_scaled : Cal P w K mg base "_law_scaled" 1 ["_law_ring_here", "_law_point_here"] (spP K C R_l_scaled)) (c_l_on : Cal P w K mg base "_law_on" 1 ["_law_ring_here", "_law_spot"] (spP K C R_l_on)) (c_l_any : Cal P w K mg base "_law_any" 1 ["_law_deal_here", "_law_bound"] (spG K C R_l_any)) (c_l_of : Cal P w K mg base "_law_of" 2 ["_law_deal_here", "_law_some"] (spG K C R_l_of)) (c_l_crossed : Cal P w K mg base "_law_crossed" 1 ["_law_ring_here", "_law_spot", "_law_way"] (spP K C R_l_crossed)) (m_int : mg "int" = none) {f : Addr} {cdv : Value} {A : Around} {outer : List PySem.Env} {s : Shared} {H : Hp} {E : XK} (hr : Room 2 (A.deeper (envOfC "_law_ring_side" (defScope s_l_ring_side) s.heap.objs.size f cdv))) :
    PSs (cxOf CX0 P w K mg base n_l_ring_side "_law_ring_side" (defScope s_l_ring_side) f cdv A outer s H E).nox (defBody s_l_ring_side) (t_l_ring_side K C) :=
  (pss_cons (ps_asg (pe_callC c_l_scaled (hr.mono (by decide)) (by rfl) (pa_cons (pv 1) (pa_cons (pv 2) pa_nil))) (pg_tup (by rfl) (pgs_cons (pg_name (i := 3) sc_l_ring_side.nd rfl (Or.inl rfl)) (pgs_cons (pg_name (i := 4) sc_l_ring_side.nd rfl (Or.inl rfl)) pgs_nil))))
    (pss_cons (ps_if (pt_val (pe_callC c_l_on (hr.mono (by decide)) (by rfl) (pa_cons (pv 3) (pa_cons (pv 4) pa_nil)))) (pss_one (ps_ret pe_int)) pss_nil)
    (pss_cons (ps_set (i := 5) sc_l_ring_side.nd rfl (Or.inl rfl) (pe_op op_plus (pe_op op_mulW (pe_op op_pow pe_int pe_int) (pe_op op_pow pe_int pe_int)) (pe_callC c_l_any (hr.mono (by decide)) (by rfl) (pa_cons (pv 0) (pa_cons pe_int pa_nil)))))
    (pss_cons (ps_set (i := 6) sc_l_ring_side.nd rfl (Or.inl rfl) (pe_callC c_l_of (hr.mono (by decide)) (by rfl) (pa_cons (pv 0) (pa_cons (pe_lst (pa_cons (pe_tup (pa_cons (pv 5) (pa_cons pe_int pa_nil))) (pa_cons (pe_tup (pa_cons (pv 5) (pa_cons (pe_un un_neg pe_int) pa_nil))) (pa_cons (pe_tup (pa_cons (pe_op op_sub pe_int (pv 5)) (pa_cons pe_int pa_nil))) (pa_cons (pe_tup (pa_cons pe_int (pa_cons (pv 5) pa_nil))) (pa_cons (pe_tup (pa_cons (pe_un un_neg pe_int) (pa_cons (pv 5) pa_nil))) (pa_cons (pe_tup (pa_cons pe_int (pa_cons (pe_op op_sub pe_int (pv 5)) pa_nil))) pa_nil))))))) pa_nil))))
    (pss_one (ps_ret (pe_ifExp (pt_cmpR (op_eqD hr.units) (pe_op op_mod (pe_callTy call_int1G (by rfl) m_int (by decide +kernel) (pa_cons (pe_ix ix_seq (pe_callC c_l_crossed (hr.mono (by decide)) (by rfl) (pa_cons (pv 3) (pa_cons (pv 4) (pa_cons (pv 6) pa_nil)))) pe_int (fun _ _ => rfl)) pa_nil)) pe_int) pe_int (nomark _)) pe_int (pe_un un_neg pe_int))))))))
theorem ln_l_ring_side : ∀ ds Q, R_l_ring_side ds Q → ds.length + 1 = 3 := fun ds Q ⟨_, _, _, e, _⟩ => by rw [e]; rfl
theorem scl_len (r : List Pt) (p : FP) : (scl r p).length = r.length := by unfold scl; rw [List.length_map]
theorem wk_l_ring_side : ∀ p ds Q, R_l_ring_side ds Q → SW ⟨K, C, some p⟩ (t_l_ring_side K C) ⟨.deal :: (ds.map .dat ++ List.replicate 4 .un), none⟩ ⟨fun _ => Q .non, Q, fun _ => False, fun _ => False⟩ := by
  rintro dl _ Q ⟨r, p, v, rfl, hl, hsm, hp, hv, q⟩
  have b1 : ∀ c, c ∈ scl r p → BgP 100 c := fun c hc => hp.scl hsm hc
  have b2 := hp.bg
  unfold t_l_ring_side
  refine sw_seq (sw_asg ?_)
  walk_at "go"
  refine ⟨r, p, .inl rfl, hl, hsm, hp, ?_⟩
  walk_at "go"
  refine sw_ifD (b := lawOn (scl r p) (spot p)) ?_ (fun h => ?_) fun h => sw_next ?_
  · walk_at "go"
    refine ⟨_, _, rfl, by rw [scl_len]; exact hl, b1, b2, ?_⟩
    walk_at "go"
    rfl
  · walk_at "go"
    rw [hv.1 h] at q
    exact q
  · have w1 : CMulW ((10 : Int) ^ (60 : Int).toNat) ((10 : Int) ^ (60 : Int).toNat) := cw (m := 300) (n := 300) (by unfold Bg; decide +kernel) (by unfold Bg; decide +kernel) (by decide)
    have cp : CPow 10 60 := ⟨by decide, by decide, by decide⟩
    refine sw_seq (sw_asg (ew_plus (ew_mulW (ew_pow ?_))))
    walk_at "go"
    refine ⟨cp, ?_⟩
    refine ew_pow ?_
    walk_at "go"
    refine ⟨cp, ?_⟩
    walk_at "go"
    refine ⟨99, rfl, by decide, by decide, fun z z0 z1 => ?_⟩
    walk_at "go"
    refine ⟨_, .inl rfl, by show 0 < 6; decide, by show 6 < 1000000; decide, fun d hd => ?_⟩
    obtain ⟨w, hw, rfl⟩ : ∃ w, FarD w ∧ d = dP w := by
      have lo : (10 : Int) ^ 60 * 10 ^ 60 ≤ 10 ^ 60 * 10 ^ 60 + z := Int.le_add_of_nonneg_right z0
      have hi : (10 : Int) ^ 60 * 10 ^ 60 + z < 10 ^ 60 * 10 ^ 60 + 99 := Int.add_lt_add_left z1 _
      simp only [List.mem_cons, List.not_mem_nil, or_false] at hd
      rcases hd with rfl | rfl | rfl | rfl | rfl | rfl
      · exact ⟨_, ⟨_, lo, hi, .inl rfl⟩, rfl⟩
      · exact ⟨_, ⟨_, lo, hi, .inr (.inl rfl)⟩, rfl⟩
      · exact ⟨_, ⟨_, lo, hi, .inr (.inr (.inl rfl))⟩, rfl⟩
      · exact ⟨_, ⟨_, lo, hi, .inr (.inr (.inr (.inl rfl)))⟩, rfl⟩
      · exact ⟨_, ⟨_, lo, hi, .inr (.inr (.inr (.inr (.inl rfl))))⟩, rfl⟩
      · exact ⟨_, ⟨_, lo, hi, .inr (.inr (.inr (.inr (.inr (.inl rfl)))))⟩, rfl⟩
    refine gw_nm (sw_ret (ew_ifD (b := (lawCrossed (scl r p) (spot p) w).2 % 2 == 1) ?_ (fun h2 => ?_) fun h2 => ?_))
    · walk_at "go"
      refine ⟨_, _, _, rfl, by rw [scl_len]; exact hl, b1, b2, hw.bg, ?_⟩
      walk_at "go"
      rfl
    · walk_at "go"
      have e := hv.2 h w hw
      rw [h2, if_pos rfl] at e
      rw [e] at q
      exact q
    · walk_at "go"
      have e := hv.2 h w hw
      rw [h2, if_neg Bool.false_ne_true] at e
      rw [e] at q
      exact q
theorem ok_l_ring_side (c_l_scaled : Cal P w K mg base "_law_scaled" 1 ["_law_ring_here", "_law_point_here"] (spP K C R_l_scaled)) (c_l_on : Cal P w K mg base "_law_on" 1 ["_law_ring_here", "_law_spot"] (spP K C R_l_on)) (c_l_any : Cal P w K mg base "_law_any" 1 ["_law_deal_here", "_law_bound"] (spG K C R_l_any)) (c_l_of : Cal P w K mg base "_law_of" 2 ["_law_deal_here", "_law_some"] (spG K C R_l_of)) (c_l_crossed : Cal P w K mg base "_law_crossed" 1 ["_law_ring_here", "_law_spot", "_law_way"] (spP K C R_l_crossed)) (m_int : mg "int" = none) (F : DefAt K mg "_law_ring_side" ["_law_deal_here", "_law_ring_here", "_law_point_here"] s_l_ring_side) : Cal P w K mg base "_law_ring_side" 3 ["_law_deal_here", "_law_ring_here", "_law_point_here"] (spG K C R_l_ring_side) :=
  F.okG sc_l_ring_side ln_l_ring_side (fun _ _ _ _ _ _ _ hr => bd_l_ring_side c_l_scaled c_l_on c_l_any c_l_of c_l_crossed m_int hr) wk_l_ring_side
def lawFold (v : List Pt → Int) (f : Int) (h : List Pt) : Int := if (f == 1 && decide (-1 < v h)) = true then 0 - v h else f
def R_l_side (ds : List Da) (Q : Da → Prop) : Prop := ∃ o hs p v, ds = [.tup [dR o, dHs hs], dFP p] ∧ (∀ r, r ∈ o :: hs → r.length ≤ 1000 ∧ (∀ c, c ∈ r → Sm c) ∧ LawSide r p (v r)) ∧ PtS p ∧ Q (.int (hs.foldl (lawFold v) (v o)))
abbrev s_l_side : Stmt := topS 71
abbrev n_l_side : List Str := ["_law_deal_here", "_law_plate", "_law_point_here", "_law_found", "_law_hole", "_law_side_here"]
theorem sc_l_side : FnScope n_l_side ["_law_deal_here", "_law_plate", "_law_point_here"] (defScope s_l_side) := ⟨rfl, rfl, rfl, by decide +kernel, rfl, by decide +kernel, by decide +kernel⟩
def t_l_side (K : PySem.W.Frag) (C : Addr) : TS :=
  (tSeq (tAsg (tCall (spG K C R_l_ring_side) [] E0 (tCons (tVar 0) (tCons (tOp (rIx K) (tVar 1) (tC (.int 0))) (tCons (tVar 2) tNil)))) (gName 3))
    (tSeq (tFor (iSeq K (tOp (rIx K) (tVar 1) (tC (.int 1)))) (gName 4)
    (tSeq (tAsg (tCall (spG K C R_l_ring_side) [] E0 (tCons (tVar 0) (tCons (tVar 4) (tCons (tVar 2) tNil)))) (gName 5))
    (tIfS (tAnd (tTest (tOp (rEqD K) (tVar 3) (tC (.int 1)))) (tTest (tOp (rI0 fun i j => .bl (decide (j < i))) (tVar 5) (tUn (rU fun i => .int (-i)) (tC (.int 1)))))) (tAsg (tOp (rI0 fun i j => .int (i - j)) (tC (.int 0)) (tVar 5)) (gName 3)) tNext)))
    (tRet (tVar 3))))
theorem bd_l_side (c_l_ring_side : Cal P w K mg base "_law_ring_side" 3 ["_law_deal_here", "_law_ring_here", "_law_point_here"] (spG K C R_l_ring_side)) {f : Addr} {cdv : Value} {A : Around} {outer : List PySem.Env} {s : Shared} {H : Hp} {E : XK} (hr : Room 3 (A.deeper (envOfC "_law_side" (defScope s_l_side) s.heap.objs.size f cdv))) :
    PSs (cxOf CX0 P w K mg base n_l_side "_law_side" (defScope s_l_side) f cdv A outer s H E).nox (defBody s_l_side) (t_l_side K C) :=
  (pss_cons (ps_set (i := 3) sc_l_side.nd rfl (Or.inl rfl) (pe_callC c_l_ring_side (hr.mono (by decide)) (by rfl) (pa_cons (pv 0) (pa_cons (pe_ix ix_seq (pv 1) pe_int (fun _ _ => rfl)) (pa_cons (pv 2) pa_nil)))))
    (pss_cons (ps_for PassesOwn.never rfl (pi_seq (pe_ix ix_seq (pv 1) pe_int (fun _ _ => rfl))) (pg_name (i := 4) sc_l_side.nd rfl (Or.inl rfl))
    (pss_cons (ps_set (i := 5) sc_l_side.nd rfl (Or.inl rfl) (pe_callC c_l_ring_side (hr.mono (by decide)) (by rfl) (pa_cons (pv 0) (pa_cons (pv 4) (pa_cons (pv 2) pa_nil)))))
    (pss_one (ps_if (PW.pt (pw_and (pt_cmpR (op_eqD hr.units) (pv 3) pe_int (nomark _)) (pw_and1 (pt_cmpR op_gt (pv 5) (pe_un un_neg pe_int) (nomark _))))) (pss_one (ps_set (i := 3) sc_l_side.nd rfl (Or.inl rfl) (pe_op op_sub pe_int (pv 5)))) pss_nil))))
    (pss_one (ps_ret (pv 3)))))
theorem ln_l_side : ∀ ds Q, R_l_side ds Q → ds.length + 1 = 3 := fun ds Q ⟨_, _, _, _, e, _⟩ => by rw [e]; rfl
theorem wk_l_side : ∀ p ds Q, R_l_side ds Q → SW ⟨K, C, some p⟩ (t_l_side K C) ⟨.deal :: (ds.map .dat ++ List.replicate 3 .un), none⟩ ⟨fun _ => Q .non, Q, fun _ => False, fun _ => False⟩ := by
  rintro dl _ Q ⟨o, hs, p, v, rfl, hr, hp, q⟩
  unfold t_l_side
  obtain ⟨o1, o2, o3⟩ := hr o List.mem_cons_self
  refine sw_seq (sw_asg ?_)
  walk_at "go"
  refine ⟨o, p, v o, rfl, o1, o2, hp, o3, ?_⟩
  walk_at "go"
  refine sw_forM hs dR (iw_sqT ?w) (fun pre A' => ∃ x y f, A' = ⟨[.deal, .dat (.tup [dR o, dHs hs]), .dat (dFP p), .dat (.int f), x, y], none⟩ ∧ f = pre.foldl (lawFold v) (v o)) ⟨_, _, _, rfl, rfl⟩ ?tn ?fn
  case w =>
    walk_at "go"
    rfl
  case fn =>
    rintro _ ⟨x, y, f, rfl, rfl⟩
    walk_at "go"
    exact q
  case tn =>
    rintro pre h post _ he ⟨x, y, f, rfl, hf⟩
    obtain ⟨g1, g2, g3⟩ := hr h (List.mem_cons_of_mem _ (by rw [he]; exact List.mem_append_right _ List.mem_cons_self))
    have nx : (pre ++ [h]).foldl (lawFold v) (v o) = lawFold v f h := by rw [List.foldl_append, ← hf]; rfl
    rw [nx]
    refine gw_nm (sw_seq (sw_asg ?_))
    walk_at "go"
    refine ⟨h, p, v h, rfl, g1, g2, hp, g3, ?_⟩
    walk_at "go"
    refine sw_ifD (b := f == 1 && decide (-1 < v h)) (by walk_at "go"; rfl) (fun hz => ?_) fun hz => sw_next ?_
    · walk_at "go"
      refine ⟨_, _, _, rfl, ?_⟩
      unfold lawFold
      rw [if_pos hz]
    · refine ⟨_, _, _, rfl, ?_⟩
      unfold lawFold
      rw [if_neg (by rw [hz]; exact Bool.false_ne_true)]
theorem ok_l_side (c_l_ring_side : Cal P w K mg base "_law_ring_side" 3 ["_law_deal_here", "_law_ring_here", "_law_point_here"] (spG K C R_l_ring_side)) (F : DefAt K mg "_law_side" ["_law_deal_here", "_law_plate", "_law_point_here"] s_l_side) : Cal P w K mg base "_law_side" 4 ["_law_deal_here", "_law_plate", "_law_point_here"] (spG K C R_l_side) :=
  F.okG sc_l_side ln_l_side (fun _ _ _ _ _ _ _ hr => bd_l_side c_l_ring_side hr) wk_l_side
end
end G
set_option Elab.async false
set_option linter.all false
set_option maxRecDepth 100000
namespace G
open PySem PySem.Spec L2
open Evl (Ex)
open PyProof.Rows (envOfC)
local macro_rules | `(tactic| walk_at "go") => `(tactic| repeat' (first
  | ((with_reducible refine' ew_v ?h ?k ?_); (case h => exact rfl); (case k => exact rfl))
  | with_reducible refine ew_int ?_
  | with_reducible refine ew_bl ?_
  | with_reducible refine ew_str ?_
  | with_reducible refine ew_non ?_
  | with_reducible refine ew_plus ?_
  | with_reducible refine ew_sub ?_
  | with_reducible refine ew_mul ?_
  | with_reducible refine ew_mulW ?_
  | with_reducible refine ew_fdiv ?_
  | with_reducible refine ew_mod ?_
  | with_reducible refine ew_ix ?_
  | with_reducible refine ew_lt ?_
  | with_reducible refine ew_le ?_
  | with_reducible refine ew_gt ?_
  | with_reducible refine ew_ge ?_
  | with_reducible refine ew_eqD ?_
  | with_reducible refine ew_neD ?_
  | with_reducible refine ew_neg ?_
  | with_reducible refine ew_tup ?_
  | with_reducible refine ew_lst ?_
  | with_reducible refine ew_len ?_
  | with_reducible refine ew_abs ?_
  | with_reducible refine ew_int1 ?_
  | with_reducible refine ew_gcd ?_
  | with_reducible refine ew_tupOf ?_
  | with_reducible refine ew_callP ?_
  | with_reducible refine ew_callG ?_
  | with_reducible refine ew_revL ?_
  | with_reducible refine ew_slice ?_
  | with_reducible refine ow_no ?_
  | with_reducible refine ow_some ?_
  | with_reducible refine ew_notV ?_
  | with_reducible refine ew_pow ?_
  | with_reducible refine aw_nil ?_
  | with_reducible refine aw_cons ?_
  | with_reducible refine onI2_mk ?_
  | with_reducible refine onI_mk ?_
  | with_reducible refine onB_mk ?_
  | with_reducible refine onD2_mk ?_
  | with_reducible refine onDat_mk ?_
  | with_reducible refine onL_mk ?_
  | with_reducible refine onTup_mk ?_
  | with_reducible refine onSeqT_mk ?_
  | with_reducible refine onSeqL_mk ?_
  | with_reducible refine onDs_nil ?_
  | with_reducible refine onDs_cons ?_
  | with_reducible refine onGDs_mk ?_
  | with_reducible refine on1_mk ?_
  | with_reducible refine on2_mk ?_
  | with_reducible refine plus_int ?_
  | with_reducible refine sq_tup ?_
  | with_reducible refine sq_lst ?_
  | with_reducible refine cut_tup ?_
  | with_reducible refine cut_lst ?_
  | ((with_reducible refine' ix_tup ?e ?_); (case e => first | exact rfl | assumption))
  | ((with_reducible refine' ix_lst ?e ?_); (case e => first | exact rfl | assumption))
  | ((with_reducible refine' And.intro (a := CMul _ _) ?c ?_); (case c => first | (refine mulL ⟨?_, ?_⟩ <;> omega) | (refine mulR ⟨?_, ?_⟩ <;> omega)))
  | ((with_reducible refine' And.intro (a := CMulW _ _) ?c ?_); (case c => assumption))
  | ((with_reducible refine' And.intro (a := 0 < _) ?c ?_); (case c => decide))
  | ((with_reducible refine' And.intro (a := List.length _ ≤ 100000) ?c ?_); (case c => exact Nat.le_of_ble_eq_true rfl))
  | ((with_reducible refine' And.intro (a := fit _ = true) ?c ?_); (case c => first | exact rfl | assumption))
  | with_reducible refine gw_nm ?_
  | ((with_reducible refine' gw_nmI ?h ?_); (case h => decide))
  | ((with_reducible refine' gw_tp ?h ?_); (case h => exact rfl))
  | with_reducible refine gsw_cons ?_
  | with_reducible refine gsw_nil ?_
  | with_reducible refine tw_tst ?_
  | with_reducible refine tw_b ?_
  | with_reducible refine tw_not ?_
  | with_reducible refine tw_yes ?_
  | with_reducible refine sw_seq ?_
  | with_reducible refine sw_ret ?_
  | with_reducible refine sw_asg ?_
  | with_reducible refine sw_par ?_
  | ((with_reducible refine' sw_aug ?h ?_); (case h => exact rfl))
  | with_reducible refine sw_next ?_
  | with_reducible refine sw_brk ?_
  | ((with_reducible refine' ew_andD ?h ?g ?_); (case h => (walk_at "go"; exact rfl)); (case g => (intro _; walk_at "go"; exact rfl)))
  | ((with_reducible refine' ew_orD ?h ?g ?_); (case h => (walk_at "go"; exact rfl)); (case g => (intro _; walk_at "go"; exact rfl)))
  | ((with_reducible refine' tw_and2 ?h ?g ?_); (case h => (walk_at "go"; exact rfl)); (case g => (intro _; walk_at "go"; exact rfl)))
  | ((with_reducible refine' tw_or2 ?h ?g ?_); (case h => (walk_at "go"; exact rfl)); (case g => (intro _; walk_at "go"; exact rfl)))
  | ((with_reducible refine' ew_chD ?h ?g ?k ?_); (case h => (walk_at "go"; exact rfl)); (case g => (walk_at "go"; exact rfl)); (case k => (walk_at "go"; exact rfl)))
  | ((with_reducible refine' ew_isiInt ?h ?_); (case h => (walk_at "go"; exact rfl)))
  | ((with_reducible refine' ew_isiBool ?h ?_); (case h => (walk_at "go"; exact rfl)))
  | ((with_reducible refine' ew_isiTup ?h ?_); (case h => (walk_at "go"; exact rfl)))))
section
variable {P : Program} {w : World} {K : PySem.W.Frag} {mg : Str → Option Value} {base : Heap} {C : Addr}

/-- what Euclid's loop keeps -/
structure Euc (g B i h l : Nat) : Prop where
  g : Nat.gcd h l = g
  a : l * 2 ^ (i / 2) ≤ B
  b : 1 ≤ i → l < h ∧ h * 2 ^ ((i - 1) / 2) ≤ B
theorem Euc.step {g B i h l : Nat} (e : Euc g B i h l) (hl : 0 < l) : Euc g B (i + 1) l (h % l) := by
  have m := Nat.mod_lt h hl
  refine ⟨?_, ?_, fun _ => ⟨m, by rw [Nat.add_sub_cancel]; exact e.a⟩⟩
  · rw [Nat.gcd_comm, ← Nat.gcd_rec, Nat.gcd_comm]
    exact e.g
  · by_cases hi : i % 2 = 0
    · have z : (i + 1) / 2 = i / 2 := by omega
      rw [z]
      exact Nat.le_trans (Nat.mul_le_mul_right _ (Nat.le_of_lt m)) e.a
    · obtain ⟨h1, h2⟩ := e.b (by omega)
      have z : (i + 1) / 2 = (i - 1) / 2 + 1 := by omega
      have d : (h % l) * 2 ≤ h := by
        have := Nat.mod_le (h - l) l
        rw [Nat.mod_eq_sub_mod (Nat.le_of_lt h1)] at m ⊢
        omega
      rw [z, Nat.pow_succ, Nat.mul_comm (2 ^ ((i - 1) / 2)) 2, ← Nat.mul_assoc]
      exact Nat.le_trans (Nat.mul_le_mul_right _ d) h2
theorem Euc.done {g B h l : Nat} (e : Euc g B 6000 h l) (hB : B < 2 ^ 30) : l = 0 := by
  have a := e.a
  cases l with
  | zero => rfl
  | succ l =>
    have h1 : 2 ^ 30 ≤ (l + 1) * 2 ^ (6000 / 2) := Nat.le_trans (Nat.pow_le_pow_right (by decide) (by decide)) (Nat.le_mul_of_pos_left _ (Nat.succ_pos _))
    exact absurd (Nat.lt_of_le_of_lt a hB) (Nat.not_lt.mpr h1)
def R_l_frac (ds : List Da) (Q : Da → Prop) : Prop := ∃ t b : Int, ds = [.int t, .int b] ∧ 0 < b ∧ b < 2 ^ 30 ∧ Q (dP (mkFr t b))
abbrev s_l_frac : Stmt := topS 72
abbrev n_l_frac : List Str := ["_law_top", "_law_bottom", "_law_high", "_law_low", "_law_turn"]
theorem sc_l_frac : FnScope n_l_frac ["_law_top", "_law_bottom"] (defScope s_l_frac) := ⟨rfl, rfl, rfl, by decide +kernel, rfl, by decide +kernel, by decide +kernel⟩
def t_l_frac (K : PySem.W.Frag) (C : Addr) : TS :=
  (tSeq (tPar 2 3 (tCons (tCB rAbs (tCons (tVar 0) tNil)) (tCons (tCB rAbs (tCons (tVar 1) tNil)) tNil)))
    (tSeq (tFor (iRng1 (tCons (tC (.int 6000)) tNil)) (gName 4)
    (tSeq (tIfS (tTest (tOp (rEqD K) (tVar 3) (tC (.int 0)))) tBreak tNext)
    (tPar 2 3 (tCons (tVar 3) (tCons (tOp (rI (fun _ j => 0 < j) fun i j => .int (i % j)) (tCB rInt1 (tCons (tVar 2) tNil)) (tVar 3)) tNil)))))
    (tSeq (tAsg (tIf (tTest (tOp (rI0 fun i j => .bl (decide (j < i))) (tVar 1) (tC (.int 0)))) (tVar 2) (tOp (rI0 fun i j => .int (i - j)) (tC (.int 0)) (tVar 2))) (gName 2))
    (tRet (tTup (tCons (tOp (rI CDiv fun i j => .int (i / j)) (tVar 0) (tVar 2)) (tCons (tOp (rI CDiv fun i j => .int (i / j)) (tVar 1) (tVar 2)) tNil)))))))
theorem bd_l_frac (m_abs : mg "abs" = none) (m_range : mg "range" = none) (m_int : mg "int" = none) {f : Addr} {cdv : Value} {A : Around} {outer : List PySem.Env} {s : Shared} {H : Hp} {E : XK} (hr : Room 0 (A.deeper (envOfC "_law_frac" (defScope s_l_frac) s.heap.objs.size f cdv))) :
    PSs (cxOf CX0 P w K mg base n_l_frac "_law_frac" (defScope s_l_frac) f cdv A outer s H E).nox (defBody s_l_frac) (t_l_frac K C) :=
  (pss_cons (ps_par (i := 2) (j := 3) (by rfl) sc_l_frac.nd rfl rfl (by decide) rfl rfl (pa_cons (pe_callB call_absG (by rfl) m_abs (by decide +kernel) (pa_cons (pv 0) pa_nil)) (pa_cons (pe_callB call_absG (by rfl) m_abs (by decide +kernel) (pa_cons (pv 1) pa_nil)) pa_nil)) (by rfl))
    (pss_cons (ps_for PassesOwn.never rfl (pi_range1 (by rfl) m_range (pa_cons pe_int pa_nil)) (pg_name (i := 4) sc_l_frac.nd rfl (Or.inl rfl))
    (pss_cons (ps_if (pt_cmpR (op_eqD hr.units) (pv 3) pe_int (nomark _)) (pss_one ps_break) pss_nil)
    (pss_one (ps_par (i := 2) (j := 3) (by rfl) sc_l_frac.nd rfl rfl (by decide) rfl rfl (pa_cons (pv 3) (pa_cons (pe_op op_mod (pe_callTy call_int1G (by rfl) m_int (by decide +kernel) (pa_cons (pv 2) pa_nil)) (pv 3)) pa_nil)) (by rfl)))))
    (pss_cons (ps_set (i := 2) sc_l_frac.nd rfl (Or.inl rfl) (pe_ifExp (pt_cmpR op_gt (pv 1) pe_int (nomark _)) (pv 2) (pe_op op_sub pe_int (pv 2))))
    (pss_one (ps_ret (pe_tup (pa_cons (pe_op op_fdiv (pv 0) (pv 2)) (pa_cons (pe_op op_fdiv (pv 1) (pv 2)) pa_nil))))))))
theorem ln_l_frac : ∀ ds Q, R_l_frac ds Q → ds.length = 2 := fun ds Q ⟨_, _, e, _⟩ => by rw [e]; rfl
theorem abs_nat (i : Int) : (if i < 0 then -i else i) = (i.natAbs : Int) := by split <;> omega
theorem wk_l_frac : ∀ ds Q, R_l_frac ds Q → SW ⟨K, C, none⟩ (t_l_frac K C) (init ds 3) ⟨fun _ => Q .non, Q, fun _ => False, fun _ => False⟩ := by
  rintro _ Q ⟨t, b, rfl, b0, b1, q⟩
  have rest : ∀ x, SW ⟨K, C, none⟩ (tSeq (tAsg (tIf (tTest (tOp (rI0 fun i j => .bl (decide (j < i))) (tVar 1) (tC (.int 0)))) (tVar 2) (tOp (rI0 fun i j => .int (i - j)) (tC (.int 0)) (tVar 2))) (gName 2))
    (tRet (tTup (tCons (tOp (rI CDiv fun i j => .int (i / j)) (tVar 0) (tVar 2)) (tCons (tOp (rI CDiv fun i j => .int (i / j)) (tVar 1) (tVar 2)) tNil))))) ⟨[.dat (.int t), .dat (.int b), .dat (.int ((Nat.gcd t.natAbs b.natAbs : Nat) : Int)), .dat (.int 0), x], none⟩ ⟨fun _ => Q .non, Q, fun _ => False, fun _ => False⟩ := by
    intro x
    have g0 : 0 < Nat.gcd t.natAbs b.natAbs := Nat.gcd_pos_of_pos_right _ (by omega)
    have g1 : Nat.gcd t.natAbs b.natAbs ≤ b.natAbs := Nat.gcd_le_right _ (by omega)
    have cd : ∀ i, CDiv i ((Nat.gcd t.natAbs b.natAbs : Nat) : Int) := fun i => ⟨by omega, by omega⟩
    refine sw_seq (sw_asg (ew_ifD (b := true) ?_ (fun _ => ?_) fun z => nomatch z))
    · walk_at "go"
      exact decide_eq_true b0
    · walk_at "go"
      refine ⟨cd _, ?_⟩
      walk_at "go"
      refine ⟨cd _, ?_⟩
      walk_at "go"
      unfold mkFr at q
      rw [if_neg (by omega)] at q
      exact q
  unfold t_l_frac
  refine sw_seq (sw_par ?_)
  walk_at "go"
  rw [abs_nat, abs_nat]
  refine sw_forM (List.range 6000) (fun (m : Nat) => .int (0 + (m : Nat))) (iw_r1 (n := 6000) (by walk_at "go"; rfl) ⟨by decide, by decide⟩) (fun pre A' => ∃ x u v h l, A' = ⟨[.dat (.int t), .dat (.int b), .dat (.int u), .dat (.int v), x], none⟩ ∧ u = ((h : Nat) : Int) ∧ v = ((l : Nat) : Int) ∧ Euc (Nat.gcd t.natAbs b.natAbs) b.natAbs pre.length h l) ⟨_, _, _, _, _, rfl, rfl, rfl, ⟨rfl, by simp, fun z => absurd z (by decide)⟩⟩ ?tn ?fn
  case fn =>
    rintro _ ⟨x, _, _, h, l, rfl, rfl, rfl, e⟩
    rw [List.length_range] at e
    have hl := e.done (by omega)
    subst hl
    have hg : h = Nat.gcd t.natAbs b.natAbs := by rw [← e.g, Nat.gcd_zero_right]
    rw [hg]
    exact rest x
  case tn =>
    rintro pre m post _ hs ⟨x, _, _, h, l, rfl, rfl, rfl, e⟩
    refine gw_nm (sw_seq (sw_ifD (b := ((l : Int) == 0)) (by walk_at "go"; rfl) (fun hz => ?_) fun hz => sw_next ?_))
    · have hl : l = 0 := by
        have : (l : Int) = 0 := by simpa using hz
        omega
      subst hl
      have hg : h = Nat.gcd t.natAbs b.natAbs := by rw [← e.g, Nat.gcd_zero_right]
      rw [hg]
      refine sw_brk ?_
      exact rest _
    · have hl : 0 < l := by
        have : ¬ (l : Int) = 0 := by simpa using hz
        omega
      refine sw_par ?_
      walk_at "go"
      refine ⟨by omega, ?_⟩
      walk_at "go"
      refine ⟨_, _, _, l, h % l, rfl, rfl, ?_, ?_⟩
      · rw [Int.natCast_emod]
      · rw [List.length_append]
        exact e.step hl
theorem ok_l_frac (m_abs : mg "abs" = none) (m_range : mg "range" = none) (m_int : mg "int" = none) (F : DefAt K mg "_law_frac" ["_law_top", "_law_bottom"] s_l_frac) : Cal P w K mg base "_law_frac" 1 ["_law_top", "_law_bottom"] (spP K C R_l_frac) :=
  F.okP sc_l_frac ln_l_frac (fun _ _ _ _ _ _ _ hr => bd_l_frac m_abs m_range m_int hr) wk_l_frac
/-- the sides as the law counts them: number, ends -/
def hitsOne (f : Int) (r : List Pt) : List (Int × Pt × Pt) := (List.range r.length).map fun (i : Nat) => (f + (i : Int), cg r i, cg r ((i : Int) + 1))
def hits : Int → List (List Pt) → List (Int × Pt × Pt)
  | _, [] => []
  | f, r :: rs => hitsOne f r ++ hits (f + r.length) rs
theorem hits_app : ∀ (rs ss : List (List Pt)) (f : Int), hits f (rs ++ ss) = hits f rs ++ hits (f + (rs.flatten.length : Int)) ss
  | [], ss, f => by
    show hits f ss = hits (f + ((0 : Nat) : Int)) ss
    simp
  | r :: rs, ss, f => by
    show hitsOne f r ++ hits (f + r.length) (rs ++ ss) = hitsOne f r ++ hits (f + r.length) rs ++ hits _ ss
    rw [hits_app rs ss, List.flatten_cons, List.length_append, List.append_assoc]
    congr 3
    omega
def hitOn (p : FP) (e : Int × Pt × Pt) : Bool := lawOn (scl [e.2.1, e.2.2] p) (spot p)
def lawWhereD (o : List Pt) (hs : List (List Pt)) (p : FP) (s : Int) : Da :=
  match (List.range (o :: hs).flatten.length).find? (cornerIs (o :: hs).flatten p) with
  | some i => .tup [.str "corner", .int (i : Nat)]
  | none => match (hits 0 (o :: hs)).find? (hitOn p) with
    | some e => .tup [.str "side", .int e.1]
    | none => if s = 1 then .tup [.str "inside"] else .tup [.str "outside"]
theorem cg_mod (r : List Pt) (z : Int) : cg r (z % r.length) = cg r z := by
  unfold cg
  rw [Int.emod_emod]
def R_l_where (ds : List Da) (Q : Da → Prop) : Prop := ∃ o hs p s, ds = [.tup [dR o, dHs hs], dR (o :: hs).flatten, dFP p, .int s] ∧ PlB o hs ∧ PtS p ∧ Q (lawWhereD o hs p s)
abbrev s_l_where : Stmt := topS 74
abbrev n_l_where : List Str := ["_law_plate", "_law_corners", "_law_point_here", "_law_side_here", "_law_at", "_law_first", "_law_ring_here", "_law_part", "_law_spot"]
theorem sc_l_where : FnScope n_l_where ["_law_plate", "_law_corners", "_law_point_here", "_law_side_here"] (defScope s_l_where) := ⟨rfl, rfl, rfl, by decide +kernel, rfl, by decide +kernel, by decide +kernel⟩
def t_l_where (K : PySem.W.Frag) (C : Addr) : TS :=
  (tSeq (tFor (iRng1 (tCons (tCB (rLen K) (tCons (tVar 1) tNil)) tNil)) (gName 4)
    (tIfS (tTest (tOp (rEqD K) (tTup (tCons (tTup (tCons (tOp (rIx K) (tOp (rIx K) (tVar 1) (tVar 4)) (tC (.int 0))) (tCons (tC (.int 1)) tNil))) (tCons (tTup (tCons (tOp (rIx K) (tOp (rIx K) (tVar 1) (tVar 4)) (tC (.int 1))) (tCons (tC (.int 1)) tNil))) tNil))) (tVar 2))) (tRet (tTup (tCons (tC (.str "corner")) (tCons (tVar 4) tNil)))) tNext))
    (tSeq (tAsg (tC (.int 0)) (gName 5))
    (tSeq (tFor (iSeq K (tOp (rPlus K) (tTup (tCons (tOp (rIx K) (tVar 0) (tC (.int 0))) tNil)) (tOp (rIx K) (tVar 0) (tC (.int 1))))) (gName 6)
    (tSeq (tFor (iRng1 (tCons (tCB (rLen K) (tCons (tVar 6) tNil)) tNil)) (gName 4)
    (tSeq (tAsg (tCall (spP K C R_l_scaled) [] E0 (tCons (tLst (tCons (tOp (rIx K) (tVar 6) (tVar 4)) (tCons (tOp (rIx K) (tVar 6) (tOp (rI (fun _ j => 0 < j) fun i j => .int (i % j)) (tCB rInt1 (tCons (tOp (rPlus K) (tVar 4) (tC (.int 1))) tNil)) (tCB (rLen K) (tCons (tVar 6) tNil)))) tNil))) (tCons (tVar 2) tNil))) (gTup K 2 (gCons (gName 7) (gCons (gName 8) gNil))))
    (tIfS (tB (tCall (spP K C R_l_on) [] E0 (tCons (tVar 7) (tCons (tVar 8) tNil)))) (tRet (tTup (tCons (tC (.str "side")) (tCons (tOp (rPlus K) (tVar 5) (tVar 4)) tNil)))) tNext)))
    (tAsg (tOp (rPlus K) (tVar 5) (tCB (rLen K) (tCons (tVar 6) tNil))) (gName 5))))
    (tRet (tIf (tTest (tOp (rEqD K) (tVar 3) (tC (.int 1)))) (tTup (tCons (tC (.str "inside")) tNil)) (tTup (tCons (tC (.str "outside")) tNil)))))))
theorem bd_l_where (c_l_scaled : Cal P w K mg base "_law_scaled" 1 ["_law_ring_here", "_law_point_here"] (spP K C R_l_scaled)) (c_l_on : Cal P w K mg base "_law_on" 1 ["_law_ring_here", "_law_spot"] (spP K C R_l_on)) (m_len : mg "len" = none) (m_range : mg "range" = none) (m_int : mg "int" = none) {f : Addr} {cdv : Value} {A : Around} {outer : List PySem.Env} {s : Shared} {H : Hp} {E : XK} (hr : Room 1 (A.deeper (envOfC "_law_where" (defScope s_l_where) s.heap.objs.size f cdv))) :
    PSs (cxOf CX0 P w K mg base n_l_where "_law_where" (defScope s_l_where) f cdv A outer s H E).nox (defBody s_l_where) (t_l_where K C) :=
  (pss_cons (ps_for PassesOwn.never rfl (pi_range1 (by rfl) m_range (pa_cons (pe_callB call_lenG (by rfl) m_len PySem.boot_len (pa_cons (pv 1) pa_nil)) pa_nil)) (pg_name (i := 4) sc_l_where.nd rfl (Or.inl rfl))
    (pss_one (ps_if (pt_cmpR (op_eqD hr.units) (pe_tup (pa_cons (pe_tup (pa_cons (pe_ix ix_seq (pe_ix ix_seq (pv 1) (pv 4) (fun _ _ => rfl)) pe_int (fun _ _ => rfl)) (pa_cons pe_int pa_nil))) (pa_cons (pe_tup (pa_cons (pe_ix ix_seq (pe_ix ix_seq (pv 1) (pv 4) (fun _ _ => rfl)) pe_int (fun _ _ => rfl)) (pa_cons pe_int pa_nil))) pa_nil))) (pv 2) (nomark _)) (pss_one (ps_ret (pe_tup (pa_cons pe_str (pa_cons (pv 4) pa_nil))))) pss_nil)))
    (pss_cons (ps_set (i := 5) sc_l_where.nd rfl (Or.inl rfl) pe_int)
    (pss_cons (ps_for PassesOwn.never rfl (pi_seq (pe_op op_plus (pe_tup (pa_cons (pe_ix ix_seq (pv 0) pe_int (fun _ _ => rfl)) pa_nil)) (pe_ix ix_seq (pv 0) pe_int (fun _ _ => rfl)))) (pg_name (i := 6) sc_l_where.nd rfl (Or.inl rfl))
    (pss_cons (ps_for PassesOwn.never rfl (pi_range1 (by rfl) m_range (pa_cons (pe_callB call_lenG (by rfl) m_len PySem.boot_len (pa_cons (pv 6) pa_nil)) pa_nil)) (pg_name (i := 4) sc_l_where.nd rfl (Or.inl rfl))
    (pss_cons (ps_asg (pe_callC c_l_scaled (hr.mono (by decide)) (by rfl) (pa_cons (pe_lst (pa_cons (pe_ix ix_seq (pv 6) (pv 4) (fun _ _ => rfl)) (pa_cons (pe_ix ix_seq (pv 6) (pe_op op_mod (pe_callTy call_int1G (by rfl) m_int (by decide +kernel) (pa_cons (pe_op op_plus (pv 4) pe_int) pa_nil)) (pe_callB call_lenG (by rfl) m_len PySem.boot_len (pa_cons (pv 6) pa_nil))) (fun _ _ => rfl)) pa_nil))) (pa_cons (pv 2) pa_nil))) (pg_tup (by rfl) (pgs_cons (pg_name (i := 7) sc_l_where.nd rfl (Or.inl rfl)) (pgs_cons (pg_name (i := 8) sc_l_where.nd rfl (Or.inl rfl)) pgs_nil))))
    (pss_one (ps_if (pt_val (pe_callC c_l_on (hr.mono (by decide)) (by rfl) (pa_cons (pv 7) (pa_cons (pv 8) pa_nil)))) (pss_one (ps_ret (pe_tup (pa_cons pe_str (pa_cons (pe_op op_plus (pv 5) (pv 4)) pa_nil))))) pss_nil))))
    (pss_one (ps_set (i := 5) sc_l_where.nd rfl (Or.inl rfl) (pe_op op_plus (pv 5) (pe_callB call_lenG (by rfl) m_len PySem.boot_len (pa_cons (pv 6) pa_nil)))))))
    (pss_one (ps_ret (pe_ifExp (pt_cmpR (op_eqD hr.units) (pv 3) pe_int (nomark _)) (pe_tup (pa_cons pe_str pa_nil)) (pe_tup (pa_cons pe_str pa_nil))))))))
theorem ln_l_where : ∀ ds Q, R_l_where ds Q → ds.length = 4 := fun ds Q ⟨_, _, _, _, e, _⟩ => by rw [e]; rfl
theorem wk_l_where : ∀ ds Q, R_l_where ds Q → SW ⟨K, C, none⟩ (t_l_where K C) (init ds 5) ⟨fun _ => Q .non, Q, fun _ => False, fun _ => False⟩ := by
  rintro _ Q ⟨o, hs, p, s, rfl, pb, hp, q⟩
  have hf := pb.flat
  have hln := pb.ln
  unfold lawWhereD at q
  unfold t_l_where
  have hcs : (o :: hs).flatten = (o :: hs).flatten := rfl
  generalize (o :: hs).flatten = cs at q hf hcs ⊢
  refine sw_seq (sw_forM (List.range cs.length) (fun (m : Nat) => .int (0 + (m : Nat))) (iw_r1 (n := (cs.length : Int)) (by walk_at "go"; rw [List.length_map]) ⟨by omega, by omega⟩) (fun pre A' => ∃ x4 x5 x6 x7 x8, A' = ⟨[.dat (.tup [dR o, dHs hs]), .dat (dR cs), .dat (dFP p), .dat (.int s), x4, x5, x6, x7, x8], none⟩ ∧ ∀ i, i ∈ pre → cornerIs cs p i = false) ⟨_, _, _, _, _, rfl, (fun _ z => nomatch z)⟩ ?tn ?fn)
  case tn =>
    rintro pre m post _ he ⟨x4, x5, x6, x7, x8, rfl, hn⟩
    obtain ⟨hpl, hm⟩ := range_split he
    have cgm : cg cs (0 + (m : Int)) = cg cs m := by rw [Int.zero_add]
    refine gw_nm (sw_ifD (b := cornerIs cs p m) ?_ (fun hb => ?_) fun hb => sw_next ?_)
    · walk_at "go"
      refine ix_tup (atI_cg (by omega) (by omega)) ?_
      walk_at "go"
      refine ix_tup (atI_cg (by omega) (by omega)) ?_
      rw [cgm]
      walk_at "go"
      exact eqv_fp (((cg cs (m : Int)).1, 1), ((cg cs (m : Int)).2, 1)) p
    · walk_at "go"
      rw [he, find_here hn hb] at q
      rw [Int.zero_add]
      exact q
    · exact ⟨_, _, _, _, _, rfl, fun i hi => by
        rcases List.mem_append.mp hi with h | h
        · exact hn i h
        · rw [List.mem_singleton.mp h]; exact hb⟩
  case fn =>
    rintro _ ⟨x4, x5, x6, x7, x8, rfl, hn⟩
    rw [find_no hn] at q
    have q : Q (match (hits 0 (o :: hs)).find? (hitOn p) with
      | some e => .tup [.str "side", .int e.1]
      | none => if s = 1 then .tup [.str "inside"] else .tup [.str "outside"]) := q
    refine sw_seq (sw_asg ?_)
    walk_at "go"
    refine sw_forM (o :: hs) dR (iw_sqT ?w) (fun pre A' => ∃ x4 x6 x7 x8 n, A' = ⟨[.dat (.tup [dR o, dHs hs]), .dat (dR cs), .dat (dFP p), .dat (.int s), x4, .dat (.int n), x6, x7, x8], none⟩ ∧ n = (pre.flatten.length : Int) ∧ ∀ e, e ∈ hits 0 pre → hitOn p e = false) ⟨_, _, _, _, _, rfl, rfl, (fun _ z => nomatch z)⟩ ?tn2 ?fn2
    case w =>
      walk_at "go"
      refine plus_tup (by simp; omega) ?_
      rfl
    case fn2 =>
      rintro _ ⟨x4, x6, x7, x8, n, rfl, _, hn2⟩
      rw [find_no hn2] at q
      have q : Q (if s = 1 then .tup [.str "inside"] else .tup [.str "outside"]) := q
      refine sw_ret (ew_ifD (b := s == 1) (by walk_at "go"; rfl) (fun hz => ?_) fun hz => ?_)
      · walk_at "go"
        rw [if_pos (by simpa using hz)] at q
        exact q
      · walk_at "go"
        rw [if_neg (by simpa using hz)] at q
        exact q
    case tn2 =>
      rintro pre r post _ he ⟨x4, x6, x7, x8, n, rfl, rfl, hn2⟩
      have hr : r ∈ o :: hs := by rw [he]; exact List.mem_append_right _ List.mem_cons_self
      have l1 := (pb.ne r hr).2
      have h0 := (pb.ne r hr).1
      have hpos := List.length_pos_iff.mpr h0
      have rsm : ∀ z, Sm (cg r z) := fun z => pb.s hr (cg_mem z h0)
      have hall : hits 0 (o :: hs) = hits 0 pre ++ (hitsOne (pre.flatten.length : Int) r ++ hits ((pre.flatten.length : Int) + r.length) post) := by
        rw [he, hits_app, Int.zero_add]
        rfl
      refine gw_nm (sw_seq (sw_forM (List.range r.length) (fun (m : Nat) => .int (0 + (m : Nat))) (iw_r1 (n := (r.length : Int)) (by walk_at "go"; rw [List.length_map]) ⟨by omega, by omega⟩) (fun pre2 A' => ∃ x4 x7 x8, A' = ⟨[.dat (.tup [dR o, dHs hs]), .dat (dR cs), .dat (dFP p), .dat (.int s), x4, .dat (.int (pre.flatten.length : Int)), .dat (dR r), x7, x8], none⟩ ∧ ∀ i : Nat, i ∈ pre2 → hitOn p ((pre.flatten.length : Int) + (i : Int), cg r i, cg r ((i : Int) + 1)) = false) ⟨_, _, _, rfl, (fun _ z => nomatch z)⟩ ?tn3 ?fn3))
      case fn3 =>
        rintro _ ⟨x4, x7, x8, rfl, hn3⟩
        walk_at "go"
        refine ⟨_, _, _, _, _, rfl, ?_, fun e hem => ?_⟩
        · rw [List.flatten_append, List.length_append, List.length_map]
          simp
        · rw [hits_app, Int.zero_add] at hem
          rcases List.mem_append.mp hem with h | h
          · exact hn2 e h
          · have h : e ∈ hitsOne (pre.flatten.length : Int) r ++ [] := h
            rw [List.append_nil] at h
            obtain ⟨i, hi, rfl⟩ := List.mem_map.mp h
            exact hn3 i hi
      case tn3 =>
        rintro pre2 m post2 _ he2 ⟨x4, x7, x8, rfl, hn3⟩
        obtain ⟨hpl, hm⟩ := range_split he2
        have cgm : cg r (0 + (m : Int)) = cg r m := by rw [Int.zero_add]
        have cgm1 : cg r ((0 + (m : Int) + 1) % (r.length : Int)) = cg r ((m : Int) + 1) := by rw [Int.zero_add, cg_mod]
        have nn := Int.emod_nonneg (0 + (m : Int) + 1) (b := (r.length : Int)) (by omega)
        have nl := Int.emod_lt_of_pos (0 + (m : Int) + 1) (b := (r.length : Int)) (by omega)
        refine gw_nm (sw_seq (sw_asg ?_))
        walk_at "go"
        refine ix_tup (atI_cg (by omega) (by omega)) ?_
        walk_at "go"
        rw [List.length_map]
        refine ⟨by omega, ?_⟩
        refine ix_tup (atI_cg (by omega) (by omega)) ?_
        rw [cgm, cgm1]
        walk_at "go"
        refine ⟨[cg r m, cg r ((m : Int) + 1)], p, .inr rfl, by show 2 ≤ 1000; decide, fun c hc => ?_, hp, ?_⟩
        · simp only [List.mem_cons, List.not_mem_nil, or_false] at hc
          rcases hc with rfl | rfl <;> exact rsm _
        walk_at "go"
        refine sw_ifD (b := hitOn p ((pre.flatten.length : Int) + (m : Int), cg r m, cg r ((m : Int) + 1))) ?_ (fun hb => ?_) fun hb => sw_next ?_
        · walk_at "go"
          refine ⟨_, _, rfl, by show 2 ≤ 1000; decide, fun c hc => hp.scl (r := [cg r m, cg r ((m : Int) + 1)]) (fun c hc => ?_) hc, hp.bg, ?_⟩
          · simp only [List.mem_cons, List.not_mem_nil, or_false] at hc
            rcases hc with rfl | rfl <;> exact rsm _
          walk_at "go"
          rfl
        · walk_at "go"
          have sp : hitsOne (pre.flatten.length : Int) r = pre2.map (fun (i : Nat) => ((pre.flatten.length : Int) + (i : Int), cg r i, cg r ((i : Int) + 1))) ++ ((pre.flatten.length : Int) + (m : Int), cg r m, cg r ((m : Int) + 1)) :: post2.map (fun (i : Nat) => ((pre.flatten.length : Int) + (i : Int), cg r i, cg r ((i : Int) + 1))) := by
            unfold hitsOne
            rw [he2, List.map_append, List.map_cons]
          rw [hall, sp, List.append_assoc, List.cons_append, ← List.append_assoc, find_here (fun e he => ?_) hb] at q
          · rw [Int.zero_add]
            exact q
          · rcases List.mem_append.mp he with h | h
            · exact hn2 e h
            · obtain ⟨i, hi, rfl⟩ := List.mem_map.mp h
              exact hn3 i hi
        · exact ⟨_, _, _, rfl, fun i hi => by
            rcases List.mem_append.mp hi with h | h
            · exact hn3 i h
            · rw [List.mem_singleton.mp h]; exact hb⟩
theorem ok_l_where (c_l_scaled : Cal P w K mg base "_law_scaled" 1 ["_law_ring_here", "_law_point_here"] (spP K C R_l_scaled)) (c_l_on : Cal P w K mg base "_law_on" 1 ["_law_ring_here", "_law_spot"] (spP K C R_l_on)) (m_len : mg "len" = none) (m_range : mg "range" = none) (m_int : mg "int" = none) (F : DefAt K mg "_law_where" ["_law_plate", "_law_corners", "_law_point_here", "_law_side_here"] s_l_where) : Cal P w K mg base "_law_where" 2 ["_law_plate", "_law_corners", "_law_point_here", "_law_side_here"] (spP K C R_l_where) :=
  F.okP sc_l_where ln_l_where (fun _ _ _ _ _ _ _ hr => bd_l_where c_l_scaled c_l_on m_len m_range m_int hr) wk_l_where
end
end G
set_option Elab.async false
set_option linter.all false
set_option maxRecDepth 100000
namespace G
open PySem PySem.Spec L2
open Evl (Ex)
open PyProof.Rows (envOfC)
local macro_rules | `(tactic| walk_at "go") => `(tactic| repeat' (first
  | ((with_reducible refine' ew_v ?h ?k ?_); (case h => exact rfl); (case k => exact rfl))
  | with_reducible refine ew_int ?_
  | with_reducible refine ew_bl ?_
  | with_reducible refine ew_str ?_
  | with_reducible refine ew_non ?_
  | with_reducible refine ew_plus ?_
  | with_reducible refine ew_sub ?_
  | with_reducible refine ew_mul ?_
  | with_reducible refine ew_mulW ?_
  | with_reducible refine ew_fdiv ?_
  | with_reducible refine ew_mod ?_
  | with_reducible refine ew_ix ?_
  | with_reducible refine ew_lt ?_
  | with_reducible refine ew_le ?_
  | with_reducible refine ew_gt ?_
  | with_reducible refine ew_ge ?_
  | with_reducible refine ew_eqD ?_
  | with_reducible refine ew_neD ?_
  | with_reducible refine ew_neg ?_
  | with_reducible refine ew_tup ?_
  | with_reducible refine ew_lst ?_
  | with_reducible refine ew_len ?_
  | with_reducible refine ew_abs ?_
  | with_reducible refine ew_int1 ?_
  | with_reducible refine ew_gcd ?_
  | with_reducible refine ew_tupOf ?_
  | with_reducible refine ew_callP ?_
  | with_reducible refine ew_callG ?_
  | with_reducible refine ew_revL ?_
  | with_reducible refine ew_slice ?_
  | with_reducible refine ow_no ?_
  | with_reducible refine ow_some ?_
  | with_reducible refine ew_notV ?_
  | with_reducible refine ew_pow ?_
  | with_reducible refine aw_nil ?_
  | with_reducible refine aw_cons ?_
  | with_reducible refine onI2_mk ?_
  | with_reducible refine onI_mk ?_
  | with_reducible refine onB_mk ?_
  | with_reducible refine onD2_mk ?_
  | with_reducible refine onDat_mk ?_
  | with_reducible refine onL_mk ?_
  | with_reducible refine onTup_mk ?_
  | with_reducible refine onSeqT_mk ?_
  | with_reducible refine onSeqL_mk ?_
  | with_reducible refine onDs_nil ?_
  | with_reducible refine onDs_cons ?_
  | with_reducible refine onGDs_mk ?_
  | with_reducible refine on1_mk ?_
  | with_reducible refine on2_mk ?_
  | with_reducible refine plus_int ?_
  | with_reducible refine sq_tup ?_
  | with_reducible refine sq_lst ?_
  | with_reducible refine cut_tup ?_
  | with_reducible refine cut_lst ?_
  | ((with_reducible refine' ix_tup ?e ?_); (case e => first | exact rfl | assumption))
  | ((with_reducible refine' ix_lst ?e ?_); (case e => first | exact rfl | assumption))
  | ((with_reducible refine' And.intro (a := CMul _ _) ?c ?_); (case c => first | (refine mulL ⟨?_, ?_⟩ <;> omega) | (refine mulR ⟨?_, ?_⟩ <;> omega)))
  | ((with_reducible refine' And.intro (a := CMulW _ _) ?c ?_); (case c => assumption))
  | ((with_reducible refine' And.intro (a := 0 < _) ?c ?_); (case c => decide))
  | ((with_reducible refine' And.intro (a := List.length _ ≤ 100000) ?c ?_); (case c => exact Nat.le_of_ble_eq_true rfl))
  | ((with_reducible refine' And.intro (a := fit _ = true) ?c ?_); (case c => first | exact rfl | assumption))
  | with_reducible refine gw_nm ?_
  | ((with_reducible refine' gw_nmI ?h ?_); (case h => decide))
  | ((with_reducible refine' gw_tp ?h ?_); (case h => exact rfl))
  | with_reducible refine gsw_cons ?_
  | with_reducible refine gsw_nil ?_
  | with_reducible refine tw_tst ?_
  | with_reducible refine tw_b ?_
  | with_reducible refine tw_not ?_
  | with_reducible refine tw_yes ?_
  | with_reducible refine sw_seq ?_
  | with_reducible refine sw_ret ?_
  | with_reducible refine sw_asg ?_
  | with_reducible refine sw_par ?_
  | ((with_reducible refine' sw_aug ?h ?_); (case h => exact rfl))
  | with_reducible refine sw_next ?_
  | with_reducible refine sw_brk ?_
  | ((with_reducible refine' ew_andD ?h ?g ?_); (case h => (walk_at "go"; exact rfl)); (case g => (intro _; walk_at "go"; exact rfl)))
  | ((with_reducible refine' ew_orD ?h ?g ?_); (case h => (walk_at "go"; exact rfl)); (case g => (intro _; walk_at "go"; exact rfl)))
  | ((with_reducible refine' tw_and2 ?h ?g ?_); (case h => (walk_at "go"; exact rfl)); (case g => (intro _; walk_at "go"; exact rfl)))
  | ((with_reducible refine' tw_or2 ?h ?g ?_); (case h => (walk_at "go"; exact rfl)); (case g => (intro _; walk_at "go"; exact rfl)))
  | ((with_reducible refine' ew_chD ?h ?g ?k ?_); (case h => (walk_at "go"; exact rfl)); (case g => (walk_at "go"; exact rfl)); (case k => (walk_at "go"; exact rfl)))
  | ((with_reducible refine' ew_isiInt ?h ?_); (case h => (walk_at "go"; exact rfl)))
  | ((with_reducible refine' ew_isiBool ?h ?_); (case h => (walk_at "go"; exact rfl)))
  | ((with_reducible refine' ew_isiTup ?h ?_); (case h => (walk_at "go"; exact rfl)))))
section
variable {P : Program} {w : World} {K : PySem.W.Frag} {mg : Str → Option Value} {base : Heap} {C : Addr}

theorem mkFr_S {t b : Int} (h0 : 0 < b) (h1 : b < 2 ^ 30) (ht : t.natAbs < 2 ^ 60) : 0 < (mkFr t b).2 ∧ (mkFr t b).2 < 2 ^ 30 ∧ -(2 ^ 60) < (mkFr t b).1 ∧ (mkFr t b).1 < 2 ^ 60 := by
  obtain ⟨a, b', c, _⟩ := mkFr_B (t := t) (b := b) (by omega)
  omega
/-- how high the bottoms of a drawn point go -/
structure PtL (p : FP) : Prop where
  s : PtS p
  a : p.1.2 ≤ 300
  b : p.2.2 ≤ 300
def R_l_point (ds : List Da) (Q : Da → Prop) : Prop := ∃ r, ds = [dR r] ∧ r ≠ [] ∧ r.length ≤ 1000 ∧ (∀ c, c ∈ r → Mid c) ∧ ∀ p, PtS p → Q (dFP p)
abbrev s_l_point : Stmt := topS 73
abbrev n_l_point : List Str := ["_law_deal_here", "_law_corners", "_law_kind", "_law_at", "_law_a", "_law_b", "_law_top", "_law_bottom", "_law_more_here", "_law_right", "_law_low", "_law_high", "_law_down", "_law_up", "_law_corner"]
theorem sc_l_point : FnScope n_l_point ["_law_deal_here", "_law_corners"] (defScope s_l_point) := ⟨rfl, rfl, rfl, by decide +kernel, rfl, by decide +kernel, by decide +kernel⟩
def t_l_point (K : PySem.W.Frag) (C : Addr) : TS :=
  (tSeq (tPar 2 3 (tCons (tCall (spG K C R_l_any) [] E0 (tCons (tVar 0) (tCons (tC (.int 6)) tNil))) (tCons (tCall (spG K C R_l_any) [] E0 (tCons (tVar 0) (tCons (tCB (rLen K) (tCons (tVar 1) tNil)) tNil))) tNil)))
    (tSeq (tPar 4 5 (tCons (tOp (rIx K) (tVar 1) (tOp (rI0 fun i j => .int (i - j)) (tVar 3) (tC (.int 1)))) (tCons (tOp (rIx K) (tVar 1) (tVar 3)) tNil)))
    (tSeq (tPar 6 7 (tCons (tCall (spG K C R_l_any) [] E0 (tCons (tVar 0) (tCons (tC (.int 8)) tNil))) (tCons (tOp (rPlus K) (tC (.int 1)) (tCall (spG K C R_l_any) [] E0 (tCons (tVar 0) (tCons (tC (.int 7)) tNil)))) tNil)))
    (tSeq (tIfS (tTest (tOp (rEqD K) (tVar 2) (tC (.int 0)))) (tRet (tTup (tCons (tTup (tCons (tOp (rIx K) (tVar 5) (tC (.int 0))) (tCons (tC (.int 1)) tNil))) (tCons (tTup (tCons (tOp (rIx K) (tVar 5) (tC (.int 1))) (tCons (tC (.int 1)) tNil))) tNil)))) tNext)
    (tSeq (tIfS (tTest (tOp (rI0 fun i j => .bl (decide (i < j))) (tVar 2) (tC (.int 3)))) (tSeq (tAsg (tIf (tTest (tOp (rEqD K) (tVar 2) (tC (.int 1)))) (tC (.int 0)) (tOp (rI0 fun i j => .int (i - j)) (tC (.int 1)) (tOp (rI CMul fun i j => .int (i * j)) (tC (.int 2)) (tCall (spG K C R_l_any) [] E0 (tCons (tVar 0) (tCons (tC (.int 2)) tNil)))))) (gName 8))
    (tSeq (tAsg (tCall (spP K C R_l_frac) [] E0 (tCons (tOp (rPlus K) (tOp (rI CMul fun i j => .int (i * j)) (tOp (rIx K) (tVar 4) (tC (.int 0))) (tOp (rI0 fun i j => .int (i - j)) (tC (.int 7)) (tVar 6))) (tOp (rI CMul fun i j => .int (i * j)) (tOp (rIx K) (tVar 5) (tC (.int 0))) (tVar 6))) (tCons (tC (.int 7)) tNil))) (gName 9))
    (tRet (tTup (tCons (tVar 9) (tCons (tCall (spP K C R_l_frac) [] E0 (tCons (tOp (rPlus K) (tOp (rI CMul fun i j => .int (i * j)) (tC (.int 7)) (tVar 8)) (tOp (rI CMul fun i j => .int (i * j)) (tC (.int 40)) (tOp (rPlus K) (tOp (rI CMul fun i j => .int (i * j)) (tOp (rIx K) (tVar 4) (tC (.int 1))) (tOp (rI0 fun i j => .int (i - j)) (tC (.int 7)) (tVar 6))) (tOp (rI CMul fun i j => .int (i * j)) (tOp (rIx K) (tVar 5) (tC (.int 1))) (tVar 6))))) (tCons (tC (.int 280)) tNil))) tNil)))))) tNext)
    (tSeq (tIfS (tTest (tOp (rEqD K) (tVar 2) (tC (.int 3)))) (tRet (tTup (tCons (tCall (spP K C R_l_frac) [] E0 (tCons (tOp (rPlus K) (tOp (rI CMul fun i j => .int (i * j)) (tOp (rIx K) (tVar 4) (tC (.int 0))) (tVar 7)) (tVar 6)) (tCons (tVar 7) tNil))) (tCons (tTup (tCons (tOp (rIx K) (tCall (spG K C R_l_of) [] E0 (tCons (tVar 0) (tCons (tVar 1) tNil))) (tC (.int 1))) (tCons (tC (.int 1)) tNil))) tNil)))) tNext)
    (tSeq (tPar 10 11 (tCons (tCB (rMn K) (tCons (tLc (iSeq K (tVar 1)) (gName 14) tYes (tOp (rIx K) (tVar 14) (tC (.int 0))) [14]) tNil)) (tCons (tCB (rMx K) (tCons (tLc (iSeq K (tVar 1)) (gName 14) tYes (tOp (rIx K) (tVar 14) (tC (.int 0))) [14]) tNil)) tNil)))
    (tSeq (tPar 12 13 (tCons (tCB (rMn K) (tCons (tLc (iSeq K (tVar 1)) (gName 14) tYes (tOp (rIx K) (tVar 14) (tC (.int 1))) [14]) tNil)) (tCons (tCB (rMx K) (tCons (tLc (iSeq K (tVar 1)) (gName 14) tYes (tOp (rIx K) (tVar 14) (tC (.int 1))) [14]) tNil)) tNil)))
    (tSeq (tAsg (tOp (rPlus K) (tOp (rI0 fun i j => .int (i - j)) (tOp (rI CMul fun i j => .int (i * j)) (tVar 10) (tVar 7)) (tVar 7)) (tCall (spG K C R_l_any) [] E0 (tCons (tVar 0) (tCons (tOp (rI CMul fun i j => .int (i * j)) (tOp (rPlus K) (tOp (rI0 fun i j => .int (i - j)) (tVar 11) (tVar 10)) (tC (.int 2))) (tVar 7)) tNil)))) (gName 9))
    (tRet (tTup (tCons (tCall (spP K C R_l_frac) [] E0 (tCons (tVar 9) (tCons (tVar 7) tNil))) (tCons (tCall (spP K C R_l_frac) [] E0 (tCons (tOp (rPlus K) (tOp (rI0 fun i j => .int (i - j)) (tOp (rI CMul fun i j => .int (i * j)) (tVar 12) (tC (.int 9))) (tC (.int 9))) (tCall (spG K C R_l_any) [] E0 (tCons (tVar 0) (tCons (tOp (rI CMul fun i j => .int (i * j)) (tOp (rPlus K) (tOp (rI0 fun i j => .int (i - j)) (tVar 13) (tVar 12)) (tC (.int 2))) (tC (.int 9))) tNil)))) (tCons (tC (.int 9)) tNil))) tNil)))))))))))))
theorem bd_l_point (c_l_any : Cal P w K mg base "_law_any" 1 ["_law_deal_here", "_law_bound"] (spG K C R_l_any)) (c_l_frac : Cal P w K mg base "_law_frac" 1 ["_law_top", "_law_bottom"] (spP K C R_l_frac)) (c_l_of : Cal P w K mg base "_law_of" 2 ["_law_deal_here", "_law_some"] (spG K C R_l_of)) (m_len : mg "len" = none) (m_min : mg "min" = none) (m_max : mg "max" = none) {f : Addr} {cdv : Value} {A : Around} {outer : List PySem.Env} {s : Shared} {H : Hp} {E : XK} (hr : Room 2 (A.deeper (envOfC "_law_point" (defScope s_l_point) s.heap.objs.size f cdv))) :
    PSs (cxOf CX0 P w K mg base n_l_point "_law_point" (defScope s_l_point) f cdv A outer s H E).nox (defBody s_l_point) (t_l_point K C) :=
  (pss_cons (ps_par (i := 2) (j := 3) (by rfl) sc_l_point.nd rfl rfl (by decide) rfl rfl (pa_cons (pe_callC c_l_any (hr.mono (by decide)) (by rfl) (pa_cons (pv 0) (pa_cons pe_int pa_nil))) (pa_cons (pe_callC c_l_any (hr.mono (by decide)) (by rfl) (pa_cons (pv 0) (pa_cons (pe_callB call_lenG (by rfl) m_len PySem.boot_len (pa_cons (pv 1) pa_nil)) pa_nil))) pa_nil)) (by rfl))
    (pss_cons (ps_par (i := 4) (j := 5) (by rfl) sc_l_point.nd rfl rfl (by decide) rfl rfl (pa_cons (pe_ix ix_seq (pv 1) (pe_op op_sub (pv 3) pe_int) (fun _ _ => rfl)) (pa_cons (pe_ix ix_seq (pv 1) (pv 3) (fun _ _ => rfl)) pa_nil)) (by rfl))
    (pss_cons (ps_par (i := 6) (j := 7) (by rfl) sc_l_point.nd rfl rfl (by decide) rfl rfl (pa_cons (pe_callC c_l_any (hr.mono (by decide)) (by rfl) (pa_cons (pv 0) (pa_cons pe_int pa_nil))) (pa_cons (pe_op op_plus pe_int (pe_callC c_l_any (hr.mono (by decide)) (by rfl) (pa_cons (pv 0) (pa_cons pe_int pa_nil)))) pa_nil)) (by rfl))
    (pss_cons (ps_if (pt_cmpR (op_eqD hr.units) (pv 2) pe_int (nomark _)) (pss_one (ps_ret (pe_tup (pa_cons (pe_tup (pa_cons (pe_ix ix_seq (pv 5) pe_int (fun _ _ => rfl)) (pa_cons pe_int pa_nil))) (pa_cons (pe_tup (pa_cons (pe_ix ix_seq (pv 5) pe_int (fun _ _ => rfl)) (pa_cons pe_int pa_nil))) pa_nil))))) pss_nil)
    (pss_cons (ps_if (pt_cmpR op_lt (pv 2) pe_int (nomark _)) (pss_cons (ps_set (i := 8) sc_l_point.nd rfl (Or.inl rfl) (pe_ifExp (pt_cmpR (op_eqD hr.units) (pv 2) pe_int (nomark _)) pe_int (pe_op op_sub pe_int (pe_op op_mul pe_int (pe_callC c_l_any (hr.mono (by decide)) (by rfl) (pa_cons (pv 0) (pa_cons pe_int pa_nil)))))))
    (pss_cons (ps_set (i := 9) sc_l_point.nd rfl (Or.inl rfl) (pe_callC c_l_frac (hr.mono (by decide)) (by rfl) (pa_cons (pe_op op_plus (pe_op op_mul (pe_ix ix_seq (pv 4) pe_int (fun _ _ => rfl)) (pe_op op_sub pe_int (pv 6))) (pe_op op_mul (pe_ix ix_seq (pv 5) pe_int (fun _ _ => rfl)) (pv 6))) (pa_cons pe_int pa_nil))))
    (pss_one (ps_ret (pe_tup (pa_cons (pv 9) (pa_cons (pe_callC c_l_frac (hr.mono (by decide)) (by rfl) (pa_cons (pe_op op_plus (pe_op op_mul pe_int (pv 8)) (pe_op op_mul pe_int (pe_op op_plus (pe_op op_mul (pe_ix ix_seq (pv 4) pe_int (fun _ _ => rfl)) (pe_op op_sub pe_int (pv 6))) (pe_op op_mul (pe_ix ix_seq (pv 5) pe_int (fun _ _ => rfl)) (pv 6))))) (pa_cons pe_int pa_nil))) pa_nil))))))) pss_nil)
    (pss_cons (ps_if (pt_cmpR (op_eqD hr.units) (pv 2) pe_int (nomark _)) (pss_one (ps_ret (pe_tup (pa_cons (pe_callC c_l_frac (hr.mono (by decide)) (by rfl) (pa_cons (pe_op op_plus (pe_op op_mul (pe_ix ix_seq (pv 4) pe_int (fun _ _ => rfl)) (pv 7)) (pv 6)) (pa_cons (pv 7) pa_nil))) (pa_cons (pe_tup (pa_cons (pe_ix ix_seq (pe_callC c_l_of (hr.mono (by decide)) (by rfl) (pa_cons (pv 0) (pa_cons (pv 1) pa_nil))) pe_int (fun _ _ => rfl)) (pa_cons pe_int pa_nil))) pa_nil))))) pss_nil)
    (pss_cons (ps_par (i := 10) (j := 11) (by rfl) sc_l_point.nd rfl rfl (by decide) rfl rfl (pa_cons (pe_callB (call_mn (by rfl)) (by rfl) m_min (by decide +kernel) (pa_cons (pe_lc (own := [("_law_corner", 14)]) (by rfl) sc_l_point.nd (pi_seq (pv 1)) (blkOk_by (own := [("_law_corner", 14)]) (N := n_l_point) (sc := defScope s_l_point) (by decide +kernel)) (fun _ _ _ _ _ => (pg_name (i := 14) sc_l_point.nd rfl (Or.inl rfl))) (fun _ _ _ _ _ => pts_nil) (fun _ _ _ _ _ => (pe_ix ix_seq (pv 14) pe_int (fun _ _ => rfl)))) pa_nil)) (pa_cons (pe_callB (call_mx (by rfl)) (by rfl) m_max (by decide +kernel) (pa_cons (pe_lc (own := [("_law_corner", 14)]) (by rfl) sc_l_point.nd (pi_seq (pv 1)) (blkOk_by (own := [("_law_corner", 14)]) (N := n_l_point) (sc := defScope s_l_point) (by decide +kernel)) (fun _ _ _ _ _ => (pg_name (i := 14) sc_l_point.nd rfl (Or.inl rfl))) (fun _ _ _ _ _ => pts_nil) (fun _ _ _ _ _ => (pe_ix ix_seq (pv 14) pe_int (fun _ _ => rfl)))) pa_nil)) pa_nil)) (by rfl))
    (pss_cons (ps_par (i := 12) (j := 13) (by rfl) sc_l_point.nd rfl rfl (by decide) rfl rfl (pa_cons (pe_callB (call_mn (by rfl)) (by rfl) m_min (by decide +kernel) (pa_cons (pe_lc (own := [("_law_corner", 14)]) (by rfl) sc_l_point.nd (pi_seq (pv 1)) (blkOk_by (own := [("_law_corner", 14)]) (N := n_l_point) (sc := defScope s_l_point) (by decide +kernel)) (fun _ _ _ _ _ => (pg_name (i := 14) sc_l_point.nd rfl (Or.inl rfl))) (fun _ _ _ _ _ => pts_nil) (fun _ _ _ _ _ => (pe_ix ix_seq (pv 14) pe_int (fun _ _ => rfl)))) pa_nil)) (pa_cons (pe_callB (call_mx (by rfl)) (by rfl) m_max (by decide +kernel) (pa_cons (pe_lc (own := [("_law_corner", 14)]) (by rfl) sc_l_point.nd (pi_seq (pv 1)) (blkOk_by (own := [("_law_corner", 14)]) (N := n_l_point) (sc := defScope s_l_point) (by decide +kernel)) (fun _ _ _ _ _ => (pg_name (i := 14) sc_l_point.nd rfl (Or.inl rfl))) (fun _ _ _ _ _ => pts_nil) (fun _ _ _ _ _ => (pe_ix ix_seq (pv 14) pe_int (fun _ _ => rfl)))) pa_nil)) pa_nil)) (by rfl))
    (pss_cons (ps_set (i := 9) sc_l_point.nd rfl (Or.inl rfl) (pe_op op_plus (pe_op op_sub (pe_op op_mul (pv 10) (pv 7)) (pv 7)) (pe_callC c_l_any (hr.mono (by decide)) (by rfl) (pa_cons (pv 0) (pa_cons (pe_op op_mul (pe_op op_plus (pe_op op_sub (pv 11) (pv 10)) pe_int) (pv 7)) pa_nil)))))
    (pss_one (ps_ret (pe_tup (pa_cons (pe_callC c_l_frac (hr.mono (by decide)) (by rfl) (pa_cons (pv 9) (pa_cons (pv 7) pa_nil))) (pa_cons (pe_callC c_l_frac (hr.mono (by decide)) (by rfl) (pa_cons (pe_op op_plus (pe_op op_sub (pe_op op_mul (pv 12) pe_int) pe_int) (pe_callC c_l_any (hr.mono (by decide)) (by rfl) (pa_cons (pv 0) (pa_cons (pe_op op_mul (pe_op op_plus (pe_op op_sub (pv 13) (pv 12)) pe_int) pe_int) pa_nil)))) (pa_cons pe_int pa_nil))) pa_nil))))))))))))))
theorem ln_l_point : ∀ ds Q, R_l_point ds Q → ds.length + 1 = 2 := fun ds Q ⟨_, e, _⟩ => by rw [e]; rfl
theorem mulB {x y : Int} {m n : Nat} (h1 : -(m : Int) ≤ x ∧ x ≤ m) (h2 : -(n : Int) ≤ y ∧ y ≤ n) : -((m * n : Nat) : Int) ≤ x * y ∧ x * y ≤ ((m * n : Nat) : Int) := by
  have := mul_size (x := x) (y := y) (m := m) (n := n) (by omega) (by omega)
  omega
theorem wk_l_point : ∀ p ds Q, R_l_point ds Q → SW ⟨K, C, some p⟩ (t_l_point K C) ⟨.deal :: (ds.map .dat ++ List.replicate 13 .un), none⟩ ⟨fun _ => Q .non, Q, fun _ => False, fun _ => False⟩ := by
  rintro dl _ Q ⟨r, rfl, h0, hl, hm, q⟩
  have pos := List.length_pos_iff.mpr h0
  unfold t_l_point
  refine sw_seq (sw_par ?_)
  walk_at "go"
  refine ⟨6, rfl, by decide, by decide, fun k k0 k1 => ?_⟩
  walk_at "go"
  rw [List.length_map]
  refine ⟨_, rfl, by omega, by omega, fun j j0 j1 => ?_⟩
  walk_at "go"
  refine ix_tup (atI_cg (by omega) (by omega)) ?_
  walk_at "go"
  refine ix_tup (atI_cg (by omega) (by omega)) ?_
  obtain ⟨a1, a2, a3, a4⟩ := hm _ (cg_mem (j - 1) h0)
  obtain ⟨b1, b2, b3, b4⟩ := hm _ (cg_mem j h0)
  generalize cg r (j - 1) = a at *
  generalize cg r j = b at *
  walk_at "go"
  refine ⟨8, rfl, by decide, by decide, fun t t0 t1 => ?_⟩
  walk_at "go"
  refine ⟨7, rfl, by decide, by decide, fun n n0 n1 => ?_⟩
  walk_at "go"
  refine sw_ifD (b := (k == 0)) (by walk_at "go"; rfl) (fun _ => ?_) fun _ => sw_next (sw_seq ?_)
  · walk_at "go"
    exact q ((b.1, 1), (b.2, 1)) ⟨by show (0 : Int) < 1; decide, by show (1 : Int) < 2 ^ 30; decide, by show (0 : Int) < 1; decide, by show (1 : Int) < 2 ^ 30; decide, by simp only; omega, by simp only; omega, by simp only; omega, by simp only; omega⟩
  have m1 := mulB (x := a.1) (y := 7 - t) (m := 400) (n := 7) (by omega) (by omega)
  have m2 := mulB (x := b.1) (y := t) (m := 400) (n := 7) (by omega) (by omega)
  have m3 := mulB (x := a.2) (y := 7 - t) (m := 400) (n := 7) (by omega) (by omega)
  have m4 := mulB (x := b.2) (y := t) (m := 400) (n := 7) (by omega) (by omega)
  have m5 := mulB (x := a.1) (y := 1 + n) (m := 400) (n := 7) (by omega) (by omega)
  refine sw_ifD (b := decide (k < 3)) (by walk_at "go"; rfl) (fun _ => ?_) fun _ => sw_next (sw_seq ?_)
  · have fin : ∀ (N : Ns) (v : Int), (∀ d, Q d → N.rt d) → -1 ≤ v → v ≤ 1 → SW ⟨K, C, some dl⟩ (tSeq (tAsg (tCall (spP K C R_l_frac) [] E0 (tCons (tOp (rPlus K) (tOp (rI CMul fun i j => .int (i * j)) (tOp (rIx K) (tVar 4) (tC (.int 0))) (tOp (rI0 fun i j => .int (i - j)) (tC (.int 7)) (tVar 6))) (tOp (rI CMul fun i j => .int (i * j)) (tOp (rIx K) (tVar 5) (tC (.int 0))) (tVar 6))) (tCons (tC (.int 7)) tNil))) (gName 9))
    (tRet (tTup (tCons (tVar 9) (tCons (tCall (spP K C R_l_frac) [] E0 (tCons (tOp (rPlus K) (tOp (rI CMul fun i j => .int (i * j)) (tC (.int 7)) (tVar 8)) (tOp (rI CMul fun i j => .int (i * j)) (tC (.int 40)) (tOp (rPlus K) (tOp (rI CMul fun i j => .int (i * j)) (tOp (rIx K) (tVar 4) (tC (.int 1))) (tOp (rI0 fun i j => .int (i - j)) (tC (.int 7)) (tVar 6))) (tOp (rI CMul fun i j => .int (i * j)) (tOp (rIx K) (tVar 5) (tC (.int 1))) (tVar 6))))) (tCons (tC (.int 280)) tNil))) tNil)))))
        ⟨[.deal, .dat (dR r), .dat (.int k), .dat (.int j), .dat (dP a), .dat (dP b), .dat (.int t), .dat (.int (1 + n)), .dat (.int v), .un, .un, .un, .un, .un, .un], none⟩ N := by
      intro N v hN v0 v1
      refine sw_seq (sw_asg ?_)
      walk_at "go"
      refine ⟨_, 7, rfl, by decide, by decide, ?_⟩
      walk_at "go"
      refine ⟨_, 280, rfl, by decide, by decide, ?_⟩
      walk_at "go"
      obtain ⟨p1, p2, p3, p4⟩ := mkFr_S (t := a.1 * (7 - t) + b.1 * t) (b := 7) (by decide) (by decide) (by omega)
      obtain ⟨p5, p6, p7, p8⟩ := mkFr_S (t := 7 * v + 40 * (a.2 * (7 - t) + b.2 * t)) (b := 280) (by decide) (by decide) (by omega)
      exact hN _ <| q (mkFr (a.1 * (7 - t) + b.1 * t) 7, mkFr (7 * v + 40 * (a.2 * (7 - t) + b.2 * t)) 280) ⟨p1, p2, p5, p6, p3, p4, p7, p8⟩
    refine sw_seq (sw_asg (ew_ifD (b := (k == 1)) (by walk_at "go"; rfl) (fun _ => ?_) fun _ => ?_))
    · refine ew_int (gw_nm ?_)
      exact fin _ 0 (fun _ z => z) (by decide) (by decide)
    · walk_at "go"
      refine ⟨2, rfl, by decide, by decide, fun z z0 z1 => ?_⟩
      refine onI2_mk ⟨mulL ⟨by decide, by decide⟩, onI2_mk (gw_nm ?_)⟩
      exact fin _ (1 - 2 * z) (fun _ z => z) (by omega) (by omega)
  · refine sw_ifD (b := (k == 3)) (by walk_at "go"; rfl) (fun _ => ?_) fun _ => sw_next (sw_seq ?_)
    · walk_at "go"
      refine ⟨_, 1 + n, rfl, by omega, by omega, ?_⟩
      walk_at "go"
      refine ⟨r.map dP, .inr rfl, by rw [List.length_map]; exact pos, by rw [List.length_map]; omega, fun d hd => ?_⟩
      obtain ⟨c, hc, rfl⟩ := List.mem_map.mp hd
      obtain ⟨c1, c2, c3, c4⟩ := hm c hc
      walk_at "go"
      obtain ⟨p1, p2, p3, p4⟩ := mkFr_S (t := a.1 * (1 + n) + t) (b := 1 + n) (by omega) (by omega) (by omega)
      exact q (mkFr (a.1 * (1 + n) + t) (1 + n), (c.2, 1)) ⟨p1, p2, by show (0 : Int) < 1; decide, by show (1 : Int) < 2 ^ 30; decide, p3, p4, by simp only; omega, by simp only; omega⟩
    · have fst : ∀ W : Wd, True := fun _ => trivial
      have comp1 : ∀ (sl : List Sl) (P : Sl → Prop), sl[1]? = some (.dat (dR r)) → sl.length = 15 → P (.dat (.lst (r.map fun c => .int c.1))) → EW ⟨K, C, some dl⟩ (tLc (iSeq K (tVar 1)) (gName 14) tYes (tOp (rIx K) (tVar 14) (tC (.int 0))) [14]) ⟨sl, none⟩ P := fun sl P h1 h2 hp => by
        match sl, h2 with
        | [s0, s1, s2, s3, s4, s5, s6, s7, s8, s9, s10, s11, s12, s13, s14], _ =>
          have h1 := Option.some.inj h1
          subst h1
          refine ew_lcM r dP (fun c => .int c.1) (iw_sqT (by walk_at "go"; rfl)) (by omega) (fun c hc => ?_) hp
          walk_at "go"
          rfl
      have comp2 : ∀ (sl : List Sl) (P : Sl → Prop), sl[1]? = some (.dat (dR r)) → sl.length = 15 → P (.dat (.lst (r.map fun c => .int c.2))) → EW ⟨K, C, some dl⟩ (tLc (iSeq K (tVar 1)) (gName 14) tYes (tOp (rIx K) (tVar 14) (tC (.int 1))) [14]) ⟨sl, none⟩ P := fun sl P h1 h2 hp => by
        match sl, h2 with
        | [s0, s1, s2, s3, s4, s5, s6, s7, s8, s9, s10, s11, s12, s13, s14], _ =>
          have h1 := Option.some.inj h1
          subst h1
          refine ew_lcM r dP (fun c => .int c.2) (iw_sqT (by walk_at "go"; rfl)) (by omega) (fun c hc => ?_) hp
          walk_at "go"
          rfl
      have in1 : ∀ m, m ∈ r.map (fun c : Pt => c.1) → -400 ≤ m ∧ m ≤ 400 := fun m h => by
        obtain ⟨c, hc, rfl⟩ := List.mem_map.mp h
        exact ⟨(hm c hc).a, (hm c hc).b⟩
      have in2 : ∀ m, m ∈ r.map (fun c : Pt => c.2) → -400 ≤ m ∧ m ≤ 400 := fun m h => by
        obtain ⟨c, hc, rfl⟩ := List.mem_map.mp h
        exact ⟨(hm c hc).c, (hm c hc).d⟩
      refine sw_par (aw_cons (ew_minL (aw_cons (comp1 _ _ rfl rfl (aw_nil (on1_mk (onL_mk ⟨_, isInts_map _ _, by rw [List.length_map]; exact pos, fun lo lo1 lo2 => ?_⟩)))))))
      refine aw_cons (ew_maxL (aw_cons (comp1 _ _ rfl rfl (aw_nil (on1_mk (onL_mk ⟨_, isInts_map _ _, by rw [List.length_map]; exact pos, fun hi hi1 hi2 => ?_⟩))))))
      refine aw_nil (on2_mk (sw_seq ?_))
      refine sw_par (aw_cons (ew_minL (aw_cons (comp2 _ _ rfl rfl (aw_nil (on1_mk (onL_mk ⟨_, isInts_map _ _, by rw [List.length_map]; exact pos, fun dn dn1 dn2 => ?_⟩)))))))
      refine aw_cons (ew_maxL (aw_cons (comp2 _ _ rfl rfl (aw_nil (on1_mk (onL_mk ⟨_, isInts_map _ _, by rw [List.length_map]; exact pos, fun up up1 up2 => ?_⟩))))))
      refine aw_nil (on2_mk (sw_seq ?_))
      have l1 := in1 lo lo1
      have l2 := in1 hi hi1
      have l3 := lo2 hi hi1
      have l4 := in2 dn dn1
      have l5 := in2 up up1
      have l6 := dn2 up up1
      show SW ⟨K, C, some dl⟩ _ ⟨[.deal, .dat (dR r), .dat (.int k), .dat (.int j), .dat (dP a), .dat (dP b), .dat (.int t), .dat (.int (1 + n)), .un, .un, .dat (.int lo), .dat (.int hi), .dat (.int dn), .dat (.int up), .un], none⟩ _
      have w1 := mulB (x := hi - lo + 2) (y := 1 + n) (m := 802) (n := 7) (by omega) (by omega)
      have w2 : 0 < (hi - lo + 2) * (1 + n) := Int.mul_pos (by omega) (by omega)
      have w3 := mulB (x := lo) (y := 1 + n) (m := 400) (n := 7) (by omega) (by omega)
      refine sw_asg ?_
      walk_at "go"
      refine ⟨_, rfl, w2, by omega, fun z z0 z1 => ?_⟩
      walk_at "go"
      refine ⟨_, 1 + n, rfl, by omega, by omega, ?_⟩
      walk_at "go"
      refine ⟨_, rfl, by omega, by omega, fun y y0 y1 => ?_⟩
      walk_at "go"
      refine ⟨_, 9, rfl, by decide, by decide, ?_⟩
      walk_at "go"
      obtain ⟨p1, p2, p3, p4⟩ := mkFr_S (t := lo * (1 + n) - (1 + n) + z) (b := 1 + n) (by omega) (by omega) (by omega)
      obtain ⟨p5, p6, p7, p8⟩ := mkFr_S (t := dn * 9 - 9 + y) (b := 9) (by decide) (by decide) (by omega)
      exact q (mkFr (lo * (1 + n) - (1 + n) + z) (1 + n), mkFr (dn * 9 - 9 + y) 9) ⟨p1, p2, p5, p6, p3, p4, p7, p8⟩
theorem ok_l_point (c_l_any : Cal P w K mg base "_law_any" 1 ["_law_deal_here", "_law_bound"] (spG K C R_l_any)) (c_l_frac : Cal P w K mg base "_law_frac" 1 ["_law_top", "_law_bottom"] (spP K C R_l_frac)) (c_l_of : Cal P w K mg base "_law_of" 2 ["_law_deal_here", "_law_some"] (spG K C R_l_of)) (m_len : mg "len" = none) (m_min : mg "min" = none) (m_max : mg "max" = none) (F : DefAt K mg "_law_point" ["_law_deal_here", "_law_corners"] s_l_point) : Cal P w K mg base "_law_point" 3 ["_law_deal_here", "_law_corners"] (spG K C R_l_point) :=
  F.okG sc_l_point ln_l_point (fun _ _ _ _ _ _ _ hr => bd_l_point c_l_any c_l_frac c_l_of m_len m_min m_max hr) wk_l_point
end
end G
set_option Elab.async false
set_option linter.all false
set_option maxRecDepth 100000
namespace G
open PySem PySem.Spec L2
open Evl (Ex)
open PyProof.Rows (envOfC)
local macro_rules | `(tactic| walk_at "go") => `(tactic| repeat' (first
  | ((with_reducible refine' ew_v ?h ?k ?_); (case h => exact rfl); (case k => exact rfl))
  | with_reducible refine ew_int ?_
  | with_reducible refine ew_bl ?_
  | with_reducible refine ew_str ?_
  | with_reducible refine ew_non ?_
  | with_reducible refine ew_plus ?_
  | with_reducible refine ew_sub ?_
  | with_reducible refine ew_mul ?_
  | with_reducible refine ew_mulW ?_
  | with_reducible refine ew_fdiv ?_
  | with_reducible refine ew_mod ?_
  | with_reducible refine ew_ix ?_
  | with_reducible refine ew_lt ?_
  | with_reducible refine ew_le ?_
  | with_reducible refine ew_gt ?_
  | with_reducible refine ew_ge ?_
  | with_reducible refine ew_eqD ?_
  | with_reducible refine ew_neD ?_
  | with_reducible refine ew_neg ?_
  | with_reducible refine ew_tup ?_
  | with_reducible refine ew_lst ?_
  | with_reducible refine ew_len ?_
  | with_reducible refine ew_abs ?_
  | with_reducible refine ew_int1 ?_
  | with_reducible refine ew_gcd ?_
  | with_reducible refine ew_tupOf ?_
  | with_reducible refine ew_callP ?_
  | with_reducible refine ew_callG ?_
  | with_reducible refine ew_revL ?_
  | with_reducible refine ew_slice ?_
  | with_reducible refine ow_no ?_
  | with_reducible refine ow_some ?_
  | with_reducible refine ew_notV ?_
  | with_reducible refine ew_pow ?_
  | with_reducible refine aw_nil ?_
  | with_reducible refine aw_cons ?_
  | with_reducible refine onI2_mk ?_
  | with_reducible refine onI_mk ?_
  | with_reducible refine onB_mk ?_
  | with_reducible refine onD2_mk ?_
  | with_reducible refine onDat_mk ?_
  | with_reducible refine onL_mk ?_
  | with_reducible refine onTup_mk ?_
  | with_reducible refine onSeqT_mk ?_
  | with_reducible refine onSeqL_mk ?_
  | with_reducible refine onDs_nil ?_
  | with_reducible refine onDs_cons ?_
  | with_reducible refine onGDs_mk ?_
  | with_reducible refine on1_mk ?_
  | with_reducible refine on2_mk ?_
  | with_reducible refine plus_int ?_
  | with_reducible refine sq_tup ?_
  | with_reducible refine sq_lst ?_
  | with_reducible refine cut_tup ?_
  | with_reducible refine cut_lst ?_
  | ((with_reducible refine' ix_tup ?e ?_); (case e => first | exact rfl | assumption))
  | ((with_reducible refine' ix_lst ?e ?_); (case e => first | exact rfl | assumption))
  | ((with_reducible refine' And.intro (a := CMul _ _) ?c ?_); (case c => first | (refine mulL ⟨?_, ?_⟩ <;> omega) | (refine mulR ⟨?_, ?_⟩ <;> omega)))
  | ((with_reducible refine' And.intro (a := CMulW _ _) ?c ?_); (case c => assumption))
  | ((with_reducible refine' And.intro (a := 0 < _) ?c ?_); (case c => decide))
  | ((with_reducible refine' And.intro (a := List.length _ ≤ 100000) ?c ?_); (case c => exact Nat.le_of_ble_eq_true rfl))
  | ((with_reducible refine' And.intro (a := fit _ = true) ?c ?_); (case c => first | exact rfl | assumption))
  | with_reducible refine gw_nm ?_
  | ((with_reducible refine' gw_nmI ?h ?_); (case h => decide))
  | ((with_reducible refine' gw_tp ?h ?_); (case h => exact rfl))
  | with_reducible refine gsw_cons ?_
  | with_reducible refine gsw_nil ?_
  | with_reducible refine tw_tst ?_
  | with_reducible refine tw_b ?_
  | with_reducible refine tw_not ?_
  | with_reducible refine tw_yes ?_
  | with_reducible refine sw_seq ?_
  | with_reducible refine sw_ret ?_
  | with_reducible refine sw_asg ?_
  | with_reducible refine sw_par ?_
  | ((with_reducible refine' sw_aug ?h ?_); (case h => exact rfl))
  | with_reducible refine sw_next ?_
  | with_reducible refine sw_brk ?_
  | ((with_reducible refine' ew_andD ?h ?g ?_); (case h => (walk_at "go"; exact rfl)); (case g => (intro _; walk_at "go"; exact rfl)))
  | ((with_reducible refine' ew_orD ?h ?g ?_); (case h => (walk_at "go"; exact rfl)); (case g => (intro _; walk_at "go"; exact rfl)))
  | ((with_reducible refine' tw_and2 ?h ?g ?_); (case h => (walk_at "go"; exact rfl)); (case g => (intro _; walk_at "go"; exact rfl)))
  | ((with_reducible refine' tw_or2 ?h ?g ?_); (case h => (walk_at "go"; exact rfl)); (case g => (intro _; walk_at "go"; exact rfl)))
  | ((with_reducible refine' ew_chD ?h ?g ?k ?_); (case h => (walk_at "go"; exact rfl)); (case g => (walk_at "go"; exact rfl)); (case k => (walk_at "go"; exact rfl)))
  | ((with_reducible refine' ew_isiInt ?h ?_); (case h => (walk_at "go"; exact rfl)))
  | ((with_reducible refine' ew_isiBool ?h ?_); (case h => (walk_at "go"; exact rfl)))
  | ((with_reducible refine' ew_isiTup ?h ?_); (case h => (walk_at "go"; exact rfl)))))
section
variable {P : Program} {w : World} {K : PySem.W.Frag} {mg : Str → Option Value} {base : Heap} {C : Addr}

/-- what the law's deal promises: two lists that are new -/
def spD (K : PySem.W.Frag) (C : Addr) : Sp := fun vs H Q _ => ∃ (S : Hp) (a : Addr) (xs : List V) (ns : List Int) (b : Int), vs = [.ref a, .int b] ∧ Wf none S H ∧ Dt K C S (.ref a) (.scr (ns.map .int)) ∧ -1000 ≤ b ∧ b ≤ 1000 ∧
  ∀ (p : Addr × Addr) S' H', Ext none S H S' H' → Wf (some p) S' H' → Q (.ref p.1) H'
abbrev s_l_deal : Stmt := topS 57
abbrev n_l_deal : List Str := ["_law_script", "_law_base", "_law_cells", "_law_mix", "_law_cell"]
theorem sc_l_deal : FnScope n_l_deal ["_law_script", "_law_base"] (defScope s_l_deal) := ⟨rfl, rfl, rfl, by decide +kernel, rfl, by decide +kernel, by decide +kernel⟩
def t_l_deal (K : PySem.W.Frag) (C : Addr) : TS :=
  (tSeq (tAsg (tLc (iSeq K (tSl (rCut K) (tVar 0) tNoPart (tPart (tC (.int 63))))) (gName 4) tYes (tCB rAbs (tCons (tCB rInt1 (tCons (tVar 4) tNil)) tNil)) [4]) (gName 2))
    (tSeq (tAsg (tOp (rPlus K) (tOp (rI CMul fun i j => .int (i * j)) (tC (.int 40127)) (tVar 1)) (tC (.int 863))) (gName 3))
    (tSeq (tFor (iSeq K (tVar 2)) (gName 4)
    (tAsg (tOp (rI (fun _ j => 0 < j) fun i j => .int (i % j)) (tCB rInt1 (tCons (tOp (rPlus K) (tOp (rPlus K) (tOp (rI CMul fun i j => .int (i * j)) (tVar 3) (tC (.int 48271))) (tOp (rI (fun _ j => 0 < j) fun i j => .int (i % j)) (tVar 4) (tC (.int 2147483579)))) (tC (.int 61))) tNil)) (tC (.int 2147483647))) (gName 3)))
    (tRet (tLst (tCons (tRevL K (tLc (iSeq K (tVar 2)) (gName 4) (tTest (tOp (rI0 fun i j => .bl (decide (j ≤ i))) (tVar 4) (tOp (rI CPow fun i j => .int (i ^ j.toNat)) (tC (.int 10)) (tC (.int 18))))) (tVar 4) [4])) (tCons (tVar 3) tNil)))))))
theorem bd_l_deal (m_int : mg "int" = none) (m_abs : mg "abs" = none) {f : Addr} {cdv : Value} {A : Around} {outer : List PySem.Env} {s : Shared} {H : Hp} {E : XK} (hr : Room 0 (A.deeper (envOfC "_law_deal" (defScope s_l_deal) s.heap.objs.size f cdv))) :
    PSs (cxOf CX0 P w K mg base n_l_deal "_law_deal" (defScope s_l_deal) f cdv A outer s H E).nox (defBody s_l_deal) (t_l_deal K C) :=
  (pss_cons (ps_setLc (i := 2) (own := [("_law_cell", 4)]) (by rfl) sc_l_deal.nd rfl rfl (sw_true rfl rfl rfl (by decide +kernel)) (pi_seq (pe_slice sl_cut (pv 0) po_none (po_some pe_int))) (blkOk_by (own := [("_law_cell", 4)]) (N := n_l_deal) (sc := defScope s_l_deal) (by decide +kernel)) (fun _ _ _ _ _ => (pg_name (i := 4) sc_l_deal.nd rfl (Or.inl rfl))) (fun _ _ _ _ _ => pts_nil) (fun _ _ _ _ _ => (pe_callB call_absG (by rfl) m_abs (by decide +kernel) (pa_cons (pe_callTy call_int1G (by rfl) m_int (by decide +kernel) (pa_cons (pv 4) pa_nil)) pa_nil))))
    (pss_cons (ps_set (i := 3) sc_l_deal.nd rfl (Or.inl rfl) (pe_op op_plus (pe_op op_mul pe_int (pv 1)) pe_int))
    (pss_cons (ps_for PassesOwn.never rfl (pi_seq (pv 2)) (pg_name (i := 4) sc_l_deal.nd rfl (Or.inl rfl))
    (pss_one (ps_set (i := 3) sc_l_deal.nd rfl (Or.inl rfl) (pe_op op_mod (pe_callTy call_int1G (by rfl) m_int (by decide +kernel) (pa_cons (pe_op op_plus (pe_op op_plus (pe_op op_mul (pv 3) pe_int) (pe_op op_mod (pv 4) pe_int)) pe_int) pa_nil)) pe_int))))
    (pss_one (ps_ret (pe_lst (pa_cons (pe_revL (pe_lc (own := [("_law_cell", 4)]) (by rfl) sc_l_deal.nd (pi_seq (pv 2)) (blkOk_by (own := [("_law_cell", 4)]) (N := n_l_deal) (sc := defScope s_l_deal) (by decide +kernel)) (fun _ _ _ _ _ => (pg_name (i := 4) sc_l_deal.nd rfl (Or.inl rfl))) (fun _ _ _ _ _ => (pts_one (pt_cmpR op_ge (pv 4) (pe_op op_pow pe_int pe_int) (nomark _)))) (fun _ _ _ _ _ => (pv 4)))) (pa_cons (pv 3) pa_nil))))))))
theorem cut_small (ds : List Da) : (cutD ds none (some 63)).length ≤ 63 := by
  unfold cutD
  rw [HT.sIx_none, List.drop_zero]
  show (ds.take (HT.sIx ds.length ds.length (some ((63 : Nat) : Int)) - 0)).length ≤ 63
  rw [HT.sIx_nat, List.length_take]
  omega
theorem cut_ints (ns : List Int) : ∃ cs : List Int, cutD (ns.map Da.int) none (some 63) = cs.map .int := by
  unfold cutD
  rw [HT.sIx_none, List.drop_zero, ← List.map_take]
  exact ⟨_, rfl⟩
theorem wk_l_deal {a : Addr} {ns : List Int} {b : Int} (b0 : -1000 ≤ b) (b1 : b ≤ 1000) : SW ⟨K, C, none⟩ (tSeq (tAsg (tLc (iSeq K (tSl (rCut K) (tVar 0) tNoPart (tPart (tC (.int 63))))) (gName 4) tYes (tCB rAbs (tCons (tCB rInt1 (tCons (tVar 4) tNil)) tNil)) [4]) (gName 2))
    (tSeq (tAsg (tOp (rPlus K) (tOp (rI CMul fun i j => .int (i * j)) (tC (.int 40127)) (tVar 1)) (tC (.int 863))) (gName 3))
    (tFor (iSeq K (tVar 2)) (gName 4)
    (tAsg (tOp (rI (fun _ j => 0 < j) fun i j => .int (i % j)) (tCB rInt1 (tCons (tOp (rPlus K) (tOp (rPlus K) (tOp (rI CMul fun i j => .int (i * j)) (tVar 3) (tC (.int 48271))) (tOp (rI (fun _ j => 0 < j) fun i j => .int (i % j)) (tVar 4) (tC (.int 2147483579)))) (tC (.int 61))) tNil)) (tC (.int 2147483647))) (gName 3)))))
    (init [.scr (ns.map .int), .int b] 3) ⟨fun A' => ∃ (x0 x1 : Sl) (cs : List Int) (m : Int) (x4 : Sl), A' = ⟨[x0, x1, .dat (.lst (cs.map .int)), .dat (.int m), x4], none⟩ ∧ cs.length ≤ 63, fun _ => False, fun _ => False, fun _ => False⟩ := by
  obtain ⟨cs, ecs⟩ := cut_ints ns
  have hl : cs.length ≤ 63 := by
    have := cut_small (ns.map Da.int)
    rwa [ecs, List.length_map] at this
  refine sw_seq (sw_asg (ew_lcM cs Da.int (fun c => .int (if c < 0 then -c else c)) (iw_sqL (ew_scr (ds := ns.map .int) (lo := none) (hi := some 63) ?_ ?_ ?_ ?_)) (by omega) (fun c hc => ?_) ?_))
  · walk_at "go"
    rfl
  · walk_at "go"
    rfl
  · walk_at "go"
    rfl
  · rw [ecs]
  · walk_at "go"
    rfl
  · have em : (cs.map fun c => Da.int (if c < 0 then -c else c)) = (cs.map fun c => if c < 0 then -c else c).map Da.int := by rw [List.map_map]; rfl
    rw [em]
    have hl2 : (cs.map fun c => if c < 0 then -c else c).length ≤ 63 := by rw [List.length_map]; exact hl
    generalize (cs.map fun c => if c < 0 then -c else c) = es at *
    refine gw_nm (sw_seq (sw_asg ?_))
    walk_at "go"
    refine sw_forM es Da.int (iw_sqL (by walk_at "go"; rfl)) (fun pre A' => ∃ m x4, A' = ⟨[.dat (.scr (ns.map .int)), .dat (.int b), .dat (.lst (es.map .int)), .dat (.int m), x4], none⟩) ⟨_, _, rfl⟩ (fun pre c post A' _ hA => ?_) (fun A' hA => ?_)
    · obtain ⟨m, x4, rfl⟩ := hA
      walk_at "go"
      exact ⟨_, _, rfl⟩
    · obtain ⟨m, x4, rfl⟩ := hA
      exact ⟨_, _, es, m, _, rfl, hl2⟩
theorem deal_end {te : TE} {D : Ends} {σ : L2.St} {H : Hp} (h : te σ H fun v H2 => ∃ a ys, v = .ref a ∧ SqL K H2 a ys ∧ ∀ p, H2 p = none → (tCons (tVar 3) tNil) σ (upd H2 p (.lst ys.reverse)) (fun xs H3 => (V.ref p :: xs).length ≤ sizeLine ∧ ∀ q, H3 q = none → D.rt (.ref q) (upd H3 q (.lst (V.ref p :: xs))))) :
    tRet (tLst (tCons (tRevL K te) (tCons (tVar 3) tNil))) D σ H := h
theorem ok_l_deal (m_int : mg "int" = none) (m_abs : mg "abs" = none) (F : DefAt K mg "_law_deal" ["_law_script", "_law_base"] s_l_deal) : Cal P w K mg base "_law_deal" 1 ["_law_script", "_law_base"] (spD K C) := by
  obtain ⟨f, fd, Fu, hm, hbd⟩ := F.ex
  refine ⟨f, fd, Fu.ok sc_l_deal (fun vs H Q E h => ?_) (fun cdv A outer s H vs Q E hr h => ?_), hm, Fu.kp, hbd, fun_at Fu⟩
  · obtain ⟨S, a, xs, ns, b, rfl, _⟩ := h
    rfl
  · obtain ⟨S, a, xs, ns, b, rfl, wf, hd, b0, b1, q⟩ := h
    refine ⟨t_l_deal K C, bd_l_deal m_int m_abs hr, ?_⟩
    have a0 : At ⟨K, C, none⟩ S H S H (L2.start n_l_deal [.ref a, .int b]) 0 (init [.scr (ns.map .int), .int b] 3) :=
      ⟨.refl wf, ⟨wf, init_ok (vs := [.ref a, .int b]) (.cons hd (.one (.int b))), fun _ z => nomatch z⟩, fun z => absurd rfl z⟩
    refine wk_l_deal (a := a) b0 b1 S H S H _ 0 a0 _ ⟨fun S1 H1 σ1 l1 A1 a1 hp => ?_, fun _ _ _ _ _ _ hp => hp.elim, fun _ _ _ _ _ _ hp => hp.elim, fun _ _ _ _ _ _ hp => hp.elim⟩
    obtain ⟨x0, x1, cs, m, x4, rfl, hl⟩ := hp
    -- the two new lists
    have w1 := a1.x.w
    have lc : EW ⟨K, C, none⟩ (tLc (iSeq K (tVar 2)) (gName 4) (tTest (tOp (rI0 fun i j => .bl (decide (j ≤ i))) (tVar 4) (tOp (rI CPow fun i j => .int (i ^ j.toNat)) (tC (.int 10)) (tC (.int 18))))) (tVar 4) [4]) ⟨[x0, x1, .dat (.lst (cs.map .int)), .dat (.int m), x4], none⟩ (fun x => ∃ es : List Int, x = .dat (.lst (es.map .int)) ∧ es.length ≤ 63) := by
      have cp : CPow 10 18 := ⟨by decide, by decide, by decide⟩
      refine ew_lcF cs Da.int Da.int (fun c => decide ((10 : Int) ^ (18 : Int).toNat ≤ c)) (iw_sqL (by walk_at "go"; rfl)) (by omega) (fun c hc => ?_) ⟨_, rfl, Nat.le_trans (List.length_filter_le _ _) hl⟩
      walk_at "go"
      refine ⟨?_, fun _ => ?_⟩
      · walk_at "go"
        refine ⟨cp, ?_⟩
        walk_at "go"
        rfl
      · walk_at "go"
        rfl
    dsimp only
    refine deal_end ?_
    refine lc S1 H1 σ1 l1 a1.e _ fun S2 H2 v x e2 hv hx => ?_
    obtain ⟨es, rfl, hes⟩ := hx
    obtain ⟨a2, us, rfl, hat, hus⟩ := dt_lst hv
    have eus : us = es.map V.int := by
      have : ∀ {es : List Int} {us : List V}, DtAll K C S2 us (es.map Da.int) → us = es.map V.int := by
        intro es
        induction es with
        | nil => intro us h; cases h; rfl
        | cons e es ih =>
          intro us h
          cases h with
          | cons h1 h2 => rw [dt_int h1, ih h2]; rfl
      exact this hus
    subst eus
    refine ⟨a2, es.map V.int, rfl, .of (e2.w.sh _ _ hat), fun p2 hp2 => ?_⟩
    obtain ⟨v3, f3, g3⟩ := paired_at (i := 3) a1.e.sl rfl
    cases v3 with
    | none => exact absurd g3 id
    | some v3 =>
      have e3 : v3 = .int m := dt_int g3
      subst e3
      refine ⟨.int m, f3, by show 2 ≤ sizeLine; decide, fun p1 hp1 => ?_⟩
      have ne : p1 ≠ p2 := fun z => by rw [z, upd_same] at hp1; cases hp1
      have h1 : H2 p1 = none := by rw [upd_ne ne] at hp1; exact hp1
      have x1' := Ext.newM (o := .lst (es.map V.int).reverse) e2.w hp2
      have x2' := Ext.newM (o := .lst [.ref p2, .int m]) x1'.w hp1
      refine q (p1, p2) S2 _ (a1.x.trans (e2.trans (x1'.trans x2'))) ⟨x2'.w.sh, fun r hr => ?_⟩
      cases hr
      refine ⟨ne, Evl.fresh_back e2.w.sh h1, Evl.fresh_back e2.w.sh hp2, es.reverse, m, by rw [List.length_reverse]; exact hes, upd_same, ?_⟩
      show upd _ p1 _ p2 = _
      rw [upd_ne (Ne.symm ne), upd_same, List.map_reverse]
theorem ringSide_small (r : List Pt) (p : FP) : -1 ≤ ringSide r p ∧ ringSide r p ≤ 1 := by
  unfold ringSide
  split
  · omega
  · split <;> omega
theorem sideOf_small (o : List Pt) (hs : List (List Pt)) (p : FP) : -1 ≤ sideOf o hs p ∧ sideOf o hs p ≤ 1 := by
  have key : ∀ f s : Int, -1 ≤ f → f ≤ 1 → -1 ≤ s → s ≤ 1 → -1 ≤ (if f = 1 then lo2 f (-s) else f) ∧ (if f = 1 then lo2 f (-s) else f) ≤ 1 := by
    intro f s h1 h2 h3 h4
    unfold lo2
    split
    · split <;> omega
    · omega
  have : ∀ (hs : List (List Pt)) (f : Int), -1 ≤ f → f ≤ 1 → -1 ≤ hs.foldl (fun f h => if f = 1 then lo2 f (-ringSide h p) else f) f ∧ hs.foldl (fun f h => if f = 1 then lo2 f (-ringSide h p) else f) f ≤ 1 := by
    intro hs
    induction hs with
    | nil => intro f h1 h2; exact ⟨h1, h2⟩
    | cons h hs ih =>
      intro f h1 h2
      have s := ringSide_small h p
      have k := key f _ h1 h2 s.1 s.2
      exact ih _ k.1 k.2
  exact this hs _ (ringSide_small o p).1 (ringSide_small o p).2
theorem log_tiny {i : Int} (h : i.natAbs ≤ 100000) : i.natAbs.log2 < 1920 := log_small (Nat.lt_of_le_of_lt h (by decide +kernel))
/-- what must be so of a plate and a point -/
structure RightPre (o : List Pt) (hs : List (List Pt)) (p : FP) : Prop where
  pb : PlB o hs
  pt : PtS p
  side : ∀ r, r ∈ o :: hs → LawSide r p (ringSide r p)
  fold : hs.foldl (lawFold fun r => ringSide r p) (ringSide o p) = sideOf o hs p
  wh : lawWhereD o hs p (sideOf o hs p) = whereD o hs p
  tr : ∀ r, r ∈ o :: hs → ringSide r p ≠ 0 → ∀ d, FarD d → (lawCrossed (scl r p) (spot p) d).1 = ringTurns r p
  ts : ∀ r, r ∈ o :: hs → (ringTurns r p).natAbs ≤ 1000
theorem PtS.b' {p : FP} (h : PtS p) : PtB p := ⟨h.a, Int.lt_trans h.b (by decide), h.c, Int.lt_trans h.d (by decide)⟩
theorem fit_num {x : Str} {i : Int} (hx : PyData.strOk x = true) : fit (.tup [.str x, .int i]) = true := by
  show (true && ((PyData.strOk x && (true && true)) && decide (1 ≤ 64))) = true
  rw [hx]
  rfl
theorem fit_one {x : Str} (hx : PyData.strOk x = true) : fit (.tup [.str x]) = true := by
  show (true && ((PyData.strOk x && true) && decide (1 ≤ 64))) = true
  rw [hx]
  rfl
theorem sk1 : PyData.strOk (Str.ofString "corner") = true := by decide +kernel
theorem sk2 : PyData.strOk (Str.ofString "side") = true := by decide +kernel
theorem sk3 : PyData.strOk (Str.ofString "inside") = true := by decide +kernel
theorem sk4 : PyData.strOk (Str.ofString "outside") = true := by decide +kernel
theorem where_ok {o : List Pt} {hs : List (List Pt)} {p : FP} (pb : PlB o hs) : RepOk (whereD o hs p) ∧ fit (whereD o hs p) = true := by
  have hf := pb.flat
  unfold whereD
  split
  · rename_i i hi
    have := List.mem_range.mp (List.mem_of_find?_eq_some hi)
    exact ⟨rep_num rp1 (log_tiny (by omega)), fit_num sk1⟩
  · split
    · rename_i e he
      have := ixSides_mem _ _ e (fun r hr => (pb.ne r hr).1) (List.mem_of_find?_eq_some he)
      exact ⟨rep_num rp2 (log_tiny (by omega)), fit_num sk2⟩
    · unfold sideD
      split
      · exact ⟨rep_one rp3, fit_one sk3⟩
      · exact ⟨rep_one rp4, fit_one sk4⟩
def R_l_point_right (ds : List Da) (Q : Da → Prop) : Prop := ∃ o hs p, ds = [dPl o hs, .tup [dR o, dHs hs], dFP p] ∧ RightPre o hs p ∧ Q (.bl true)
abbrev s_l_point_right : Stmt := topS 75
abbrev n_l_point_right : List Str := ["_law_deal_here", "_law_plate", "_law_rings_here", "_law_point_here", "_law_outer", "_law_holes", "_law_corners", "_law_due", "_law_hole", "_law_where_here", "_law_ring_here", "_law_side_here", "_law_some", "_law_spot", "_law_far", "_law_turns"]
theorem sc_l_point_right : FnScope n_l_point_right ["_law_deal_here", "_law_plate", "_law_rings_here", "_law_point_here"] (defScope s_l_point_right) := ⟨rfl, rfl, rfl, by decide +kernel, rfl, by decide +kernel, by decide +kernel⟩
def t_l_point_right (K : PySem.W.Frag) (C : Addr) : TS :=
  (tSeq (tAsg (tVar 2) (gTup K 2 (gCons (gName 4) (gCons (gName 5) gNil))))
    (tSeq (tPar 6 7 (tCons (tVar 4) (tCons (tCall (spG K C R_l_side) [] E0 (tCons (tVar 0) (tCons (tVar 2) (tCons (tVar 3) tNil)))) tNil)))
    (tSeq (tFor (iSeq K (tVar 5)) (gName 8)
    (tAsg (tOp (rPlus K) (tVar 6) (tVar 8)) (gName 6)))
    (tSeq (tIfS (tOr (tTest (tOp rNe (tCB (rReprD K) (tCons (tCall (spP K C R_side_of) [] E0 (tCons (tVar 1) (tCons (tVar 3) tNil))) tNil)) (tCB (rReprD K) (tCons (tVar 7) tNil)))) (tTest (tOp (rNeD K) (tCallKw (spP K C R_side_of) (tCons (tVar 3) (tCons (tVar 1) tNil))) (tVar 7)))) (tRet (tC (.bl false))) tNext)
    (tSeq (tAsg (tCall (spP K C R_l_where) [] E0 (tCons (tVar 2) (tCons (tVar 6) (tCons (tVar 3) (tCons (tVar 7) tNil))))) (gName 9))
    (tSeq (tIfS (tOr (tTest (tOp rNe (tCB (rReprD K) (tCons (tCall (spP K C R_where_in) [] E0 (tCons (tVar 1) (tCons (tVar 3) tNil))) tNil)) (tCB (rReprD K) (tCons (tVar 9) tNil)))) (tTest (tOp (rNeD K) (tCallKw (spP K C R_where_in) (tCons (tVar 3) (tCons (tVar 1) tNil))) (tVar 9)))) (tRet (tC (.bl false))) tNext)
    (tSeq (tFor (iSeq K (tOp (rPlus K) (tTup (tCons (tVar 4) tNil)) (tVar 5))) (gName 10)
    (tSeq (tAsg (tCall (spG K C R_l_ring_side) [] E0 (tCons (tVar 0) (tCons (tVar 10) (tCons (tVar 3) tNil)))) (gName 11))
    (tSeq (tIfS (tOr (tTest (tOp rNe (tCB (rReprD K) (tCons (tCall (spP K C R_ring_side) [] E0 (tCons (tVar 10) (tCons (tVar 3) tNil))) tNil)) (tCB (rReprD K) (tCons (tVar 11) tNil)))) (tTest (tOp (rNeD K) (tCallKw (spP K C R_ring_side) (tCons (tVar 3) (tCons (tVar 10) tNil))) (tVar 11)))) (tRet (tC (.bl false))) tNext)
    (tIfS (tTest (tOp (rNeD K) (tVar 11) (tC (.int 0)))) (tSeq (tAsg (tCall (spP K C R_l_scaled) [] E0 (tCons (tVar 10) (tCons (tVar 3) tNil))) (gTup K 2 (gCons (gName 12) (gCons (gName 13) gNil))))
    (tSeq (tAsg (tOp (rPlus K) (tOp (rI CMulW fun i j => .int (i * j)) (tOp (rI CPow fun i j => .int (i ^ j.toNat)) (tC (.int 10)) (tC (.int 60))) (tOp (rI CPow fun i j => .int (i ^ j.toNat)) (tC (.int 10)) (tC (.int 60)))) (tCall (spG K C R_l_any) [] E0 (tCons (tVar 0) (tCons (tC (.int 99)) tNil)))) (gName 14))
    (tSeq (tAsg (tOp (rIx K) (tCall (spP K C R_l_crossed) [] E0 (tCons (tVar 12) (tCons (tVar 13) (tCons (tCall (spG K C R_l_of) [] E0 (tCons (tVar 0) (tCons (tLst (tCons (tTup (tCons (tVar 14) (tCons (tC (.int 1)) tNil))) (tCons (tTup (tCons (tC (.int 1)) (tCons (tVar 14) tNil))) (tCons (tTup (tCons (tOp (rI0 fun i j => .int (i - j)) (tC (.int 0)) (tVar 14)) (tCons (tC (.int 1)) tNil))) (tCons (tTup (tCons (tUn (rU fun i => .int (-i)) (tC (.int 1))) (tCons (tOp (rI0 fun i j => .int (i - j)) (tC (.int 0)) (tVar 14)) tNil))) tNil))))) tNil))) tNil)))) (tC (.int 0))) (gName 15))
    (tIfS (tOr (tTest (tOp rNe (tCB (rReprD K) (tCons (tCall (spP K C R_ring_turns) [] E0 (tCons (tVar 10) (tCons (tVar 3) tNil))) tNil)) (tCB (rReprD K) (tCons (tVar 15) tNil)))) (tTest (tOp (rNeD K) (tCallKw (spP K C R_ring_turns) (tCons (tVar 3) (tCons (tVar 10) tNil))) (tVar 15)))) (tRet (tC (.bl false))) tNext)))) tNext))))
    (tRet (tC (.bl true))))))))))
theorem bd_l_point_right (c_l_side : Cal P w K mg base "_law_side" 4 ["_law_deal_here", "_law_plate", "_law_point_here"] (spG K C R_l_side)) (c_side_of : Cal P w K mg base "side_of" 4 ["plate", "point"] (spP K C R_side_of)) (k_side_of : CalK P w K mg base "side_of" 4 ["plate", "point"] ["point", "plate"] (spP K C R_side_of)) (c_l_where : Cal P w K mg base "_law_where" 2 ["_law_plate", "_law_corners", "_law_point_here", "_law_side_here"] (spP K C R_l_where)) (c_where_in : Cal P w K mg base "where_in" 5 ["plate", "point"] (spP K C R_where_in)) (k_where_in : CalK P w K mg base "where_in" 5 ["plate", "point"] ["point", "plate"] (spP K C R_where_in)) (c_l_ring_side : Cal P w K mg base "_law_ring_side" 3 ["_law_deal_here", "_law_ring_here", "_law_point_here"] (spG K C R_l_ring_side)) (c_ring_side : Cal P w K mg base "ring_side" 3 ["ring", "point"] (spP K C R_ring_side)) (k_ring_side : CalK P w K mg base "ring_side" 3 ["ring", "point"] ["point", "ring"] (spP K C R_ring_side)) (c_l_scaled : Cal P w K mg base "_law_scaled" 1 ["_law_ring_here", "_law_point_here"] (spP K C R_l_scaled)) (c_l_any : Cal P w K mg base "_law_any" 1 ["_law_deal_here", "_law_bound"] (spG K C R_l_any)) (c_l_crossed : Cal P w K mg base "_law_crossed" 1 ["_law_ring_here", "_law_spot", "_law_way"] (spP K C R_l_crossed)) (c_l_of : Cal P w K mg base "_law_of" 2 ["_law_deal_here", "_law_some"] (spG K C R_l_of)) (c_ring_turns : Cal P w K mg base "ring_turns" 2 ["ring", "point"] (spP K C R_ring_turns)) (k_ring_turns : CalK P w K mg base "ring_turns" 2 ["ring", "point"] ["point", "ring"] (spP K C R_ring_turns)) (m_repr : mg "repr" = none) {f : Addr} {cdv : Value} {A : Around} {outer : List PySem.Env} {s : Shared} {H : Hp} {E : XK} (hr : Room 5 (A.deeper (envOfC "_law_point_right" (defScope s_l_point_right) s.heap.objs.size f cdv))) (hg : (A.deeper (envOfC "_law_point_right" (defScope s_l_point_right) s.heap.objs.size f cdv)).guards = some []) :
    PSs (cxOf CX0 P w K mg base n_l_point_right "_law_point_right" (defScope s_l_point_right) f cdv A outer s H E).nox (defBody s_l_point_right) (t_l_point_right K C) :=
  (pss_cons (ps_asg (pv 2) (pg_tup (by rfl) (pgs_cons (pg_name (i := 4) sc_l_point_right.nd rfl (Or.inl rfl)) (pgs_cons (pg_name (i := 5) sc_l_point_right.nd rfl (Or.inl rfl)) pgs_nil))))
    (pss_cons (ps_par (i := 6) (j := 7) (by rfl) sc_l_point_right.nd rfl rfl (by decide) rfl rfl (pa_cons (pv 4) (pa_cons (pe_callC c_l_side (hr.mono (by decide)) (by rfl) (pa_cons (pv 0) (pa_cons (pv 2) (pa_cons (pv 3) pa_nil)))) pa_nil)) (by rfl))
    (pss_cons (ps_for PassesOwn.never rfl (pi_seq (pv 5)) (pg_name (i := 8) sc_l_point_right.nd rfl (Or.inl rfl))
    (pss_one (ps_set (i := 6) sc_l_point_right.nd rfl (Or.inl rfl) (pe_op op_plus (pv 6) (pv 8)))))
    (pss_cons (ps_if (PW.pt (pw_or (pt_cmpR op_ne (pe_callB (call_reprD hg (hr_in hr)) (by rfl) m_repr (by decide +kernel) (pa_cons (pe_callC c_side_of (hr.mono (by decide)) (by rfl) (pa_cons (pv 1) (pa_cons (pv 3) pa_nil))) pa_nil)) (pe_callB (call_reprD hg (hr_in hr)) (by rfl) m_repr (by decide +kernel) (pa_cons (pv 7) pa_nil)) (nomark _)) (pw_or1 (pt_cmpR (op_neD hr.units) (pe_callKw k_side_of (hr.mono (by decide)) (by rfl) (pk_cons (pv 3) (pk_cons (pv 1) pk_nil))) (pv 7) (nomark _))))) (pss_one (ps_ret pe_bl)) pss_nil)
    (pss_cons (ps_set (i := 9) sc_l_point_right.nd rfl (Or.inl rfl) (pe_callC c_l_where (hr.mono (by decide)) (by rfl) (pa_cons (pv 2) (pa_cons (pv 6) (pa_cons (pv 3) (pa_cons (pv 7) pa_nil))))))
    (pss_cons (ps_if (PW.pt (pw_or (pt_cmpR op_ne (pe_callB (call_reprD hg (hr_in hr)) (by rfl) m_repr (by decide +kernel) (pa_cons (pe_callC c_where_in (hr.mono (by decide)) (by rfl) (pa_cons (pv 1) (pa_cons (pv 3) pa_nil))) pa_nil)) (pe_callB (call_reprD hg (hr_in hr)) (by rfl) m_repr (by decide +kernel) (pa_cons (pv 9) pa_nil)) (nomark _)) (pw_or1 (pt_cmpR (op_neD hr.units) (pe_callKw k_where_in (hr.mono (by decide)) (by rfl) (pk_cons (pv 3) (pk_cons (pv 1) pk_nil))) (pv 9) (nomark _))))) (pss_one (ps_ret pe_bl)) pss_nil)
    (pss_cons (ps_for PassesOwn.never rfl (pi_seq (pe_op op_plus (pe_tup (pa_cons (pv 4) pa_nil)) (pv 5))) (pg_name (i := 10) sc_l_point_right.nd rfl (Or.inl rfl))
    (pss_cons (ps_set (i := 11) sc_l_point_right.nd rfl (Or.inl rfl) (pe_callC c_l_ring_side (hr.mono (by decide)) (by rfl) (pa_cons (pv 0) (pa_cons (pv 10) (pa_cons (pv 3) pa_nil)))))
    (pss_cons (ps_if (PW.pt (pw_or (pt_cmpR op_ne (pe_callB (call_reprD hg (hr_in hr)) (by rfl) m_repr (by decide +kernel) (pa_cons (pe_callC c_ring_side (hr.mono (by decide)) (by rfl) (pa_cons (pv 10) (pa_cons (pv 3) pa_nil))) pa_nil)) (pe_callB (call_reprD hg (hr_in hr)) (by rfl) m_repr (by decide +kernel) (pa_cons (pv 11) pa_nil)) (nomark _)) (pw_or1 (pt_cmpR (op_neD hr.units) (pe_callKw k_ring_side (hr.mono (by decide)) (by rfl) (pk_cons (pv 3) (pk_cons (pv 10) pk_nil))) (pv 11) (nomark _))))) (pss_one (ps_ret pe_bl)) pss_nil)
    (pss_one (ps_if (pt_cmpR (op_neD hr.units) (pv 11) pe_int (nomark _)) (pss_cons (ps_asg (pe_callC c_l_scaled (hr.mono (by decide)) (by rfl) (pa_cons (pv 10) (pa_cons (pv 3) pa_nil))) (pg_tup (by rfl) (pgs_cons (pg_name (i := 12) sc_l_point_right.nd rfl (Or.inl rfl)) (pgs_cons (pg_name (i := 13) sc_l_point_right.nd rfl (Or.inl rfl)) pgs_nil))))
    (pss_cons (ps_set (i := 14) sc_l_point_right.nd rfl (Or.inl rfl) (pe_op op_plus (pe_op op_mulW (pe_op op_pow pe_int pe_int) (pe_op op_pow pe_int pe_int)) (pe_callC c_l_any (hr.mono (by decide)) (by rfl) (pa_cons (pv 0) (pa_cons pe_int pa_nil)))))
    (pss_cons (ps_set (i := 15) sc_l_point_right.nd rfl (Or.inl rfl) (pe_ix ix_seq (pe_callC c_l_crossed (hr.mono (by decide)) (by rfl) (pa_cons (pv 12) (pa_cons (pv 13) (pa_cons (pe_callC c_l_of (hr.mono (by decide)) (by rfl) (pa_cons (pv 0) (pa_cons (pe_lst (pa_cons (pe_tup (pa_cons (pv 14) (pa_cons pe_int pa_nil))) (pa_cons (pe_tup (pa_cons pe_int (pa_cons (pv 14) pa_nil))) (pa_cons (pe_tup (pa_cons (pe_op op_sub pe_int (pv 14)) (pa_cons pe_int pa_nil))) (pa_cons (pe_tup (pa_cons (pe_un un_neg pe_int) (pa_cons (pe_op op_sub pe_int (pv 14)) pa_nil))) pa_nil))))) pa_nil))) pa_nil)))) pe_int (fun _ _ => rfl)))
    (pss_one (ps_if (PW.pt (pw_or (pt_cmpR op_ne (pe_callB (call_reprD hg (hr_in hr)) (by rfl) m_repr (by decide +kernel) (pa_cons (pe_callC c_ring_turns (hr.mono (by decide)) (by rfl) (pa_cons (pv 10) (pa_cons (pv 3) pa_nil))) pa_nil)) (pe_callB (call_reprD hg (hr_in hr)) (by rfl) m_repr (by decide +kernel) (pa_cons (pv 15) pa_nil)) (nomark _)) (pw_or1 (pt_cmpR (op_neD hr.units) (pe_callKw k_ring_turns (hr.mono (by decide)) (by rfl) (pk_cons (pv 3) (pk_cons (pv 10) pk_nil))) (pv 15) (nomark _))))) (pss_one (ps_ret pe_bl)) pss_nil))))) pss_nil)))))
    (pss_one (ps_ret pe_bl)))))))))
theorem fit_eqv {d : Da} (h : fit d = true) : PyData.eqv d.py d.py = true := SeqAt.eqv_refl _ (SeqAt.canLay_of_shaped ((Bool.and_eq_true _ _).mp h).2)
theorem ring_nums {r : List Pt} {p : FP} {i : Int} (h : PyData.eqv (Da.int i).py (Da.int i).py = true) : True := trivial
theorem eqv_int (i j : Int) : PyData.eqv (Da.int i).py (Da.int j).py = (i == j) := rfl
theorem wk_l_point_right : ∀ p ds Q, R_l_point_right ds Q → SW ⟨K, C, some p⟩ (t_l_point_right K C) ⟨.deal :: (ds.map .dat ++ List.replicate 12 .un), none⟩ ⟨fun _ => Q .non, Q, fun _ => False, fun _ => False⟩ := by
  rintro dl _ Q ⟨o, hs, p, rfl, pre, q⟩
  have pb := pre.pb
  have hf := pb.flat
  have hp := pre.pt
  have hpb := hp.b'
  have hln := pb.ln
  have rb : ∀ r, r ∈ o :: hs → r.length ≤ 1000 ∧ ∀ c, c ∈ r → Sm c := fun r hr => ⟨Nat.le_trans (pb.ne r hr).2 (by decide), fun c hc => pb.s hr hc⟩
  have ss := sideOf_small o hs p
  unfold t_l_point_right
  refine sw_seq (sw_asg ?_)
  walk_at "go"
  refine ⟨o, hs, p, fun r => ringSide r p, rfl, fun r hr => ⟨(rb r hr).1, (rb r hr).2, pre.side r hr⟩, hp, ?_⟩
  rw [pre.fold]
  generalize hv : sideOf o hs p = v at *
  walk_at "go"
  refine sw_forM hs dR (iw_sqT (by walk_at "go"; rfl)) (fun pre A' => ∃ x, A' = ⟨[.deal, .dat (dPl o hs), .dat (.tup [dR o, dHs hs]), .dat (dFP p), .dat (dR o), .dat (dHs hs), .dat (dR (o :: pre).flatten), .dat (.int v), x, .un, .un, .un, .un, .un, .un, .un], none⟩) ⟨_, by rw [List.flatten_cons, List.flatten_nil, List.append_nil]; rfl⟩ ?tn ?fn
  case tn =>
    rintro pre2 h post _ he ⟨x, rfl⟩
    have l1 : (o :: pre2).flatten.length + h.length ≤ 1100 := by
      have z := flat_split (rs := o :: hs) (pre := o :: pre2) (r := h) (post := post) (by rw [he]; rfl)
      omega
    walk_at "go"
    refine plus_tup (by rw [List.length_map, List.length_map]; omega) ?_
    walk_at "go"
    refine ⟨.dat (dR h), ?_⟩
    rw [← List.map_append]
    have e : (o :: pre2).flatten ++ h = (o :: (pre2 ++ [h])).flatten := by
      rw [List.flatten_cons, List.flatten_cons, List.flatten_append]
      simp
    rw [e]
    rfl
  case fn =>
    rintro _ ⟨x, rfl⟩
    refine sw_seq (sw_ifD (b := false) ?_ (fun z => nomatch z) fun _ => sw_next (sw_seq ?_))
    · refine tw_or2 (b := false) (c := false) (tw_tst (ew_neS0 (x := toString v) (ew_repI (log_tiny (by omega)) ?_ rfl) (ew_repI (log_tiny (by omega)) ?_ rfl) rfl)) (fun _ => ?_) rfl
      · walk_at "go"
        refine ⟨o, hs, p, rfl, pb, hpb, ?_⟩
        rw [hv]
      · walk_at "go"
        rfl
      · refine tw_tst (ew_neD (ew_callKw ?_))
        walk_at "go"
        refine ⟨o, hs, p, rfl, pb, hpb, ?_⟩
        rw [hv]
        walk_at "go"
        rw [eqv_int]
        simp
    · refine sw_asg ?_
      walk_at "go"
      refine ⟨o, hs, p, v, rfl, pb, hp, ?_⟩
      rw [← hv, pre.wh, hv]
      obtain ⟨wr, wf⟩ := where_ok (p := p) pb
      have we := fit_eqv wf
      generalize hwd : whereD o hs p = wd at *
      walk_at "go"
      refine sw_ifD (b := false) ?_ (fun z => nomatch z) fun _ => sw_next (sw_seq ?_)
      · refine tw_or2 (b := false) (c := false) (tw_tst (ew_neS0 (x := wd.py.shown) (ew_repT wr ?_ rfl) (ew_repT wr ?_ rfl) rfl)) (fun _ => ?_) rfl
        · walk_at "go"
          refine ⟨o, hs, p, rfl, pb, hpb, ?_⟩
          rw [hwd]
        · walk_at "go"
          rfl
        · refine tw_tst (ew_neD (ew_callKw ?_))
          walk_at "go"
          refine ⟨o, hs, p, rfl, pb, hpb, ?_⟩
          rw [hwd]
          walk_at "go"
          rw [we]
          rfl
      · refine sw_forM (o :: hs) dR (iw_sqT ?w) (fun pre A' => ∃ x8 x10 x11 x12 x13 x14 x15, A' = ⟨[.deal, .dat (dPl o hs), .dat (.tup [dR o, dHs hs]), .dat (dFP p), .dat (dR o), .dat (dHs hs), .dat (dR (o :: hs).flatten), .dat (.int v), x8, .dat wd, x10, x11, x12, x13, x14, x15], none⟩) ⟨_, _, _, _, _, _, _, rfl⟩ ?tn2 ?fn2
        case w =>
          walk_at "go"
          refine plus_tup (by simp; omega) ?_
          rfl
        case fn2 =>
          rintro _ ⟨x8, x10, x11, x12, x13, x14, x15, rfl⟩
          walk_at "go"
          exact q
        case tn2 =>
          rintro pre2 r post _ he ⟨x8, x10, x11, x12, x13, x14, x15, rfl⟩
          have hr : r ∈ o :: hs := by rw [he]; exact List.mem_append_right _ List.mem_cons_self
          obtain ⟨r1, r2⟩ := rb r hr
          have r0 := (pb.ne r hr).1
          have rs := ringSide_small r p
          refine gw_nm (sw_seq (sw_asg ?_))
          walk_at "go"
          refine ⟨r, p, ringSide r p, rfl, r1, r2, hp, pre.side r hr, ?_⟩
          walk_at "go"
          refine sw_ifD (b := false) ?_ (fun z => nomatch z) fun _ => sw_next ?_
          · refine tw_or2 (b := false) (c := false) (tw_tst (ew_neS0 (x := toString (ringSide r p)) (ew_repI (log_tiny (by omega)) ?_ rfl) (ew_repI (log_tiny (by omega)) ?_ rfl) rfl)) (fun _ => ?_) rfl
            · walk_at "go"
              exact ⟨r, p, rfl, r0, r1, r2, hpb, rfl⟩
            · walk_at "go"
              rfl
            · refine tw_tst (ew_neD (ew_callKw ?_))
              walk_at "go"
              refine ⟨r, p, rfl, r0, r1, r2, hpb, ?_⟩
              walk_at "go"
              rw [eqv_int]
              simp
          · refine sw_ifD (b := !(ringSide r p == 0)) (by walk_at "go"; rfl) (fun hne => ?_) fun hne => sw_next ⟨_, _, _, _, _, _, _, rfl⟩
            have hne : ringSide r p ≠ 0 := by simpa using hne
            have tr := pre.tr r hr hne
            have ts := pre.ts r hr
            have b1 : ∀ c, c ∈ scl r p → BgP 100 c := fun c hc => hp.scl r2 hc
            have w1 : CMulW ((10 : Int) ^ (60 : Int).toNat) ((10 : Int) ^ (60 : Int).toNat) := cw (m := 300) (n := 300) (by unfold Bg; decide +kernel) (by unfold Bg; decide +kernel) (by decide)
            have cp : CPow 10 60 := ⟨by decide, by decide, by decide⟩
            refine sw_seq (sw_asg ?_)
            walk_at "go"
            refine ⟨r, p, .inl rfl, r1, r2, hp, ?_⟩
            walk_at "go"
            refine ⟨cp, ?_⟩
            refine ew_pow ?_
            walk_at "go"
            refine ⟨cp, ?_⟩
            walk_at "go"
            refine ⟨99, rfl, by decide, by decide, fun z z0 z1 => ?_⟩
            walk_at "go"
            refine ⟨_, .inl rfl, by show 0 < 4; decide, by show 4 < 1000000; decide, fun d hd => ?_⟩
            obtain ⟨u, hu, rfl⟩ : ∃ u, FarD u ∧ d = dP u := by
              have lo : (10 : Int) ^ 60 * 10 ^ 60 ≤ 10 ^ 60 * 10 ^ 60 + z := Int.le_add_of_nonneg_right z0
              have hi : (10 : Int) ^ 60 * 10 ^ 60 + z < 10 ^ 60 * 10 ^ 60 + 99 := Int.add_lt_add_left z1 _
              simp only [List.mem_cons, List.not_mem_nil, or_false] at hd
              rcases hd with rfl | rfl | rfl | rfl
              · exact ⟨_, ⟨_, lo, hi, .inl rfl⟩, rfl⟩
              · exact ⟨_, ⟨_, lo, hi, .inr (.inr (.inr (.inl rfl)))⟩, rfl⟩
              · exact ⟨_, ⟨_, lo, hi, .inr (.inr (.inl rfl))⟩, rfl⟩
              · exact ⟨_, ⟨_, lo, hi, .inr (.inr (.inr (.inr (.inr (.inr rfl)))))⟩, rfl⟩
            walk_at "go"
            refine ⟨_, _, _, rfl, by rw [scl_len]; exact r1, b1, hp.bg, hu.bg, ?_⟩
            walk_at "go"
            have te := tr u hu
            rw [te]
            refine sw_ifD (b := false) ?_ (fun z => nomatch z) fun _ => sw_next ⟨_, _, _, _, _, _, _, rfl⟩
            refine tw_or2 (b := false) (c := false) (tw_tst (ew_neS0 (x := toString (ringTurns r p)) (ew_repI (log_tiny (by omega)) ?_ rfl) (ew_repI (log_tiny (by omega)) ?_ rfl) rfl)) (fun _ => ?_) rfl
            · walk_at "go"
              exact ⟨r, p, rfl, r0, r1, r2, hpb, rfl⟩
            · walk_at "go"
              rfl
            · refine tw_tst (ew_neD (ew_callKw ?_))
              walk_at "go"
              refine ⟨r, p, rfl, r0, r1, r2, hpb, ?_⟩
              walk_at "go"
              rw [eqv_int]
              simp
end
end G
set_option Elab.async false
set_option linter.all false
set_option maxRecDepth 100000
namespace G
open PySem PySem.Spec L2
open Evl (Ex)
open PyProof.Rows (envOfC)
local macro_rules | `(tactic| walk_at "go") => `(tactic| repeat' (first
  | ((with_reducible refine' ew_v ?h ?k ?_); (case h => exact rfl); (case k => exact rfl))
  | with_reducible refine ew_int ?_
  | with_reducible refine ew_bl ?_
  | with_reducible refine ew_str ?_
  | with_reducible refine ew_non ?_
  | with_reducible refine ew_plus ?_
  | with_reducible refine ew_sub ?_
  | with_reducible refine ew_mul ?_
  | with_reducible refine ew_mulW ?_
  | with_reducible refine ew_fdiv ?_
  | with_reducible refine ew_mod ?_
  | with_reducible refine ew_ix ?_
  | with_reducible refine ew_lt ?_
  | with_reducible refine ew_le ?_
  | with_reducible refine ew_gt ?_
  | with_reducible refine ew_ge ?_
  | with_reducible refine ew_eqD ?_
  | with_reducible refine ew_neD ?_
  | with_reducible refine ew_neg ?_
  | with_reducible refine ew_tup ?_
  | with_reducible refine ew_lst ?_
  | with_reducible refine ew_len ?_
  | with_reducible refine ew_abs ?_
  | with_reducible refine ew_int1 ?_
  | with_reducible refine ew_gcd ?_
  | with_reducible refine ew_tupOf ?_
  | with_reducible refine ew_callP ?_
  | with_reducible refine ew_callG ?_
  | with_reducible refine ew_revL ?_
  | with_reducible refine ew_slice ?_
  | with_reducible refine ow_no ?_
  | with_reducible refine ow_some ?_
  | with_reducible refine ew_notV ?_
  | with_reducible refine ew_pow ?_
  | with_reducible refine aw_nil ?_
  | with_reducible refine aw_cons ?_
  | with_reducible refine onI2_mk ?_
  | with_reducible refine onI_mk ?_
  | with_reducible refine onB_mk ?_
  | with_reducible refine onD2_mk ?_
  | with_reducible refine onDat_mk ?_
  | with_reducible refine onL_mk ?_
  | with_reducible refine onTup_mk ?_
  | with_reducible refine onSeqT_mk ?_
  | with_reducible refine onSeqL_mk ?_
  | with_reducible refine onDs_nil ?_
  | with_reducible refine onDs_cons ?_
  | with_reducible refine onGDs_mk ?_
  | with_reducible refine on1_mk ?_
  | with_reducible refine on2_mk ?_
  | with_reducible refine plus_int ?_
  | with_reducible refine sq_tup ?_
  | with_reducible refine sq_lst ?_
  | with_reducible refine cut_tup ?_
  | with_reducible refine cut_lst ?_
  | ((with_reducible refine' ix_tup ?e ?_); (case e => first | exact rfl | assumption))
  | ((with_reducible refine' ix_lst ?e ?_); (case e => first | exact rfl | assumption))
  | ((with_reducible refine' And.intro (a := CMul _ _) ?c ?_); (case c => first | (refine mulL ⟨?_, ?_⟩ <;> omega) | (refine mulR ⟨?_, ?_⟩ <;> omega)))
  | ((with_reducible refine' And.intro (a := CMulW _ _) ?c ?_); (case c => assumption))
  | ((with_reducible refine' And.intro (a := 0 < _) ?c ?_); (case c => decide))
  | ((with_reducible refine' And.intro (a := List.length _ ≤ 100000) ?c ?_); (case c => exact Nat.le_of_ble_eq_true rfl))
  | ((with_reducible refine' And.intro (a := fit _ = true) ?c ?_); (case c => first | exact rfl | assumption))
  | with_reducible refine gw_nm ?_
  | ((with_reducible refine' gw_nmI ?h ?_); (case h => decide))
  | ((with_reducible refine' gw_tp ?h ?_); (case h => exact rfl))
  | with_reducible refine gsw_cons ?_
  | with_reducible refine gsw_nil ?_
  | with_reducible refine tw_tst ?_
  | with_reducible refine tw_b ?_
  | with_reducible refine tw_not ?_
  | with_reducible refine tw_yes ?_
  | with_reducible refine sw_seq ?_
  | with_reducible refine sw_ret ?_
  | with_reducible refine sw_asg ?_
  | with_reducible refine sw_par ?_
  | ((with_reducible refine' sw_aug ?h ?_); (case h => exact rfl))
  | with_reducible refine sw_next ?_
  | with_reducible refine sw_brk ?_
  | ((with_reducible refine' ew_andD ?h ?g ?_); (case h => (walk_at "go"; exact rfl)); (case g => (intro _; walk_at "go"; exact rfl)))
  | ((with_reducible refine' ew_orD ?h ?g ?_); (case h => (walk_at "go"; exact rfl)); (case g => (intro _; walk_at "go"; exact rfl)))
  | ((with_reducible refine' tw_and2 ?h ?g ?_); (case h => (walk_at "go"; exact rfl)); (case g => (intro _; walk_at "go"; exact rfl)))
  | ((with_reducible refine' tw_or2 ?h ?g ?_); (case h => (walk_at "go"; exact rfl)); (case g => (intro _; walk_at "go"; exact rfl)))
  | ((with_reducible refine' ew_chD ?h ?g ?k ?_); (case h => (walk_at "go"; exact rfl)); (case g => (walk_at "go"; exact rfl)); (case k => (walk_at "go"; exact rfl)))
  | ((with_reducible refine' ew_isiInt ?h ?_); (case h => (walk_at "go"; exact rfl)))
  | ((with_reducible refine' ew_isiBool ?h ?_); (case h => (walk_at "go"; exact rfl)))
  | ((with_reducible refine' ew_isiTup ?h ?_); (case h => (walk_at "go"; exact rfl)))))
section
variable {P : Program} {w : World} {K : PySem.W.Frag} {mg : Str → Option Value} {base : Heap} {C : Addr}

/-- the guarded rule for a def that is handed the deal first -/
theorem okGd {name : Str} {N ps : List Str} {st : Stmt} {k : Nat} {t : TS} {R : List Da → (Da → Prop) → Prop} (F : DefAt K mg name ps st) (Sc : FnScope N ps (defScope st)) (hl : ∀ ds Q, R ds Q → ds.length + 1 = ps.length)
    (hb : ∀ (f : Addr) (cdv : Value) (A : Around) (outer : List PySem.Env) (s : Shared) (H : Hp) (E : XK), Room k (A.deeper (envOfC name (defScope st) s.heap.objs.size f cdv)) → (A.deeper (envOfC name (defScope st) s.heap.objs.size f cdv)).guards = some [] → PSs (cxOf CX0 P w K mg base N name (defScope st) f cdv A outer s H E).nox (defBody st) t)
    (body : ∀ p ds Q, R ds Q → SW ⟨K, C, some p⟩ t ⟨.deal :: (ds.map .dat ++ List.replicate (N.length - ps.length) .un), none⟩ ⟨fun _ => Q .non, Q, fun _ => False, fun _ => False⟩) : CalG P w K mg base name (k + 1) ps (spG K C R) := by
  obtain ⟨f, fd, Fu, hm, hbd⟩ := F.ex
  obtain ⟨⟨oc, od, kV, doc, pm, an, cdv, ct, osl, rfl, lk, hcd⟩, kp⟩ := Fu
  refine ⟨f, _, fnG_of lk hcd Sc (fun vs H Q E h => ?_) (fun A outer s H vs Q E gd hr h => ?_), hm, kp, hbd⟩
  · obtain ⟨p, S, ws, ds, P, rfl, hw, hd, hR, q⟩ := h
    rw [List.length_cons, hd.len]
    exact hl _ _ hR
  · obtain ⟨p, S, ws, ds, P', rfl, hw, hd, hR, q⟩ := h
    refine ⟨t, (hb f cdv A outer s H E hr gd).nox, ?_⟩
    have len : (V.ref p.1 :: ws).length = ps.length := by rw [List.length_cons, hd.len]; exact hl _ _ hR
    have a : At ⟨K, C, some p⟩ S H S H (L2.start N (.ref p.1 :: ws)) 0 ⟨.deal :: (ds.map .dat ++ List.replicate (N.length - ps.length) .un), none⟩ := by
      refine ⟨.refl hw, ⟨hw, ?_, fun _ z => nomatch z⟩, fun z => absurd rfl z⟩
      have e : L2.start N (.ref p.1 :: ws) = some (.ref p.1) :: (ws.map some ++ List.replicate (N.length - ps.length) none) := by
        unfold L2.start
        rw [len]
        rfl
      rw [e]
      exact .cons ⟨p, rfl, rfl⟩ (init_ok hd)
    exact body p ds P' hR S H S H _ 0 a _ ⟨fun S1 H1 σ1 l1 A1 a1 p => q S1 H1 .non .non a1.x .non p, fun S1 H1 v d e s p => q S1 H1 v d e s p, fun _ _ _ _ _ _ p => p.elim, fun _ _ _ _ _ _ p => p.elim⟩
/-- a point inside -/
structure InnerOk (o : List Pt) (hs : List (List Pt)) : Prop where
  ex : ∃ l h rest p0 p1 ps, NsOf (o :: hs).flatten (l :: h :: rest) ∧ crossAt (o :: hs) (mkFr (l + h) 2) = p0 :: p1 :: ps ∧ PtS (fHalf (fPlus p0 p1), mkFr (l + h) 2) ∧ sideOf o hs (fHalf (fPlus p0 p1), mkFr (l + h) 2) = 1
/-- what the mathematics gives of a drawn plate -/
structure Facts (o : List Pt) (hs : List (List Pt)) : Prop where
  gp : GoodPlate o hs
  pb : PlB o hs
  rt : ∀ p, PtS p → RightPre o hs p
  io : InnerOk o hs
def R_law (o : Da) : Prop := True
theorem gcd_one {t b : Int} (hb : 0 < b) : Nat.gcd (mkFr t b).1.natAbs (mkFr t b).2.natAbs = 1 := by
  unfold mkFr
  rw [if_neg (by omega)]
  have g0 : 0 < Nat.gcd t.natAbs b.natAbs := Nat.gcd_pos_of_pos_right _ (by omega)
  have e1 : (t / ((Nat.gcd t.natAbs b.natAbs : Nat) : Int)).natAbs = t.natAbs / Nat.gcd t.natAbs b.natAbs := by
    rw [Int.natAbs_ediv_of_dvd (Int.ofNat_dvd_left.mpr (Nat.gcd_dvd_left _ _))]
    rfl
  have e2 : (b / ((Nat.gcd t.natAbs b.natAbs : Nat) : Int)).natAbs = b.natAbs / Nat.gcd t.natAbs b.natAbs := by
    rw [Int.natAbs_ediv_of_dvd (Int.ofNat_dvd_left.mpr (Nat.gcd_dvd_right _ _))]
    rfl
  show Nat.gcd (t / ((Nat.gcd t.natAbs b.natAbs : Nat) : Int)).natAbs (b / ((Nat.gcd t.natAbs b.natAbs : Nat) : Int)).natAbs = 1
  rw [e1, e2, Nat.gcd_div (Nat.gcd_dvd_left _ _) (Nat.gcd_dvd_right _ _), Nat.div_self g0]
/-- lowest terms stay -/
theorem mk_again {t b : Int} (hb : 0 < b) : mkFr (mkFr t b).1 (mkFr t b).2 = mkFr t b := by
  have g := gcd_one (t := t) hb
  have p := (mkFr_B (t := t) (b := b) (by omega)).1
  generalize mkFr t b = f at *
  unfold mkFr
  rw [if_neg (by omega), g]
  show (f.1 / 1, f.2 / 1) = f
  rw [Int.ediv_one, Int.ediv_one]
theorem half_again (f : Fr) (h : 0 < f.2) : mkFr (fHalf f).1 (fHalf f).2 = fHalf f := mk_again (by omega)
abbrev s_law : Stmt := topS 76
abbrev n_law : List Str := ["_law_script", "_law_deal_here", "_law_turn", "_law_outer", "_law_holes", "_law_plate", "_law_step", "_law_point_here", "_law_part"]
theorem sc_law : FnScope n_law ["_law_script"] (defScope s_law) := ⟨rfl, rfl, rfl, by decide +kernel, rfl, by decide +kernel, by decide +kernel⟩
def t_law (K : PySem.W.Frag) (C : Addr) : TS :=
  (tSeq (tAsg (tCall (spD K C) [] E0 (tCons (tVar 0) (tCons (tC (.int 12)) tNil))) (gName 1))
    (tSeq (tFor (iRng1 (tCons (tC (.int 2)) tNil)) (gName 2)
    (tSeq (tAsg (tCall (spG K C R_l_rings) [] E0 (tCons (tVar 1) (tCons (tC (.int 3)) tNil))) (gTup K 2 (gCons (gName 3) (gCons (gName 4) gNil))))
    (tSeq (tAsg (tPlate K C R_init (tCons (tVar 3) (tCons (tVar 4) tNil))) (gName 5))
    (tSeq (tFor (iRng1 (tCons (tC (.int 4)) tNil)) (gName 6)
    (tSeq (tAsg (tCall (spG K C R_l_point) [] E0 (tCons (tVar 1) (tCons (tCall (spG K C R_l_of) [] E0 (tCons (tVar 1) (tCons (tOp (rPlus K) (tTup (tCons (tVar 3) tNil)) (tVar 4)) tNil))) tNil))) (gName 7))
    (tIfS (tNot (tB (tCall (spG K C R_l_point_right) [] E0 (tCons (tVar 1) (tCons (tVar 5) (tCons (tTup (tCons (tVar 3) (tCons (tVar 4) tNil))) (tCons (tVar 7) tNil))))))) (tRet (tC (.bl false))) tNext)))
    (tSeq (tAsg (tCall (spP K C R_inner_point) [] E0 (tCons (tVar 5) tNil)) (gName 7))
    (tSeq (tIfS (tOr (tTest (tOp (rNeD K) (tCallKw (spP K C R_inner_point) (tCons (tVar 5) tNil)) (tVar 7))) (tOr (tNot (tB (tCB (rIsi K) (tCons (tVar 7) (tCons (tC (.ty "tuple")) tNil))))) (tTest (tOp (rNeD K) (tCB (rLen K) (tCons (tVar 7) tNil)) (tC (.int 2)))))) (tRet (tC (.bl false))) tNext)
    (tSeq (tIfS (tTest (tOp rNe (tCB (rReprD K) (tCons (tVar 7) tNil)) (tCB (rReprD K) (tCons (tCB (rTupOf K) (tCons (tLc (iSeq K (tVar 7)) (gName 8) tYes (tCall (spP K C R_l_frac) [] E0 (tCons (tOp (rIx K) (tVar 8) (tC (.int 0))) (tCons (tOp (rIx K) (tVar 8) (tC (.int 1))) tNil))) [8]) tNil)) tNil)))) (tRet (tC (.bl false))) tNext)
    (tIfS (tOr (tTest (tOp (rNeD K) (tCall (spG K C R_l_side) [] E0 (tCons (tVar 1) (tCons (tTup (tCons (tVar 3) (tCons (tVar 4) tNil))) (tCons (tVar 7) tNil)))) (tC (.int 1)))) (tTest (tOp (rNeD K) (tCall (spP K C R_side_of) [] E0 (tCons (tVar 5) (tCons (tVar 7) tNil))) (tC (.int 1))))) (tRet (tC (.bl false))) tNext))))))))
    (tRet (tC (.bl true)))))
theorem bd_law (c_l_deal : Cal P w K mg base "_law_deal" 1 ["_law_script", "_law_base"] (spD K C)) (c_l_rings : Cal P w K mg base "_law_rings" 4 ["_law_deal_here", "_law_most"] (spG K C R_l_rings)) (c_l_point : Cal P w K mg base "_law_point" 3 ["_law_deal_here", "_law_corners"] (spG K C R_l_point)) (c_l_of : Cal P w K mg base "_law_of" 2 ["_law_deal_here", "_law_some"] (spG K C R_l_of)) (c_l_point_right : CalG P w K mg base "_law_point_right" 6 ["_law_deal_here", "_law_plate", "_law_rings_here", "_law_point_here"] (spG K C R_l_point_right)) (c_inner_point : Cal P w K mg base "inner_point" 5 ["plate"] (spP K C R_inner_point)) (k_inner_point : CalK P w K mg base "inner_point" 5 ["plate"] ["plate"] (spP K C R_inner_point)) (c_l_frac : Cal P w K mg base "_law_frac" 1 ["_law_top", "_law_bottom"] (spP K C R_l_frac)) (c_l_side : Cal P w K mg base "_law_side" 4 ["_law_deal_here", "_law_plate", "_law_point_here"] (spG K C R_l_side)) (c_side_of : Cal P w K mg base "side_of" 4 ["plate", "point"] (spP K C R_side_of)) (m_range : mg "range" = none) (m_tuple : mg "tuple" = none) (m_isinstance : mg "isinstance" = none) (m_len : mg "len" = none) (m_repr : mg "repr" = none) (c_init : InitAt P w K mg base C 9 R_init) (m_Plate : mg "Plate" = some (.ref C)) {f : Addr} {cdv : Value} {A : Around} {outer : List PySem.Env} {s : Shared} {H : Hp} {E : XK} (hr : Room 10 (A.deeper (envOfC "law" (defScope s_law) s.heap.objs.size f cdv))) (hg : (A.deeper (envOfC "law" (defScope s_law) s.heap.objs.size f cdv)).guards = some []) :
    PSs (cxOf CX0 P w K mg base n_law "law" (defScope s_law) f cdv A outer s H E).nox (defBody s_law) (t_law K C) :=
  (pss_cons (ps_set (i := 1) sc_law.nd rfl (Or.inl rfl) (pe_callC c_l_deal (hr.mono (by decide)) (by rfl) (pa_cons (pv 0) (pa_cons pe_int pa_nil))))
    (pss_cons (ps_for PassesOwn.never rfl (pi_range1 (by rfl) m_range (pa_cons pe_int pa_nil)) (pg_name (i := 2) sc_law.nd rfl (Or.inl rfl))
    (pss_cons (ps_asg (pe_callC c_l_rings (hr.mono (by decide)) (by rfl) (pa_cons (pv 1) (pa_cons pe_int pa_nil))) (pg_tup (by rfl) (pgs_cons (pg_name (i := 3) sc_law.nd rfl (Or.inl rfl)) (pgs_cons (pg_name (i := 4) sc_law.nd rfl (Or.inl rfl)) pgs_nil))))
    (pss_cons (ps_set (i := 5) sc_law.nd rfl (Or.inl rfl) (pe_plate c_init hr (by decide) (by rfl) m_Plate (pa_cons (pv 3) (pa_cons (pv 4) pa_nil))))
    (pss_cons (ps_for PassesOwn.never rfl (pi_range1 (by rfl) m_range (pa_cons pe_int pa_nil)) (pg_name (i := 6) sc_law.nd rfl (Or.inl rfl))
    (pss_cons (ps_set (i := 7) sc_law.nd rfl (Or.inl rfl) (pe_callC c_l_point (hr.mono (by decide)) (by rfl) (pa_cons (pv 1) (pa_cons (pe_callC c_l_of (hr.mono (by decide)) (by rfl) (pa_cons (pv 1) (pa_cons (pe_op op_plus (pe_tup (pa_cons (pv 3) pa_nil)) (pv 4)) pa_nil))) pa_nil))))
    (pss_one (ps_if (pt_not (pt_val (pe_callGd c_l_point_right hg (hr.mono (by decide)) (by rfl) (pa_cons (pv 1) (pa_cons (pv 5) (pa_cons (pe_tup (pa_cons (pv 3) (pa_cons (pv 4) pa_nil))) (pa_cons (pv 7) pa_nil))))))) (pss_one (ps_ret pe_bl)) pss_nil))))
    (pss_cons (ps_set (i := 7) sc_law.nd rfl (Or.inl rfl) (pe_callC c_inner_point (hr.mono (by decide)) (by rfl) (pa_cons (pv 5) pa_nil)))
    (pss_cons (ps_if (PW.pt (pw_or (pt_cmpR (op_neD hr.units) (pe_callKw k_inner_point (hr.mono (by decide)) (by rfl) (pk_cons (pv 5) pk_nil)) (pv 7) (nomark _)) (pw_or (pt_not (pt_val (pe_callB call_isi (by rfl) m_isinstance (by decide +kernel) (pa_cons (pv 7) (pa_cons (pe_bltn (by rfl) m_tuple (by decide +kernel) rfl) pa_nil))))) (pw_or1 (pt_cmpR (op_neD hr.units) (pe_callB call_lenG (by rfl) m_len PySem.boot_len (pa_cons (pv 7) pa_nil)) pe_int (nomark _)))))) (pss_one (ps_ret pe_bl)) pss_nil)
    (pss_cons (ps_if (pt_cmpR op_ne (pe_callB (call_reprD hg (hr_in hr)) (by rfl) m_repr (by decide +kernel) (pa_cons (pv 7) pa_nil)) (pe_callB (call_reprD hg (hr_in hr)) (by rfl) m_repr (by decide +kernel) (pa_cons (pe_callTy call_tupG (by rfl) m_tuple (by decide +kernel) (pa_cons (pe_lc (own := [("_law_part", 8)]) (by rfl) sc_law.nd (pi_seq (pv 7)) (blkOk_by (own := [("_law_part", 8)]) (N := n_law) (sc := defScope s_law) (by decide +kernel)) (fun _ _ _ _ _ => (pg_name (i := 8) sc_law.nd rfl (Or.inl rfl))) (fun _ _ _ _ _ => pts_nil) (fun _ _ _ _ _ => (pe_callC c_l_frac (hr.mono (by decide)) (by rfl) (pa_cons (pe_ix ix_seq (pv 8) pe_int (fun _ _ => rfl)) (pa_cons (pe_ix ix_seq (pv 8) pe_int (fun _ _ => rfl)) pa_nil))))) pa_nil)) pa_nil)) (nomark _)) (pss_one (ps_ret pe_bl)) pss_nil)
    (pss_one (ps_if (PW.pt (pw_or (pt_cmpR (op_neD hr.units) (pe_callC c_l_side (hr.mono (by decide)) (by rfl) (pa_cons (pv 1) (pa_cons (pe_tup (pa_cons (pv 3) (pa_cons (pv 4) pa_nil))) (pa_cons (pv 7) pa_nil)))) pe_int (nomark _)) (pw_or1 (pt_cmpR (op_neD hr.units) (pe_callC c_side_of (hr.mono (by decide)) (by rfl) (pa_cons (pv 5) (pa_cons (pv 7) pa_nil))) pe_int (nomark _))))) (pss_one (ps_ret pe_bl)) pss_nil)))))))))
    (pss_one (ps_ret pe_bl))))
theorem wk_law (T : PlateCls K C) (facts : ∀ o hs, PlateBase o hs → Facts o hs) {p : Addr × Addr} {x : Da} : SW ⟨K, C, some p⟩ (tSeq (tFor (iRng1 (tCons (tC (.int 2)) tNil)) (gName 2)
    (tSeq (tAsg (tCall (spG K C R_l_rings) [] E0 (tCons (tVar 1) (tCons (tC (.int 3)) tNil))) (gTup K 2 (gCons (gName 3) (gCons (gName 4) gNil))))
    (tSeq (tAsg (tPlate K C R_init (tCons (tVar 3) (tCons (tVar 4) tNil))) (gName 5))
    (tSeq (tFor (iRng1 (tCons (tC (.int 4)) tNil)) (gName 6)
    (tSeq (tAsg (tCall (spG K C R_l_point) [] E0 (tCons (tVar 1) (tCons (tCall (spG K C R_l_of) [] E0 (tCons (tVar 1) (tCons (tOp (rPlus K) (tTup (tCons (tVar 3) tNil)) (tVar 4)) tNil))) tNil))) (gName 7))
    (tIfS (tNot (tB (tCall (spG K C R_l_point_right) [] E0 (tCons (tVar 1) (tCons (tVar 5) (tCons (tTup (tCons (tVar 3) (tCons (tVar 4) tNil))) (tCons (tVar 7) tNil))))))) (tRet (tC (.bl false))) tNext)))
    (tSeq (tAsg (tCall (spP K C R_inner_point) [] E0 (tCons (tVar 5) tNil)) (gName 7))
    (tSeq (tIfS (tOr (tTest (tOp (rNeD K) (tCallKw (spP K C R_inner_point) (tCons (tVar 5) tNil)) (tVar 7))) (tOr (tNot (tB (tCB (rIsi K) (tCons (tVar 7) (tCons (tC (.ty "tuple")) tNil))))) (tTest (tOp (rNeD K) (tCB (rLen K) (tCons (tVar 7) tNil)) (tC (.int 2)))))) (tRet (tC (.bl false))) tNext)
    (tSeq (tIfS (tTest (tOp rNe (tCB (rReprD K) (tCons (tVar 7) tNil)) (tCB (rReprD K) (tCons (tCB (rTupOf K) (tCons (tLc (iSeq K (tVar 7)) (gName 8) tYes (tCall (spP K C R_l_frac) [] E0 (tCons (tOp (rIx K) (tVar 8) (tC (.int 0))) (tCons (tOp (rIx K) (tVar 8) (tC (.int 1))) tNil))) [8]) tNil)) tNil)))) (tRet (tC (.bl false))) tNext)
    (tIfS (tOr (tTest (tOp (rNeD K) (tCall (spG K C R_l_side) [] E0 (tCons (tVar 1) (tCons (tTup (tCons (tVar 3) (tCons (tVar 4) tNil))) (tCons (tVar 7) tNil)))) (tC (.int 1)))) (tTest (tOp (rNeD K) (tCall (spP K C R_side_of) [] E0 (tCons (tVar 5) (tCons (tVar 7) tNil))) (tC (.int 1))))) (tRet (tC (.bl false))) tNext))))))))
    (tRet (tC (.bl true))))
    ⟨[.dat x, .deal, .un, .un, .un, .un, .un, .un, .un], none⟩ ⟨fun _ => False, fun d => d = .bl true, fun _ => False, fun _ => False⟩ := by
  refine sw_seq (sw_forM (List.range 2) (fun (m : Nat) => .int (0 + (m : Nat))) (iw_r1 (n := 2) (by walk_at "go"; rfl) ⟨by decide, by decide⟩) (fun pre A' => ∃ x2 x3 x4 x5 x6 x7 x8, A' = ⟨[.dat x, .deal, x2, x3, x4, x5, x6, x7, x8], none⟩) ⟨_, _, _, _, _, _, _, rfl⟩ ?tn ?fn)
  case fn =>
    rintro _ ⟨x2, x3, x4, x5, x6, x7, x8, rfl⟩
    walk_at "go"
    rfl
  case tn =>
    rintro pre m post _ hs0 ⟨x2, x3, x4, x5, x6, x7, x8, rfl⟩
    refine gw_nm (sw_seq (sw_asg ?_))
    walk_at "go"
    refine ⟨rfl, fun o hs hpb => ?_⟩
    obtain ⟨gp, pb, rt, io⟩ := facts o hs hpb
    have rb : ∀ r, r ∈ o :: hs → r ≠ [] ∧ r.length ≤ 1000 ∧ ∀ c, c ∈ r → Mid c := fun r hr => ⟨(pb.ne r hr).1, Nat.le_trans (pb.ne r hr).2 (by decide), fun c hc => by
      obtain ⟨⟨a, b⟩, c', d⟩ := pb.sm r hr c hc
      exact ⟨a, b, c', d⟩⟩
    have hln := pb.ln
    walk_at "go"
    refine ew_plate ?_
    walk_at "go"
    refine ⟨_, _, rfl, ⟨o, hs, rfl, rfl, gp⟩, ?_⟩
    walk_at "go"
    refine sw_forM (List.range 4) (fun (m : Nat) => .int (0 + (m : Nat))) (iw_r1 (n := 4) (by walk_at "go"; rfl) ⟨by decide, by decide⟩) (fun pre A' => ∃ x6 x7 x8, A' = ⟨[.dat x, .deal, .dat (.int (0 + (m : Nat))), .dat (dR o), .dat (dHs hs), .dat (dPl o hs), x6, x7, x8], none⟩) ⟨_, _, _, rfl⟩ ?tn2 ?fn2
    case tn2 =>
      rintro pre2 m2 post2 _ hs2 ⟨x6, x7, x8, rfl⟩
      refine gw_nm (sw_seq (sw_asg ?_))
      walk_at "go"
      refine plus_tup (by simp; omega) ?_
      walk_at "go"
      refine ⟨(o :: hs).map dR, .inr rfl, by simp, by simp; omega, fun d hd => ?_⟩
      obtain ⟨r, hr, rfl⟩ := List.mem_map.mp hd
      obtain ⟨r0, r1, r2⟩ := rb r hr
      walk_at "go"
      refine ⟨r, rfl, r0, r1, r2, fun pt hpt => ?_⟩
      walk_at "go"
      refine sw_ifD (b := false) ?_ (fun z => nomatch z) fun _ => sw_next ⟨_, _, _, rfl⟩
      walk_at "go"
      refine ⟨o, hs, pt, rfl, rt pt hpt, ?_⟩
      walk_at "go"
      rfl
    case fn2 =>
      rintro _ ⟨x6, x7, x8, rfl⟩
      obtain ⟨l, h, rest, p0, p1, ps, i1, i2, i3, i4⟩ := io.ex
      have pre3 := rt _ i3
      have hR : ∀ Q : Da → Prop, Q (dFP (fHalf (fPlus p0 p1), mkFr (l + h) 2)) → R_inner_point [dPl o hs] Q := fun Q q => ⟨o, hs, l, h, rest, p0, p1, ps, rfl, pb, i1, i2, q⟩
      have again2 : mkFr (mkFr (l + h) 2).1 (mkFr (l + h) 2).2 = mkFr (l + h) 2 := mk_again (by decide)
      have hb' := mid_B (pb.ns i1 List.mem_cons_self) (pb.ns i1 (List.mem_cons_of_mem _ List.mem_cons_self))
      have c0 := pb.raw hb' (at_B (rs := o :: hs) (f := p0) (by rw [i2]; exact List.mem_cons_self))
      have c1 := pb.raw hb' (at_B (rs := o :: hs) (f := p1) (by rw [i2]; exact List.mem_cons_of_mem _ List.mem_cons_self))
      have pos : 0 < (fPlus p0 p1).2 := by
        have z : 0 < p0.2 * p1.2 := Int.mul_pos c0.2.1 c1.2.1
        exact (mkFr_B (t := p0.1 * p1.2 + p1.1 * p0.2) (b := p0.2 * p1.2) (by omega)).1
      have again1 := half_again _ pos
      generalize fHalf (fPlus p0 p1) = fx at *
      generalize mkFr (l + h) 2 = fy at *
      obtain ⟨s1, s2, s3, s4, s5, s6, s7, s8⟩ := i3
      simp only at s1 s2 s3 s4 s5 s6 s7 s8
      have rep : RepOk (dFP (fx, fy)) := rep_fp (log_small (by simp only; omega)) (log_small (by simp only; omega)) (log_small (by simp only; omega)) (log_small (by simp only; omega))
      refine sw_seq (sw_asg ?_)
      walk_at "go"
      refine hR _ ?_
      walk_at "go"
      refine sw_ifD (b := false) ?_ (fun z => nomatch z) fun _ => sw_next (sw_seq ?_)
      · refine tw_or2 (b := false) (c := false) (tw_tst (ew_neD (ew_callKw ?_))) (fun _ => tw_or2 (b := false) (c := false) ?_ (fun _ => ?_) rfl) rfl
        · walk_at "go"
          refine hR _ ?_
          walk_at "go"
          rw [fit_eqv (d := dFP (fx, fy)) rfl]
          rfl
        · walk_at "go"
          rfl
        · walk_at "go"
          rfl
      refine sw_ifD (b := false) ?_ (fun z => nomatch z) fun _ => sw_next ?_
      · refine tw_tst (ew_neS0 (x := (dFP (fx, fy)).py.shown) (ew_repT rep (by walk_at "go"; rfl) rfl) (ew_repT rep ?_ rfl) rfl)
        refine ew_tupOf (aw_cons (ew_lcM [fx, fy] dP dP (iw_sqT (by walk_at "go"; rfl)) (by show 2 ≤ 100000; decide) (fun f hf => ?_) ?_))
        · have fr : mkFr f.1 f.2 = f ∧ 0 < f.2 ∧ f.2 < 2 ^ 30 := by
            simp only [List.mem_cons, List.not_mem_nil, or_false] at hf
            rcases hf with rfl | rfl
            · exact ⟨again1, s1, s2⟩
            · exact ⟨again2, s3, s4⟩
          walk_at "go"
          refine ⟨f.1, f.2, rfl, fr.2.1, fr.2.2, ?_⟩
          rw [fr.1]
        · walk_at "go"
          rfl
      · refine sw_ifD (b := false) ?_ (fun z => nomatch z) fun _ => sw_next ⟨_, _, _, _, _, _, _, rfl⟩
        refine tw_or2 (b := false) (c := false) (tw_tst (ew_neD (ew_callG ?_))) (fun _ => tw_tst (ew_neD (ew_callP ?_))) rfl
        · walk_at "go"
          refine ⟨o, hs, (fx, fy), fun r => ringSide r (fx, fy), rfl, fun r hr => ⟨(rb r hr).2.1, fun c hc => pb.s hr hc, pre3.side r hr⟩, pre3.pt, ?_⟩
          rw [pre3.fold, i4]
          walk_at "go"
          rfl
        · walk_at "go"
          refine ⟨o, hs, (fx, fy), rfl, pb, pre3.pt.b', ?_⟩
          rw [i4]
          walk_at "go"
          rfl
/-- what the law promises -/
def spLaw (K : PySem.W.Frag) : Sp := fun vs H Q _ => ∃ (a : Addr) (ns : List Int), vs = [.ref a] ∧ SqL K H a (ns.map V.int) ∧ ∀ H', Q (.bl true) H'
end
end G
set_option Elab.async false
set_option linter.all false
/-! Half lines from the origin, and how often a ring goes over them: it does not hang on the half line. -/
namespace G
def cr (a b : Pt) : Int := a.1 * b.2 - a.2 * b.1
def dt (a b : Pt) : Int := a.1 * b.1 + a.2 * b.2
def b2 (p : Prop) [Decidable p] : Int := if p then 1 else 0
/-- how the side from a to b goes over the half line d from the origin -/
def wnd (d a b : Pt) : Int := b2 (cr d a ≤ 0 ∧ 0 < cr d b ∧ 0 < cr a b) - b2 (cr d b ≤ 0 ∧ 0 < cr d a ∧ cr a b < 0)
/-- the side does not hold the origin -/
def Off (a b : Pt) : Prop := cr a b ≠ 0 ∨ 0 < dt a b
def gs (d e v : Pt) : Int := b2 (0 < cr d v ∧ cr e v ≤ 0)
theorem prod_pos {x y : Int} (h : 0 < x) (g : 0 < y) : 0 < x * y := Int.mul_pos h g
theorem sgn4 (x y : Int) : (x ≤ 0 → y ≤ 0 → 0 ≤ x * y) ∧ (x ≤ 0 → 0 < y → x * y ≤ 0) ∧ (0 < x → y ≤ 0 → x * y ≤ 0) ∧ (0 < x → 0 < y → 0 < x * y) :=
  ⟨fun h g => Int.mul_nonneg_of_nonpos_of_nonpos h g, fun h g => Int.mul_nonpos_of_nonpos_of_nonneg h (Int.le_of_lt g), fun h g => Int.mul_nonpos_of_nonneg_of_nonpos (Int.le_of_lt h) g, fun h g => Int.mul_pos h g⟩
theorem ray_step {d e a b : Pt} (hD : 0 < cr d e) (off : Off a b) : wnd d a b - wnd e a b = gs d e b - gs d e a := by
  have id1 : cr d e * cr a b = cr d a * cr e b - cr d b * cr e a := by unfold cr; grind
  have id2 : cr d b * dt a a - cr d a * dt a b = cr a b * dt d a := by unfold cr dt; grind
  have id3 : cr e b * dt a a - cr e a * dt a b = cr a b * dt e a := by unfold cr dt; grind
  have s1 := sgn4 (cr d a) (cr e b)
  have s2 := sgn4 (cr d b) (cr e a)
  have s3 := sgn4 (cr d e) (cr a b)
  unfold wnd gs b2
  unfold Off at off
  by_cases hc : cr a b = 0
  · have hd : 0 < dt a b := off.resolve_left (fun z => z hc)
    have ha : 0 < dt a a := by
      by_cases z1 : a.1 = 0
      · by_cases z2 : a.2 = 0
        · unfold dt at hd
          rw [z1, z2] at hd
          simp at hd
        · unfold dt
          have : 0 < a.2 * a.2 := by
            rcases Int.lt_or_gt_of_ne z2 with z | z
            · exact Int.mul_pos_of_neg_of_neg z z
            · exact Int.mul_pos z z
          have : 0 ≤ a.1 * a.1 := by rw [z1]; decide
          omega
      · unfold dt
        have : 0 < a.1 * a.1 := by
          rcases Int.lt_or_gt_of_ne z1 with z | z
          · exact Int.mul_pos_of_neg_of_neg z z
          · exact Int.mul_pos z z
        have : 0 ≤ a.2 * a.2 := by
          rcases Int.le_total 0 a.2 with z | z
          · exact Int.mul_nonneg z z
          · exact Int.mul_nonneg_of_nonpos_of_nonpos z z
        omega
    rw [hc, Int.zero_mul] at id2 id3
    have t1 := sgn4 (cr d b) (dt a a)
    have t2 := sgn4 (cr d a) (dt a b)
    have t3 := sgn4 (cr e b) (dt a a)
    have t4 := sgn4 (cr e a) (dt a b)
    have u1 : 0 < cr d b ↔ 0 < cr d a := by
      constructor
      · intro h
        have := t1.2.2.2 h ha
        rcases Int.lt_or_le 0 (cr d a) with z | z
        · exact z
        · have := t2.2.1 z hd
          omega
      · intro h
        have := t2.2.2.2 h hd
        rcases Int.lt_or_le 0 (cr d b) with z | z
        · exact z
        · have := t1.2.1 z ha
          omega
    have u2 : 0 < cr e b ↔ 0 < cr e a := by
      constructor
      · intro h
        have := t3.2.2.2 h ha
        rcases Int.lt_or_le 0 (cr e a) with z | z
        · exact z
        · have := t4.2.1 z hd
          omega
      · intro h
        have := t4.2.2.2 h hd
        rcases Int.lt_or_le 0 (cr e b) with z | z
        · exact z
        · have := t3.2.1 z ha
          omega
    rw [hc]
    split <;> split <;> split <;> split <;> (try split) <;> (try split) <;> omega
  · rcases Int.lt_or_gt_of_ne hc with hc | hc
    · have := s3.2.2.1 hD (Int.le_of_lt hc)
      have : cr d e * cr a b < 0 := Int.mul_neg_of_pos_of_neg hD hc
      clear id2 id3
      generalize cr d e * cr a b = X at *
      generalize cr d a * cr e b = Y at *
      generalize cr d b * cr e a = Z at *
      generalize cr d a = p at *
      generalize cr d b = q at *
      generalize cr e a = r at *
      generalize cr e b = s at *
      generalize cr a b = c at *
      generalize cr d e = D at *
      rcases Int.lt_or_le 0 p with hp | hp <;> rcases Int.lt_or_le 0 q with hq | hq <;> rcases Int.lt_or_le 0 r with hr | hr <;> rcases Int.lt_or_le 0 s with hs | hs <;> simp_all <;> omega
    · have := s3.2.2.2 hD hc
      clear id2 id3
      generalize cr d e * cr a b = X at *
      generalize cr d a * cr e b = Y at *
      generalize cr d b * cr e a = Z at *
      generalize cr d a = p at *
      generalize cr d b = q at *
      generalize cr e a = r at *
      generalize cr e b = s at *
      generalize cr a b = c at *
      generalize cr d e = D at *
      rcases Int.lt_or_le 0 p with hp | hp <;> rcases Int.lt_or_le 0 q with hq | hq <;> rcases Int.lt_or_le 0 r with hr | hr <;> rcases Int.lt_or_le 0 s with hs | hs <;> simp_all <;> omega

/-- without a thought of which is ahead -/
theorem ray_any {d e a b : Pt} (hD : cr d e ≠ 0) (off : Off a b) : ∃ F : Pt → Int, (wnd d a b - wnd e a b = F b - F a) ∧ F = (if 0 < cr d e then gs d e else fun v => - gs e d v) := by
  by_cases h : 0 < cr d e
  · exact ⟨_, by rw [if_pos h]; exact ray_step h off, rfl⟩
  · have h2 : 0 < cr e d := by
      have : cr e d = - cr d e := by unfold cr; grind
      omega
    refine ⟨_, ?_, rfl⟩
    rw [if_neg h]
    have := ray_step h2 off
    show _ = - gs e d b - - gs e d a
    omega
def sb (a s : Pt) : Pt := (a.1 - s.1, a.2 - s.2)
/-- how often the ring goes round s, counted on the half line d -/
def Wn (d : Pt) (r : List Pt) (s : Pt) : Int := ((sides r).map fun e => wnd d (sb e.1 s) (sb e.2 s)).sum
def OffR (r : List Pt) (s : Pt) : Prop := ∀ e, e ∈ sides r → Off (sb e.1 s) (sb e.2 s)
theorem sum_range_tele (F : Int → Int) : ∀ n : Nat, ((List.range n).map fun (i : Nat) => F ((i : Int) + 1) - F i).sum = F n - F 0
  | 0 => by simp
  | n + 1 => by
    rw [List.range_succ, List.map_append, List.sum_append, sum_range_tele F n]
    simp
    omega
/-- once round -/
theorem sum_cyc (F : Pt → Int) (r : List Pt) : ((sides r).map fun e => F e.2 - F e.1).sum = 0 := by
  rw [sides_map, List.map_map]
  have := sum_range_tele (fun z => F (cg r z)) r.length
  rw [cg_len] at this
  have e : ((fun e : Pt × Pt => F e.2 - F e.1) ∘ fun (i : Nat) => (cg r (i : Int), cg r ((i : Int) + 1))) = fun (i : Nat) => F (cg r ((i : Int) + 1)) - F (cg r i) := rfl
  rw [e, this]
  omega
theorem sum_congr {α : Type} {f g : α → Int} : ∀ {l : List α}, (∀ x, x ∈ l → f x = g x) → (l.map f).sum = (l.map g).sum
  | [], _ => rfl
  | x :: l, h => by
    rw [List.map_cons, List.map_cons, List.sum_cons, List.sum_cons, h x List.mem_cons_self, sum_congr fun y hy => h y (List.mem_cons_of_mem _ hy)]
theorem sum_sub {α : Type} (f g : α → Int) : ∀ l : List α, (l.map fun x => f x - g x).sum = (l.map f).sum - (l.map g).sum
  | [] => rfl
  | x :: l => by
    rw [List.map_cons, List.map_cons, List.map_cons, List.sum_cons, List.sum_cons, List.sum_cons, sum_sub f g l]
    omega
theorem sum_neg {α : Type} (f : α → Int) : ∀ l : List α, (l.map fun x => - f x).sum = - (l.map f).sum
  | [] => rfl
  | x :: l => by
    rw [List.map_cons, List.map_cons, List.sum_cons, List.sum_cons, sum_neg f l]
    omega
theorem ray_ind0 {d e : Pt} {r : List Pt} {s : Pt} (hD : cr d e ≠ 0) (off : OffR r s) : Wn d r s = Wn e r s := by
  have z : Wn d r s - Wn e r s = 0 := by
    unfold Wn
    rw [← sum_sub]
    have key : ((sides r).map fun x => wnd d (sb x.1 s) (sb x.2 s) - wnd e (sb x.1 s) (sb x.2 s)).sum = ((sides r).map fun x => (fun v => (if 0 < cr d e then gs d e else fun v => - gs e d v) (sb v s)) x.2 - (fun v => (if 0 < cr d e then gs d e else fun v => - gs e d v) (sb v s)) x.1).sum := by
      refine sum_congr fun x hx => ?_
      obtain ⟨F, h1, h2⟩ := ray_any hD (off x hx)
      subst h2
      exact h1
    exact key.trans (sum_cyc (fun v => (if 0 < cr d e then gs d e else fun v => - gs e d v) (sb v s)) r)
  omega
def perp (d : Pt) : Pt := (- d.2, d.1)
theorem sq_pos {x : Int} (h : x ≠ 0) : 0 < x * x := by
  rcases Int.lt_or_gt_of_ne h with z | z
  · exact Int.mul_pos_of_neg_of_neg z z
  · exact Int.mul_pos z z
theorem sq_nn (x : Int) : 0 ≤ x * x := by
  by_cases h : x = 0
  · rw [h]; decide
  · exact Int.le_of_lt (sq_pos h)
theorem nz_cases {d : Pt} (h : d ≠ (0, 0)) : d.1 ≠ 0 ∨ d.2 ≠ 0 := by
  by_cases h1 : d.1 = 0
  · refine .inr fun h2 => h ?_
    obtain ⟨a, b⟩ := d
    simp only at h1 h2
    rw [h1, h2]
  · exact .inl h1
theorem cr_perp {d : Pt} (h : d ≠ (0, 0)) : 0 < cr d (perp d) := by
  have e : cr d (perp d) = d.1 * d.1 + d.2 * d.2 := by unfold cr perp; grind
  rw [e]
  have a := sq_nn d.1
  have b := sq_nn d.2
  rcases nz_cases h with z | z
  · have := sq_pos z; omega
  · have := sq_pos z; omega
/-- THE count of turns: any half line serves -/
theorem ray_ind {d e : Pt} {r : List Pt} {s : Pt} (hd : d ≠ (0, 0)) (he : e ≠ (0, 0)) (off : OffR r s) : Wn d r s = Wn e r s := by
  by_cases h : cr d e = 0
  · have h1 := cr_perp hd
    have h2 : cr e (perp d) ≠ 0 := fun z => by
      -- d x e = 0 and e . d = 0
      have z1 : e.1 * d.1 + e.2 * d.2 = 0 := by
        have : cr e (perp d) = e.1 * d.1 + e.2 * d.2 := by unfold cr perp; grind
        rw [← this]; exact z
      have h3 : 0 < (d.1 * d.1 + d.2 * d.2) := by
        have : cr d (perp d) = d.1 * d.1 + d.2 * d.2 := by unfold cr perp; grind
        rw [← this]; exact h1
      unfold cr at h
      have a1 : e.1 * (d.1 * d.1 + d.2 * d.2) = 0 := by grind
      have a2 : e.2 * (d.1 * d.1 + d.2 * d.2) = 0 := by grind
      rcases Int.mul_eq_zero.mp a1 with b1 | b1
      · rcases Int.mul_eq_zero.mp a2 with b2 | b2
        · obtain ⟨x, y⟩ := e
          simp only at b1 b2
          exact he (by rw [b1, b2])
        · omega
      · omega
    exact (ray_ind0 (by omega) off).trans (ray_ind0 h2 off).symm
  · exact ray_ind0 h off
end G
set_option Elab.async false
set_option linter.all false
/-! The program's and the law's counts are the half line's. -/
namespace G
theorem cr10 (v : Pt) : cr (1, 0) v = v.2 := by unfold cr; simp
theorem cr_area (a b s : Pt) : cr (sb a s) (sb b s) = area a b s := by unfold cr sb area; grind
theorem past_w (a b s : Pt) : past a b s = wnd (1, 0) (sb a s) (sb b s) := by
  unfold past wnd b2
  rw [cr10, cr10, cr_area]
  show _ = (if a.2 - s.2 ≤ 0 ∧ 0 < b.2 - s.2 ∧ 0 < area a b s then (1 : Int) else 0) - (if b.2 - s.2 ≤ 0 ∧ 0 < a.2 - s.2 ∧ area a b s < 0 then 1 else 0)
  have h1 : (a.2 ≤ s.2 ∧ s.2 < b.2 ∧ 0 < area a b s) ↔ (a.2 - s.2 ≤ 0 ∧ 0 < b.2 - s.2 ∧ 0 < area a b s) := by omega
  have h2 : (b.2 ≤ s.2 ∧ s.2 < a.2 ∧ area a b s < 0) ↔ (b.2 - s.2 ≤ 0 ∧ 0 < a.2 - s.2 ∧ area a b s < 0) := by omega
  simp only [h1, h2]
theorem turns_w (r : List Pt) (s : Pt) : turnsW r s = Wn (1, 0) r s := by
  unfold turnsW Wn
  exact sum_congr fun e _ => past_w e.1 e.2 s
/-- a point scaled -/
def sc (p : FP) (c : Pt) : Pt := (c.1 * p.1.2 * p.2.2, c.2 * p.1.2 * p.2.2)
theorem scl_map (r : List Pt) (p : FP) : scl r p = r.map (sc p) := rfl
theorem cg_map {r : List Pt} (T : Pt → Pt) (z : Int) (h : r ≠ []) : cg (r.map T) z = T (cg r z) := by
  unfold cg
  rw [List.length_map, List.getD_eq_getElem?_getD, List.getElem?_map, List.getD_eq_getElem?_getD, List.getElem?_eq_getElem (cg_lt h)]
  rfl
theorem sides_of_map (T : Pt → Pt) (r : List Pt) : sides (r.map T) = (sides r).map fun e => (T e.1, T e.2) := by
  by_cases h : r = []
  · subst h; rfl
  · rw [sides_map, sides_map, List.length_map, List.map_map]
    refine List.map_congr_left fun i _ => ?_
    show (cg (r.map T) i, cg (r.map T) (i + 1)) = (T (cg r i), T (cg r (i + 1)))
    rw [cg_map T _ h, cg_map T _ h]
theorem Wn_map (T : Pt → Pt) (d : Pt) (r : List Pt) (s : Pt) : Wn d (r.map T) s = ((sides r).map fun e => wnd d (sb (T e.1) s) (sb (T e.2) s)).sum := by
  unfold Wn
  rw [sides_of_map, List.map_map]
  rfl
theorem pos_le {k z : Int} (h : 0 < k) : k * z ≤ 0 ↔ z ≤ 0 := by
  constructor
  · intro h1
    rcases Int.lt_or_le 0 z with y | y
    · have := Int.mul_pos h y; omega
    · exact y
  · intro h1
    exact Int.mul_nonpos_of_nonneg_of_nonpos (Int.le_of_lt h) h1
theorem pos_lt {k z : Int} (h : 0 < k) : 0 < k * z ↔ 0 < z := by
  constructor
  · intro h1
    rcases Int.lt_or_le 0 z with y | y
    · exact y
    · have := Int.mul_nonpos_of_nonneg_of_nonpos (Int.le_of_lt h) y; omega
  · exact Int.mul_pos h
theorem pos_neg {k z : Int} (h : 0 < k) : k * z < 0 ↔ z < 0 := by
  have h1 := pos_le (z := -z) h
  have h2 := pos_lt (z := -z) h
  rw [Int.mul_neg] at h1 h2
  omega
theorem left_cr (a b : Pt) (p : FP) : cr (sb (sc p a) (spot p)) (sb (sc p b) (spot p)) = (p.1.2 * p.2.2) * leftBy a b p := by unfold cr sb sc spot leftBy; grind
theorem left_swap (a b : Pt) (p : FP) : leftBy b a p = - leftBy a b p := by unfold leftBy; grind
theorem high_cr (a : Pt) (p : FP) : cr (1, 0) (sb (sc p a) (spot p)) = p.1.2 * (a.2 * p.2.2 - p.2.1) := by unfold cr sb sc spot; grind
theorem goPast_w {a b : Pt} {p : FP} (h1 : 0 < p.1.2) (h2 : 0 < p.2.2) : goPast a b p = wnd (1, 0) (sb (sc p a) (spot p)) (sb (sc p b) (spot p)) := by
  have hk : 0 < p.1.2 * p.2.2 := Int.mul_pos h1 h2
  unfold goPast wnd b2 risesPast
  rw [high_cr, high_cr, left_cr, left_swap a b p]
  simp only [pos_le h1, pos_lt h1, pos_lt hk, pos_neg hk, Bool.and_eq_true, decide_eq_true_eq]
  have e1 : ((a.2 * p.2.2 ≤ p.2.1 ∧ p.2.1 < b.2 * p.2.2) ∧ 0 < leftBy a b p) ↔ (a.2 * p.2.2 - p.2.1 ≤ 0 ∧ 0 < b.2 * p.2.2 - p.2.1 ∧ 0 < leftBy a b p) := by omega
  have e2 : ((b.2 * p.2.2 ≤ p.2.1 ∧ p.2.1 < a.2 * p.2.2) ∧ 0 < -leftBy a b p) ↔ (b.2 * p.2.2 - p.2.1 ≤ 0 ∧ 0 < a.2 * p.2.2 - p.2.1 ∧ leftBy a b p < 0) := by omega
  simp only [e1, e2]
theorem ring_w {r : List Pt} {p : FP} (h1 : 0 < p.1.2) (h2 : 0 < p.2.2) : ringTurns r p = Wn (1, 0) (scl r p) (spot p) := by
  rw [scl_map, Wn_map]
  unfold ringTurns
  exact sum_congr fun e _ => goPast_w h1 h2
/-! ### the law's loop -/
theorem sum_shift (F : Int → Int) (n : Nat) (h : F n = F 0) : ((List.range n).map fun (i : Nat) => F ((i : Int) + 1)).sum = ((List.range n).map fun (i : Nat) => F (i : Int)).sum := by
  have t := sum_range_tele F n
  rw [sum_sub (fun (i : Nat) => F ((i : Int) + 1)) (fun (i : Nat) => F (i : Int))] at t
  omega
theorem sum_backs (F : Pt × Pt → Int) (r : List Pt) : ((backs r).map F).sum = ((sides r).map F).sum := by
  unfold backs
  rw [sides_map, List.map_map, List.map_map]
  have e := sum_shift (fun z => F (cg r (z - 1), cg r z)) r.length (by
    show F (cg r ((r.length : Int) - 1), cg r (r.length : Int)) = F (cg r (0 - 1), cg r 0)
    rw [cg_len, show (r.length : Int) - 1 = (0 - 1) + r.length from by omega, cg_add])
  show ((List.range r.length).map fun (i : Nat) => F (cg r ((i : Int) - 1), cg r (i : Int))).sum = ((List.range r.length).map fun (i : Nat) => F (cg r (i : Int), cg r ((i : Int) + 1))).sum
  rw [← e]
  exact sum_congr fun i _ => by rw [Int.add_sub_cancel]
theorem backs_iff (r : List Pt) (e : Pt × Pt) : e ∈ backs r ↔ e ∈ sides r := by
  unfold backs
  rw [sides_map]
  constructor
  · intro h
    obtain ⟨i, hi, rfl⟩ := List.mem_map.mp h
    have hi := List.mem_range.mp hi
    by_cases z : i = 0
    · subst z
      refine List.mem_map.mpr ⟨r.length - 1, List.mem_range.mpr (by omega), ?_⟩
      have e1 : ((r.length - 1 : Nat) : Int) = (((0 : Nat) : Int) - 1) + r.length := by omega
      rw [e1, cg_add, show (((0 : Nat) : Int) - 1 + (r.length : Int)) + 1 = ((0 : Nat) : Int) + r.length from by omega, cg_add]
    · refine List.mem_map.mpr ⟨i - 1, List.mem_range.mpr (by omega), ?_⟩
      have e1 : ((i - 1 : Nat) : Int) = (i : Int) - 1 := by omega
      rw [e1, Int.sub_add_cancel]
  · intro h
    obtain ⟨i, hi, rfl⟩ := List.mem_map.mp h
    have hi := List.mem_range.mp hi
    by_cases z : i + 1 = r.length
    · refine List.mem_map.mpr ⟨0, List.mem_range.mpr (by omega), ?_⟩
      have e1 : (i : Int) = (((0 : Nat) : Int) - 1) + r.length := by omega
      rw [e1, cg_add, show (((0 : Nat) : Int) - 1 + (r.length : Int)) + 1 = ((0 : Nat) : Int) + r.length from by omega, cg_add]
    · refine List.mem_map.mpr ⟨i + 1, List.mem_range.mpr (by omega), ?_⟩
      have e1 : ((i + 1 : Nat) : Int) = (i : Int) + 1 := by omega
      rw [e1, Int.add_sub_cancel]
theorem crossed_sums (s d : Pt) : ∀ (l : List (Pt × Pt)) (t : Int × Int), l.foldl (crStep d s) t = (t.1 + (l.map fun e => b2 (crUp d s e = true) - b2 (crDn d s e = true)).sum, t.2 + (l.map fun e => b2 (crUp d s e = true) + b2 (crDn d s e = true)).sum)
  | [], t => by simp
  | e :: l, t => by
    rw [List.foldl_cons, crossed_sums s d l, List.map_cons, List.map_cons, List.sum_cons, List.sum_cons]
    unfold crStep b2
    by_cases h1 : crUp d s e = true <;> by_cases h2 : crDn d s e = true <;> simp [h1, h2] <;> omega
theorem way_cr (d a s : Pt) : wayOne d a s = cr d (sb a s) := rfl
theorem turn_cr (a b s : Pt) : turnAt a b s = cr (sb a s) (sb b s) := by unfold turnAt cr sb; grind
/-- no corner stands on the line of d -/
def Clear (d : Pt) (r : List Pt) (s : Pt) : Prop := ∀ v, v ∈ r → cr d (sb v s) ≠ 0
theorem step_w {d s : Pt} {e : Pt × Pt} (h1 : cr d (sb e.1 s) ≠ 0) (h2 : cr d (sb e.2 s) ≠ 0) : b2 (crUp d s e = true) - b2 (crDn d s e = true) = wnd d (sb e.1 s) (sb e.2 s) := by
  unfold wnd crUp crDn
  rw [way_cr, way_cr, turn_cr]
  simp only [Bool.and_eq_true, decide_eq_true_eq]
  generalize cr d (sb e.1 s) = x at *
  generalize cr d (sb e.2 s) = y at *
  generalize cr (sb e.1 s) (sb e.2 s) = z at *
  have e1 : (x < 0 ∧ 0 < y ∧ 0 < z) ↔ (x ≤ 0 ∧ 0 < y ∧ 0 < z) := by omega
  have e2 : (0 < x ∧ y < 0 ∧ z < 0) ↔ (y ≤ 0 ∧ 0 < x ∧ z < 0) := by omega
  unfold b2
  simp only [e1, e2]
theorem crossed_w {d : Pt} {r : List Pt} {s : Pt} (h : Clear d r s) : (lawCrossed r s d).1 = Wn d r s ∧ ((lawCrossed r s d).2 - (lawCrossed r s d).1) % 2 = 0 := by
  unfold lawCrossed
  rw [crossed_sums]
  constructor
  · show 0 + _ = _
    rw [Int.zero_add, sum_backs]
    unfold Wn
    refine sum_congr fun e he => ?_
    obtain ⟨m1, m2⟩ := sides_mem1 he
    exact step_w (h _ m1) (h _ m2)
  · show ((0 + _) - (0 + _)) % 2 = 0
    rw [Int.zero_add, Int.zero_add, ← sum_sub]
    have : ((backs r).map fun e => b2 (crUp d s e = true) + b2 (crDn d s e = true) - (b2 (crUp d s e = true) - b2 (crDn d s e = true))).sum = 2 * ((backs r).map fun e => b2 (crDn d s e = true)).sum := by
      generalize backs r = l
      induction l with
      | nil => rfl
      | cons e l ih =>
        rw [List.map_cons, List.map_cons, List.sum_cons, List.sum_cons, ih]
        omega
    rw [this]
    omega
/-! ### on a side -/
theorem seg_off (a b s : Pt) : onSeg a b s = false ↔ Off (sb a s) (sb b s) := by
  have e1 : cr (sb a s) (sb b s) = (b.1 - a.1) * (s.2 - a.2) - (b.2 - a.2) * (s.1 - a.1) := by unfold cr sb; grind
  have e2 : dt (sb a s) (sb b s) = (s.1 - a.1) * (s.1 - b.1) + (s.2 - a.2) * (s.2 - b.2) := by unfold dt sb; grind
  unfold Off onSeg
  rw [e1, e2, Bool.and_eq_false_iff]
  simp only [beq_eq_false_iff_ne, ne_eq, decide_eq_false_iff_not]
  omega
theorem lawOn_off (r : List Pt) (s : Pt) : lawOn r s = false ↔ OffR r s := by
  unfold lawOn OffR
  rw [List.any_eq_false]
  constructor
  · intro h e he
    have := h e ((backs_iff r e).mpr he)
    exact (seg_off _ _ _).mp (by simpa using this)
  · intro h e he
    have := (seg_off _ _ _).mpr (h e ((backs_iff r e).mp he))
    rw [this]
    exact Bool.false_ne_true
theorem between_mul {i j x q : Int} (hq : 0 < q) : (lo2 i j * q ≤ x ∧ x ≤ hi2 i j * q) ↔ (x - i * q) * (x - j * q) ≤ 0 := by
  have s := sgn4 (x - i * q) (x - j * q)
  have s' := sgn4 (i * q - x) (j * q - x)
  have e : (i * q - x) * (j * q - x) = (x - i * q) * (x - j * q) := by grind
  rw [e] at s'
  have m1 : j < i → j * q < i * q := fun h => Int.mul_lt_mul_of_pos_right h hq
  have m2 : j ≤ i → j * q ≤ i * q := fun h => Int.mul_le_mul_of_nonneg_right h (Int.le_of_lt hq)
  have m3 : i ≤ j → i * q ≤ j * q := fun h => Int.mul_le_mul_of_nonneg_right h (Int.le_of_lt hq)
  unfold lo2 hi2
  generalize hMe : (x - i * q) * (x - j * q) = M at *
  by_cases h : j < i
  · have h' : ¬ j > i := by omega
    rw [if_pos h, if_neg h']
    have := m1 h
    have s3 : 0 < x - i * q → 0 < x - j * q → 0 < M := s.2.2.2
    have s4 : 0 < i * q - x → 0 < j * q - x → 0 < M := s'.2.2.2
    have s5 : x - i * q ≤ 0 → 0 < x - j * q → M ≤ 0 := s.2.1
    have s6 : 0 < i * q - x → j * q - x ≤ 0 → M ≤ 0 := s'.2.2.1
    have s7 : i * q - x ≤ 0 → 0 < j * q - x → M ≤ 0 := s'.2.1
    have s8 : 0 < x - i * q → x - j * q ≤ 0 → M ≤ 0 := s.2.2.1
    generalize i * q = I at *
    generalize j * q = J at *
    omega
  · rw [if_neg h]
    have h3 := m3 (by omega)
    by_cases g : j > i
    · rw [if_pos g]
      have g' : i * q < j * q := Int.mul_lt_mul_of_pos_right g hq
      have s3 : 0 < x - i * q → 0 < x - j * q → 0 < M := s.2.2.2
      have s4 : 0 < i * q - x → 0 < j * q - x → 0 < M := s'.2.2.2
      have s5 : x - i * q ≤ 0 → 0 < x - j * q → M ≤ 0 := s.2.1
      have s6 : 0 < i * q - x → j * q - x ≤ 0 → M ≤ 0 := s'.2.2.1
      have s7 : i * q - x ≤ 0 → 0 < j * q - x → M ≤ 0 := s'.2.1
      have s8 : 0 < x - i * q → x - j * q ≤ 0 → M ≤ 0 := s.2.2.1
      generalize i * q = I at *
      generalize j * q = J at *
      omega
    · rw [if_neg g]
      have ij : i = j := by omega
      subst ij
      have s3 : 0 < x - i * q → 0 < x - i * q → 0 < M := s.2.2.2
      have s4 : 0 < i * q - x → 0 < i * q - x → 0 < M := s'.2.2.2
      have hM : x - i * q = 0 → M ≤ 0 := fun z => by
        have := s'.2.1
        have s9 : x - i * q ≤ 0 → x - i * q ≤ 0 → 0 ≤ M := s.1
        rw [← hMe, z]
        decide
      generalize i * q = I at *
      omega
theorem on_seg {a b : Pt} {p : FP} (h1 : 0 < p.1.2) (h2 : 0 < p.2.2) : isOn a b p = onSeg (sc p a) (sc p b) (spot p) := by
  have hk : 0 < p.1.2 * p.2.2 := Int.mul_pos h1 h2
  have e1 : ((sc p b).1 - (sc p a).1) * ((spot p).2 - (sc p a).2) - ((sc p b).2 - (sc p a).2) * ((spot p).1 - (sc p a).1) = (p.1.2 * p.2.2) * leftBy a b p := by unfold sc spot leftBy; grind
  have x1 : ((spot p).1 - (sc p a).1) * ((spot p).1 - (sc p b).1) = (p.2.2 * p.2.2) * ((p.1.1 - a.1 * p.1.2) * (p.1.1 - b.1 * p.1.2)) := by unfold sc spot; grind
  have x2 : ((spot p).2 - (sc p a).2) * ((spot p).2 - (sc p b).2) = (p.1.2 * p.1.2) * ((p.2.1 - a.2 * p.2.2) * (p.2.1 - b.2 * p.2.2)) := by unfold sc spot; grind
  have k1 : 0 < p.2.2 * p.2.2 := Int.mul_pos h2 h2
  have k2 : 0 < p.1.2 * p.1.2 := Int.mul_pos h1 h1
  have b1 := between_mul (i := a.1) (j := b.1) (x := p.1.1) h1
  have b2' := between_mul (i := a.2) (j := b.2) (x := p.2.1) h2
  -- where the turn is naught the two parts have one sign
  have same : leftBy a b p = 0 → 0 ≤ ((p.2.2 * p.2.2) * ((p.1.1 - a.1 * p.1.2) * (p.1.1 - b.1 * p.1.2))) * ((p.1.2 * p.1.2) * ((p.2.1 - a.2 * p.2.2) * (p.2.1 - b.2 * p.2.2))) := fun h => by
    have z : (p.2.2 * (p.1.1 - a.1 * p.1.2)) * (p.1.2 * (p.2.1 - b.2 * p.2.2)) = (p.2.2 * (p.1.1 - b.1 * p.1.2)) * (p.1.2 * (p.2.1 - a.2 * p.2.2)) := by
      have : (p.2.2 * (p.1.1 - a.1 * p.1.2)) * (p.1.2 * (p.2.1 - b.2 * p.2.2)) - (p.2.2 * (p.1.1 - b.1 * p.1.2)) * (p.1.2 * (p.2.1 - a.2 * p.2.2)) = (p.1.2 * p.2.2) * leftBy a b p := by unfold leftBy; grind
      rw [h, Int.mul_zero] at this
      omega
    have e : ((p.2.2 * p.2.2) * ((p.1.1 - a.1 * p.1.2) * (p.1.1 - b.1 * p.1.2))) * ((p.1.2 * p.1.2) * ((p.2.1 - a.2 * p.2.2) * (p.2.1 - b.2 * p.2.2))) = ((p.2.2 * (p.1.1 - a.1 * p.1.2)) * (p.1.2 * (p.2.1 - b.2 * p.2.2))) * ((p.2.2 * (p.1.1 - b.1 * p.1.2)) * (p.1.2 * (p.2.1 - a.2 * p.2.2))) := by grind
    rw [e, z]
    exact sq_nn _
  have q1 := pos_le (z := (p.1.1 - a.1 * p.1.2) * (p.1.1 - b.1 * p.1.2)) k1
  have q2 := pos_le (z := (p.2.1 - a.2 * p.2.2) * (p.2.1 - b.2 * p.2.2)) k2
  unfold onSeg
  rw [x1, x2]
  have t : ((((sc p b).1 - (sc p a).1) * ((spot p).2 - (sc p a).2) == ((sc p b).2 - (sc p a).2) * ((spot p).1 - (sc p a).1)) = decide (leftBy a b p = 0)) := by
    rw [Bool.beq_eq_decide_eq]
    refine decide_eq_decide.mpr ?_
    constructor
    · intro h
      have : (p.1.2 * p.2.2) * leftBy a b p = 0 := by omega
      rcases Int.mul_eq_zero.mp this with z | z
      · omega
      · exact z
    · intro h
      rw [h, Int.mul_zero] at e1
      omega
  rw [t]
  unfold isOn isBetween
  by_cases h : leftBy a b p = 0
  · have sm := same h
    rw [decide_eq_true h, Bool.true_and, Bool.true_and, ← Bool.decide_and, ← Bool.decide_and, ← Bool.decide_and]
    refine decide_eq_decide.mpr ?_
    rw [b1, b2', ← q1, ← q2]
    have s := sgn4 ((p.2.2 * p.2.2) * ((p.1.1 - a.1 * p.1.2) * (p.1.1 - b.1 * p.1.2))) ((p.1.2 * p.1.2) * ((p.2.1 - a.2 * p.2.2) * (p.2.1 - b.2 * p.2.2)))
    generalize (p.2.2 * p.2.2) * ((p.1.1 - a.1 * p.1.2) * (p.1.1 - b.1 * p.1.2)) = X at *
    generalize (p.1.2 * p.1.2) * ((p.2.1 - a.2 * p.2.2) * (p.2.1 - b.2 * p.2.2)) = Y at *
    constructor
    · intro g
      omega
    · intro g
      have n1 : 0 < X → Y < 0 → X * Y < 0 := Int.mul_neg_of_pos_of_neg
      have n2 : X < 0 → 0 < Y → X * Y < 0 := Int.mul_neg_of_neg_of_pos
      omega
  · rw [decide_eq_false h]
    rfl
theorem on_any {r : List Pt} {p : FP} (h1 : 0 < p.1.2) (h2 : 0 < p.2.2) : ((sides r).any fun e => isOn e.1 e.2 p) = lawOn (scl r p) (spot p) := by
  rw [Bool.eq_iff_iff, List.any_eq_true]
  unfold lawOn
  rw [List.any_eq_true]
  constructor
  · rintro ⟨e, he, ho⟩
    refine ⟨(sc p e.1, sc p e.2), (backs_iff _ _).mpr ?_, by rw [on_seg h1 h2] at ho; exact ho⟩
    rw [scl_map, sides_of_map]
    exact List.mem_map.mpr ⟨e, he, rfl⟩
  · rintro ⟨e, he, ho⟩
    have he := (backs_iff _ _).mp he
    rw [scl_map, sides_of_map] at he
    obtain ⟨x, hx, rfl⟩ := List.mem_map.mp he
    exact ⟨x, hx, by rw [on_seg h1 h2]; exact ho⟩
end G
set_option Elab.async false
set_option linter.all false
/-! Rings that go once round a centre, each side to the left. -/
namespace G
structure St (c : Pt) (r : List Pt) : Prop where
  l3 : 3 ≤ r.length
  pos : ∀ e, e ∈ sides r → 0 < cr (sb e.1 c) (sb e.2 c)
  one : ∃ d, d ≠ (0, 0) ∧ Wn d r c = 1
theorem cg_mod1 (r : List Pt) (z : Int) : cg r (z % r.length + 1) = cg r (z + 1) := by
  unfold cg
  rw [Int.emod_add_emod]
theorem cg_mod0 (r : List Pt) (z : Int) : cg r (z % r.length) = cg r z := by
  unfold cg
  rw [Int.emod_emod]
theorem side_any {r : List Pt} (h : r ≠ []) (z : Int) : (cg r z, cg r (z + 1)) ∈ sides r := by
  have lt := cg_lt (z := z) h
  have nn := Int.emod_nonneg z (b := (r.length : Int)) (by have := List.length_pos_iff.mpr h; omega)
  rw [sides_map]
  refine List.mem_map.mpr ⟨(z % r.length).toNat, List.mem_range.mpr lt, ?_⟩
  rw [Int.toNat_of_nonneg nn, cg_mod0, cg_mod1]
section
variable {c : Pt} {r : List Pt}
theorem St.ne (h : St c r) : r ≠ [] := fun e => by
  have := h.l3
  rw [e] at this
  exact absurd this (by decide)
theorem St.off (h : St c r) : OffR r c := fun e he => .inl (by have := h.pos e he; omega)
theorem St.all (h : St c r) {d : Pt} (hd : d ≠ (0, 0)) : Wn d r c = 1 := by
  obtain ⟨e, he, h1⟩ := h.one
  rw [ray_ind hd he h.off, h1]
theorem St.posI (h : St c r) (i : Int) : 0 < cr (sb (cg r i) c) (sb (cg r (i + 1)) c) := h.pos _ (side_any h.ne i)
/-- the half line of u goes through the i-th side's share -/
def Sec (c : Pt) (r : List Pt) (u : Pt) (i : Int) : Prop := 0 ≤ cr (sb (cg r i) c) u ∧ 0 < cr u (sb (cg r (i + 1)) c)
instance (c : Pt) (r : List Pt) (u : Pt) (i : Int) : Decidable (Sec c r u i) := by unfold Sec; infer_instance
theorem cr_swap (a b : Pt) : cr a b = - cr b a := by unfold cr; grind
theorem wnd_pos {u a b : Pt} (h : 0 < cr a b) : wnd u a b = b2 (0 ≤ cr a u ∧ 0 < cr u b) := by
  unfold wnd b2
  have e := cr_swap a u
  have e1 : (cr u a ≤ 0 ∧ 0 < cr u b ∧ 0 < cr a b) ↔ (0 ≤ cr a u ∧ 0 < cr u b) := by omega
  have e2 : ¬ (cr u b ≤ 0 ∧ 0 < cr u a ∧ cr a b < 0) := by omega
  rw [if_neg e2]
  simp only [e1]
  omega
theorem St.count (h : St c r) {u : Pt} (hu : u ≠ (0, 0)) : ((List.range r.length).map fun (i : Nat) => b2 (Sec c r u i)).sum = 1 := by
  rw [← h.all hu]
  unfold Wn
  rw [sides_map, List.map_map]
  refine sum_congr fun i _ => ?_
  exact (wnd_pos (h.posI i)).symm
theorem b2_nn (p : Prop) [Decidable p] : 0 ≤ b2 p ∧ b2 p ≤ 1 := by unfold b2; split <;> decide
theorem b2_yes {p : Prop} [Decidable p] (h : p) : b2 p = 1 := if_pos h
theorem b2_no {p : Prop} [Decidable p] (h : ¬ p) : b2 p = 0 := if_neg h
theorem cnt_ge (p : Nat → Prop) [DecidablePred p] : ∀ n : Nat, 0 ≤ ((List.range n).map fun i => b2 (p i)).sum
  | 0 => Int.le_refl _
  | n + 1 => by
    rw [List.range_succ, List.map_append, List.sum_append]
    have := cnt_ge p n
    have := (b2_nn (p n)).1
    simp
    omega
theorem cnt_one (p : Nat → Prop) [DecidablePred p] {k : Nat} (hp : p k) : ∀ n : Nat, k < n → 1 ≤ ((List.range n).map fun i => b2 (p i)).sum
  | 0, h => absurd h (Nat.not_lt_zero _)
  | n + 1, h => by
    rw [List.range_succ, List.map_append, List.sum_append]
    by_cases e : k = n
    · subst e
      have := cnt_ge p k
      have := b2_yes hp
      simp
      omega
    · have := cnt_one p hp n (by omega)
      have := (b2_nn (p n)).1
      simp
      omega
theorem cnt_two (p : Nat → Prop) [DecidablePred p] {j k : Nat} (hj : p j) (hk : p k) (lt : j < k) : ∀ n : Nat, k < n → 2 ≤ ((List.range n).map fun i => b2 (p i)).sum
  | 0, h => absurd h (Nat.not_lt_zero _)
  | n + 1, h => by
    rw [List.range_succ, List.map_append, List.sum_append]
    by_cases e : k = n
    · subst e
      have := cnt_one p hj k lt
      have := b2_yes hk
      simp
      omega
    · have := cnt_two p hj hk lt n (by omega)
      have := (b2_nn (p n)).1
      simp
      omega
theorem cnt_some (p : Nat → Prop) [DecidablePred p] : ∀ n : Nat, ((List.range n).map fun i => b2 (p i)).sum ≠ 0 → ∃ k, k < n ∧ p k
  | 0, h => absurd rfl h
  | n + 1, h => by
    by_cases hp : p n
    · exact ⟨n, Nat.lt_succ_self n, hp⟩
    · rw [List.range_succ, List.map_append, List.sum_append] at h
      have e := b2_no hp
      obtain ⟨k, h1, h2⟩ := cnt_some p n (by simp at h; omega)
      exact ⟨k, Nat.lt_succ_of_lt h1, h2⟩
theorem Sec.mod {u : Pt} {i : Int} (h : Sec c r u i) : Sec c r u (i % r.length) := by
  unfold Sec at *
  rw [cg_mod0, cg_mod1]
  exact h
theorem St.uniq (h : St c r) {u : Pt} (hu : u ≠ (0, 0)) {i j : Int} (hi : Sec c r u i) (hj : Sec c r u j) : (i - j) % r.length = 0 := by
  have cnt := h.count hu
  have n0 : (0 : Int) < r.length := by have := h.l3; omega
  have i0 := Int.emod_nonneg i (b := (r.length : Int)) (by omega)
  have i1 := Int.emod_lt_of_pos i n0
  have j0 := Int.emod_nonneg j (b := (r.length : Int)) (by omega)
  have j1 := Int.emod_lt_of_pos j n0
  have hi' := hi.mod
  have hj' := hj.mod
  have e : i % r.length = j % r.length := by
    rw [← Int.toNat_of_nonneg i0] at hi'
    rw [← Int.toNat_of_nonneg j0] at hj'
    rcases Nat.lt_trichotomy (i % r.length).toNat (j % r.length).toNat with z | z | z
    · have := cnt_two (fun k : Nat => Sec c r u (k : Int)) hi' hj' z r.length (by omega)
      omega
    · omega
    · have := cnt_two (fun k : Nat => Sec c r u (k : Int)) hj' hi' z r.length (by omega)
      omega
  exact Int.emod_eq_emod_iff_emod_sub_eq_zero.mp e
theorem St.some (h : St c r) {u : Pt} (hu : u ≠ (0, 0)) : ∃ i : Nat, i < r.length ∧ Sec c r u i := cnt_some (fun k : Nat => Sec c r u (k : Int)) r.length (by rw [h.count hu]; decide)
theorem sb_ne {a b u : Pt} (h : 0 < cr a b) : a ≠ (0, 0) ∧ b ≠ (0, 0) := by
  constructor <;> (intro z; subst z; unfold cr at h; simp at h)
/-! ### the count of turns is 0 or 1 -/
theorem St.wn (h : St c r) {s : Pt} (off : OffR r s) {d : Pt} (hd : d ≠ (0, 0)) : 0 ≤ Wn d r s ∧ Wn d r s ≤ 1 := by
  by_cases hu : sb s c = (0, 0)
  · have e : s = c := by
      unfold sb at hu
      have h1 := congrArg Prod.fst hu
      have h2 := congrArg Prod.snd hu
      simp only at h1 h2
      obtain ⟨a, b⟩ := s
      obtain ⟨x, y⟩ := c
      simp only at h1 h2
      rw [show a = x by omega, show b = y by omega]
    rw [e, h.all hd]
    decide
  · rw [ray_ind hd hu off, ← h.all hu]
    have key : ∀ e, e ∈ sides r → 0 ≤ wnd (sb s c) (sb e.1 s) (sb e.2 s) ∧ wnd (sb s c) (sb e.1 s) (sb e.2 s) ≤ wnd (sb s c) (sb e.1 c) (sb e.2 c) := fun e he => by
      have p := h.pos e he
      have q1 : cr (sb s c) (sb e.1 s) = cr (sb s c) (sb e.1 c) := by unfold cr sb; grind
      have q2 : cr (sb s c) (sb e.2 s) = cr (sb s c) (sb e.2 c) := by unfold cr sb; grind
      have q3 : cr (sb e.1 s) (sb e.2 s) = cr (sb e.1 c) (sb e.2 c) + cr (sb s c) (sb e.1 c) - cr (sb s c) (sb e.2 c) := by unfold cr sb; grind
      unfold wnd b2
      rw [q1, q2, q3]
      generalize cr (sb s c) (sb e.1 c) = x at *
      generalize cr (sb s c) (sb e.2 c) = y at *
      generalize cr (sb e.1 c) (sb e.2 c) = z at *
      constructor
      · split <;> split <;> omega
      · split <;> split <;> split <;> (try split) <;> omega
    unfold Wn
    constructor
    · have : ∀ l : List (Pt × Pt), (∀ e, e ∈ l → 0 ≤ wnd (sb s c) (sb e.1 s) (sb e.2 s)) → 0 ≤ (l.map fun e => wnd (sb s c) (sb e.1 s) (sb e.2 s)).sum := by
        intro l
        induction l with
        | nil => intro _; exact Int.le_refl _
        | cons e l ih =>
          intro hl
          rw [List.map_cons, List.sum_cons]
          have := hl e List.mem_cons_self
          have := ih fun x hx => hl x (List.mem_cons_of_mem _ hx)
          omega
      exact this _ fun e he => (key e he).1
    · have : ∀ l : List (Pt × Pt), (∀ e, e ∈ l → wnd (sb s c) (sb e.1 s) (sb e.2 s) ≤ wnd (sb s c) (sb e.1 c) (sb e.2 c)) → (l.map fun e => wnd (sb s c) (sb e.1 s) (sb e.2 s)).sum ≤ (l.map fun e => wnd (sb s c) (sb e.1 c) (sb e.2 c)).sum := by
        intro l
        induction l with
        | nil => intro _; exact Int.le_refl _
        | cons e l ih =>
          intro hl
          rw [List.map_cons, List.map_cons, List.sum_cons, List.sum_cons]
          have := hl e List.mem_cons_self
          have := ih fun x hx => hl x (List.mem_cons_of_mem _ hx)
          omega
      exact this _ fun e he => (key e he).2
/-! ### the area -/
theorem area_cr (r : List Pt) (c : Pt) : ringArea r = ((sides r).map fun e => cr (sb e.1 c) (sb e.2 c)).sum := by
  unfold ringArea
  have e1 : ((sides r).map fun e => (e.1.1 * e.2.2 - e.1.2 * e.2.1) - cr (sb e.1 c) (sb e.2 c)).sum = ((sides r).map fun e => cr c e.2 - cr c e.1).sum := sum_congr fun e _ => by unfold cr sb; grind
  rw [sum_cyc, sum_sub (fun e : Pt × Pt => e.1.1 * e.2.2 - e.1.2 * e.2.1) (fun e => cr (sb e.1 c) (sb e.2 c))] at e1
  omega
theorem St.arPos (h : St c r) : 0 < ringArea r := by
  rw [area_cr r c]
  have : ∀ l : List (Pt × Pt), l ≠ [] → (∀ e, e ∈ l → 0 < cr (sb e.1 c) (sb e.2 c)) → 0 < (l.map fun e => cr (sb e.1 c) (sb e.2 c)).sum := by
    intro l
    induction l with
    | nil => intro z; exact absurd rfl z
    | cons e l ih =>
      intro _ hl
      rw [List.map_cons, List.sum_cons]
      have a := hl e List.mem_cons_self
      by_cases z : l = []
      · subst z
        simp
        exact a
      · have := ih z fun x hx => hl x (List.mem_cons_of_mem _ hx)
        omega
  refine this _ (fun z => ?_) h.pos
  have e := congrArg List.length z
  rw [sides_len] at e
  have e : r.length = 0 := e
  have := h.l3
  omega
end
end G
set_option Elab.async false
set_option linter.all false
/-! A ring that goes once round a centre does not meet itself. -/
namespace G
/-- no two sides meet but neighbours at their corner, no side turns back; places counted round -/
structure Simp (r : List Pt) : Prop where
  l3 : 3 ≤ r.length
  nd : ∀ i j : Int, cg r i = cg r j → (i - j) % r.length = 0
  tb : ∀ i : Int, turnsBack (cg r (i - 1)) (cg r i) (cg r (i + 1)) = false
  ap : ∀ i j : Int, (j - i) % r.length ≠ 0 → (j - i) % r.length ≠ 1 → (j - i) % r.length ≠ r.length - 1 → sidesMeet (cg r i) (cg r (i + 1)) (cg r j) (cg r (j + 1)) = false
theorem mod_of {n x k : Int} (h : (x - k) % n = 0) : x % n = k % n := Int.emod_eq_emod_iff_emod_sub_eq_zero.mpr h
/-- a point on a side, as seen from the centre -/
theorem on_cone {a b p c : Pt} (ar : area a b p = 0) (dot : (a.1 - p.1) * (b.1 - p.1) + (a.2 - p.2) * (b.2 - p.2) ≤ 0) (h : 0 < cr (sb a c) (sb b c)) :
    0 ≤ cr (sb a c) (sb p c) ∧ 0 ≤ cr (sb p c) (sb b c) ∧ cr (sb a c) (sb p c) + cr (sb p c) (sb b c) = cr (sb a c) (sb b c) ∧ (cr (sb p c) (sb b c) = 0 → p = b) := by
  have sum : cr (sb a c) (sb p c) + cr (sb p c) (sb b c) = cr (sb a c) (sb b c) := by
    have : cr (sb a c) (sb b c) - cr (sb a c) (sb p c) - cr (sb p c) (sb b c) = area a b p := by unfold cr sb area; grind
    omega
  have id1 : ((a.1 - p.1) * (b.1 - p.1) + (a.2 - p.2) * (b.2 - p.2)) * (cr (sb a c) (sb b c) * cr (sb a c) (sb b c)) = - (cr (sb a c) (sb p c) * cr (sb p c) (sb b c)) * ((a.1 - b.1) * (a.1 - b.1) + (a.2 - b.2) * (a.2 - b.2)) := by
    have z : cr (sb a c) (sb b c) = cr (sb a c) (sb p c) + cr (sb p c) (sb b c) := sum.symm
    have x1 : (a.1 - p.1) * cr (sb a c) (sb b c) = (a.1 - b.1) * cr (sb a c) (sb p c) := by
      have : (a.1 - p.1) * cr (sb a c) (sb b c) - (a.1 - b.1) * cr (sb a c) (sb p c) = (a.1 - c.1) * area a b p := by unfold cr sb area; grind
      rw [ar, Int.mul_zero] at this
      omega
    have x2 : (a.2 - p.2) * cr (sb a c) (sb b c) = (a.2 - b.2) * cr (sb a c) (sb p c) := by
      have : (a.2 - p.2) * cr (sb a c) (sb b c) - (a.2 - b.2) * cr (sb a c) (sb p c) = (a.2 - c.2) * area a b p := by unfold cr sb area; grind
      rw [ar, Int.mul_zero] at this
      omega
    have y1 : (b.1 - p.1) * cr (sb a c) (sb b c) = (b.1 - a.1) * cr (sb p c) (sb b c) := by
      have : (b.1 - p.1) * cr (sb a c) (sb b c) - (b.1 - a.1) * cr (sb p c) (sb b c) = (b.1 - c.1) * area a b p := by unfold cr sb area; grind
      rw [ar, Int.mul_zero] at this
      omega
    have y2 : (b.2 - p.2) * cr (sb a c) (sb b c) = (b.2 - a.2) * cr (sb p c) (sb b c) := by
      have : (b.2 - p.2) * cr (sb a c) (sb b c) - (b.2 - a.2) * cr (sb p c) (sb b c) = (b.2 - c.2) * area a b p := by unfold cr sb area; grind
      rw [ar, Int.mul_zero] at this
      omega
    generalize cr (sb a c) (sb b c) = D at *
    generalize cr (sb a c) (sb p c) = m at *
    generalize cr (sb p c) (sb b c) = l at *
    have e : ((a.1 - p.1) * (b.1 - p.1) + (a.2 - p.2) * (b.2 - p.2)) * (D * D) = ((a.1 - p.1) * D) * ((b.1 - p.1) * D) + ((a.2 - p.2) * D) * ((b.2 - p.2) * D) := by grind
    rw [e, x1, x2, y1, y2]
    grind
  have q : 0 < (a.1 - b.1) * (a.1 - b.1) + (a.2 - b.2) * (a.2 - b.2) := by
    have n1 := sq_nn (a.1 - b.1)
    have n2 := sq_nn (a.2 - b.2)
    by_cases z1 : a.1 - b.1 = 0
    · by_cases z2 : a.2 - b.2 = 0
      · have : cr (sb a c) (sb b c) = 0 := by
          have h1 : a.1 = b.1 := by omega
          have h2 : a.2 = b.2 := by omega
          unfold cr sb
          rw [h1, h2]
          grind
        omega
      · have := sq_pos z2
        omega
    · have := sq_pos z1
      omega
  have dd : 0 < cr (sb a c) (sb b c) * cr (sb a c) (sb b c) := Int.mul_pos h h
  -- the product of the two parts is not negative
  have nn : 0 ≤ cr (sb a c) (sb p c) * cr (sb p c) (sb b c) := by
    rcases Int.lt_or_le (cr (sb a c) (sb p c) * cr (sb p c) (sb b c)) 0 with z | z
    · have h1 : ((a.1 - p.1) * (b.1 - p.1) + (a.2 - p.2) * (b.2 - p.2)) * (cr (sb a c) (sb b c) * cr (sb a c) (sb b c)) ≤ 0 := Int.mul_nonpos_of_nonpos_of_nonneg dot (Int.le_of_lt dd)
      have h2 : 0 < - (cr (sb a c) (sb p c) * cr (sb p c) (sb b c)) * ((a.1 - b.1) * (a.1 - b.1) + (a.2 - b.2) * (a.2 - b.2)) := Int.mul_pos (by omega) q
      omega
    · exact z
  have n1 : cr (sb a c) (sb p c) < 0 → 0 < cr (sb p c) (sb b c) → cr (sb a c) (sb p c) * cr (sb p c) (sb b c) < 0 := Int.mul_neg_of_neg_of_pos
  have n2 : 0 < cr (sb a c) (sb p c) → cr (sb p c) (sb b c) < 0 → cr (sb a c) (sb p c) * cr (sb p c) (sb b c) < 0 := Int.mul_neg_of_pos_of_neg
  refine ⟨by omega, by omega, sum, fun z => ?_⟩
  -- at the side's end
  have e1 : (b.1 - p.1) * cr (sb a c) (sb b c) = 0 := by
    have : (b.1 - p.1) * cr (sb a c) (sb b c) - (b.1 - a.1) * cr (sb p c) (sb b c) = (b.1 - c.1) * area a b p := by unfold cr sb area; grind
    rw [ar, z, Int.mul_zero, Int.mul_zero] at this
    omega
  have e2 : (b.2 - p.2) * cr (sb a c) (sb b c) = 0 := by
    have : (b.2 - p.2) * cr (sb a c) (sb b c) - (b.2 - a.2) * cr (sb p c) (sb b c) = (b.2 - c.2) * area a b p := by unfold cr sb area; grind
    rw [ar, z, Int.mul_zero, Int.mul_zero] at this
    omega
  have f1 := (Int.mul_eq_zero.mp e1).resolve_right (by omega)
  have f2 := (Int.mul_eq_zero.mp e2).resolve_right (by omega)
  obtain ⟨p1, p2⟩ := p
  obtain ⟨b1, b2⟩ := b
  simp only at f1 f2
  rw [show p1 = b1 by omega, show p2 = b2 by omega]
theorem on_iff {a b p : Pt} : wOn a b p = true ↔ area a b p = 0 ∧ (a.1 - p.1) * (b.1 - p.1) + (a.2 - p.2) * (b.2 - p.2) ≤ 0 := by
  unfold wOn
  rw [Bool.and_eq_true, decide_eq_true_eq, decide_eq_true_eq]
section
variable {c : Pt} {r : List Pt}
theorem self_cr (a : Pt) : cr a a = 0 := by unfold cr; grind
theorem St.own (h : St c r) (i : Int) : sb (cg r i) c ≠ (0, 0) ∧ Sec c r (sb (cg r i) c) i := ⟨(sb_ne (u := (0, 0)) (h.posI i)).1, by rw [self_cr]; exact Int.le_refl _, h.posI i⟩
theorem St.onSec (h : St c r) {i : Int} {p : Pt} (ho : wOn (cg r i) (cg r (i + 1)) p = true) : sb p c ≠ (0, 0) ∧ (Sec c r (sb p c) i ∨ Sec c r (sb p c) (i + 1)) := by
  obtain ⟨h1, h2⟩ := on_iff.mp ho
  have hp := h.posI i
  obtain ⟨g1, g2, g3, g4⟩ := on_cone h1 h2 hp
  have ne : sb p c ≠ (0, 0) := fun z => by
    rw [z] at g3
    unfold cr at g3
    simp at g3
    unfold cr at hp
    omega
  refine ⟨ne, ?_⟩
  by_cases z : cr (sb p c) (sb (cg r (i + 1)) c) = 0
  · rw [g4 z]
    exact .inr (h.own (i + 1)).2
  · exact .inl ⟨g1, by omega⟩
theorem sgn_pos {x : Int} : sgn x = 1 ↔ 0 < x := by unfold sgn; split <;> (try split) <;> omega
theorem sgn_mul_neg {x y : Int} (h : sgn x * sgn y < 0) : (0 < x ∧ y < 0) ∨ (x < 0 ∧ 0 < y) := by
  unfold sgn at h
  split at h <;> split at h <;> (try split at h) <;> (try split at h) <;> simp at h <;> omega
/-- two sides that cross: a half line that goes through both shares -/
theorem cross_cone {a b e f c : Pt} (hc : wCr a b e f = true) (h1 : 0 < cr (sb a c) (sb b c)) (h2 : 0 < cr (sb e c) (sb f c)) :
    ∃ u, u ≠ (0, 0) ∧ (0 ≤ cr (sb a c) u ∧ 0 < cr u (sb b c)) ∧ (0 ≤ cr (sb e c) u ∧ 0 < cr u (sb f c)) := by
  unfold wCr at hc
  rw [Bool.and_eq_true, decide_eq_true_eq, decide_eq_true_eq] at hc
  obtain ⟨c1, c2⟩ := hc
  have d1 := sgn_mul_neg c1
  have d2 := sgn_mul_neg c2
  -- along the second side from the first side's ends
  have rel : area a b e - area a b f = area e f b - area e f a := by unfold area; grind
  have key : ∀ (x y : Int), 0 < x → 0 < y → ∀ (g t : Int), 0 < g → 0 < t → (area e f b = x ∧ area e f a = - y ∧ area a b e = g ∧ area a b f = - t) ∨ (area e f b = - x ∧ area e f a = y ∧ area a b e = - g ∧ area a b f = t) →
      ∃ u, u ≠ (0, 0) ∧ (0 ≤ cr (sb a c) u ∧ 0 < cr u (sb b c)) ∧ (0 ≤ cr (sb e c) u ∧ 0 < cr u (sb f c)) := by
    intro x y hx hy g t hg ht hh
    -- u = x A + y B
    have A1 : cr (sb a c) (x * (sb a c).1 + y * (sb b c).1, x * (sb a c).2 + y * (sb b c).2) = y * cr (sb a c) (sb b c) := by unfold cr; grind
    have A2 : cr (x * (sb a c).1 + y * (sb b c).1, x * (sb a c).2 + y * (sb b c).2) (sb b c) = x * cr (sb a c) (sb b c) := by unfold cr; grind
    have B1 : cr (sb e c) (area e f b * (sb a c).1 - area e f a * (sb b c).1, area e f b * (sb a c).2 - area e f a * (sb b c).2) = area a b e * cr (sb e c) (sb f c) := by unfold cr sb area; grind
    have B2 : cr (area e f b * (sb a c).1 - area e f a * (sb b c).1, area e f b * (sb a c).2 - area e f a * (sb b c).2) (sb f c) = - area a b f * cr (sb e c) (sb f c) := by unfold cr sb area; grind
    have p1 : 0 < y * cr (sb a c) (sb b c) := Int.mul_pos hy h1
    have p2 : 0 < x * cr (sb a c) (sb b c) := Int.mul_pos hx h1
    have p3 : 0 < g * cr (sb e c) (sb f c) := Int.mul_pos hg h2
    have p4 : 0 < t * cr (sb e c) (sb f c) := Int.mul_pos ht h2
    refine ⟨(x * (sb a c).1 + y * (sb b c).1, x * (sb a c).2 + y * (sb b c).2), fun z => ?_, ⟨by omega, by omega⟩, ?_⟩
    · rw [z] at A1
      unfold cr at A1 p1
      simp at A1
      omega
    · rcases hh with ⟨q1, q2, q3, q4⟩ | ⟨q1, q2, q3, q4⟩
      · rw [q1, q2, q3] at B1
        rw [q1, q2, q4] at B2
        have e1 : (x * (sb a c).1 - -y * (sb b c).1, x * (sb a c).2 - -y * (sb b c).2) = (x * (sb a c).1 + y * (sb b c).1, x * (sb a c).2 + y * (sb b c).2) := by
          rw [Prod.mk.injEq]; constructor <;> grind
        rw [e1] at B1 B2
        have e2 : - -t * cr (sb e c) (sb f c) = t * cr (sb e c) (sb f c) := by rw [Int.neg_neg]
        omega
      · rw [q1, q2, q3] at B1
        rw [q1, q2, q4] at B2
        have B1' : cr (sb e c) (x * (sb a c).1 + y * (sb b c).1, x * (sb a c).2 + y * (sb b c).2) = g * cr (sb e c) (sb f c) := by
          have : cr (sb e c) (x * (sb a c).1 + y * (sb b c).1, x * (sb a c).2 + y * (sb b c).2) = - cr (sb e c) (-x * (sb a c).1 - y * (sb b c).1, -x * (sb a c).2 - y * (sb b c).2) := by unfold cr; grind
          rw [this, B1]
          grind
        have B2' : cr (x * (sb a c).1 + y * (sb b c).1, x * (sb a c).2 + y * (sb b c).2) (sb f c) = t * cr (sb e c) (sb f c) := by
          have : cr (x * (sb a c).1 + y * (sb b c).1, x * (sb a c).2 + y * (sb b c).2) (sb f c) = - cr (-x * (sb a c).1 - y * (sb b c).1, -x * (sb a c).2 - y * (sb b c).2) (sb f c) := by unfold cr; grind
          rw [this, B2]
          grind
        omega
  rcases d2 with ⟨z1, z2⟩ | ⟨z1, z2⟩
  · -- area e f a > 0 > area e f b
    rcases d1 with ⟨y1, y2⟩ | ⟨y1, y2⟩
    · omega
    · exact key (- area e f b) (area e f a) (by omega) (by omega) (- area a b e) (area a b f) (by omega) (by omega) (.inr ⟨by omega, rfl, by omega, rfl⟩)
  · rcases d1 with ⟨y1, y2⟩ | ⟨y1, y2⟩
    · exact key (area e f b) (- area e f a) (by omega) (by omega) (area a b e) (- area a b f) (by omega) (by omega) (.inl ⟨rfl, by omega, rfl, by omega⟩)
    · omega
theorem no_true {b : Bool} (h : b = true → False) : b = false := by
  cases b with
  | true => exact (h rfl).elim
  | false => rfl
theorem St.simp (h : St c r) : Simp r := by
  have n3 : (3 : Int) ≤ r.length := by have := h.l3; omega
  have one : (1 : Int) % r.length = 1 := Int.emod_eq_of_lt (by omega) (by omega)
  have neg1 : (-1 : Int) % r.length = r.length - 1 := by
    rw [← Int.add_emod_right, Int.emod_eq_of_lt (by omega) (by omega)]
    omega
  refine ⟨h.l3, fun i j e => ?_, fun i => ?_, fun i j h0 h1 h2 => ?_⟩
  · have oi := h.own i
    have oj := h.own j
    rw [← e] at oj
    exact h.uniq oi.1 oi.2 oj.2
  · -- a side does not turn back
    have p1 := h.posI (i - 1)
    rw [Int.sub_add_cancel] at p1
    have p2 := h.posI i
    generalize cg r (i - 1) = a at *
    generalize cg r i = b at *
    generalize cg r (i + 1) = d at *
    refine no_true fun ht => ?_
    unfold turnsBack at ht
    rw [Bool.and_eq_true, decide_eq_true_eq] at ht
    obtain ⟨t1, t2⟩ := ht
    have : wOn a d b = true := by
      rw [on_iff]
      have ar : area a d b = - area a b d := by unfold area; grind
      refine ⟨by omega, ?_⟩
      have sum : cr (sb a c) (sb d c) = cr (sb a c) (sb b c) + cr (sb b c) (sb d c) := by
        have : cr (sb a c) (sb b c) + cr (sb b c) (sb d c) - cr (sb a c) (sb d c) = area a b d := by unfold cr sb area; grind
        omega
      have x1 : (a.1 - b.1) * cr (sb a c) (sb d c) = (a.1 - d.1) * cr (sb a c) (sb b c) := by
        have : (a.1 - b.1) * cr (sb a c) (sb d c) - (a.1 - d.1) * cr (sb a c) (sb b c) = (a.1 - c.1) * area a d b := by unfold cr sb area; grind
        rw [ar, t1] at this
        omega
      have x2 : (a.2 - b.2) * cr (sb a c) (sb d c) = (a.2 - d.2) * cr (sb a c) (sb b c) := by
        have : (a.2 - b.2) * cr (sb a c) (sb d c) - (a.2 - d.2) * cr (sb a c) (sb b c) = (a.2 - c.2) * area a d b := by unfold cr sb area; grind
        rw [ar, t1] at this
        omega
      have y1 : (d.1 - b.1) * cr (sb a c) (sb d c) = (d.1 - a.1) * cr (sb b c) (sb d c) := by
        have : (d.1 - b.1) * cr (sb a c) (sb d c) - (d.1 - a.1) * cr (sb b c) (sb d c) = (d.1 - c.1) * area a d b := by unfold cr sb area; grind
        rw [ar, t1] at this
        omega
      have y2 : (d.2 - b.2) * cr (sb a c) (sb d c) = (d.2 - a.2) * cr (sb b c) (sb d c) := by
        have : (d.2 - b.2) * cr (sb a c) (sb d c) - (d.2 - a.2) * cr (sb b c) (sb d c) = (d.2 - c.2) * area a d b := by unfold cr sb area; grind
        rw [ar, t1] at this
        omega
      have pp : 0 < cr (sb a c) (sb b c) * cr (sb b c) (sb d c) := Int.mul_pos p1 p2
      have hD : 0 < cr (sb a c) (sb d c) := by omega
      have dd : 0 < cr (sb a c) (sb d c) * cr (sb a c) (sb d c) := Int.mul_pos hD hD
      generalize cr (sb a c) (sb d c) = D at *
      generalize cr (sb a c) (sb b c) = m at *
      generalize cr (sb b c) (sb d c) = l at *
      have e : ((a.1 - b.1) * (d.1 - b.1) + (a.2 - b.2) * (d.2 - b.2)) * (D * D) = - (m * l) * ((a.1 - d.1) * (a.1 - d.1) + (a.2 - d.2) * (a.2 - d.2)) := by
        have e1 : ((a.1 - b.1) * (d.1 - b.1) + (a.2 - b.2) * (d.2 - b.2)) * (D * D) = ((a.1 - b.1) * D) * ((d.1 - b.1) * D) + ((a.2 - b.2) * D) * ((d.2 - b.2) * D) := by grind
        rw [e1, x1, x2, y1, y2]
        grind
      have q : 0 ≤ (a.1 - d.1) * (a.1 - d.1) + (a.2 - d.2) * (a.2 - d.2) := by
        have := sq_nn (a.1 - d.1)
        have := sq_nn (a.2 - d.2)
        omega
      have le : - (m * l) * ((a.1 - d.1) * (a.1 - d.1) + (a.2 - d.2) * (a.2 - d.2)) ≤ 0 := Int.mul_nonpos_of_nonpos_of_nonneg (by omega) q
      rcases Int.lt_or_le 0 ((a.1 - b.1) * (d.1 - b.1) + (a.2 - b.2) * (d.2 - b.2)) with z | z
      · have := Int.mul_pos z dd
        omega
      · exact z
    rw [this] at t2
    cases t2
  · -- sides apart
    have no : ∀ k l : Int, ∀ u : Pt, u ≠ (0, 0) → Sec c r u k → Sec c r u l → (k - l) % r.length = 0 := fun k l u hu s1 s2 => h.uniq hu s1 s2
    have m0 : ∀ k l t : Int, (k - l) % r.length = 0 → j - i = t + (l - k) → (j - i) % r.length = t % r.length := fun k l t e1 e2 => by
      refine mod_of ?_
      have : j - i - t = - (k - l) := by omega
      rw [this]
      exact Int.emod_eq_zero_of_dvd (Int.dvd_neg.mpr (Int.dvd_of_emod_eq_zero e1))
    have zero : (0 : Int) % r.length = 0 := Int.zero_emod _
    have onF : ∀ k p : Int, wOn (cg r k) (cg r (k + 1)) (cg r p) = true → (k - p) % r.length = 0 ∨ (k + 1 - p) % r.length = 0 := fun k p ho => by
      obtain ⟨ne, s⟩ := h.onSec ho
      rcases s with s | s
      · exact .inl (no k p _ ne s (h.own p).2)
      · exact .inr (no (k + 1) p _ ne s (h.own p).2)
    refine no_true fun ht => ?_
    unfold sidesMeet at ht
    simp only [Bool.or_eq_true] at ht
    rcases ht with ((ht | ht) | ht) | (ht | ht)
    · obtain ⟨u, hu, s1, s2⟩ := cross_cone ht (h.posI i) (h.posI j)
      have e := no i j u hu s1 s2
      have := m0 i j 0 e (by omega)
      omega
    · rcases onF i j ht with e | e
      · have := m0 i j 0 e (by omega); omega
      · have := m0 (i + 1) j 1 e (by omega); omega
    · rcases onF i (j + 1) ht with e | e
      · have := m0 i (j + 1) (-1) e (by omega); omega
      · have := m0 (i + 1) (j + 1) 0 e (by omega); omega
    · rcases onF j i ht with e | e
      · have := m0 i j 0 (by
          have : i - j = -(j - i) := by omega
          rw [this]
          exact Int.emod_eq_zero_of_dvd (Int.dvd_neg.mpr (Int.dvd_of_emod_eq_zero e))) (by omega)
        omega
      · have := m0 i (j + 1) (-1) (by
          have : i - (j + 1) = -(j + 1 - i) := by omega
          rw [this]
          exact Int.emod_eq_zero_of_dvd (Int.dvd_neg.mpr (Int.dvd_of_emod_eq_zero e))) (by omega)
        omega
    · rcases onF j (i + 1) ht with e | e
      · have := m0 (i + 1) j 1 (by
          have : i + 1 - j = -(j - (i + 1)) := by omega
          rw [this]
          exact Int.emod_eq_zero_of_dvd (Int.dvd_neg.mpr (Int.dvd_of_emod_eq_zero e))) (by omega)
        omega
      · have := m0 (i + 1) (j + 1) 0 (by
          have : i + 1 - (j + 1) = -(j + 1 - (i + 1)) := by omega
          rw [this]
          exact Int.emod_eq_zero_of_dvd (Int.dvd_neg.mpr (Int.dvd_of_emod_eq_zero e))) (by omega)
        omega
end
end G
set_option Elab.async false
set_option linter.all false
/-! Rings turned round, carried over, with middles put in. -/
namespace G
/-! ### turned round -/
theorem neg_mod {n z : Int} (hn : 0 < n) : (-1 - z) % n = n - 1 - z % n := by
  have z0 := Int.emod_nonneg z (b := n) (by omega)
  have z1 := Int.emod_lt_of_pos z hn
  have e : (-1 - z) % n = (n - 1 - z % n) % n := by
    refine mod_of ?_
    have h := Int.emod_add_mul_ediv z n
    have : -1 - z - (n - 1 - z % n) = n * (-(z / n) - 1) := by grind
    rw [this]
    exact Int.mul_emod_right _ _
  rw [e, Int.emod_eq_of_lt (by omega) (by omega)]
theorem cg_rev {r : List Pt} (h : r ≠ []) (z : Int) : cg r.reverse z = cg r (-1 - z) := by
  have n0 : (0 : Int) < r.length := by have := List.length_pos_iff.mpr h; omega
  have z0 := Int.emod_nonneg z (b := (r.length : Int)) (by omega)
  have z1 := Int.emod_lt_of_pos z n0
  unfold cg
  rw [List.length_reverse, neg_mod n0, List.getD_eq_getElem?_getD, List.getD_eq_getElem?_getD, List.getElem?_reverse (by omega)]
  congr 2
  omega
theorem rev_ne {r : List Pt} (h : r ≠ []) : r.reverse ≠ [] := fun e => h (by rw [← List.reverse_reverse r, e]; rfl)
theorem side_rev {r : List Pt} {e : Pt × Pt} (h : e ∈ sides r.reverse) : (e.2, e.1) ∈ sides r := by
  obtain ⟨i, hi, rfl⟩ := sides_mem h
  have h0 : r ≠ [] := fun z => by rw [z] at hi; exact absurd hi (Nat.not_lt_zero _)
  show (cg r.reverse ((i : Int) + 1), cg r.reverse i) ∈ sides r
  rw [cg_rev h0, cg_rev h0]
  have := side_any h0 (-1 - ((i : Int) + 1))
  rw [show -1 - ((i : Int) + 1) + 1 = -1 - (i : Int) from by omega] at this
  exact this
theorem sum_flip (f : Nat → Int) : ∀ n : Nat, ((List.range n).map fun i => f (n - 1 - i)).sum = ((List.range n).map f).sum
  | 0 => rfl
  | n + 1 => by
    rw [List.range_succ_eq_map, List.map_cons, List.map_map, List.sum_cons]
    have ih := sum_flip f n
    have e : ((fun i => f (n + 1 - 1 - i)) ∘ Nat.succ) = fun i => f (n - 1 - i) := by
      funext i
      show f (n + 1 - 1 - (i + 1)) = f (n - 1 - i)
      congr 1
      omega
    rw [e, ih]
    have h := List.range_succ (n := n)
    rw [← List.range_succ_eq_map, h, List.map_append, List.sum_append]
    simp
    omega
theorem sum_rev (F : Pt × Pt → Int) (r : List Pt) : ((sides r.reverse).map F).sum = ((sides r).map fun e => F (e.2, e.1)).sum := by
  by_cases h0 : r = []
  · subst h0; rfl
  · rw [sides_map, List.length_reverse, List.map_map, ← sum_backs]
    unfold backs
    rw [List.map_map]
    have e := sum_flip (fun (i : Nat) => F (cg r (i : Int), cg r ((i : Int) - 1))) r.length
    show ((List.range r.length).map fun (i : Nat) => F (cg r.reverse i, cg r.reverse ((i : Int) + 1))).sum = ((List.range r.length).map fun (i : Nat) => F (cg r (i : Int), cg r ((i : Int) - 1))).sum
    rw [← e]
    refine sum_congr fun i hi => ?_
    have hi := List.mem_range.mp hi
    rw [cg_rev h0, cg_rev h0]
    have e1 : ((r.length - 1 - i : Nat) : Int) = (-1 - (i : Int)) + r.length := by omega
    rw [e1, cg_add, show -1 - (i : Int) + (r.length : Int) - 1 = (-1 - ((i : Int) + 1)) + r.length from by omega, cg_add]
theorem wnd_swap (d a b : Pt) : wnd d b a = - wnd d a b := by
  unfold wnd b2
  rw [cr_swap b a]
  split <;> split <;> split <;> split <;> omega
theorem Wn_rev (d : Pt) (r : List Pt) (s : Pt) : Wn d r.reverse s = - Wn d r s := by
  unfold Wn
  rw [sum_rev (fun e => wnd d (sb e.1 s) (sb e.2 s)), ← sum_neg]
  exact sum_congr fun e _ => wnd_swap d _ _
theorem off_rev {r : List Pt} {s : Pt} (h : OffR r s) : OffR r.reverse s := fun e he => by
  have := h _ (side_rev he)
  rcases this with z | z
  · refine .inl fun w => z ?_
    rw [cr_swap]
    show - cr (sb e.1 s) (sb e.2 s) = 0
    omega
  · refine .inr ?_
    have : dt (sb e.1 s) (sb e.2 s) = dt (sb e.2 s) (sb e.1 s) := by unfold dt; grind
    rw [this]
    exact z
theorem area_rev (r : List Pt) : ringArea r.reverse = - ringArea r := by
  rw [area_cr _ (0, 0), area_cr r (0, 0), sum_rev (fun e => cr (sb e.1 (0, 0)) (sb e.2 (0, 0))), ← sum_neg]
  exact sum_congr fun e _ => cr_swap _ _
theorem on_swap (a b p : Pt) : wOn b a p = wOn a b p := by
  rw [Bool.eq_iff_iff, on_iff, on_iff]
  have e1 : area b a p = - area a b p := by unfold area; grind
  have e2 : (b.1 - p.1) * (a.1 - p.1) + (b.2 - p.2) * (a.2 - p.2) = (a.1 - p.1) * (b.1 - p.1) + (a.2 - p.2) * (b.2 - p.2) := by grind
  omega
theorem sgn_neg (x : Int) : sgn (-x) = - sgn x := by unfold sgn; split <;> split <;> (try split) <;> (try split) <;> omega
theorem wcr_swap (a b e f : Pt) : wCr b a f e = wCr a b e f := by
  have h1 : area b a f = - area a b f := by unfold area; grind
  have h2 : area b a e = - area a b e := by unfold area; grind
  have h3 : area f e b = - area e f b := by unfold area; grind
  have h4 : area f e a = - area e f a := by unfold area; grind
  unfold wCr
  rw [h1, h2, h3, h4, sgn_neg, sgn_neg, sgn_neg, sgn_neg, Int.neg_mul_neg, Int.neg_mul_neg, Int.mul_comm (sgn (area a b f)), Int.mul_comm (sgn (area e f b))]
theorem meet_swap (a b e f : Pt) : sidesMeet b a f e = sidesMeet a b e f := by
  unfold sidesMeet
  rw [wcr_swap, on_swap a b f, on_swap a b e, on_swap e f b, on_swap e f a]
  cases wCr a b e f <;> cases wOn a b e <;> cases wOn a b f <;> cases wOn e f a <;> cases wOn e f b <;> rfl
theorem back_swap (a b d : Pt) : turnsBack d b a = turnsBack a b d := by
  unfold turnsBack
  rw [on_swap a d b]
  have : area d b a = - area a b d := by unfold area; grind
  rw [this]
  congr 1
  exact decide_eq_decide.mpr (by omega)
theorem neg_sub_mod {n x : Int} (h : x % n = 0) : (-x) % n = 0 := Int.emod_eq_zero_of_dvd (Int.dvd_neg.mpr (Int.dvd_of_emod_eq_zero h))
theorem Simp.rev {r : List Pt} (h : Simp r) : Simp r.reverse := by
  have h0 : r ≠ [] := fun e => by have := h.l3; rw [e] at this; exact absurd this (by decide)
  have n3 : (3 : Int) ≤ r.length := by have := h.l3; omega
  refine ⟨by rw [List.length_reverse]; exact h.l3, fun i j e => ?_, fun i => ?_, fun i j g0 g1 g2 => ?_⟩
  · rw [cg_rev h0, cg_rev h0] at e
    rw [List.length_reverse]
    have := neg_sub_mod (h.nd _ _ e)
    rwa [show -(-1 - i - (-1 - j)) = i - j from by omega] at this
  · rw [cg_rev h0, cg_rev h0, cg_rev h0, back_swap]
    have := h.tb (-1 - i)
    rwa [show -1 - i - 1 = -1 - (i + 1) from by omega, show -1 - i + 1 = -1 - (i - 1) from by omega] at this
  · rw [List.length_reverse] at g0 g1 g2
    rw [cg_rev h0, cg_rev h0, cg_rev h0, cg_rev h0, meet_swap]
    have flip : ∀ k : Int, (i - j) % r.length = k % r.length → (j - i) % r.length = (-k) % r.length := fun k e => by
      have := neg_sub_mod (Int.emod_eq_emod_iff_emod_sub_eq_zero.mp e)
      refine mod_of ?_
      rwa [show -(i - j - k) = j - i - -k from by omega] at this
    have one : (1 : Int) % r.length = 1 := Int.emod_eq_of_lt (by omega) (by omega)
    have neg1 : (-1 : Int) % r.length = r.length - 1 := by
      rw [← Int.add_emod_right, Int.emod_eq_of_lt (by omega) (by omega)]
      omega
    have := h.ap (-1 - (i + 1)) (-1 - (j + 1)) (fun e => ?_) (fun e => ?_) (fun e => ?_)
    · rwa [show -1 - (i + 1) + 1 = -1 - i from by omega, show -1 - (j + 1) + 1 = -1 - j from by omega] at this
    · rw [show -1 - (j + 1) - (-1 - (i + 1)) = i - j from by omega] at e
      exact g0 (by rw [flip 0 (by rw [e, Int.zero_emod])]; exact Int.zero_emod _)
    · rw [show -1 - (j + 1) - (-1 - (i + 1)) = i - j from by omega] at e
      exact g2 (by rw [flip 1 (by rw [e, one]), neg1])
    · rw [show -1 - (j + 1) - (-1 - (i + 1)) = i - j from by omega] at e
      exact g1 (by rw [flip (-1) (by rw [e, neg1]), Int.neg_neg, one])
/-- what the program asks of a ring -/
theorem Simp.okRing {r : List Pt} (h : Simp r) (lm : r.length ≤ 100) (bd : ∀ p, p ∈ r → (-1000 ≤ p.1 ∧ p.1 ≤ 1000) ∧ -1000 ≤ p.2 ∧ p.2 ≤ 1000) : OkRing r := by
  have n3 := h.l3
  refine ⟨h.l3, lm, bd, ?_, fun i hi => ?_, fun i j h1 h2 h3 => ?_⟩
  · rw [List.Nodup, List.pairwise_iff_getElem]
    intro i j hi hj lt e
    have e1 := cg_nat hi
    have e2 := cg_nat hj
    rw [List.getElem?_eq_getElem hi] at e1
    rw [List.getElem?_eq_getElem hj] at e2
    have e3 := h.nd (j : Int) (i : Int) (by rw [← Option.some.inj e1, ← Option.some.inj e2, e])
    rw [Int.emod_eq_of_lt (by omega) (by omega)] at e3
    omega
  · have := h.tb ((i : Int) - 1)
    rwa [show (i : Int) - 1 - 1 = i - 2 from by omega, Int.sub_add_cancel] at this
  · have e : ((j : Int) - i) % r.length = (j : Int) - i := Int.emod_eq_of_lt (by omega) (by omega)
    exact h.ap i j (by rw [e]; omega) (by rw [e]; omega) (by rw [e]; omega)
end G
set_option Elab.async false
set_option linter.all false
/-! Rings carried over by a rule, with middles put in: once round the centre they stay. -/
namespace G
/-! ### carried over -/
def Rule.lin (t : Rule) (v : Pt) : Pt := (t.a * v.1 + t.b * v.2, t.c * v.1 + t.d * v.2)
theorem at_sb (t : Rule) (a s : Pt) : sb (t.at a) (t.at s) = t.lin (sb a s) := by
  unfold sb Rule.at Rule.lin
  rw [Prod.mk.injEq]
  constructor <;> grind
theorem lin_cr (t : Rule) (a b : Pt) : cr (t.lin a) (t.lin b) = t.det * cr a b := by unfold cr Rule.lin Rule.det; grind
theorem lin_ne {t : Rule} (ht : t.det = 1 ∨ t.det = -1) {v : Pt} (hv : v ≠ (0, 0)) : t.lin v ≠ (0, 0) := fun e => by
  have h := cr_perp hv
  have e1 := lin_cr t v (perp v)
  rw [e] at e1
  unfold cr at e1
  simp only [Int.zero_mul, Int.sub_self] at e1
  unfold cr at h
  rcases ht with z | z <;> rw [z] at e1 <;> omega
theorem sum_add {α : Type} (f g : α → Int) : ∀ l : List α, (l.map fun x => f x + g x).sum = (l.map f).sum + (l.map g).sum
  | [] => rfl
  | x :: l => by
    rw [List.map_cons, List.map_cons, List.map_cons, List.sum_cons, List.sum_cons, List.sum_cons, sum_add f g l]
    omega
/-- which of a side's two ends counts when it stands on the half line itself -/
theorem edge_ends {d a b : Pt} (hd : d ≠ (0, 0)) (h : 0 < cr a b) : b2 (cr d a ≤ 0 ∧ 0 < cr d b) - b2 (cr d a < 0 ∧ 0 ≤ cr d b) = b2 (cr d a = 0 ∧ 0 < dt d a) - b2 (cr d b = 0 ∧ 0 < dt d b) := by
  have id1 : dt d d * cr a b = dt d a * cr d b - cr d a * dt d b := by unfold dt cr; grind
  have dd : 0 < dt d d := by
    unfold dt
    have := sq_nn d.1
    have := sq_nn d.2
    rcases nz_cases hd with z | z
    · have := sq_pos z; omega
    · have := sq_pos z; omega
  have pos : 0 < dt d d * cr a b := Int.mul_pos dd h
  have s1 := sgn4 (dt d a) (cr d b)
  have s2 := sgn4 (cr d a) (dt d b)
  have n1 : dt d a < 0 → cr d b < 0 → 0 < dt d a * cr d b := Int.mul_pos_of_neg_of_neg
  have z1 : cr d a = 0 → cr d a * dt d b = 0 := fun z => by rw [z, Int.zero_mul]
  have z2 : cr d b = 0 → dt d a * cr d b = 0 := fun z => by rw [z, Int.mul_zero]
  have z3 : dt d a = 0 → dt d a * cr d b = 0 := fun z => by rw [z, Int.zero_mul]
  have z4 : dt d b = 0 → cr d a * dt d b = 0 := fun z => by rw [z, Int.mul_zero]
  have n2 : 0 < dt d a → cr d b < 0 → dt d a * cr d b < 0 := Int.mul_neg_of_pos_of_neg
  have n3 : dt d a < 0 → 0 < cr d b → dt d a * cr d b < 0 := Int.mul_neg_of_neg_of_pos
  have n4 : 0 < cr d a → 0 < dt d b → 0 < cr d a * dt d b := Int.mul_pos
  have n5 : cr d a < 0 → dt d b < 0 → 0 < cr d a * dt d b := Int.mul_pos_of_neg_of_neg
  have n6 : 0 < cr d a → dt d b < 0 → cr d a * dt d b < 0 := Int.mul_neg_of_pos_of_neg
  have n7 : cr d a < 0 → 0 < dt d b → cr d a * dt d b < 0 := Int.mul_neg_of_neg_of_pos
  generalize dt d d * cr a b = X at *
  generalize dt d a * cr d b = Y at *
  generalize cr d a * dt d b = Z at *
  generalize cr d a = p at *
  generalize cr d b = q at *
  generalize dt d a = u at *
  generalize dt d b = v at *
  clear s1 s2
  have f1 : p = 0 → ((0 < u ↔ 0 < q) ∧ q ≠ 0) := by
    intro hp
    have := z1 hp
    omega
  have f2 : q = 0 → ((0 < v ↔ p < 0) ∧ p ≠ 0) := by
    intro hq
    have := z2 hq
    omega
  clear n1 z1 z2 z3 z4 n2 n3 n4 n5 n6 n7 id1 pos
  unfold b2
  split <;> split <;> split <;> split <;> omega
theorem put_pos (t : Rule) (r : List Pt) (h : t.det = 1) : putR t r = r.map t.at := by unfold putR; rw [if_pos (by omega)]
theorem put_neg (t : Rule) (r : List Pt) (h : t.det = -1) : putR t r = (r.map t.at).reverse := by unfold putR; rw [if_neg (by omega)]
theorem St.put {c : Pt} {r : List Pt} {t : Rule} (ht : RuleOk t) (h : St c r) : St (t.at c) (putR t r) := by
  have hdet := ht.det
  obtain ⟨d, hd, h1⟩ := h.one
  have hL := lin_ne hdet hd
  refine ⟨by rw [put_len]; exact h.l3, fun e he => ?_, t.lin d, hL, ?_⟩
  · rcases hdet with z | z
    · rw [put_pos t r z, sides_of_map] at he
      obtain ⟨x, hx, rfl⟩ := List.mem_map.mp he
      show 0 < cr (sb (t.at x.1) (t.at c)) (sb (t.at x.2) (t.at c))
      rw [at_sb, at_sb, lin_cr, z, Int.one_mul]
      exact h.pos x hx
    · rw [put_neg t r z] at he
      have he := side_rev he
      rw [sides_of_map] at he
      obtain ⟨x, hx, ex⟩ := List.mem_map.mp he
      have x1 : t.at x.1 = e.2 := congrArg Prod.fst ex
      have x2 : t.at x.2 = e.1 := congrArg Prod.snd ex
      rw [← x1, ← x2, at_sb, at_sb, lin_cr, z, cr_swap]
      have := h.pos x hx
      omega
  · rcases hdet with z | z
    · rw [put_pos t r z, Wn_map, ← h1]
      unfold Wn
      refine sum_congr fun e _ => ?_
      rw [at_sb, at_sb]
      unfold wnd
      rw [lin_cr, lin_cr, lin_cr, z, Int.one_mul, Int.one_mul, Int.one_mul]
    · rw [put_neg t r z, Wn_rev, Wn_map, ← sum_neg, ← h1]
      unfold Wn
      have e1 : ((sides r).map fun e => wnd d (sb e.1 c) (sb e.2 c)).sum = ((sides r).map fun e => b2 (cr d (sb e.1 c) ≤ 0 ∧ 0 < cr d (sb e.2 c))).sum := sum_congr fun e he => by
        rw [wnd_pos (h.pos e he)]
        unfold b2
        have := cr_swap (sb e.1 c) d
        have q : (0 ≤ cr (sb e.1 c) d ∧ 0 < cr d (sb e.2 c)) ↔ (cr d (sb e.1 c) ≤ 0 ∧ 0 < cr d (sb e.2 c)) := by omega
        simp only [q]
      have e2 : ((sides r).map fun e => - wnd (t.lin d) (sb (t.at e.1) (t.at c)) (sb (t.at e.2) (t.at c))).sum = ((sides r).map fun e => b2 (cr d (sb e.1 c) < 0 ∧ 0 ≤ cr d (sb e.2 c))).sum := sum_congr fun e he => by
        have p := h.pos e he
        rw [at_sb, at_sb]
        unfold wnd b2
        rw [lin_cr, lin_cr, lin_cr, z]
        generalize cr d (sb e.1 c) = x at *
        generalize cr d (sb e.2 c) = y at *
        generalize cr (sb e.1 c) (sb e.2 c) = w at *
        have q1 : ¬ (-1 * x ≤ 0 ∧ 0 < -1 * y ∧ 0 < -1 * w) := by omega
        have q2 : (-1 * y ≤ 0 ∧ 0 < -1 * x ∧ -1 * w < 0) ↔ (x < 0 ∧ 0 ≤ y) := by omega
        rw [if_neg q1]
        simp only [q2]
        omega
      have e3 : ((sides r).map fun e => b2 (cr d (sb e.1 c) ≤ 0 ∧ 0 < cr d (sb e.2 c)) - b2 (cr d (sb e.1 c) < 0 ∧ 0 ≤ cr d (sb e.2 c))).sum = ((sides r).map fun e => (fun v => - b2 (cr d (sb v c) = 0 ∧ 0 < dt d (sb v c))) e.2 - (fun v => - b2 (cr d (sb v c) = 0 ∧ 0 < dt d (sb v c))) e.1).sum := sum_congr fun e he => by
        rw [edge_ends hd (h.pos e he)]
        show _ = - b2 (cr d (sb e.2 c) = 0 ∧ 0 < dt d (sb e.2 c)) - - b2 (cr d (sb e.1 c) = 0 ∧ 0 < dt d (sb e.1 c))
        omega
      have e4 := sum_cyc (fun v => - b2 (cr d (sb v c) = 0 ∧ 0 < dt d (sb v c))) r
      rw [← e3, sum_sub (fun e : Pt × Pt => b2 (cr d (sb e.1 c) ≤ 0 ∧ 0 < cr d (sb e.2 c))) (fun e => b2 (cr d (sb e.1 c) < 0 ∧ 0 ≤ cr d (sb e.2 c)))] at e4
      rw [e1, e2]
      omega
/-! ### begun elsewhere -/
theorem cg_turn {r : List Pt} {k : Nat} (hk : k < r.length) (z : Int) : cg (r.drop k ++ r.take k) z = cg r (z + k) := by
  have h0 : r ≠ [] := fun e => by rw [e] at hk; exact absurd hk (Nat.not_lt_zero _)
  have n0 : (0 : Int) < r.length := by omega
  have ln : (r.drop k ++ r.take k).length = r.length := by rw [List.length_append, List.length_drop, List.length_take]; omega
  have z0 := Int.emod_nonneg z (b := (r.length : Int)) (by omega)
  have z1 := Int.emod_lt_of_pos z n0
  unfold cg
  rw [ln, List.getD_eq_getElem?_getD, List.getD_eq_getElem?_getD]
  congr 1
  by_cases h : (z % r.length).toNat < r.length - k
  · rw [List.getElem?_append_left (by rw [List.length_drop]; exact h), List.getElem?_drop]
    congr 1
    have : (z + k) % r.length = z % r.length + k := by
      rw [← Int.emod_add_emod, Int.emod_eq_of_lt (by omega) (by omega)]
    omega
  · rw [List.getElem?_append_right (by rw [List.length_drop]; omega), List.length_drop, List.getElem?_take_of_lt (by omega)]
    congr 1
    have : (z + k) % r.length = z % r.length + k - r.length := by
      rw [← Int.emod_add_emod, ← Int.sub_emod_right, Int.emod_eq_of_lt (by omega) (by omega)]
    omega
theorem sum_turn (F : Pt × Pt → Int) {r : List Pt} {k : Nat} (hk : k < r.length) : ((sides (r.drop k ++ r.take k)).map F).sum = ((sides r).map F).sum := by
  have ln : (r.drop k ++ r.take k).length = r.length := by rw [List.length_append, List.length_drop, List.length_take]; omega
  rw [sides_map, sides_map, ln, List.map_map, List.map_map]
  have step : ∀ j : Nat, ((List.range r.length).map fun (i : Nat) => F (cg r ((i : Int) + j), cg r ((i : Int) + j + 1))).sum = ((List.range r.length).map fun (i : Nat) => F (cg r (i : Int), cg r ((i : Int) + 1))).sum := by
    intro j
    induction j with
    | zero => simp
    | succ j ih =>
      rw [← ih]
      have e := sum_shift (fun z => F (cg r (z + j), cg r (z + j + 1))) r.length (by
        show F (cg r ((r.length : Int) + j), cg r ((r.length : Int) + j + 1)) = F (cg r (0 + (j : Int)), cg r (0 + (j : Int) + 1))
        rw [show (r.length : Int) + j = (0 + (j : Int)) + r.length from by omega, cg_add, show 0 + (j : Int) + (r.length : Int) + 1 = (0 + (j : Int) + 1) + r.length from by omega, cg_add])
      rw [← e]
      refine sum_congr fun i _ => ?_
      rw [show (i : Int) + ((j + 1 : Nat) : Int) = (i : Int) + 1 + j from by omega]
  show ((List.range r.length).map fun (i : Nat) => F (cg (r.drop k ++ r.take k) i, cg (r.drop k ++ r.take k) ((i : Int) + 1))).sum = ((List.range r.length).map fun (i : Nat) => F (cg r (i : Int), cg r ((i : Int) + 1))).sum
  rw [← step k]
  refine sum_congr fun i _ => ?_
  show F (cg (r.drop k ++ r.take k) i, cg (r.drop k ++ r.take k) ((i : Int) + 1)) = _
  rw [cg_turn hk, cg_turn hk, show (i : Int) + 1 + k = (i : Int) + k + 1 from by omega]
theorem side_turn {r : List Pt} {k : Nat} (hk : k < r.length) {e : Pt × Pt} (h : e ∈ sides (r.drop k ++ r.take k)) : e ∈ sides r := by
  have h0 : r ≠ [] := fun e => by rw [e] at hk; exact absurd hk (Nat.not_lt_zero _)
  obtain ⟨i, hi, rfl⟩ := sides_mem h
  rw [cg_turn hk, cg_turn hk, show (i : Int) + 1 + k = (i : Int) + k + 1 from by omega]
  exact side_any h0 _
end G
set_option Elab.async false
set_option linter.all false
/-! Middles put in: the sides behind are the sides ahead, some of them cut in two. -/
namespace G
def bk (p : Pt) : List Pt → List (Pt × Pt)
  | [] => []
  | x :: xs => (p, x) :: bk x xs
def ls (p : Pt) : List Pt → Pt
  | [] => p
  | x :: xs => ls x xs
theorem bk_app : ∀ (l m : List Pt) (p : Pt), bk p (l ++ m) = bk p l ++ bk (ls p l) m
  | [], _, _ => rfl
  | x :: l, m, p => congrArg (_ :: ·) (bk_app l m x)
theorem ls_app : ∀ (l m : List Pt) (p : Pt), ls p (l ++ m) = ls (ls p l) m
  | [], _, _ => rfl
  | x :: l, m, p => ls_app l m x
theorem bk_len : ∀ (l : List Pt) (p : Pt), (bk p l).length = l.length
  | [], _ => rfl
  | x :: l, p => congrArg Nat.succ (bk_len l x)
theorem bk_get : ∀ (l : List Pt) (p : Pt) (i : Nat), i < l.length → (bk p l)[i]? = some ((p :: l).getD i (0, 0), l.getD i (0, 0))
  | [], _, _, h => absurd h (Nat.not_lt_zero _)
  | x :: l, p, 0, _ => rfl
  | x :: l, p, i + 1, h => by
    show (bk x l)[i]? = _
    rw [bk_get l x i (Nat.lt_of_succ_lt_succ h)]
    rfl
theorem backs_bk {r : List Pt} (h : r ≠ []) : backs r = bk (cg r (-1)) r := by
  apply list_eq_of_get
  · unfold backs
    rw [List.length_map, List.length_range, bk_len]
  · intro i x y h1 h2
    have hi : i < r.length := by
      have := (List.getElem?_eq_some_iff.mp h2).1
      rwa [bk_len] at this
    unfold backs at h1
    rw [List.getElem?_map, List.getElem?_range hi] at h1
    rw [bk_get _ _ _ hi, getD_cg hi] at h2
    have e1 := Option.some.inj h1
    have e2 := Option.some.inj h2
    rw [← e1, ← e2]
    cases i with
    | zero => rfl
    | succ i =>
      have e3 : (cg r (-1) :: r).getD (i + 1) (0, 0) = r.getD i (0, 0) := rfl
      show (cg r (((i + 1 : Nat) : Int) - 1), cg r ((i + 1 : Nat) : Int)) = _
      rw [e3, getD_cg (by omega), show ((i + 1 : Nat) : Int) - 1 = i from by omega]
/-- a side, cut in two perhaps -/
def cutS (r : List Pt) (f : Nat → Bool) (i : Nat) : List (Pt × Pt) := if f i = true then [(cg r ((i : Int) - 1), mid (cg r ((i : Int) - 1)) (cg r i)), (mid (cg r ((i : Int) - 1)) (cg r i), cg r i)] else [(cg r ((i : Int) - 1), cg r i)]
theorem mids_bk (r : List Pt) (f : Nat → Bool) : ∀ n : Nat, bk (cg r (-1)) ((List.range n).flatMap (piece r f)) = (List.range n).flatMap (cutS r f) ∧ ls (cg r (-1)) ((List.range n).flatMap (piece r f)) = cg r ((n : Int) - 1)
  | 0 => ⟨rfl, rfl⟩
  | n + 1 => by
    obtain ⟨h1, h2⟩ := mids_bk r f n
    rw [List.range_succ, List.flatMap_append, List.flatMap_append, List.flatMap_singleton, List.flatMap_singleton, bk_app, ls_app, h1, h2]
    have e : ((n + 1 : Nat) : Int) - 1 = n := by omega
    rw [e]
    unfold piece cutS
    by_cases hf : f n = true
    · rw [if_pos hf, if_pos hf]
      exact ⟨rfl, rfl⟩
    · rw [if_neg hf, if_neg hf]
      exact ⟨rfl, rfl⟩
theorem mids_ne {r : List Pt} (f : Nat → Bool) (h : r ≠ []) : withMids r f ≠ [] := fun e => by
  have z := (mids_len r f).2
  rw [e] at z
  have z : r.length ≤ 0 := z
  have := List.length_pos_iff.mpr h
  omega
theorem ls_cg : ∀ (l : List Pt) (p : Pt), l ≠ [] → ls p l = cg l (-1)
  | [], _, h => absurd rfl h
  | [x], p, _ => rfl
  | x :: y :: l, p, _ => by
    show ls x (y :: l) = _
    rw [ls_cg (y :: l) x (List.cons_ne_nil _ _)]
    have e1 : cg (x :: y :: l) (-1) = cg (x :: y :: l) ((l.length + 1 : Nat) : Int) := cg_neg (r := x :: y :: l) (i := l.length + 1) 1 (by simp)
    have e2 : cg (y :: l) (-1) = cg (y :: l) ((l.length : Nat) : Int) := cg_neg (r := y :: l) (i := l.length) 1 (by simp)
    rw [e1, e2, ← getD_cg (by simp), ← getD_cg (by simp)]
    rfl
theorem mids_backs {r : List Pt} (f : Nat → Bool) (h : r ≠ []) : backs (withMids r f) = (List.range r.length).flatMap (cutS r f) := by
  have h0 := mids_ne f h
  rw [backs_bk h0]
  obtain ⟨h1, h2⟩ := mids_bk r f r.length
  have e : cg (withMids r f) (-1) = cg r (-1) := by
    rw [← ls_cg _ (cg r (-1)) h0]
    unfold withMids
    rw [h2, show (r.length : Int) - 1 = -1 + r.length from by omega, cg_add]
  rw [e]
  exact h1
theorem mid_sb {a b : Pt} (h : evens a b = true) : 2 * (mid a b).1 = a.1 + b.1 ∧ 2 * (mid a b).2 = a.2 + b.2 := by
  unfold evens at h
  rw [Bool.and_eq_true, beq_iff_eq, beq_iff_eq] at h
  unfold mid
  simp only
  omega
/-- the sides behind, each a part of a side ahead -/
structure Part (r : List Pt) (e : Pt × Pt) : Prop where
  ex : ∃ g, g ∈ sides r ∧ (e = g ∨ (evens g.1 g.2 = true ∧ (e = (g.1, mid g.1 g.2) ∨ e = (mid g.1 g.2, g.2))))
theorem back_any {r : List Pt} (h : r ≠ []) (z : Int) : (cg r (z - 1), cg r z) ∈ sides r := by
  have := side_any h (z - 1)
  rwa [Int.sub_add_cancel] at this
theorem More.part {r s : List Pt} (hr : r ≠ []) (m : More r s) {e : Pt × Pt} (he : e ∈ sides s) : Part r e := by
  obtain ⟨f, hf, k, hk, rfl⟩ := m.ex
  have he := (backs_iff _ _).mpr (side_turn hk he)
  rw [mids_backs f hr] at he
  obtain ⟨i, hi, he⟩ := List.mem_flatMap.mp he
  have hi := List.mem_range.mp hi
  refine ⟨_, back_any hr i, ?_⟩
  unfold cutS at he
  by_cases hfi : f i = true
  · rw [if_pos hfi] at he
    simp only [List.mem_cons, List.not_mem_nil, or_false] at he
    exact .inr ⟨hf i hi hfi, he⟩
  · rw [if_neg hfi] at he
    exact .inl (List.mem_singleton.mp he)
theorem sum_flat {α : Type} (F : α → Int) (g : Nat → List α) (h : Nat → Int) : ∀ l : List Nat, (∀ i, i ∈ l → ((g i).map F).sum = h i) → ((l.flatMap g).map F).sum = (l.map h).sum
  | [], _ => rfl
  | i :: l, hl => by
    rw [List.flatMap_cons, List.map_append, List.sum_append, List.map_cons, List.sum_cons, hl i List.mem_cons_self, sum_flat F g h l fun j hj => hl j (List.mem_cons_of_mem _ hj)]
theorem More.sum {r s : List Pt} (hr : r ≠ []) (m : More r s) (F : Pt × Pt → Int) (hF : ∀ g, g ∈ sides r → evens g.1 g.2 = true → F (g.1, G.mid g.1 g.2) + F (G.mid g.1 g.2, g.2) = F g) : ((sides s).map F).sum = ((sides r).map F).sum := by
  obtain ⟨f, hf, k, hk, rfl⟩ := m.ex
  rw [sum_turn F hk, ← sum_backs, mids_backs f hr, ← sum_backs F r]
  unfold backs
  rw [List.map_map]
  refine sum_flat F (cutS r f) (F ∘ fun (i : Nat) => (cg r ((i : Int) - 1), cg r i)) _ fun i hi => ?_
  have hi := List.mem_range.mp hi
  unfold cutS
  by_cases hfi : f i = true
  · rw [if_pos hfi]
    have q := hF _ (back_any hr i) (hf i hi hfi)
    dsimp only at q
    simp only [List.map_cons, List.map_nil, List.sum_cons, List.sum_nil, Function.comp]
    omega
  · rw [if_neg hfi]
    simp
theorem mid_cr {a b c : Pt} (h : evens a b = true) (d : Pt) : 2 * cr d (sb (mid a b) c) = cr d (sb a c) + cr d (sb b c) ∧ 2 * cr (sb a c) (sb (mid a b) c) = cr (sb a c) (sb b c) ∧ 2 * cr (sb (mid a b) c) (sb b c) = cr (sb a c) (sb b c) := by
  obtain ⟨h1, h2⟩ := mid_sb h
  generalize mid a b = m at *
  unfold cr sb
  refine ⟨?_, ?_, ?_⟩
  · have e : 2 * (d.1 * (m.2 - c.2) - d.2 * (m.1 - c.1)) = d.1 * (2 * m.2 - 2 * c.2) - d.2 * (2 * m.1 - 2 * c.1) := by grind
    simp only
    rw [e, h1, h2]
    grind
  · have e : 2 * ((a.1 - c.1) * (m.2 - c.2) - (a.2 - c.2) * (m.1 - c.1)) = (a.1 - c.1) * (2 * m.2 - 2 * c.2) - (a.2 - c.2) * (2 * m.1 - 2 * c.1) := by grind
    simp only
    rw [e, h1, h2]
    grind
  · have e : 2 * ((m.1 - c.1) * (b.2 - c.2) - (m.2 - c.2) * (b.1 - c.1)) = (2 * m.1 - 2 * c.1) * (b.2 - c.2) - (2 * m.2 - 2 * c.2) * (b.1 - c.1) := by grind
    simp only
    rw [e, h1, h2]
    grind
theorem St.more {c : Pt} {r s : List Pt} (h : St c r) (m : More r s) : St c s := by
  obtain ⟨d, hd, h1⟩ := h.one
  refine ⟨Nat.le_trans h.l3 m.len.2, fun e he => ?_, d, hd, ?_⟩
  · obtain ⟨g, hg, e1 | ⟨ev, e1 | e1⟩⟩ := (m.part h.ne he).ex
    · rw [e1]; exact h.pos g hg
    · have := h.pos g hg
      have := (mid_cr (c := c) ev d).2.1
      rw [e1]
      show 0 < cr (sb g.1 c) (sb (mid g.1 g.2) c)
      omega
    · have := h.pos g hg
      have := (mid_cr (c := c) ev d).2.2
      rw [e1]
      show 0 < cr (sb (mid g.1 g.2) c) (sb g.2 c)
      omega
  · rw [← h1]
    unfold Wn
    refine m.sum h.ne (fun e => wnd d (sb e.1 c) (sb e.2 c)) fun g hg ev => ?_
    obtain ⟨z1, z2, z3⟩ := mid_cr (c := c) ev d
    have p := h.pos g hg
    show wnd d (sb g.1 c) (sb (mid g.1 g.2) c) + wnd d (sb (mid g.1 g.2) c) (sb g.2 c) = wnd d (sb g.1 c) (sb g.2 c)
    unfold wnd b2
    generalize cr d (sb (mid g.1 g.2) c) = w at *
    generalize cr (sb g.1 c) (sb (mid g.1 g.2) c) = w1 at *
    generalize cr (sb (mid g.1 g.2) c) (sb g.2 c) = w2 at *
    generalize cr d (sb g.1 c) = x at *
    generalize cr d (sb g.2 c) = y at *
    generalize cr (sb g.1 c) (sb g.2 c) = z at *
    have n1 : ¬ (w ≤ 0 ∧ 0 < x ∧ w1 < 0) := by omega
    have n2 : ¬ (y ≤ 0 ∧ 0 < w ∧ w2 < 0) := by omega
    have n3 : ¬ (y ≤ 0 ∧ 0 < x ∧ z < 0) := by omega
    rw [if_neg n1, if_neg n2, if_neg n3]
    split <;> split <;> split <;> omega
end G
set_option Elab.async false
set_option linter.all false
/-! A line between: sides that do not meet, points inside and outside. -/
namespace G
/-- p x + q y -/
def fl (t : Pt) (v : Pt) : Int := t.1 * v.1 + t.2 * v.2
theorem fl_sb (t a s : Pt) : fl t (sb a s) = fl t a - fl t s := by unfold fl sb; grind
theorem sep_off {t a b : Pt} (ha : fl t a < 0) (hb : fl t b < 0) : Off a b := by
  by_cases hc : cr a b = 0
  · refine .inr ?_
    have id1 : fl t b * dt a a = fl t a * dt a b + cr a b * (t.2 * a.1 - t.1 * a.2) := by unfold fl dt cr; grind
    rw [hc, Int.zero_mul, Int.add_zero] at id1
    have haa : 0 < dt a a := by
      have ne : a ≠ (0, 0) := fun z => by rw [z] at ha; unfold fl at ha; simp at ha
      unfold dt
      have := sq_nn a.1
      have := sq_nn a.2
      rcases nz_cases ne with z | z
      · have := sq_pos z; omega
      · have := sq_pos z; omega
    have l : fl t b * dt a a < 0 := Int.mul_neg_of_neg_of_pos hb haa
    rcases Int.lt_or_le 0 (dt a b) with z | z
    · exact z
    · have := Int.mul_nonneg_of_nonpos_of_nonpos (Int.le_of_lt ha) z
      omega
  · exact .inl hc
theorem on_off {a b p : Pt} : wOn a b p = false ↔ Off (sb a p) (sb b p) := by
  have e1 : cr (sb a p) (sb b p) = area a b p := cr_area a b p
  have e2 : dt (sb a p) (sb b p) = (a.1 - p.1) * (b.1 - p.1) + (a.2 - p.2) * (b.2 - p.2) := rfl
  unfold Off
  rw [e1, e2]
  have h := on_iff (a := a) (b := b) (p := p)
  generalize (a.1 - p.1) * (b.1 - p.1) + (a.2 - p.2) * (b.2 - p.2) = X at *
  generalize area a b p = Y at *
  cases hw : wOn a b p with
  | true =>
    have := h.mp hw
    constructor
    · intro z; cases z
    · intro z; omega
  | false =>
    have : ¬ (Y = 0 ∧ X ≤ 0) := fun z => by rw [h.mpr z] at hw; cases hw
    constructor
    · intro _; omega
    · intro _; rfl
/-- a line between two sides -/
theorem sep_meet {t a b e f : Pt} {k : Int} (ha : fl t a ≤ k) (hb : fl t b ≤ k) (he : k < fl t e) (hf : k < fl t f) : sidesMeet a b e f = false := by
  have o1 : wOn a b e = false := on_off.mpr (sep_off (t := t) (by rw [fl_sb]; omega) (by rw [fl_sb]; omega))
  have o2 : wOn a b f = false := on_off.mpr (sep_off (t := t) (by rw [fl_sb]; omega) (by rw [fl_sb]; omega))
  have ng : ∀ v, fl (-t.1, -t.2) v = - fl t v := fun v => by unfold fl; grind
  have o3 : wOn e f a = false := on_off.mpr (sep_off (t := (-t.1, -t.2)) (by rw [fl_sb, ng, ng]; omega) (by rw [fl_sb, ng, ng]; omega))
  have o4 : wOn e f b = false := on_off.mpr (sep_off (t := (-t.1, -t.2)) (by rw [fl_sb, ng, ng]; omega) (by rw [fl_sb, ng, ng]; omega))
  have o5 : wCr a b e f = false := no_true fun hc => by
    unfold wCr at hc
    rw [Bool.and_eq_true, decide_eq_true_eq, decide_eq_true_eq] at hc
    have d1 := sgn_mul_neg hc.1
    have d2 := sgn_mul_neg hc.2
    have rel : area a b e - area a b f = area e f b - area e f a := by unfold area; grind
    have id1 : area e f b * fl t a - area e f a * fl t b = area a b e * fl t f - area a b f * fl t e := by unfold area fl; grind
    have key : ∀ x y g s : Int, 0 < x → 0 < y → 0 < g → 0 < s → x + y = g + s → x * fl t a + y * fl t b = g * fl t f + s * fl t e → False := fun x y g s hx hy hg hs e1 e2 => by
      have a1 : x * fl t a ≤ x * k := Int.mul_le_mul_of_nonneg_left ha (Int.le_of_lt hx)
      have a2 : y * fl t b ≤ y * k := Int.mul_le_mul_of_nonneg_left hb (Int.le_of_lt hy)
      have a3 : g * k < g * fl t f := Int.mul_lt_mul_of_pos_left hf hg
      have a4 : s * k < s * fl t e := Int.mul_lt_mul_of_pos_left he hs
      have a5 : x * k + y * k = g * k + s * k := by rw [← Int.add_mul, ← Int.add_mul, e1]
      omega
    rcases d2 with ⟨z1, z2⟩ | ⟨z1, z2⟩
    · rcases d1 with ⟨y1, y2⟩ | ⟨y1, y2⟩
      · omega
      · refine key (- area e f b) (area e f a) (- area a b e) (area a b f) (by omega) (by omega) (by omega) (by omega) (by omega) ?_
        rw [Int.neg_mul, Int.neg_mul]
        omega
    · rcases d1 with ⟨y1, y2⟩ | ⟨y1, y2⟩
      · refine key (area e f b) (- area e f a) (area a b e) (- area a b f) (by omega) (by omega) (by omega) (by omega) (by omega) ?_
        rw [Int.neg_mul, Int.neg_mul]
        omega
      · omega
  unfold sidesMeet
  rw [o1, o2, o3, o4, o5]
  rfl
/-- all corners on one side of a line, the point on the other -/
theorem sep_zero {t : Pt} {r : List Pt} {z : Pt} (h : ∀ v, v ∈ r → fl t v < fl t z) {d : Pt} (hd : d ≠ (0, 0)) : OffR r z ∧ Wn d r z = 0 := by
  have side : ∀ e, e ∈ sides r → fl t (sb e.1 z) < 0 ∧ fl t (sb e.2 z) < 0 := fun e he => by
    obtain ⟨m1, m2⟩ := sides_mem1 he
    rw [fl_sb, fl_sb]
    have := h _ m1
    have := h _ m2
    omega
  have off : OffR r z := fun e he => sep_off (side e he).1 (side e he).2
  refine ⟨off, ?_⟩
  by_cases h0 : r = []
  · subst h0; rfl
  · have ht : t ≠ (0, 0) := fun e => by
      have := h _ (cg_mem 0 h0)
      rw [e] at this
      unfold fl at this
      simp at this
    rw [ray_ind hd ht off]
    unfold Wn
    have : ∀ e, e ∈ sides r → wnd t (sb e.1 z) (sb e.2 z) = 0 := fun e he => by
      obtain ⟨h1, h2⟩ := side e he
      generalize sb e.1 z = a at *
      generalize sb e.2 z = b at *
      have tt : 0 < t.1 * t.1 + t.2 * t.2 := by
        have := sq_nn t.1
        have := sq_nn t.2
        rcases nz_cases ht with w | w
        · have := sq_pos w; omega
        · have := sq_pos w; omega
      have id1 : (t.1 * t.1 + t.2 * t.2) * cr a b = fl t a * cr t b - fl t b * cr t a := by unfold fl cr; grind
      have p1 : 0 < cr a b → 0 < (t.1 * t.1 + t.2 * t.2) * cr a b := Int.mul_pos tt
      have p2 : cr a b < 0 → (t.1 * t.1 + t.2 * t.2) * cr a b < 0 := Int.mul_neg_of_pos_of_neg tt
      have q1 : 0 < cr t b → fl t a * cr t b < 0 := Int.mul_neg_of_neg_of_pos h1
      have q2 : cr t b ≤ 0 → 0 ≤ fl t a * cr t b := fun w => Int.mul_nonneg_of_nonpos_of_nonpos (Int.le_of_lt h1) w
      have q3 : 0 < cr t a → fl t b * cr t a < 0 := Int.mul_neg_of_neg_of_pos h2
      have q4 : cr t a ≤ 0 → 0 ≤ fl t b * cr t a := fun w => Int.mul_nonneg_of_nonpos_of_nonpos (Int.le_of_lt h2) w
      unfold wnd b2
      generalize (t.1 * t.1 + t.2 * t.2) * cr a b = X at *
      generalize fl t a * cr t b = Y at *
      generalize fl t b * cr t a = Z at *
      split <;> split <;> omega
    have z0 : ((sides r).map fun e => wnd t (sb e.1 z) (sb e.2 z)).sum = ((sides r).map fun _ => (0 : Int)).sum := sum_congr this
    rw [z0]
    generalize sides r = l
    induction l with
    | nil => rfl
    | cons x l ih => rw [List.map_cons, List.sum_cons, ih]; rfl
/-- every side beyond a line, the centre and the point on this side of it: inside -/
theorem St.inside {c : Pt} {r : List Pt} (h : St c r) {z : Pt} (hs : ∀ e, e ∈ sides r → ∃ t k, fl t e.1 ≤ k ∧ fl t e.2 ≤ k ∧ k < fl t c ∧ k < fl t z) {d : Pt} (hd : d ≠ (0, 0)) : OffR r z ∧ Wn d r z = 1 := by
  have off : OffR r z := fun e he => by
    obtain ⟨t, k, h1, h2, h3, h4⟩ := hs e he
    exact sep_off (t := t) (by rw [fl_sb]; omega) (by rw [fl_sb]; omega)
  refine ⟨off, ?_⟩
  by_cases hu : sb z c = (0, 0)
  · have e : z = c := by
      unfold sb at hu
      have h1 := congrArg Prod.fst hu
      have h2 := congrArg Prod.snd hu
      simp only at h1 h2
      obtain ⟨a, b⟩ := z
      obtain ⟨x, y⟩ := c
      simp only at h1 h2
      rw [show a = x by omega, show b = y by omega]
    rw [e, h.all hd]
  · rw [ray_ind hd hu off, ← h.all hu]
    unfold Wn
    refine sum_congr fun e he => ?_
    obtain ⟨t, k, h1, h2, h3, h4⟩ := hs e he
    have p := h.pos e he
    have q1 : cr (sb z c) (sb e.1 z) = cr (sb z c) (sb e.1 c) := by unfold cr sb; grind
    have q2 : cr (sb z c) (sb e.2 z) = cr (sb z c) (sb e.2 c) := by unfold cr sb; grind
    have q3 : cr (sb e.1 z) (sb e.2 z) = cr (sb e.1 c) (sb e.2 c) + cr (sb z c) (sb e.1 c) - cr (sb z c) (sb e.2 c) := by unfold cr sb; grind
    have id1 : fl t (sb z c) * cr (sb e.1 c) (sb e.2 c) = cr (sb z c) (sb e.2 c) * fl t (sb e.1 c) - cr (sb z c) (sb e.1 c) * fl t (sb e.2 c) := by unfold fl cr; grind
    rw [fl_sb, fl_sb, fl_sb] at id1
    unfold wnd
    rw [q1, q2, q3]
    -- in the share of the side the point is not beyond it
    have key : cr (sb z c) (sb e.1 c) ≤ 0 → 0 < cr (sb z c) (sb e.2 c) → 0 < cr (sb e.1 c) (sb e.2 c) + cr (sb z c) (sb e.1 c) - cr (sb z c) (sb e.2 c) := fun g1 g2 => by
      rcases Int.lt_or_le 0 (cr (sb e.1 c) (sb e.2 c) + cr (sb z c) (sb e.1 c) - cr (sb z c) (sb e.2 c)) with w | w
      · exact w
      · generalize cr (sb z c) (sb e.1 c) = x at *
        generalize cr (sb z c) (sb e.2 c) = y at *
        generalize cr (sb e.1 c) (sb e.2 c) = D at *
        have a1 : y * (fl t e.1 - fl t c) ≤ y * (k - fl t c) := Int.mul_le_mul_of_nonneg_left (by omega) (Int.le_of_lt g2)
        have a2 : (-x) * (fl t e.2 - fl t c) ≤ (-x) * (k - fl t c) := Int.mul_le_mul_of_nonneg_left (by omega) (by omega)
        have a3 : D * (k - fl t c) < D * (fl t z - fl t c) := Int.mul_lt_mul_of_pos_left (by omega) p
        have a4 : (y - x) * (k - fl t c) ≤ D * (k - fl t c) := Int.mul_le_mul_of_nonpos_right (by omega) (by omega)
        have a5 : (y - x) * (k - fl t c) = y * (k - fl t c) + (-x) * (k - fl t c) := by grind
        have a6 : (fl t z - fl t c) * D = D * (fl t z - fl t c) := Int.mul_comm _ _
        rw [Int.neg_mul] at a2
        omega
    generalize cr (sb z c) (sb e.1 c) = x at *
    generalize cr (sb z c) (sb e.2 c) = y at *
    generalize cr (sb e.1 c) (sb e.2 c) = D at *
    have n1 : ¬ (y ≤ 0 ∧ 0 < x ∧ D + x - y < 0) := by omega
    have n2 : ¬ (y ≤ 0 ∧ 0 < x ∧ D < 0) := by omega
    unfold b2
    rw [if_neg n1, if_neg n2]
    have n3 : (x ≤ 0 ∧ 0 < y ∧ 0 < D + x - y) ↔ (x ≤ 0 ∧ 0 < y ∧ 0 < D) := by
      constructor
      · intro w; omega
      · intro w; exact ⟨w.1, w.2.1, key w.1 w.2.1⟩
    simp only [n3]
/-! ### scaled -/
theorem sc_sb (p : FP) (a s : Pt) : sb (sc p a) (sc p s) = ((p.1.2 * p.2.2) * (sb a s).1, (p.1.2 * p.2.2) * (sb a s).2) := by
  unfold sb sc
  rw [Prod.mk.injEq]
  constructor <;> grind
theorem St.scale {c : Pt} {r : List Pt} (h : St c r) {p : FP} (h1 : 0 < p.1.2) (h2 : 0 < p.2.2) : St (sc p c) (scl r p) := by
  have hk : 0 < p.1.2 * p.2.2 := Int.mul_pos h1 h2
  have hkk : 0 < (p.1.2 * p.2.2) * (p.1.2 * p.2.2) := Int.mul_pos hk hk
  obtain ⟨d, hd, hw⟩ := h.one
  have c1 : ∀ a b : Pt, cr (sb (sc p a) (sc p c)) (sb (sc p b) (sc p c)) = ((p.1.2 * p.2.2) * (p.1.2 * p.2.2)) * cr (sb a c) (sb b c) := fun a b => by
    rw [sc_sb, sc_sb]
    unfold cr
    grind
  have c2 : ∀ a : Pt, cr d (sb (sc p a) (sc p c)) = (p.1.2 * p.2.2) * cr d (sb a c) := fun a => by
    rw [sc_sb]
    unfold cr
    grind
  refine ⟨by rw [scl_map, List.length_map]; exact h.l3, fun e he => ?_, d, hd, ?_⟩
  · rw [scl_map, sides_of_map] at he
    obtain ⟨x, hx, rfl⟩ := List.mem_map.mp he
    show 0 < cr (sb (sc p x.1) (sc p c)) (sb (sc p x.2) (sc p c))
    rw [c1]
    exact Int.mul_pos hkk (h.pos x hx)
  · rw [scl_map, Wn_map, ← hw]
    unfold Wn
    refine sum_congr fun e _ => ?_
    unfold wnd
    rw [c1, c2, c2]
    simp only [pos_le hk, pos_lt hk, pos_lt hkk, pos_neg hkk]
end G
set_option Elab.async false
set_option linter.all false
/-! The waves. -/
namespace G
theorem wnd_no {d a b : Pt} (h : 0 < cr a b) (g : ¬ (cr d a ≤ 0 ∧ 0 < cr d b)) : wnd d a b = 0 := by
  unfold wnd b2
  rw [if_neg (fun z => g ⟨z.1, z.2.1⟩), if_neg (by omega)]
  rfl
theorem wnd_yes {d a b : Pt} (h : 0 < cr a b) (g : cr d a ≤ 0 ∧ 0 < cr d b) : wnd d a b = 1 := by
  unfold wnd b2
  rw [if_pos ⟨g.1, g.2, h⟩, if_neg (by omega)]
  rfl
theorem wave3_sides (f g : Nat → Int) : sides (waveR 3 f g) = [(((0, 0) : Pt), ((20 * (1 + ((0 : Nat) : Int)), -20 - f 0) : Pt)), (((20 * (1 + ((0 : Nat) : Int)), -20 - f 0) : Pt), ((20 * (1 + ((1 : Nat) : Int)), -20 - f 1) : Pt)), (((20 * (1 + ((1 : Nat) : Int)), -20 - f 1) : Pt), ((20 * ((3 : Nat) : Int), 0) : Pt)), (((20 * ((3 : Nat) : Int), 0) : Pt), ((20 * (1 + ((1 : Nat) : Int)), 20 + g 1) : Pt)), (((20 * (1 + ((1 : Nat) : Int)), 20 + g 1) : Pt), ((20 * (1 + ((0 : Nat) : Int)), 20 + g 0) : Pt)), (((20 * (1 + ((0 : Nat) : Int)), 20 + g 0) : Pt), ((0, 0) : Pt))] := rfl
theorem wave3 (f g : Nat → Int) (hf : ∀ i, i < 3 - 1 → 0 ≤ f i ∧ f i < 20) (hg : ∀ i, i < 3 - 1 → 0 ≤ g i ∧ g i < 20) : St (10 * ((3 : Nat) : Int), 0) (waveR 3 f g) := by
  have f0 := hf 0 (by decide)
  have g0 := hg 0 (by decide)
  have f1 := hf 1 (by decide)
  have g1 := hg 1 (by decide)
  clear hf hg
  have p0 : 0 < cr (sb ((0, 0) : Pt) (10 * ((3 : Nat) : Int), 0)) (sb ((20 * (1 + ((0 : Nat) : Int)), -20 - f 0) : Pt) (10 * ((3 : Nat) : Int), 0)) := by unfold cr sb; simp only; omega
  have p1 : 0 < cr (sb ((20 * (1 + ((0 : Nat) : Int)), -20 - f 0) : Pt) (10 * ((3 : Nat) : Int), 0)) (sb ((20 * (1 + ((1 : Nat) : Int)), -20 - f 1) : Pt) (10 * ((3 : Nat) : Int), 0)) := by unfold cr sb; simp only; omega
  have p2 : 0 < cr (sb ((20 * (1 + ((1 : Nat) : Int)), -20 - f 1) : Pt) (10 * ((3 : Nat) : Int), 0)) (sb ((20 * ((3 : Nat) : Int), 0) : Pt) (10 * ((3 : Nat) : Int), 0)) := by unfold cr sb; simp only; omega
  have p3 : 0 < cr (sb ((20 * ((3 : Nat) : Int), 0) : Pt) (10 * ((3 : Nat) : Int), 0)) (sb ((20 * (1 + ((1 : Nat) : Int)), 20 + g 1) : Pt) (10 * ((3 : Nat) : Int), 0)) := by unfold cr sb; simp only; omega
  have p4 : 0 < cr (sb ((20 * (1 + ((1 : Nat) : Int)), 20 + g 1) : Pt) (10 * ((3 : Nat) : Int), 0)) (sb ((20 * (1 + ((0 : Nat) : Int)), 20 + g 0) : Pt) (10 * ((3 : Nat) : Int), 0)) := by unfold cr sb; simp only; omega
  have p5 : 0 < cr (sb ((20 * (1 + ((0 : Nat) : Int)), 20 + g 0) : Pt) (10 * ((3 : Nat) : Int), 0)) (sb ((0, 0) : Pt) (10 * ((3 : Nat) : Int), 0)) := by unfold cr sb; simp only; omega
  refine ⟨by show 3 ≤ 6; decide, fun e he => ?_, (1000, 1), by decide, ?_⟩
  · rw [wave3_sides] at he
    simp only [List.mem_cons, List.not_mem_nil, or_false] at he
    rcases he with rfl | rfl | rfl | rfl | rfl | rfl
    · exact p0
    · exact p1
    · exact p2
    · exact p3
    · exact p4
    · exact p5
  · unfold Wn
    rw [wave3_sides]
    simp only [List.map_cons, List.map_nil, List.sum_cons, List.sum_nil]
    rw [wnd_no (d := (1000, 1)) p0 (by unfold cr sb; simp only; omega), wnd_no (d := (1000, 1)) p1 (by unfold cr sb; simp only; omega), wnd_no (d := (1000, 1)) p2 (by unfold cr sb; simp only; omega), wnd_yes (d := (1000, 1)) p3 (by unfold cr sb; simp only; omega), wnd_no (d := (1000, 1)) p4 (by unfold cr sb; simp only; omega), wnd_no (d := (1000, 1)) p5 (by unfold cr sb; simp only; omega)]
    rfl
theorem wave4_sides (f g : Nat → Int) : sides (waveR 4 f g) = [(((0, 0) : Pt), ((20 * (1 + ((0 : Nat) : Int)), -20 - f 0) : Pt)), (((20 * (1 + ((0 : Nat) : Int)), -20 - f 0) : Pt), ((20 * (1 + ((1 : Nat) : Int)), -20 - f 1) : Pt)), (((20 * (1 + ((1 : Nat) : Int)), -20 - f 1) : Pt), ((20 * (1 + ((2 : Nat) : Int)), -20 - f 2) : Pt)), (((20 * (1 + ((2 : Nat) : Int)), -20 - f 2) : Pt), ((20 * ((4 : Nat) : Int), 0) : Pt)), (((20 * ((4 : Nat) : Int), 0) : Pt), ((20 * (1 + ((2 : Nat) : Int)), 20 + g 2) : Pt)), (((20 * (1 + ((2 : Nat) : Int)), 20 + g 2) : Pt), ((20 * (1 + ((1 : Nat) : Int)), 20 + g 1) : Pt)), (((20 * (1 + ((1 : Nat) : Int)), 20 + g 1) : Pt), ((20 * (1 + ((0 : Nat) : Int)), 20 + g 0) : Pt)), (((20 * (1 + ((0 : Nat) : Int)), 20 + g 0) : Pt), ((0, 0) : Pt))] := rfl
theorem wave4 (f g : Nat → Int) (hf : ∀ i, i < 4 - 1 → 0 ≤ f i ∧ f i < 20) (hg : ∀ i, i < 4 - 1 → 0 ≤ g i ∧ g i < 20) : St (10 * ((4 : Nat) : Int), 0) (waveR 4 f g) := by
  have f0 := hf 0 (by decide)
  have g0 := hg 0 (by decide)
  have f1 := hf 1 (by decide)
  have g1 := hg 1 (by decide)
  have f2 := hf 2 (by decide)
  have g2 := hg 2 (by decide)
  clear hf hg
  have p0 : 0 < cr (sb ((0, 0) : Pt) (10 * ((4 : Nat) : Int), 0)) (sb ((20 * (1 + ((0 : Nat) : Int)), -20 - f 0) : Pt) (10 * ((4 : Nat) : Int), 0)) := by unfold cr sb; simp only; omega
  have p1 : 0 < cr (sb ((20 * (1 + ((0 : Nat) : Int)), -20 - f 0) : Pt) (10 * ((4 : Nat) : Int), 0)) (sb ((20 * (1 + ((1 : Nat) : Int)), -20 - f 1) : Pt) (10 * ((4 : Nat) : Int), 0)) := by unfold cr sb; simp only; omega
  have p2 : 0 < cr (sb ((20 * (1 + ((1 : Nat) : Int)), -20 - f 1) : Pt) (10 * ((4 : Nat) : Int), 0)) (sb ((20 * (1 + ((2 : Nat) : Int)), -20 - f 2) : Pt) (10 * ((4 : Nat) : Int), 0)) := by unfold cr sb; simp only; omega
  have p3 : 0 < cr (sb ((20 * (1 + ((2 : Nat) : Int)), -20 - f 2) : Pt) (10 * ((4 : Nat) : Int), 0)) (sb ((20 * ((4 : Nat) : Int), 0) : Pt) (10 * ((4 : Nat) : Int), 0)) := by unfold cr sb; simp only; omega
  have p4 : 0 < cr (sb ((20 * ((4 : Nat) : Int), 0) : Pt) (10 * ((4 : Nat) : Int), 0)) (sb ((20 * (1 + ((2 : Nat) : Int)), 20 + g 2) : Pt) (10 * ((4 : Nat) : Int), 0)) := by unfold cr sb; simp only; omega
  have p5 : 0 < cr (sb ((20 * (1 + ((2 : Nat) : Int)), 20 + g 2) : Pt) (10 * ((4 : Nat) : Int), 0)) (sb ((20 * (1 + ((1 : Nat) : Int)), 20 + g 1) : Pt) (10 * ((4 : Nat) : Int), 0)) := by unfold cr sb; simp only; omega
  have p6 : 0 < cr (sb ((20 * (1 + ((1 : Nat) : Int)), 20 + g 1) : Pt) (10 * ((4 : Nat) : Int), 0)) (sb ((20 * (1 + ((0 : Nat) : Int)), 20 + g 0) : Pt) (10 * ((4 : Nat) : Int), 0)) := by unfold cr sb; simp only; omega
  have p7 : 0 < cr (sb ((20 * (1 + ((0 : Nat) : Int)), 20 + g 0) : Pt) (10 * ((4 : Nat) : Int), 0)) (sb ((0, 0) : Pt) (10 * ((4 : Nat) : Int), 0)) := by unfold cr sb; simp only; omega
  refine ⟨by show 3 ≤ 8; decide, fun e he => ?_, (1000, 1), by decide, ?_⟩
  · rw [wave4_sides] at he
    simp only [List.mem_cons, List.not_mem_nil, or_false] at he
    rcases he with rfl | rfl | rfl | rfl | rfl | rfl | rfl | rfl
    · exact p0
    · exact p1
    · exact p2
    · exact p3
    · exact p4
    · exact p5
    · exact p6
    · exact p7
  · unfold Wn
    rw [wave4_sides]
    simp only [List.map_cons, List.map_nil, List.sum_cons, List.sum_nil]
    rw [wnd_no (d := (1000, 1)) p0 (by unfold cr sb; simp only; omega), wnd_no (d := (1000, 1)) p1 (by unfold cr sb; simp only; omega), wnd_no (d := (1000, 1)) p2 (by unfold cr sb; simp only; omega), wnd_no (d := (1000, 1)) p3 (by unfold cr sb; simp only; omega), wnd_yes (d := (1000, 1)) p4 (by unfold cr sb; simp only; omega), wnd_no (d := (1000, 1)) p5 (by unfold cr sb; simp only; omega), wnd_no (d := (1000, 1)) p6 (by unfold cr sb; simp only; omega), wnd_no (d := (1000, 1)) p7 (by unfold cr sb; simp only; omega)]
    rfl
theorem wave5_sides (f g : Nat → Int) : sides (waveR 5 f g) = [(((0, 0) : Pt), ((20 * (1 + ((0 : Nat) : Int)), -20 - f 0) : Pt)), (((20 * (1 + ((0 : Nat) : Int)), -20 - f 0) : Pt), ((20 * (1 + ((1 : Nat) : Int)), -20 - f 1) : Pt)), (((20 * (1 + ((1 : Nat) : Int)), -20 - f 1) : Pt), ((20 * (1 + ((2 : Nat) : Int)), -20 - f 2) : Pt)), (((20 * (1 + ((2 : Nat) : Int)), -20 - f 2) : Pt), ((20 * (1 + ((3 : Nat) : Int)), -20 - f 3) : Pt)), (((20 * (1 + ((3 : Nat) : Int)), -20 - f 3) : Pt), ((20 * ((5 : Nat) : Int), 0) : Pt)), (((20 * ((5 : Nat) : Int), 0) : Pt), ((20 * (1 + ((3 : Nat) : Int)), 20 + g 3) : Pt)), (((20 * (1 + ((3 : Nat) : Int)), 20 + g 3) : Pt), ((20 * (1 + ((2 : Nat) : Int)), 20 + g 2) : Pt)), (((20 * (1 + ((2 : Nat) : Int)), 20 + g 2) : Pt), ((20 * (1 + ((1 : Nat) : Int)), 20 + g 1) : Pt)), (((20 * (1 + ((1 : Nat) : Int)), 20 + g 1) : Pt), ((20 * (1 + ((0 : Nat) : Int)), 20 + g 0) : Pt)), (((20 * (1 + ((0 : Nat) : Int)), 20 + g 0) : Pt), ((0, 0) : Pt))] := rfl
theorem wave5 (f g : Nat → Int) (hf : ∀ i, i < 5 - 1 → 0 ≤ f i ∧ f i < 20) (hg : ∀ i, i < 5 - 1 → 0 ≤ g i ∧ g i < 20) : St (10 * ((5 : Nat) : Int), 0) (waveR 5 f g) := by
  have f0 := hf 0 (by decide)
  have g0 := hg 0 (by decide)
  have f1 := hf 1 (by decide)
  have g1 := hg 1 (by decide)
  have f2 := hf 2 (by decide)
  have g2 := hg 2 (by decide)
  have f3 := hf 3 (by decide)
  have g3 := hg 3 (by decide)
  clear hf hg
  have p0 : 0 < cr (sb ((0, 0) : Pt) (10 * ((5 : Nat) : Int), 0)) (sb ((20 * (1 + ((0 : Nat) : Int)), -20 - f 0) : Pt) (10 * ((5 : Nat) : Int), 0)) := by unfold cr sb; simp only; omega
  have p1 : 0 < cr (sb ((20 * (1 + ((0 : Nat) : Int)), -20 - f 0) : Pt) (10 * ((5 : Nat) : Int), 0)) (sb ((20 * (1 + ((1 : Nat) : Int)), -20 - f 1) : Pt) (10 * ((5 : Nat) : Int), 0)) := by unfold cr sb; simp only; omega
  have p2 : 0 < cr (sb ((20 * (1 + ((1 : Nat) : Int)), -20 - f 1) : Pt) (10 * ((5 : Nat) : Int), 0)) (sb ((20 * (1 + ((2 : Nat) : Int)), -20 - f 2) : Pt) (10 * ((5 : Nat) : Int), 0)) := by unfold cr sb; simp only; omega
  have p3 : 0 < cr (sb ((20 * (1 + ((2 : Nat) : Int)), -20 - f 2) : Pt) (10 * ((5 : Nat) : Int), 0)) (sb ((20 * (1 + ((3 : Nat) : Int)), -20 - f 3) : Pt) (10 * ((5 : Nat) : Int), 0)) := by unfold cr sb; simp only; omega
  have p4 : 0 < cr (sb ((20 * (1 + ((3 : Nat) : Int)), -20 - f 3) : Pt) (10 * ((5 : Nat) : Int), 0)) (sb ((20 * ((5 : Nat) : Int), 0) : Pt) (10 * ((5 : Nat) : Int), 0)) := by unfold cr sb; simp only; omega
  have p5 : 0 < cr (sb ((20 * ((5 : Nat) : Int), 0) : Pt) (10 * ((5 : Nat) : Int), 0)) (sb ((20 * (1 + ((3 : Nat) : Int)), 20 + g 3) : Pt) (10 * ((5 : Nat) : Int), 0)) := by unfold cr sb; simp only; omega
  have p6 : 0 < cr (sb ((20 * (1 + ((3 : Nat) : Int)), 20 + g 3) : Pt) (10 * ((5 : Nat) : Int), 0)) (sb ((20 * (1 + ((2 : Nat) : Int)), 20 + g 2) : Pt) (10 * ((5 : Nat) : Int), 0)) := by unfold cr sb; simp only; omega
  have p7 : 0 < cr (sb ((20 * (1 + ((2 : Nat) : Int)), 20 + g 2) : Pt) (10 * ((5 : Nat) : Int), 0)) (sb ((20 * (1 + ((1 : Nat) : Int)), 20 + g 1) : Pt) (10 * ((5 : Nat) : Int), 0)) := by unfold cr sb; simp only; omega
  have p8 : 0 < cr (sb ((20 * (1 + ((1 : Nat) : Int)), 20 + g 1) : Pt) (10 * ((5 : Nat) : Int), 0)) (sb ((20 * (1 + ((0 : Nat) : Int)), 20 + g 0) : Pt) (10 * ((5 : Nat) : Int), 0)) := by unfold cr sb; simp only; omega
  have p9 : 0 < cr (sb ((20 * (1 + ((0 : Nat) : Int)), 20 + g 0) : Pt) (10 * ((5 : Nat) : Int), 0)) (sb ((0, 0) : Pt) (10 * ((5 : Nat) : Int), 0)) := by unfold cr sb; simp only; omega
  refine ⟨by show 3 ≤ 10; decide, fun e he => ?_, (1000, 1), by decide, ?_⟩
  · rw [wave5_sides] at he
    simp only [List.mem_cons, List.not_mem_nil, or_false] at he
    rcases he with rfl | rfl | rfl | rfl | rfl | rfl | rfl | rfl | rfl | rfl
    · exact p0
    · exact p1
    · exact p2
    · exact p3
    · exact p4
    · exact p5
    · exact p6
    · exact p7
    · exact p8
    · exact p9
  · unfold Wn
    rw [wave5_sides]
    simp only [List.map_cons, List.map_nil, List.sum_cons, List.sum_nil]
    rw [wnd_no (d := (1000, 1)) p0 (by unfold cr sb; simp only; omega), wnd_no (d := (1000, 1)) p1 (by unfold cr sb; simp only; omega), wnd_no (d := (1000, 1)) p2 (by unfold cr sb; simp only; omega), wnd_no (d := (1000, 1)) p3 (by unfold cr sb; simp only; omega), wnd_no (d := (1000, 1)) p4 (by unfold cr sb; simp only; omega), wnd_yes (d := (1000, 1)) p5 (by unfold cr sb; simp only; omega), wnd_no (d := (1000, 1)) p6 (by unfold cr sb; simp only; omega), wnd_no (d := (1000, 1)) p7 (by unfold cr sb; simp only; omega), wnd_no (d := (1000, 1)) p8 (by unfold cr sb; simp only; omega), wnd_no (d := (1000, 1)) p9 (by unfold cr sb; simp only; omega)]
    rfl
theorem WaveBase.st {m : Nat} {r : List Pt} (h : WaveBase m r) (m0 : 3 ≤ m) (m1 : m ≤ 5) : St (10 * (m : Int), 0) r := by
  obtain ⟨f, g, hf, hg, rfl⟩ := h.ex
  have : m = 3 ∨ m = 4 ∨ m = 5 := by omega
  rcases this with rfl | rfl | rfl
  · exact wave3 f g hf hg
  · exact wave4 f g hf hg
  · exact wave5 f g hf hg
end G
set_option Elab.async false
set_option linter.all false
/-! The stars. -/
namespace G
theorem way_turn {a b : Nat} (ha : a < 16) (hb : b < 16) (h : (a < b ∧ b ≤ a + 7) ∨ (b + 16 ≤ a + 7 ∧ a < b + 16)) : 0 < cr (cg ways a) (cg ways b) := by
  have : ∀ a b : Fin 16, ((a.1 < b.1 ∧ b.1 ≤ a.1 + 7) ∨ (b.1 + 16 ≤ a.1 + 7 ∧ a.1 < b.1 + 16)) → 0 < cr (cg ways (a.1 : Int)) (cg ways (b.1 : Int)) := by decide +kernel
  exact this ⟨a, ha⟩ ⟨b, hb⟩ h
theorem way_up {a : Nat} (ha : a < 16) : (0 < cr (1000, 1) (cg ways a) ↔ 1 ≤ a ∧ a ≤ 8) ∧ cr (1000, 1) (cg ways a) ≠ 0 := by
  have : ∀ a : Fin 16, (0 < cr (1000, 1) (cg ways (a.1 : Int)) ↔ 1 ≤ a.1 ∧ a.1 ≤ 8) ∧ cr (1000, 1) (cg ways (a.1 : Int)) ≠ 0 := by decide +kernel
  exact this ⟨a, ha⟩
theorem star_sb (c : Pt) (e : Nat × Int) : sb (starPt c e) c = (e.2 * (cg ways e.1).1, e.2 * (cg ways e.1).2) := by
  unfold sb starPt
  rw [Prod.mk.injEq]
  constructor <;> grind
theorem star_cr (c : Pt) (e g : Nat × Int) : cr (sb (starPt c e) c) (sb (starPt c g) c) = (e.2 * g.2) * cr (cg ways e.1) (cg ways g.1) := by
  rw [star_sb, star_sb]
  unfold cr
  grind
theorem star_up (c d : Pt) (e : Nat × Int) : cr d (sb (starPt c e) c) = e.2 * cr d (cg ways e.1) := by
  rw [star_sb]
  unfold cr
  grind
/-- neighbours in the row of ways, counted round -/
theorem star_next {most : Int} {L : List (Nat × Int)} (h : StarPl most L) {i : Nat} (hi : i < L.length) (hj : i + 1 < L.length) : L[i].1 < L[i + 1].1 ∧ L[i + 1].1 ≤ L[i].1 + 7 := by
  have up := List.pairwise_iff_getElem.mp h.up
  refine ⟨up i (i + 1) hi hj (Nat.lt_succ_self i), ?_⟩
  have b1 := h.lt _ (List.getElem_mem hi)
  have b2 := h.lt _ (List.getElem_mem hj)
  rcases Nat.lt_or_ge (L[i].1 / 4) 3 with q | q
  · obtain ⟨e, he, e1, e2⟩ := h.qu (L[i].1 / 4 + 1) (by omega)
    obtain ⟨k, hk, rfl⟩ := List.getElem_of_mem he
    -- the k-th stands behind the i-th
    rcases Nat.lt_trichotomy k (i + 1) with z | z | z
    · rcases Nat.lt_or_ge k i with y | y
      · have := up k i hk hi y
        omega
      · have : k = i := by omega
        subst this
        omega
    · subst z
      omega
    · have := up (i + 1) k hj hk z
      omega
  · omega
theorem star_ends {most : Int} {L : List (Nat × Int)} (h : StarPl most L) (h0 : 0 < L.length) (hl : L.length - 1 < L.length) : L[0].1 ≤ 3 ∧ 12 ≤ L[L.length - 1].1 := by
  have up := List.pairwise_iff_getElem.mp h.up
  constructor
  · obtain ⟨e, he, e1, e2⟩ := h.qu 0 (by decide)
    obtain ⟨k, hk, rfl⟩ := List.getElem_of_mem he
    rcases Nat.eq_zero_or_pos k with z | z
    · subst z; omega
    · have := up 0 k h0 hk z; omega
  · obtain ⟨e, he, e1, e2⟩ := h.qu 3 (by decide)
    obtain ⟨k, hk, rfl⟩ := List.getElem_of_mem he
    rcases Nat.lt_or_ge k (L.length - 1) with z | z
    · have := up k (L.length - 1) hk hl z; omega
    · have : k = L.length - 1 := by omega
      subst this
      omega
theorem star_len {most : Int} {L : List (Nat × Int)} (h : StarPl most L) : 4 ≤ L.length := by
  obtain ⟨e0, m0, a0, b0⟩ := h.qu 0 (by decide)
  obtain ⟨e1, m1, a1, b1⟩ := h.qu 1 (by decide)
  obtain ⟨e2, m2, a2, b2⟩ := h.qu 2 (by decide)
  obtain ⟨e3, m3, a3, b3⟩ := h.qu 3 (by decide)
  obtain ⟨k0, h0, rfl⟩ := List.getElem_of_mem m0
  obtain ⟨k1, h1, rfl⟩ := List.getElem_of_mem m1
  obtain ⟨k2, h2, rfl⟩ := List.getElem_of_mem m2
  obtain ⟨k3, h3, rfl⟩ := List.getElem_of_mem m3
  have up := List.pairwise_iff_getElem.mp h.up
  have lt : ∀ {i j : Nat} (hi : i < L.length) (hj : j < L.length), L[i].1 < L[j].1 → i < j := fun {i j} hi hj hh => by
    rcases Nat.lt_trichotomy i j with z | z | z
    · exact z
    · subst z; omega
    · have := up j i hj hi z; omega
  have x1 := lt h0 h1 (by omega)
  have x2 := lt h1 h2 (by omega)
  have x3 := lt h2 h3 (by omega)
  omega
theorem cg_star (c : Pt) {L : List (Nat × Int)} {i : Nat} (h : i < L.length) : cg (L.map (starPt c)) i = starPt c L[i] := by
  have e := cg_nat (r := L.map (starPt c)) (i := i) (by rw [List.length_map]; exact h)
  rw [List.getElem?_map, List.getElem?_eq_getElem h] at e
  exact (Option.some.inj e).symm
theorem StarBase.st {c : Pt} {most : Int} {r : List Pt} (hs : StarBase c most r) : St c r := by
  obtain ⟨L, h, rfl⟩ := hs.ex
  have n4 := star_len h
  have hl : L.length - 1 < L.length := by omega
  have ends := star_ends h (by omega) hl
  have lt := fun (i : Nat) (hi : i < L.length) => h.lt _ (List.getElem_mem hi)
  -- each side
  have side : ∀ i : Nat, (hi : i < L.length) → 0 < cr (sb (cg (L.map (starPt c)) i) c) (sb (cg (L.map (starPt c)) ((i : Int) + 1)) c) ∧
      wnd (1000, 1) (sb (cg (L.map (starPt c)) i) c) (sb (cg (L.map (starPt c)) ((i : Int) + 1)) c) = if i + 1 = L.length then b2 (1 ≤ L[0].1) else b2 (L[i].1 = 0) := fun i hi => by
    by_cases hj : i + 1 = L.length
    · have e : cg (L.map (starPt c)) ((i : Int) + 1) = cg (L.map (starPt c)) ((0 : Nat) : Int) := by
        have := cg_len (L.map (starPt c))
        rw [List.length_map] at this
        rw [show (i : Int) + 1 = (L.length : Int) from by omega, this]
        rfl
      have hi' : i = L.length - 1 := by omega
      subst hi'
      rw [e, cg_star c hl, cg_star c (i := 0) (by omega), if_pos hj]
      have b1 := lt (L.length - 1) hl
      have b2' := lt 0 (by omega)
      have t := way_turn (a := L[L.length - 1].1) (b := L[0].1) b1.1 b2'.1 (.inr ⟨by omega, by omega⟩)
      have pos : 0 < cr (sb (starPt c L[L.length - 1]) c) (sb (starPt c L[0]) c) := by
        rw [star_cr]
        exact Int.mul_pos (Int.mul_pos (by omega) (by omega)) t
      refine ⟨pos, ?_⟩
      have u1 := way_up b1.1
      have u2 := way_up b2'.1
      have s1 := pos_lt (k := (L[L.length - 1]).2) (z := cr (1000, 1) (cg ways (L[L.length - 1]).1)) (by omega)
      have s2 := pos_lt (k := (L[0]).2) (z := cr (1000, 1) (cg ways (L[0]).1)) (by omega)
      by_cases z : 1 ≤ L[0].1
      · rw [b2_yes z]
        refine wnd_yes pos ?_
        rw [star_up, star_up]
        constructor
        · have : ¬ 0 < (L[L.length - 1]).2 * cr (1000, 1) (cg ways (L[L.length - 1]).1) := by rw [s1, u1.1]; omega
          omega
        · rw [s2, u2.1]; omega
      · rw [b2_no z]
        refine wnd_no pos ?_
        rw [star_up, star_up, s2, u2.1]
        omega
    · have hj' : i + 1 < L.length := by omega
      rw [cg_star c hi, show (i : Int) + 1 = ((i + 1 : Nat) : Int) from by omega, cg_star c hj', if_neg hj]
      have b1 := lt i hi
      have b2' := lt (i + 1) hj'
      have nx := star_next h hi hj'
      have t := way_turn (a := L[i].1) (b := L[i + 1].1) b1.1 b2'.1 (.inl nx)
      have pos : 0 < cr (sb (starPt c L[i]) c) (sb (starPt c L[i + 1]) c) := by
        rw [star_cr]
        exact Int.mul_pos (Int.mul_pos (by omega) (by omega)) t
      refine ⟨pos, ?_⟩
      have u1 := way_up b1.1
      have u2 := way_up b2'.1
      have s1 := pos_lt (k := (L[i]).2) (z := cr (1000, 1) (cg ways (L[i]).1)) (by omega)
      have s2 := pos_lt (k := (L[i + 1]).2) (z := cr (1000, 1) (cg ways (L[i + 1]).1)) (by omega)
      by_cases z : L[i].1 = 0
      · rw [b2_yes z]
        refine wnd_yes pos ?_
        rw [star_up, star_up]
        constructor
        · have : ¬ 0 < (L[i]).2 * cr (1000, 1) (cg ways (L[i]).1) := by rw [s1, u1.1]; omega
          omega
        · rw [s2, u2.1]; omega
      · rw [b2_no z]
        refine wnd_no pos ?_
        rw [star_up, star_up, s2, u2.1]
        have : ¬ 0 < (L[i]).2 * cr (1000, 1) (cg ways (L[i]).1) ↔ ¬ (1 ≤ L[i].1 ∧ L[i].1 ≤ 8) := by rw [s1, u1.1]
        omega
  refine ⟨by rw [List.length_map]; omega, fun e he => ?_, (1000, 1), by decide, ?_⟩
  · obtain ⟨i, hi, rfl⟩ := sides_mem he
    rw [List.length_map] at hi
    exact (side i hi).1
  · unfold Wn
    rw [sides_map, List.map_map, List.length_map]
    have e1 : ((List.range L.length).map ((fun e : Pt × Pt => wnd (1000, 1) (sb e.1 c) (sb e.2 c)) ∘ fun (i : Nat) => (cg (L.map (starPt c)) (i : Int), cg (L.map (starPt c)) ((i : Int) + 1)))).sum = ((List.range L.length).map fun i => if i + 1 = L.length then b2 (1 ≤ (L.getD 0 (0, 0)).1) else b2 ((L.getD i (0, 0)).1 = 0)).sum := sum_congr fun i hi => by
      have hi := List.mem_range.mp hi
      show wnd (1000, 1) (sb (cg (L.map (starPt c)) (i : Int)) c) (sb (cg (L.map (starPt c)) ((i : Int) + 1)) c) = _
      rw [(side i hi).2, List.getD_eq_getElem?_getD, List.getD_eq_getElem?_getD, List.getElem?_eq_getElem hi, List.getElem?_eq_getElem (by omega : 0 < L.length)]
      rfl
    rw [e1]
    -- the first alone may stand at naught
    obtain ⟨n, hn⟩ : ∃ n, L.length = n + 1 := ⟨L.length - 1, by omega⟩
    rw [hn, List.range_succ, List.map_append, List.sum_append]
    have e2 : ((List.range n).map fun i => if i + 1 = n + 1 then b2 (1 ≤ (L.getD 0 (0, 0)).1) else b2 ((L.getD i (0, 0)).1 = 0)).sum = ((List.range n).map fun i => if i = 0 then b2 ((L.getD 0 (0, 0)).1 = 0) else 0).sum := sum_congr fun i hi => by
      have hi := List.mem_range.mp hi
      rw [if_neg (by omega)]
      by_cases z : i = 0
      · subst z
        rw [if_pos rfl]
      · rw [if_neg z]
        refine b2_no ?_
        have up := List.pairwise_iff_getElem.mp h.up 0 i (by omega) (by omega) (by omega)
        rw [List.getD_eq_getElem?_getD, List.getElem?_eq_getElem (by omega : i < L.length)]
        show ¬ L[i].1 = 0
        omega
    have e3 : ∀ (v : Int) (k : Nat), ((List.range (k + 1)).map fun i => if i = 0 then v else 0).sum = v := fun v k => by
      induction k with
      | zero => simp
      | succ k ih =>
        rw [List.range_succ, List.map_append, List.sum_append, ih]
        simp
    rw [e2]
    obtain ⟨k, rfl⟩ : ∃ k, n = k + 1 := ⟨n - 1, by omega⟩
    rw [e3]
    simp only [List.map_cons, List.map_nil, List.sum_cons, List.sum_nil, if_true]
    unfold b2
    split <;> split <;> omega
end G
set_option Elab.async false
set_option linter.all false
/-! The rule's own coordinates: where holes and the wave's sides stand. -/
namespace G
def Rule.tx (t : Rule) : Pt := (t.det * t.d, - (t.det * t.b))
def Rule.ty (t : Rule) : Pt := (- (t.det * t.c), t.det * t.a)
def Rule.o (t : Rule) : Pt := (t.e, t.f)
theorem fl_tx {t : Rule} (h : t.det = 1 ∨ t.det = -1) (p : Pt) : fl t.tx (t.at p) = fl t.tx t.o + p.1 := by
  have e : fl t.tx (t.at p) = fl t.tx t.o + (t.det * t.det) * p.1 := by unfold fl Rule.tx Rule.at Rule.o Rule.det; grind
  rw [e]
  rcases h with z | z <;> rw [z] <;> omega
theorem fl_ty {t : Rule} (h : t.det = 1 ∨ t.det = -1) (p : Pt) : fl t.ty (t.at p) = fl t.ty t.o + p.2 := by
  have e : fl t.ty (t.at p) = fl t.ty t.o + (t.det * t.det) * p.2 := by unfold fl Rule.ty Rule.at Rule.o Rule.det; grind
  rw [e]
  rcases h with z | z <;> rw [z] <;> omega
theorem fl_mid {u a b : Pt} (h : evens a b = true) : 2 * fl u (mid a b) = fl u a + fl u b := by
  obtain ⟨h1, h2⟩ := mid_sb h
  generalize mid a b = m at *
  unfold fl
  have e : 2 * (u.1 * m.1 + u.2 * m.2) = u.1 * (2 * m.1) + u.2 * (2 * m.2) := by grind
  rw [e, h1, h2]
  grind
/-- a bound stays where middles are put in -/
theorem More.le {r s : List Pt} (m : More r s) {u : Pt} {k : Int} (h : ∀ v, v ∈ r → fl u v ≤ k) : ∀ v, v ∈ s → fl u v ≤ k := fun v hv => by
  obtain ⟨f, hf, hm⟩ := m.mem hv
  obtain ⟨i, hi, e⟩ := mids_mem hm
  have h0 : r ≠ [] := fun e => by rw [e] at hi; exact absurd hi (Nat.not_lt_zero _)
  rcases e with rfl | ⟨fi, rfl⟩
  · exact h _ (cg_mem _ h0)
  · have := fl_mid (u := u) (hf i hi fi)
    have := h _ (cg_mem ((i : Int) - 1) h0)
    have := h _ (cg_mem (i : Int) h0)
    omega
theorem fl_neg (u v : Pt) : fl (-u.1, -u.2) v = - fl u v := by unfold fl; grind
theorem More.ge {r s : List Pt} (m : More r s) {u : Pt} {k : Int} (h : ∀ v, v ∈ r → k ≤ fl u v) : ∀ v, v ∈ s → k ≤ fl u v := fun v hv => by
  have := m.le (u := (-u.1, -u.2)) (k := -k) (fun v hv => by rw [fl_neg]; have := h v hv; omega) v hv
  rw [fl_neg] at this
  omega
/-- where a hole's corners stand -/
structure Box (t : Rule) (k : Int) (v : Pt) : Prop where
  a : fl t.tx t.o + (20 * k + 4) ≤ fl t.tx v
  b : fl t.tx v ≤ fl t.tx t.o + (20 * k + 16)
  c : fl t.ty t.o - 10 ≤ fl t.ty v
  d : fl t.ty v ≤ fl t.ty t.o + 10
theorem HoleBase.box {t : Rule} {k : Int} {h : List Pt} (ht : RuleOk t) (hb : HoleBase t k h) : ∀ v, v ∈ h → Box t k v := by
  obtain ⟨y, s, m, y0, y1, hs, hm, rfl⟩ := hb.ex
  have dt := ht.det
  have base : ∀ v, v ∈ putR t s → Box t k v := fun v hv => by
    obtain ⟨q, hq, rfl⟩ := put_mem hv
    obtain ⟨⟨a, b⟩, c, d⟩ := hs.near hq
    simp only at a b c d
    exact ⟨by rw [fl_tx dt]; omega, by rw [fl_tx dt]; omega, by rw [fl_ty dt]; omega, by rw [fl_ty dt]; omega⟩
  intro v hv
  have hv := List.mem_reverse.mp hv
  exact ⟨hm.ge (fun v hv => (base v hv).a) v hv, hm.le (fun v hv => (base v hv).b) v hv, hm.ge (fun v hv => (base v hv).c) v hv, hm.le (fun v hv => (base v hv).d) v hv⟩
/-- where the outer ring's sides stand: beyond one of four lines -/
def Beyond (t : Rule) (m : Nat) (e : Pt × Pt) : Prop :=
  (fl t.ty e.1 ≤ fl t.ty t.o - 20 ∧ fl t.ty e.2 ≤ fl t.ty t.o - 20) ∨ (fl t.ty t.o + 20 ≤ fl t.ty e.1 ∧ fl t.ty t.o + 20 ≤ fl t.ty e.2) ∨
  (fl t.tx e.1 ≤ fl t.tx t.o + 20 ∧ fl t.tx e.2 ≤ fl t.tx t.o + 20) ∨ (fl t.tx t.o + 20 * ((m : Int) - 1) ≤ fl t.tx e.1 ∧ fl t.tx t.o + 20 * ((m : Int) - 1) ≤ fl t.tx e.2)
theorem wave_beyond {m : Nat} {r : List Pt} (h : WaveBase m r) (m0 : 3 ≤ m) (m1 : m ≤ 5) {e : Pt × Pt} (he : e ∈ sides r) :
    (e.1.2 ≤ -20 ∧ e.2.2 ≤ -20) ∨ (20 ≤ e.1.2 ∧ 20 ≤ e.2.2) ∨ (e.1.1 ≤ 20 ∧ e.2.1 ≤ 20) ∨ (20 * ((m : Int) - 1) ≤ e.1.1 ∧ 20 * ((m : Int) - 1) ≤ e.2.1) := by
  obtain ⟨f, g, hf, hg, rfl⟩ := h.ex
  have : m = 3 ∨ m = 4 ∨ m = 5 := by omega
  rcases this with rfl | rfl | rfl
  · rw [wave3_sides] at he
    have f0 := hf 0 (by decide); have f1 := hf 1 (by decide); have g0 := hg 0 (by decide); have g1 := hg 1 (by decide)
    clear hf hg
    simp only [List.mem_cons, List.not_mem_nil, or_false] at he
    rcases he with rfl | rfl | rfl | rfl | rfl | rfl <;> simp only <;> omega
  · rw [wave4_sides] at he
    have f0 := hf 0 (by decide); have f1 := hf 1 (by decide); have f2 := hf 2 (by decide); have g0 := hg 0 (by decide); have g1 := hg 1 (by decide); have g2 := hg 2 (by decide)
    clear hf hg
    simp only [List.mem_cons, List.not_mem_nil, or_false] at he
    rcases he with rfl | rfl | rfl | rfl | rfl | rfl | rfl | rfl <;> simp only <;> omega
  · rw [wave5_sides] at he
    have f0 := hf 0 (by decide); have f1 := hf 1 (by decide); have f2 := hf 2 (by decide); have f3 := hf 3 (by decide); have g0 := hg 0 (by decide); have g1 := hg 1 (by decide); have g2 := hg 2 (by decide); have g3 := hg 3 (by decide)
    clear hf hg
    simp only [List.mem_cons, List.not_mem_nil, or_false] at he
    rcases he with rfl | rfl | rfl | rfl | rfl | rfl | rfl | rfl | rfl | rfl <;> simp only <;> omega
theorem put_side {t : Rule} (ht : RuleOk t) {r : List Pt} {e : Pt × Pt} (he : e ∈ sides (putR t r)) : ∃ g, g ∈ sides r ∧ (e = (t.at g.1, t.at g.2) ∨ e = (t.at g.2, t.at g.1)) := by
  rcases ht.det with z | z
  · rw [put_pos t r z, sides_of_map] at he
    obtain ⟨g, hg, rfl⟩ := List.mem_map.mp he
    exact ⟨g, hg, .inl rfl⟩
  · rw [put_neg t r z] at he
    have he := side_rev he
    rw [sides_of_map] at he
    obtain ⟨g, hg, e1⟩ := List.mem_map.mp he
    refine ⟨g, hg, .inr ?_⟩
    have x1 : t.at g.1 = e.2 := congrArg Prod.fst e1
    have x2 : t.at g.2 = e.1 := congrArg Prod.snd e1
    rw [x1, x2]
theorem outer_beyond {m : Nat} {w o : List Pt} {t : Rule} (ht : RuleOk t) (hw : WaveBase m w) (m0 : 3 ≤ m) (m1 : m ≤ 5) (hm : More (putR t w) o) {e : Pt × Pt} (he : e ∈ sides o) : Beyond t m e := by
  have dt := ht.det
  have ne : putR t w ≠ [] := fun z => by
    have := congrArg List.length z
    rw [put_len, hw.len (by omega)] at this
    have : 2 * m = 0 := this
    omega
  have base : ∀ g, g ∈ sides (putR t w) → Beyond t m g := fun g hg => by
    obtain ⟨x, hx, e1 | e1⟩ := put_side ht hg
    · have := wave_beyond hw m0 m1 hx
      rw [e1]
      unfold Beyond
      simp only [fl_tx dt, fl_ty dt]
      omega
    · have := wave_beyond hw m0 m1 hx
      rw [e1]
      unfold Beyond
      simp only [fl_tx dt, fl_ty dt]
      omega
  obtain ⟨g, hg, e1 | ⟨ev, e1 | e1⟩⟩ := (hm.part ne he).ex
  · rw [e1]; exact base g hg
  · have b := base g hg
    have x1 := fl_mid (u := t.tx) ev
    have x2 := fl_mid (u := t.ty) ev
    rw [e1]
    unfold Beyond at *
    simp only
    omega
  · have b := base g hg
    have x1 := fl_mid (u := t.tx) ev
    have x2 := fl_mid (u := t.ty) ev
    rw [e1]
    unfold Beyond at *
    simp only
    omega
end G
set_option Elab.async false
set_option linter.all false
/-! Holes apart from the outer ring and from each other; points in a hole's box are inside the outer ring. -/
namespace G
theorem outer_apart {t : Rule} {m : Nat} {k : Int} {o h : List Pt} (ho : ∀ e, e ∈ sides o → Beyond t m e) (hh : ∀ v, v ∈ h → Box t k v) (k0 : 1 ≤ k) (k1 : k < (m : Int) - 1) : Apart o h := fun e f he hf => by
  obtain ⟨m1, m2⟩ := sides_mem1 hf
  obtain ⟨a1, a2, a3, a4⟩ := hh _ m1
  obtain ⟨b1, b2, b3, b4⟩ := hh _ m2
  rcases ho e he with ⟨z1, z2⟩ | ⟨z1, z2⟩ | ⟨z1, z2⟩ | ⟨z1, z2⟩
  · exact sep_meet (t := t.ty) z1 z2 (by omega) (by omega)
  · exact sep_meet (t := (-t.ty.1, -t.ty.2)) (k := -(fl t.ty t.o + 20)) (by rw [fl_neg]; omega) (by rw [fl_neg]; omega) (by rw [fl_neg]; omega) (by rw [fl_neg]; omega)
  · exact sep_meet (t := t.tx) z1 z2 (by omega) (by omega)
  · exact sep_meet (t := (-t.tx.1, -t.tx.2)) (k := -(fl t.tx t.o + 20 * ((m : Int) - 1))) (by rw [fl_neg]; omega) (by rw [fl_neg]; omega) (by rw [fl_neg]; omega) (by rw [fl_neg]; omega)
theorem holes_apart {t : Rule} {k l : Int} {g h : List Pt} (hg : ∀ v, v ∈ g → Box t k v) (hh : ∀ v, v ∈ h → Box t l v) (kl : k < l) : Apart g h := fun e f he hf => by
  obtain ⟨m1, m2⟩ := sides_mem1 hf
  obtain ⟨n1, n2⟩ := sides_mem1 he
  have a := (hh _ m1).a
  have b := (hh _ m2).a
  have c := (hg _ n1).b
  have d := (hg _ n2).b
  exact sep_meet (t := t.tx) c d (by omega) (by omega)
/-- a point in a hole's box -/
structure BoxP (t : Rule) (k : Int) (p : FP) : Prop where
  a : (p.1.2 * p.2.2) * (fl t.tx t.o + (20 * k + 4)) ≤ fl t.tx (spot p)
  b : fl t.tx (spot p) ≤ (p.1.2 * p.2.2) * (fl t.tx t.o + (20 * k + 16))
  c : (p.1.2 * p.2.2) * (fl t.ty t.o - 10) ≤ fl t.ty (spot p)
  d : fl t.ty (spot p) ≤ (p.1.2 * p.2.2) * (fl t.ty t.o + 10)
theorem fl_sc (u : Pt) (p : FP) (v : Pt) : fl u (sc p v) = (p.1.2 * p.2.2) * fl u v := by unfold fl sc; grind
theorem box_inside {t : Rule} {m : Nat} {k : Int} {o : List Pt} (ht : RuleOk t) (st : St (t.at (10 * (m : Int), 0)) o) (ho : ∀ e, e ∈ sides o → Beyond t m e) (m0 : 3 ≤ m) (k0 : 1 ≤ k) (k1 : k < (m : Int) - 1)
    {p : FP} (h1 : 0 < p.1.2) (h2 : 0 < p.2.2) (hp : BoxP t k p) {d : Pt} (hd : d ≠ (0, 0)) : OffR (scl o p) (spot p) ∧ Wn d (scl o p) (spot p) = 1 := by
  have hk : 0 < p.1.2 * p.2.2 := Int.mul_pos h1 h2
  have dt := ht.det
  refine (st.scale h1 h2).inside (fun e he => ?_) hd
  rw [scl_map, sides_of_map] at he
  obtain ⟨g, hg, rfl⟩ := List.mem_map.mp he
  obtain ⟨a, b, c, d'⟩ := hp
  have cx : fl t.tx (t.at (10 * (m : Int), 0)) = fl t.tx t.o + 10 * m := fl_tx dt _
  have cy : fl t.ty (t.at (10 * (m : Int), 0)) = fl t.ty t.o + 0 := fl_ty dt _
  have lt : ∀ x y : Int, x < y → (p.1.2 * p.2.2) * x < (p.1.2 * p.2.2) * y := fun x y h => Int.mul_lt_mul_of_pos_left h hk
  have le : ∀ x y : Int, x ≤ y → (p.1.2 * p.2.2) * x ≤ (p.1.2 * p.2.2) * y := fun x y h => Int.mul_le_mul_of_nonneg_left h (Int.le_of_lt hk)
  have ng : ∀ x : Int, (p.1.2 * p.2.2) * (-x) = - ((p.1.2 * p.2.2) * x) := fun x => Int.mul_neg _ _
  rcases ho g hg with ⟨z1, z2⟩ | ⟨z1, z2⟩ | ⟨z1, z2⟩ | ⟨z1, z2⟩
  · refine ⟨t.ty, (p.1.2 * p.2.2) * (fl t.ty t.o - 20), ?_, ?_, ?_, ?_⟩
    · show fl t.ty (sc p g.1) ≤ _
      rw [fl_sc]; exact le _ _ z1
    · show fl t.ty (sc p g.2) ≤ _
      rw [fl_sc]; exact le _ _ z2
    · rw [fl_sc, cy]; exact lt _ _ (by omega)
    · exact Int.lt_of_lt_of_le (lt _ _ (by omega)) c
  · refine ⟨(-t.ty.1, -t.ty.2), - ((p.1.2 * p.2.2) * (fl t.ty t.o + 20)), ?_, ?_, ?_, ?_⟩
    · show fl _ (sc p g.1) ≤ _
      rw [fl_neg, fl_sc]; have := le _ _ z1; omega
    · show fl _ (sc p g.2) ≤ _
      rw [fl_neg, fl_sc]; have := le _ _ z2; omega
    · rw [fl_neg, fl_sc, cy]; have := lt (fl t.ty t.o + 0) (fl t.ty t.o + 20) (by omega); omega
    · rw [fl_neg]; have := lt (fl t.ty t.o + 10) (fl t.ty t.o + 20) (by omega); omega
  · refine ⟨t.tx, (p.1.2 * p.2.2) * (fl t.tx t.o + 20), ?_, ?_, ?_, ?_⟩
    · show fl t.tx (sc p g.1) ≤ _
      rw [fl_sc]; exact le _ _ z1
    · show fl t.tx (sc p g.2) ≤ _
      rw [fl_sc]; exact le _ _ z2
    · rw [fl_sc, cx]; exact lt _ _ (by omega)
    · exact Int.lt_of_lt_of_le (lt _ _ (by omega)) a
  · refine ⟨(-t.tx.1, -t.tx.2), - ((p.1.2 * p.2.2) * (fl t.tx t.o + 20 * ((m : Int) - 1))), ?_, ?_, ?_, ?_⟩
    · show fl _ (sc p g.1) ≤ _
      rw [fl_neg, fl_sc]; have := le _ _ z1; omega
    · show fl _ (sc p g.2) ≤ _
      rw [fl_neg, fl_sc]; have := le _ _ z2; omega
    · rw [fl_neg, fl_sc, cx]; have := lt (fl t.tx t.o + 10 * m) (fl t.tx t.o + 20 * ((m : Int) - 1)) (by omega); omega
    · rw [fl_neg]; have := lt (fl t.tx t.o + (20 * k + 16)) (fl t.tx t.o + 20 * ((m : Int) - 1)) (by omega); omega
/-- out of the box there is no turn -/
theorem box_outside {t : Rule} {k : Int} {h : List Pt} (hh : ∀ v, v ∈ h → Box t k v) {p : FP} (h1 : 0 < p.1.2) (h2 : 0 < p.2.2) {d : Pt} (hd : d ≠ (0, 0)) (hw : Wn d (scl h p) (spot p) ≠ 0) : BoxP t k p := by
  have hk : 0 < p.1.2 * p.2.2 := Int.mul_pos h1 h2
  have le : ∀ x y : Int, x ≤ y → (p.1.2 * p.2.2) * x ≤ (p.1.2 * p.2.2) * y := fun x y h => Int.mul_le_mul_of_nonneg_left h (Int.le_of_lt hk)
  have no : ∀ u : Pt, (∀ v, v ∈ h → fl u (sc p v) < fl u (spot p)) → False := fun u hu => hw (sep_zero (t := u) (r := scl h p) (fun v hv => by
    obtain ⟨x, hx, rfl⟩ := List.mem_map.mp (show v ∈ h.map (sc p) from hv)
    exact hu x hx) hd).2
  refine ⟨?_, ?_, ?_, ?_⟩
  · rcases Int.lt_or_le (fl t.tx (spot p)) ((p.1.2 * p.2.2) * (fl t.tx t.o + (20 * k + 4))) with z | z
    · exact (no (-t.tx.1, -t.tx.2) fun v hv => by rw [fl_neg, fl_neg, fl_sc]; have := le _ _ (hh v hv).a; omega).elim
    · exact z
  · rcases Int.lt_or_le ((p.1.2 * p.2.2) * (fl t.tx t.o + (20 * k + 16))) (fl t.tx (spot p)) with z | z
    · exact (no t.tx fun v hv => by rw [fl_sc]; have := le _ _ (hh v hv).b; omega).elim
    · exact z
  · rcases Int.lt_or_le (fl t.ty (spot p)) ((p.1.2 * p.2.2) * (fl t.ty t.o - 10)) with z | z
    · exact (no (-t.ty.1, -t.ty.2) fun v hv => by rw [fl_neg, fl_neg, fl_sc]; have := le _ _ (hh v hv).c; omega).elim
    · exact z
  · rcases Int.lt_or_le ((p.1.2 * p.2.2) * (fl t.ty t.o + 10)) (fl t.ty (spot p)) with z | z
    · exact (no t.ty fun v hv => by rw [fl_sc]; have := le _ _ (hh v hv).d; omega).elim
    · exact z
/-- a whole point -/
def wp (z : Pt) : FP := ((z.1, 1), (z.2, 1))
theorem spot_wp (z : Pt) : spot (wp z) = z := by unfold spot wp; simp
theorem scl_wp (r : List Pt) (z : Pt) : scl r (wp z) = r := by
  rw [scl_map]
  have : sc (wp z) = id := by
    funext v
    unfold sc wp
    simp
  rw [this, List.map_id]
theorem Box.p {t : Rule} {k : Int} {v : Pt} (h : Box t k v) : BoxP t k (wp v) := by
  obtain ⟨a, b, c, d⟩ := h
  have e : (wp v).1.2 * (wp v).2.2 = 1 := rfl
  refine ⟨?_, ?_, ?_, ?_⟩ <;> rw [spot_wp, e, Int.one_mul] <;> assumption
end G
set_option Elab.async false
set_option linter.all false
/-! What the law asks at a point. -/
namespace G
/-- a ring that goes once round, or such a one turned round -/
structure StR (r : List Pt) : Prop where
  ex : ∃ s c, St c s ∧ (r = s ∨ r = s.reverse)
theorem scl_rev (r : List Pt) (p : FP) : scl r.reverse p = (scl r p).reverse := by rw [scl_map, scl_map, List.map_reverse]
theorem StR.wn {r : List Pt} (h : StR r) {p : FP} (h1 : 0 < p.1.2) (h2 : 0 < p.2.2) (off : OffR (scl r p) (spot p)) {d : Pt} (hd : d ≠ (0, 0)) : -1 ≤ Wn d (scl r p) (spot p) ∧ Wn d (scl r p) (spot p) ≤ 1 := by
  obtain ⟨s, c, st, e | e⟩ := h.ex
  · subst e
    have := (st.scale h1 h2).wn off hd
    omega
  · subst e
    rw [scl_rev] at off ⊢
    have off' := off_rev off
    rw [List.reverse_reverse] at off'
    have := (st.scale h1 h2).wn off' hd
    rw [Wn_rev]
    omega
theorem off_corner {r : List Pt} {s v : Pt} (off : OffR r s) (hv : v ∈ r) : sb v s ≠ (0, 0) := fun z => by
  obtain ⟨i, hi, rfl⟩ := mem_cg hv
  have h0 : r ≠ [] := fun e => by rw [e] at hi; exact absurd hi (Nat.not_lt_zero _)
  have := off _ (side_any h0 i)
  rw [show (cg r (i : Int), cg r ((i : Int) + 1)).1 = cg r (i : Int) from rfl, z] at this
  unfold Off cr dt at this
  simp at this
theorem far_ne {d : Pt} (hd : FarD d) : d ≠ (0, 0) := fun z => by
  obtain ⟨f, _, _, h⟩ := hd.ex
  rw [z] at h
  rcases h with h | h | h | h | h | h | h <;> (rw [Prod.mk.injEq] at h; omega)
theorem far_cr {d v : Pt} (hd : FarD d) (hv : v ≠ (0, 0)) (h1 : v.1.natAbs < 2 ^ 110) (h2 : v.2.natAbs < 2 ^ 110) : cr d v ≠ 0 := by
  obtain ⟨f, lo, _, h⟩ := hd.ex
  have hf : (2 : Int) ^ 110 ≤ f := Int.le_trans (by decide) lo
  have big : ∀ x y : Int, x.natAbs < 2 ^ 110 → y ≠ 0 → x ≠ f * y ∧ x ≠ - (f * y) := fun x y hx hy => by
    rcases Int.lt_or_gt_of_ne hy with z | z
    · have : f * y ≤ f * (-1) := Int.mul_le_mul_of_nonneg_left (by omega) (by omega)
      constructor <;> omega
    · have : f * 1 ≤ f * y := Int.mul_le_mul_of_nonneg_left (by omega) (by omega)
      constructor <;> omega
  intro z
  have cases' : (v.2 ≠ 0 ∧ (v.1 = f * v.2 ∨ v.1 = - (f * v.2))) ∨ (v.1 ≠ 0 ∧ (v.2 = f * v.1 ∨ v.2 = - (f * v.1))) ∨ v = (0, 0) := by
    have nz := nz_cases hv
    have m1 : v.1 = 0 → f * v.1 = 0 := fun w => by rw [w, Int.mul_zero]
    have m2 : v.2 = 0 → f * v.2 = 0 := fun w => by rw [w, Int.mul_zero]
    have e1 : (0 - f) * v.1 = - (f * v.1) := by grind
    have e2 : (0 - f) * v.2 = - (f * v.2) := by grind
    unfold cr at z
    rcases h with h | h | h | h | h | h | h <;> (rw [h] at z; simp only [e1, e2] at z; omega)
  rcases cases' with ⟨a, b⟩ | ⟨a, b⟩ | a
  · have := big v.1 v.2 h1 a
    omega
  · have := big v.2 v.1 h2 a
    omega
  · exact hv a
theorem far_clear {r : List Pt} {p : FP} {d : Pt} (hd : FarD d) (hp : PtS p) (hr : ∀ c, c ∈ r → Sm c) (off : OffR (scl r p) (spot p)) : Clear d (scl r p) (spot p) := fun v hv => by
  have b1 := hp.scl hr hv
  have b2 := hp.bg
  have x := b1.a.sub b2.a
  have y := b1.b.sub b2.b
  refine far_cr hd (off_corner off hv) ?_ ?_
  · exact Nat.lt_of_lt_of_le x (by decide)
  · exact Nat.lt_of_lt_of_le y (by decide)
theorem turns_crude (r : List Pt) (p : FP) : (ringTurns r p).natAbs ≤ r.length := by
  unfold ringTurns
  rw [← sides_len r]
  generalize sides r = l
  induction l with
  | nil => exact Nat.le_refl _
  | cons e l ih =>
    rw [List.map_cons, List.sum_cons, List.length_cons]
    have : (goPast e.1 e.2 p).natAbs ≤ 1 := by
      unfold goPast
      split <;> split <;> decide
    omega
/-- what the law asks of one ring at one point -/
theorem StR.law {r : List Pt} (h : StR r) {p : FP} (hp : PtS p) (hr : ∀ c, c ∈ r → Sm c) :
    LawSide r p (ringSide r p) ∧ (ringSide r p ≠ 0 → ∀ d, FarD d → (lawCrossed (scl r p) (spot p) d).1 = ringTurns r p) := by
  have on := on_any (r := r) hp.a hp.c
  by_cases hb : lawOn (scl r p) (spot p) = true
  · have e : ringSide r p = 0 := by
      unfold ringSide
      rw [on, if_pos hb]
    refine ⟨⟨fun _ => e, fun z => ?_⟩, fun z => absurd e z⟩
    rw [hb] at z
    cases z
  · have hb : lawOn (scl r p) (spot p) = false := by simpa using hb
    have off := (lawOn_off _ _).mp hb
    have w := ring_w (r := r) hp.a hp.c
    have sm := h.wn hp.a hp.c off (d := (1, 0)) (by decide)
    have each : ∀ d, FarD d → (lawCrossed (scl r p) (spot p) d).1 = ringTurns r p ∧ ((lawCrossed (scl r p) (spot p) d).2 - ringTurns r p) % 2 = 0 := fun d hd => by
      obtain ⟨c1, c2⟩ := crossed_w (far_clear hd hp hr off)
      have e : (lawCrossed (scl r p) (spot p) d).1 = ringTurns r p := by rw [c1, w, ray_ind (far_ne hd) (show ((1, 0) : Pt) ≠ (0, 0) by decide) off]
      exact ⟨e, by rw [← e]; exact c2⟩
    refine ⟨⟨fun z => ?_, fun _ d hd => ?_⟩, fun _ d hd => (each d hd).1⟩
    · rw [hb] at z
      cases z
    · have q := (each d hd).2
      unfold ringSide
      rw [on, hb, if_neg Bool.false_ne_true]
      rw [← w] at sm
      generalize (lawCrossed (scl r p) (spot p) d).2 = k at *
      generalize ringTurns r p = x at *
      by_cases z : x = 0
      · rw [if_pos z, if_neg]
        simp only [beq_iff_eq]
        omega
      · rw [if_neg z, if_pos]
        simp only [beq_iff_eq]
        omega
end G
set_option Elab.async false
set_option linter.all false
/-! A drawn plate is a good one. -/
namespace G
structure HoleF (t : Rule) (k : Int) (h : List Pt) : Prop where
  st : ∃ s c, St c s ∧ h = s.reverse
  bx : ∀ v, v ∈ h → Box t k v
  md : ∀ v, v ∈ h → Mid v
  ln : h.length ≤ 32
structure OutF (t : Rule) (m : Nat) (o : List Pt) : Prop where
  st : St (t.at (10 * (m : Int), 0)) o
  by' : ∀ e, e ∈ sides o → Beyond t m e
  md : ∀ v, v ∈ o → Mid v
  ln : o.length ≤ 20
theorem HoleBase.hf {t : Rule} {k : Int} {h : List Pt} (ht : RuleOk t) (k0 : 1 ≤ k) (k1 : k < 4) (hb : HoleBase t k h) : HoleF t k h := by
  have bx := hb.box ht
  obtain ⟨y, s, m, y0, y1, hs, hm, rfl⟩ := hb.ex
  refine ⟨⟨m, _, (hs.st.put ht).more hm, rfl⟩, bx, fun v hv => ?_, ?_⟩
  · refine hm.mid (fun q hq => ?_) (List.mem_reverse.mp hv)
    obtain ⟨u, hu, rfl⟩ := put_mem hq
    exact (hs.lil k0 k1 y0 y1 hu).at ht
  · rw [List.length_reverse]
    have := hm.len.1
    rw [put_len] at this
    have := hs.len
    omega
theorem out_f {t : Rule} {m : Nat} {w o : List Pt} (ht : RuleOk t) (hw : WaveBase m w) (m0 : 3 ≤ m) (m1 : m ≤ 5) (hm : More (putR t w) o) : OutF t m o := by
  refine ⟨((hw.st m0 m1).put ht).more hm, fun e he => outer_beyond ht hw m0 m1 hm he, fun v hv => ?_, ?_⟩
  · refine hm.mid (fun q hq => ?_) hv
    obtain ⟨u, hu, rfl⟩ := put_mem hq
    exact (hw.lil m1 hu).at ht
  · have := hm.len.1
    rw [put_len, hw.len (by omega)] at this
    omega
theorem Mid.bd {v : Pt} (h : Mid v) : (-1000 ≤ v.1 ∧ v.1 ≤ 1000) ∧ -1000 ≤ v.2 ∧ v.2 ≤ 1000 := by
  obtain ⟨a, b, c, d⟩ := h
  omega
theorem OutF.ok {t : Rule} {m : Nat} {o : List Pt} (h : OutF t m o) : OkRing o := h.st.simp.okRing (by have := h.ln; omega) fun v hv => (h.md v hv).bd
theorem HoleF.ok {t : Rule} {k : Int} {h : List Pt} (f : HoleF t k h) : OkRing h := by
  obtain ⟨s, c, st, e⟩ := f.st
  have : Simp h := by rw [e]; exact st.simp.rev
  exact this.okRing (by have := f.ln; omega) fun v hv => (f.md v hv).bd
theorem HoleF.ar {t : Rule} {k : Int} {h : List Pt} (f : HoleF t k h) : ringArea h ≤ 0 := by
  obtain ⟨s, c, st, e⟩ := f.st
  rw [e, area_rev]
  have := st.arPos
  omega
theorem turns_wp (r : List Pt) (z : Pt) : turnsW r z = Wn (1, 0) (scl r (wp z)) (spot (wp z)) := by rw [scl_wp, spot_wp, turns_w]
theorem box_not {t : Rule} {k l : Int} {z : Pt} (h : BoxP t k (wp z)) (g : Box t l z) : k = l := by
  obtain ⟨a, b, _, _⟩ := h
  obtain ⟨c, d, _, _⟩ := g
  have e : (wp z).1.2 * (wp z).2.2 = 1 := rfl
  rw [spot_wp, e, Int.one_mul] at a b
  omega
theorem hole_ok {t : Rule} {m : Nat} {k : Int} {o h : List Pt} {ahead : List (List Pt)} (ht : RuleOk t) (fo : OutF t m o) (fh : HoleF t k h) (m0 : 3 ≤ m) (k0 : 1 ≤ k) (k1 : k < (m : Int) - 1) (ha : ∀ g, g ∈ ahead → ∃ j, j < k ∧ HoleF t j g) : HoleOk h o ahead := by
  have z := fh.bx _ (cg_mem 0 fh.ok.ne)
  refine ⟨fh.ok, fo.ok, fh.ar, outer_apart fo.by' fh.bx k0 k1, ?_, fun g hg => ?_⟩
  · rw [turns_wp, (box_inside ht fo.st fo.by' m0 k0 k1 (p := wp (cg h 0)) (by show (0 : Int) < 1; decide) (by show (0 : Int) < 1; decide) z.p (d := (1, 0)) (by decide)).2]
    decide
  · obtain ⟨j, hj, fg⟩ := ha g hg
    refine ⟨fg.ok, holes_apart fg.bx fh.bx hj, ?_, ?_⟩
    · rw [turns_wp]
      rcases Int.lt_trichotomy (Wn (1, 0) (scl g (wp (cg h 0))) (spot (wp (cg h 0)))) 0 with q | q | q
      · have := box_not (box_outside fg.bx (p := wp (cg h 0)) (by show (0 : Int) < 1; decide) (by show (0 : Int) < 1; decide) (d := (1, 0)) (by decide) (by omega)) z
        omega
      · exact q
      · have := box_not (box_outside fg.bx (p := wp (cg h 0)) (by show (0 : Int) < 1; decide) (by show (0 : Int) < 1; decide) (d := (1, 0)) (by decide) (by omega)) z
        omega
    · have y := fg.bx _ (cg_mem 0 fg.ok.ne)
      rw [turns_wp]
      rcases Int.lt_trichotomy (Wn (1, 0) (scl h (wp (cg g 0))) (spot (wp (cg g 0)))) 0 with q | q | q
      · have := box_not (box_outside fh.bx (p := wp (cg g 0)) (by show (0 : Int) < 1; decide) (by show (0 : Int) < 1; decide) (d := (1, 0)) (by decide) (by omega)) y
        omega
      · exact q
      · have := box_not (box_outside fh.bx (p := wp (cg g 0)) (by show (0 : Int) < 1; decide) (by show (0 : Int) < 1; decide) (d := (1, 0)) (by decide) (by omega)) y
        omega
end G
set_option Elab.async false
set_option linter.all false
/-! A drawn plate is taken, and each drawn point is told rightly. -/
namespace G
structure PlF (o : List Pt) (hs : List (List Pt)) : Prop where
  ex : ∃ (t : Rule) (m : Nat) (L : List (Int × List Pt)), RuleOk t ∧ 3 ≤ m ∧ m ≤ 5 ∧ OutF t m o ∧ L.Pairwise (·.1 < ·.1) ∧ (∀ e, e ∈ L → 1 ≤ e.1 ∧ e.1 < (m : Int) - 1 ∧ e.1 < 4 ∧ HoleF t e.1 e.2) ∧ hs = L.map (·.2)
theorem PlateBase.pf {o : List Pt} {hs : List (List Pt)} (h : PlateBase o hs) : PlF o hs := by
  obtain ⟨m, t, w, L, m0, m1, ht, hw, hm, up, hL, rfl⟩ := h.ex
  refine ⟨t, m, L, ht, m0, m1, out_f ht hw m0 m1 hm, up, fun e he => ?_, rfl⟩
  obtain ⟨a, b, c, d⟩ := hL e he
  exact ⟨a, b, c, d.hf ht a c⟩
theorem key_len : ∀ (L : List (Int × List Pt)) (k : Int), L.Pairwise (fun a b : Int × List Pt => a.1 < b.1) → (∀ e, e ∈ L → k ≤ e.1 ∧ e.1 < 4) → (L.length : Int) ≤ max 0 (4 - k)
  | [], _, _, _ => by simp; omega
  | x :: L, k, hp, hb => by
    obtain ⟨h1, h2⟩ := List.pairwise_cons.mp hp
    have z := key_len L (x.1 + 1) h2 fun e he => ⟨h1 e he, (hb e (List.mem_cons_of_mem _ he)).2⟩
    have y := hb x List.mem_cons_self
    rw [List.length_cons]
    omega
theorem PlF.gp {o : List Pt} {hs : List (List Pt)} (h : PlF o hs) : GoodPlate o hs ∧ PlB o hs ∧ (∀ r, r ∈ o :: hs → StR r) := by
  obtain ⟨t, m, L, ht, m0, m1, fo, up, hL, rfl⟩ := h.ex
  have ln := key_len L 1 up fun e he => ⟨(hL e he).1, (hL e he).2.2.1⟩
  refine ⟨⟨fo.ok, Int.le_of_lt fo.st.arPos, by rw [List.length_map]; omega, fun i hi => ?_⟩, ⟨by rw [List.length_map]; omega, fun r hr => ?_, fun r hr p hp => ?_⟩, fun r hr => ?_⟩
  · rw [List.length_map] at hi
    have e1 : (L.map (·.2)).getD i [] = L[i].2 := by
      rw [List.getD_eq_getElem?_getD, List.getElem?_map, List.getElem?_eq_getElem hi]
      rfl
    obtain ⟨a, b, c, d⟩ := hL _ (List.getElem_mem hi)
    rw [e1]
    refine hole_ok ht fo d m0 a b fun g hg => ?_
    rw [← List.map_take] at hg
    obtain ⟨e, he, rfl⟩ := List.mem_map.mp hg
    obtain ⟨j, hj, ej⟩ := List.getElem_of_mem he
    rw [List.length_take] at hj
    rw [List.getElem_take] at ej
    have lt := List.pairwise_iff_getElem.mp up j i (by omega) hi (by omega)
    rw [ej] at lt
    exact ⟨e.1, lt, (hL e (List.mem_of_mem_take he)).2.2.2⟩
  · rcases List.mem_cons.mp hr with rfl | hr
    · exact ⟨fo.st.ne, by have := fo.ln; omega⟩
    · obtain ⟨e, he, rfl⟩ := List.mem_map.mp hr
      have := (hL e he).2.2.2
      exact ⟨this.ok.ne, by have := this.ln; omega⟩
  · rcases List.mem_cons.mp hr with rfl | hr
    · obtain ⟨a, b, c, d⟩ := fo.md p hp
      exact ⟨⟨a, b⟩, c, d⟩
    · obtain ⟨e, he, rfl⟩ := List.mem_map.mp hr
      obtain ⟨a, b, c, d⟩ := (hL e he).2.2.2.md p hp
      exact ⟨⟨a, b⟩, c, d⟩
  · rcases List.mem_cons.mp hr with rfl | hr
    · exact ⟨_, _, fo.st, .inl rfl⟩
    · obtain ⟨e, he, rfl⟩ := List.mem_map.mp hr
      obtain ⟨s, c, st, e1⟩ := (hL e he).2.2.2.st
      exact ⟨s, c, st, .inr e1⟩
theorem fold_side (v : List Pt → Int) (hv : ∀ r, -1 ≤ v r ∧ v r ≤ 1) : ∀ (hs : List (List Pt)) (f : Int), hs.foldl (lawFold v) f = hs.foldl (fun f h => if f = 1 then lo2 f (-v h) else f) f
  | [], _ => rfl
  | h :: hs, f => by
    rw [List.foldl_cons, List.foldl_cons, fold_side v hv hs]
    congr 1
    have := hv h
    unfold lawFold lo2
    by_cases z : f = 1
    · subst z
      by_cases y : -1 < v h
      · rw [decide_eq_true y, if_pos (show ((1 : Int) == 1 && true) = true from rfl), if_pos rfl]
        split <;> omega
      · rw [decide_eq_false y, if_neg (by decide), if_pos rfl]
        split <;> omega
    · rw [if_neg z, if_neg]
      simp [z]
theorem seg_swap (a b s : Pt) : onSeg b a s = onSeg a b s := by
  rw [Bool.eq_iff_iff]
  have h1 := seg_off b a s
  have h2 := seg_off a b s
  have : Off (sb b s) (sb a s) ↔ Off (sb a s) (sb b s) := by
    have e1 := cr_swap (sb b s) (sb a s)
    have e2 : dt (sb b s) (sb a s) = dt (sb a s) (sb b s) := by unfold dt; grind
    unfold Off
    omega
  cases x : onSeg b a s <;> cases y : onSeg a b s <;> simp_all
theorem hit_on {p : FP} (hp : PtS p) (e : Int × Pt × Pt) : hitOn p e = isOn e.2.1 e.2.2 p := by
  unfold hitOn lawOn backs
  show ((cg (scl [e.2.1, e.2.2] p) (((0 : Nat) : Int) - 1), cg (scl [e.2.1, e.2.2] p) ((0 : Nat) : Int)) :: [(cg (scl [e.2.1, e.2.2] p) (((1 : Nat) : Int) - 1), cg (scl [e.2.1, e.2.2] p) ((1 : Nat) : Int))]).any (fun x => onSeg x.1 x.2 (spot p)) = _
  show (onSeg (sc p e.2.2) (sc p e.2.1) (spot p) || (onSeg (sc p e.2.1) (sc p e.2.2) (spot p) || false)) = _
  rw [seg_swap, Bool.or_false, Bool.or_self, on_seg hp.a hp.c]
end G
set_option Elab.async false
set_option linter.all false
/-! What the law finds at a point is what the program finds. -/
namespace G
theorem cg_in (A B C : List Pt) {k : Nat} (hk : k < B.length) : cg (A ++ (B ++ C)) ((A.length : Int) + (k : Int)) = cg B k := by
  have h1 : A.length + k < (A ++ (B ++ C)).length := by
    rw [List.length_append, List.length_append]
    omega
  have e1 := cg_nat h1
  rw [List.getElem?_append_right (by omega), Nat.add_sub_cancel_left, List.getElem?_append_left hk, cg_nat hk, Int.natCast_add] at e1
  exact (Option.some.inj e1).symm
theorem hits_one (A r C : List Pt) (h : r ≠ []) : hitsOne (A.length : Int) r = (ixOne (A.length : Int) r.length).map fun e => (e.1, cg (A ++ (r ++ C)) e.1, cg (A ++ (r ++ C)) e.2) := by
  have pos := List.length_pos_iff.mpr h
  obtain ⟨n, hn⟩ : ∃ n, r.length = n + 1 := ⟨r.length - 1, by omega⟩
  have c0 := cg_in A r C (k := 0) pos
  rw [Int.natCast_zero, Int.add_zero] at c0
  unfold hitsOne ixOne
  rw [hn, Nat.add_sub_cancel, List.range_succ, List.map_append, List.map_append, List.map_map]
  congr 1
  · refine List.map_congr_left fun k hk => ?_
    have hk := List.mem_range.mp hk
    show ((A.length : Int) + (k : Int), cg r k, cg r ((k : Int) + 1)) = ((A.length : Int) + (k : Int), cg (A ++ (r ++ C)) ((A.length : Int) + (k : Int)), cg (A ++ (r ++ C)) ((A.length : Int) + (k : Int) + 1))
    rw [cg_in A r C (by omega), Int.add_assoc, show (k : Int) + 1 = ((k + 1 : Nat) : Int) from rfl, cg_in A r C (by omega)]
  · show [((A.length : Int) + (n : Int), cg r n, cg r ((n : Int) + 1))] = [((A.length : Int) + (n : Int), cg (A ++ (r ++ C)) ((A.length : Int) + (n : Int)), cg (A ++ (r ++ C)) (A.length : Int))]
    rw [cg_in A r C (by omega), c0, show (n : Int) + 1 = (r.length : Int) from by omega, cg_len]
theorem hits_all : ∀ (rs : List (List Pt)) (A : List Pt), (∀ r, r ∈ rs → r ≠ []) → hits (A.length : Int) rs = (ixSides (A.length : Int) rs).map fun e => (e.1, cg (A ++ rs.flatten) e.1, cg (A ++ rs.flatten) e.2)
  | [], _, _ => rfl
  | r :: rs, A, h => by
    show hitsOne (A.length : Int) r ++ hits ((A.length : Int) + r.length) rs = (ixOne (A.length : Int) r.length ++ ixSides ((A.length : Int) + r.length) rs).map _
    have ih := hits_all rs (A ++ r) fun s hs => h s (List.mem_cons_of_mem _ hs)
    rw [List.length_append, Int.natCast_add] at ih
    rw [List.map_append, List.flatten_cons, hits_one A r rs.flatten (h r List.mem_cons_self), ih, List.append_assoc]
theorem find_map {α β : Type} (g : α → β) (f : β → Bool) : ∀ l : List α, (l.map g).find? f = (l.find? fun x => f (g x)).map g
  | [] => rfl
  | x :: l => by
    rw [List.map_cons, List.find?_cons, List.find?_cons]
    cases f (g x)
    · exact find_map g f l
    · rfl
theorem where_same {o : List Pt} {hs : List (List Pt)} (pb : PlB o hs) {p : FP} (hp : PtS p) : lawWhereD o hs p (sideOf o hs p) = whereD o hs p := by
  have e := hits_all (o :: hs) [] fun r hr => (pb.ne r hr).1
  have e : hits 0 (o :: hs) = (ixSides 0 (o :: hs)).map fun e => (e.1, cg (o :: hs).flatten e.1, cg (o :: hs).flatten e.2) := e
  unfold lawWhereD whereD sideD
  rw [e, find_map]
  have e2 : (fun x : Int × Int => hitOn p (x.1, cg (o :: hs).flatten x.1, cg (o :: hs).flatten x.2)) = fun e => isOn (cg (o :: hs).flatten e.1) (cg (o :: hs).flatten e.2) p := funext fun x => hit_on hp _
  rw [e2]
  generalize (List.range (o :: hs).flatten.length).find? (cornerIs (o :: hs).flatten p) = x
  generalize (ixSides 0 (o :: hs)).find? (fun e => isOn (cg (o :: hs).flatten e.1) (cg (o :: hs).flatten e.2) p) = y
  cases x <;> cases y <;> rfl
theorem right_pre {o : List Pt} {hs : List (List Pt)} (pb : PlB o hs) (st : ∀ r, r ∈ o :: hs → StR r) {p : FP} (hp : PtS p) : RightPre o hs p := by
  refine ⟨pb, hp, fun r hr => ((st r hr).law hp fun c hc => pb.s hr hc).1, fold_side (fun r => ringSide r p) (fun r => ringSide_small r p) hs _, where_same pb hp, fun r hr => ((st r hr).law hp fun c hc => pb.s hr hc).2, fun r hr => ?_⟩
  have := turns_crude r p
  have := (pb.ne r hr).2
  omega
end G
set_option Elab.async false
set_option linter.all false
/-! Fractions put in order: the same ones, from below. -/
namespace G
def fle (f g : Fr) : Prop := f.1 * g.2 ≤ g.1 * f.2
theorem fle_trans {f g h : Fr} (hf : 0 < f.2) (hg : 0 < g.2) (hh : 0 < h.2) (a : fle f g) (b : fle g h) : fle f h := by
  unfold fle at *
  have h1 : f.1 * g.2 * h.2 ≤ g.1 * f.2 * h.2 := Int.mul_le_mul_of_nonneg_right a (Int.le_of_lt hh)
  have h2 : g.1 * h.2 * f.2 ≤ h.1 * g.2 * f.2 := Int.mul_le_mul_of_nonneg_right b (Int.le_of_lt hf)
  have h3 : g.2 * (f.1 * h.2) ≤ g.2 * (h.1 * f.2) := by
    have e1 : g.2 * (f.1 * h.2) = f.1 * g.2 * h.2 := by grind
    have e2 : g.2 * (h.1 * f.2) = h.1 * g.2 * f.2 := by grind
    have e3 : g.1 * f.2 * h.2 = g.1 * h.2 * f.2 := by grind
    omega
  exact Int.le_of_mul_le_mul_left h3 hg
theorem cmp_pos {f g : Fr} : 0 < cmpF f g ↔ ¬ fle f g := by
  unfold cmpF fle sgn
  generalize f.1 * g.2 = a
  generalize g.1 * f.2 = b
  split
  · omega
  · split <;> omega
theorem cg_get {l : List Pt} {i : Nat} (h : i < l.length) : cg l i = l[i] := by
  have e := cg_nat h
  rw [List.getElem?_eq_getElem h] at e
  exact (Option.some.inj e).symm
theorem insAt_spec (l : List Fr) (x : Fr) : ∀ n : Nat, insAt l x n ≤ n ∧ (∀ j : Nat, insAt l x n ≤ j → j < n → ¬ fle (cg l j) x) ∧ (0 < insAt l x n → fle (cg l ((insAt l x n : Int) - 1)) x)
  | 0 => ⟨Nat.le_refl _, fun _ _ h => absurd h (Nat.not_lt_zero _), fun h => absurd h (Nat.lt_irrefl 0)⟩
  | n + 1 => by
    obtain ⟨h1, h2, h3⟩ := insAt_spec l x n
    have e : insAt l x (n + 1) = if 0 < cmpF (cg l n) x then insAt l x n else n + 1 := rfl
    rw [e]
    by_cases c : 0 < cmpF (cg l n) x
    · rw [if_pos c]
      refine ⟨by omega, fun j a b => ?_, h3⟩
      by_cases z : j = n
      · subst z
        exact cmp_pos.mp c
      · exact h2 j a (by omega)
    · rw [if_neg c]
      refine ⟨Nat.le_refl _, fun j a b => by omega, fun _ => ?_⟩
      rw [cmp_pos] at c
      rw [show ((n + 1 : Nat) : Int) - 1 = n from by omega]
      exact Classical.not_not.mp c
theorem insF_sorted {l : List Fr} {x : Fr} (hx : 0 < x.2) (hl : ∀ f, f ∈ l → 0 < f.2) (h : l.Pairwise fle) : (insF l x).Pairwise fle := by
  obtain ⟨h1, h2, h3⟩ := insAt_spec l x l.length
  unfold insF
  generalize insAt l x l.length = k at *
  have lt : ∀ f, f ∈ l.take k → fle f x := fun f hf => by
    obtain ⟨j, hj, rfl⟩ := List.getElem_of_mem hf
    rw [List.length_take] at hj
    rw [List.getElem_take]
    have h3 := h3 (by omega)
    rw [show (k : Int) - 1 = ((k - 1 : Nat) : Int) from by omega, cg_get (by omega : k - 1 < l.length)] at h3
    by_cases z : j = k - 1
    · subst z
      exact h3
    · have := List.pairwise_iff_getElem.mp h j (k - 1) (by omega) (by omega) (by omega)
      exact fle_trans (hl _ (List.getElem_mem _)) (hl _ (List.getElem_mem _)) hx this h3
  have gt : ∀ f, f ∈ l.drop k → fle x f := fun f hf => by
    obtain ⟨j, hj, rfl⟩ := List.getElem_of_mem hf
    rw [List.length_drop] at hj
    rw [List.getElem_drop]
    have := h2 (k + j) (by omega) (by omega)
    rw [cg_get (by omega : k + j < l.length)] at this
    unfold fle at *
    omega
  rw [List.pairwise_append, List.pairwise_append]
  refine ⟨⟨h.sublist (List.take_sublist _ _), List.pairwise_singleton _ _, fun a ha b hb => ?_⟩, h.sublist (List.drop_sublist _ _), fun a ha b hb => ?_⟩
  · rw [List.mem_singleton.mp hb]
    exact lt a ha
  · rcases List.mem_append.mp ha with ha | ha
    · exact fle_trans (hl _ (List.mem_of_mem_take ha)) hx (hl _ (List.mem_of_mem_drop hb)) (lt a ha) (gt b hb)
    · rw [List.mem_singleton.mp ha]
      exact gt b hb
theorem insF_perm (l : List Fr) (x : Fr) : (insF l x).Perm (x :: l) := by
  unfold insF
  generalize insAt l x l.length = k
  have h : (l.take k ++ x :: l.drop k).Perm (x :: (l.take k ++ l.drop k)) := List.perm_middle
  rw [List.take_append_drop] at h
  rw [List.append_assoc]
  exact h
theorem foldl_sorted : ∀ (s l : List Fr), (∀ f, f ∈ s → 0 < f.2) → (∀ f, f ∈ l → 0 < f.2) → l.Pairwise fle → (s.foldl insF l).Pairwise fle ∧ (s.foldl insF l).Perm (s ++ l)
  | [], l, _, _, h => ⟨h, .refl _⟩
  | x :: s, l, hs, hl, h => by
    have hx := hs x List.mem_cons_self
    obtain ⟨a, b⟩ := foldl_sorted s (insF l x) (fun f hf => hs f (List.mem_cons_of_mem _ hf)) (fun f hf => by
      rcases insF_mem hf with rfl | hf
      · exact hx
      · exact hl f hf) (insF_sorted hx hl h)
    refine ⟨a, b.trans ?_⟩
    have p : (s ++ insF l x).Perm (s ++ x :: l) := (insF_perm l x).append_left s
    exact p.trans List.perm_middle
theorem inOrder_ok {s : List Fr} (hs : ∀ f, f ∈ s → 0 < f.2) : (inOrder s).Pairwise fle ∧ (inOrder s).Perm s := by
  have := foldl_sorted s [] hs (fun _ h => nomatch h) .nil
  rwa [List.append_nil] at this
end G
set_option Elab.async false
set_option linter.all false
/-! Where a side goes past a height, and what lies left of a point there. -/
namespace G
theorem cross_at {M : Fr} (hM : 0 < M.2) {e : Pt × Pt} (ne : e.2.2 - e.1.2 ≠ 0) : 0 < (crossX M e).2 ∧ ∀ f : Fr, (crossX M e).2 * leftBy e.1 e.2 (f, M) = ((e.2.2 - e.1.2) * M.2) * ((crossX M e).1 * f.2 - f.1 * (crossX M e).2) := by
  obtain ⟨s2, _, _, s1⟩ := mkFr_B (t := e.2.1 - e.1.1) ne
  have m := mkFr_B (t := M.1 * (e.1.2, (1 : Int)).2 - (e.1.2, (1 : Int)).1 * M.2) (b := M.2 * (e.1.2, (1 : Int)).2) (by simp only; omega)
  obtain ⟨m2, _, _, m1⟩ := m
  rw [show mkFr (M.1 * (e.1.2, (1 : Int)).2 - (e.1.2, (1 : Int)).1 * M.2) (M.2 * (e.1.2, (1 : Int)).2) = fMinus M (e.1.2, 1) from rfl] at m1 m2
  unfold crossX
  generalize mkFr (e.2.1 - e.1.1) (e.2.2 - e.1.2) = s at *
  generalize fMinus M (e.1.2, 1) = m at *
  have p1 : 0 < m.2 * s.2 := Int.mul_pos m2 s2
  obtain ⟨t2, _, _, t1⟩ := mkFr_B (t := m.1 * s.1) (b := m.2 * s.2) (by omega)
  rw [show mkFr (m.1 * s.1) (m.2 * s.2) = fTimes m s from rfl] at t1 t2
  generalize fTimes m s = t at *
  have p2 : 0 < (e.1.1, (1 : Int)).2 * t.2 := Int.mul_pos (show (0 : Int) < 1 by decide) t2
  obtain ⟨x2, _, _, x1⟩ := mkFr_B (t := (e.1.1, (1 : Int)).1 * t.2 + t.1 * (e.1.1, (1 : Int)).2) (b := (e.1.1, (1 : Int)).2 * t.2) (by omega)
  rw [show mkFr ((e.1.1, (1 : Int)).1 * t.2 + t.1 * (e.1.1, (1 : Int)).2) ((e.1.1, (1 : Int)).2 * t.2) = fPlus (e.1.1, 1) t from rfl] at x1 x2
  generalize fPlus (e.1.1, 1) t = X at *
  refine ⟨x2, fun f => ?_⟩
  simp only [Int.mul_one, Int.one_mul] at m1 x1
  have k : ((e.2.2 - e.1.2) * M.2) * X.1 = X.2 * ((e.2.1 - e.1.1) * (M.1 - e.1.2 * M.2) + (e.2.2 - e.1.2) * e.1.1 * M.2) := by
    have p : 0 < t.2 * (m.2 * s.2) := Int.mul_pos t2 p1
    refine Int.eq_of_mul_eq_mul_left (Int.ne_of_gt p) ?_
    have id1 : (t.2 * (m.2 * s.2)) * (((e.2.2 - e.1.2) * M.2) * X.1) - (t.2 * (m.2 * s.2)) * (X.2 * ((e.2.1 - e.1.1) * (M.1 - e.1.2 * M.2) + (e.2.2 - e.1.2) * e.1.1 * M.2)) =
      (m.2 * s.2 * (e.2.2 - e.1.2) * M.2) * (X.1 * t.2 - (e.1.1 * t.2 + t.1) * X.2) + ((e.2.2 - e.1.2) * M.2 * X.2) * (t.1 * (m.2 * s.2) - m.1 * s.1 * t.2) + ((e.2.2 - e.1.2) * X.2 * s.1 * t.2) * (m.1 * M.2 - (M.1 - e.1.2 * M.2) * m.2) + (X.2 * t.2 * (M.1 - e.1.2 * M.2) * m.2) * (s.1 * (e.2.2 - e.1.2) - (e.2.1 - e.1.1) * s.2) := by grind
    rw [x1, t1, m1, s1] at id1
    simp only [Int.sub_self, Int.mul_zero, Int.add_zero] at id1
    omega
  have id2 : X.2 * leftBy e.1 e.2 (f, M) = f.2 * (X.2 * ((e.2.1 - e.1.1) * (M.1 - e.1.2 * M.2) + (e.2.2 - e.1.2) * e.1.1 * M.2)) - ((e.2.2 - e.1.2) * M.2) * (f.1 * X.2) := by unfold leftBy; grind
  rw [id2, ← k]
  grind
/-- no corner at the height -/
def OffH (M : Fr) (r : List Pt) : Prop := ∀ v, v ∈ r → v.2 * M.2 ≠ M.1
def up (M : Fr) (v : Pt) : Int := b2 (M.1 < v.2 * M.2)
/-- the side goes past the height left of f -/
def lf (M f : Fr) (e : Pt × Pt) : Bool := goesBy M e && decide ((crossX M e).1 * f.2 < f.1 * (crossX M e).2)
theorem side_one {M f : Fr} (hM : 0 < M.2) {e : Pt × Pt} (o1 : e.1.2 * M.2 ≠ M.1) (o2 : e.2.2 * M.2 ≠ M.1) (ne : goesBy M e = true → (crossX M e).1 * f.2 ≠ f.1 * (crossX M e).2) :
    (goPast e.1 e.2 (f, M) - (up M e.2 - up M e.1) = b2 (lf M f e = true)) ∨ (goPast e.1 e.2 (f, M) - (up M e.2 - up M e.1) = - b2 (lf M f e = true)) := by
  have r1 : risesPast e.1 e.2 M = (decide (e.1.2 * M.2 ≤ M.1) && decide (M.1 < e.2.2 * M.2)) := rfl
  have r2 : risesPast e.2 e.1 M = (decide (e.2.2 * M.2 ≤ M.1) && decide (M.1 < e.1.2 * M.2)) := rfl
  have sw := left_swap e.1 e.2 (f, M)
  unfold goPast lf up b2
  show (((if (risesPast e.1 e.2 M && decide (0 < leftBy e.1 e.2 (f, M))) = true then (1 : Int) else 0) - (if (risesPast e.2 e.1 M && decide (0 < leftBy e.2 e.1 (f, M))) = true then 1 else 0)) - _ = _) ∨ (_ - _ = _)
  rcases Int.lt_or_gt_of_ne o1 with a | a <;> rcases Int.lt_or_gt_of_ne o2 with b | b
  · -- both below
    have g : goesBy M e = false := by
      unfold goesBy
      rw [r1, r2, decide_eq_false (show ¬ M.1 < e.2.2 * M.2 by omega), decide_eq_false (show ¬ M.1 < e.1.2 * M.2 by omega)]
      simp
    rw [r1, r2, g, decide_eq_false (show ¬ M.1 < e.2.2 * M.2 by omega), decide_eq_false (show ¬ M.1 < e.1.2 * M.2 by omega), if_neg (show ¬ M.1 < e.2.2 * M.2 by omega), if_neg (show ¬ M.1 < e.1.2 * M.2 by omega)]
    simp
  · -- it rises
    have hp : 0 < (e.2.2 - e.1.2) * M.2 := by rw [Int.sub_mul]; omega
    have dy : e.2.2 - e.1.2 ≠ 0 := fun z => by rw [z, Int.zero_mul] at hp; omega
    obtain ⟨x2, hx⟩ := cross_at hM dy
    have hx := hx f
    have g : goesBy M e = true := by
      unfold goesBy
      rw [r1, decide_eq_true (show e.1.2 * M.2 ≤ M.1 by omega), decide_eq_true (show M.1 < e.2.2 * M.2 by omega)]
      rfl
    have n := ne g
    rw [r1, r2, g, decide_eq_true (show e.1.2 * M.2 ≤ M.1 by omega), decide_eq_true (show M.1 < e.2.2 * M.2 by omega), decide_eq_false (show ¬ M.1 < e.1.2 * M.2 by omega), if_pos (show M.1 < e.2.2 * M.2 by omega), if_neg (show ¬ M.1 < e.1.2 * M.2 by omega)]
    have q1 := pos_lt (z := leftBy e.1 e.2 (f, M)) x2
    have q2 := pos_lt (z := (crossX M e).1 * f.2 - f.1 * (crossX M e).2) hp
    rw [hx, q2] at q1
    generalize leftBy e.1 e.2 (f, M) = L at *
    generalize (crossX M e).1 * f.2 = u at *
    generalize f.1 * (crossX M e).2 = v at *
    simp only [Bool.true_and, Bool.and_false, Bool.false_and, decide_eq_true_eq, Bool.false_eq_true, if_false]
    clear hx
    (split <;> split <;> omega)
  · -- it falls
    have hp : (e.2.2 - e.1.2) * M.2 < 0 := by rw [Int.sub_mul]; omega
    have hp' : 0 < (e.1.2 - e.2.2) * M.2 := by rw [Int.sub_mul]; omega
    have dy : e.2.2 - e.1.2 ≠ 0 := fun z => by rw [z, Int.zero_mul] at hp; omega
    obtain ⟨x2, hx⟩ := cross_at hM dy
    have hx := hx f
    have hx' : (crossX M e).2 * leftBy e.2 e.1 (f, M) = ((e.1.2 - e.2.2) * M.2) * ((crossX M e).1 * f.2 - f.1 * (crossX M e).2) := by
      rw [sw, Int.mul_neg, hx]
      grind
    have g : goesBy M e = true := by
      unfold goesBy
      rw [r2, decide_eq_true (show e.2.2 * M.2 ≤ M.1 by omega), decide_eq_true (show M.1 < e.1.2 * M.2 by omega), Bool.and_self, Bool.or_true]
    have n := ne g
    rw [r1, r2, g, decide_eq_false (show ¬ e.1.2 * M.2 ≤ M.1 by omega), decide_eq_false (show ¬ M.1 < e.2.2 * M.2 by omega), decide_eq_true (show e.2.2 * M.2 ≤ M.1 by omega), decide_eq_true (show M.1 < e.1.2 * M.2 by omega), if_neg (show ¬ M.1 < e.2.2 * M.2 by omega), if_pos (show M.1 < e.1.2 * M.2 by omega)]
    have q1 := pos_lt (z := leftBy e.2 e.1 (f, M)) x2
    have q2 := pos_lt (z := (crossX M e).1 * f.2 - f.1 * (crossX M e).2) hp'
    rw [hx', q2] at q1
    generalize leftBy e.2 e.1 (f, M) = L at *
    generalize (crossX M e).1 * f.2 = u at *
    generalize f.1 * (crossX M e).2 = v at *
    simp only [Bool.true_and, Bool.and_false, Bool.false_and, decide_eq_true_eq, Bool.false_eq_true, if_false]
    clear hx
    (split <;> split <;> omega)
  · -- both above
    have g : goesBy M e = false := by
      unfold goesBy
      rw [r1, r2, decide_eq_false (show ¬ e.1.2 * M.2 ≤ M.1 by omega), decide_eq_false (show ¬ e.2.2 * M.2 ≤ M.1 by omega)]
      rfl
    rw [r1, r2, g, decide_eq_false (show ¬ e.1.2 * M.2 ≤ M.1 by omega), decide_eq_false (show ¬ e.2.2 * M.2 ≤ M.1 by omega), if_pos (show M.1 < e.2.2 * M.2 by omega), if_pos (show M.1 < e.1.2 * M.2 by omega)]
    simp
/-- the sides left of f give the turns: their number bounds it, and is even with it -/
theorem turns_lf {M f : Fr} (hM : 0 < M.2) {r : List Pt} (off : OffH M r) (ne : ∀ e, e ∈ sides r → goesBy M e = true → (crossX M e).1 * f.2 ≠ f.1 * (crossX M e).2) :
    (ringTurns r (f, M)).natAbs ≤ (sides r).countP (lf M f) ∧ (ringTurns r (f, M) - ((sides r).countP (lf M f) : Nat)) % 2 = 0 := by
  have e1 : ringTurns r (f, M) = ((sides r).map fun e => goPast e.1 e.2 (f, M) - (up M e.2 - up M e.1)).sum := by
    rw [sum_sub (fun e : Pt × Pt => goPast e.1 e.2 (f, M)) (fun e => up M e.2 - up M e.1), sum_cyc (up M) r, Int.sub_zero]
    rfl
  rw [e1]
  have hl : ∀ e, e ∈ sides r → (goPast e.1 e.2 (f, M) - (up M e.2 - up M e.1) = b2 (lf M f e = true)) ∨ (goPast e.1 e.2 (f, M) - (up M e.2 - up M e.1) = - b2 (lf M f e = true)) := fun e he => by
    obtain ⟨m1, m2⟩ := sides_mem1 he
    exact side_one hM (off _ m1) (off _ m2) (ne e he)
  generalize sides r = l at *
  clear e1 ne off
  induction l with
  | nil => exact ⟨Nat.le_refl _, rfl⟩
  | cons e l ih =>
    obtain ⟨a, b⟩ := ih fun x hx => hl x (List.mem_cons_of_mem _ hx)
    have h := hl e List.mem_cons_self
    rw [List.map_cons, List.sum_cons, List.countP_cons]
    generalize (l.map fun e => goPast e.1 e.2 (f, M) - (up M e.2 - up M e.1)).sum = S at *
    generalize goPast e.1 e.2 (f, M) - (up M e.2 - up M e.1) = x at *
    unfold b2 at h
    split at h <;> rename_i z
    · rw [if_pos z]; omega
    · rw [if_neg z]; omega
end G
set_option Elab.async false
set_option linter.all false
/-! No two sides of a drawn plate go past a height at one place. -/
namespace G
/-- the point is on the side, off its ends in height -/
structure Thru (p : FP) (a b : Pt) : Prop where
  z : leftBy a b p = 0
  s : (a.2 * p.2.2 < p.2.1 ∧ p.2.1 < b.2 * p.2.2) ∨ (b.2 * p.2.2 < p.2.1 ∧ p.2.1 < a.2 * p.2.2)
theorem Thru.swap {p : FP} {a b : Pt} (h : Thru p a b) : Thru p b a := ⟨by rw [left_swap, h.z]; rfl, h.s.symm⟩
theorem sc_up (p : FP) (a : Pt) : (sc p a).2 - (spot p).2 = p.1.2 * (a.2 * p.2.2 - p.2.1) := by unfold sc spot; grind
theorem Thru.ar {p : FP} {a b : Pt} (h : Thru p a b) : area (sc p a) (sc p b) (spot p) = 0 := by
  rw [← cr_area, left_cr, h.z, Int.mul_zero]
theorem Thru.hi {p : FP} {a b : Pt} (h : Thru p a b) (h1 : 0 < p.1.2) : ((sc p a).2 < (spot p).2 ∧ (spot p).2 < (sc p b).2) ∨ ((sc p b).2 < (spot p).2 ∧ (spot p).2 < (sc p a).2) := by
  have a1 := sc_up p a
  have a2 := sc_up p b
  have l1 := pos_lt (z := a.2 * p.2.2 - p.2.1) h1
  have l2 := pos_lt (z := b.2 * p.2.2 - p.2.1) h1
  have l3 := pos_neg (z := a.2 * p.2.2 - p.2.1) h1
  have l4 := pos_neg (z := b.2 * p.2.2 - p.2.1) h1
  have := h.s
  omega
theorem Thru.cone {p : FP} {a b c : Pt} (t : Thru p a b) (h1 : 0 < p.1.2) (h : 0 < cr (sb (sc p a) c) (sb (sc p b) c)) : 0 < cr (sb (sc p a) c) (sb (spot p) c) ∧ 0 < cr (sb (spot p) c) (sb (sc p b) c) := by
  have ar := t.ar
  have hi := t.hi h1
  generalize sc p a = A at *
  generalize sc p b = B at *
  generalize spot p = S at *
  have x2 : (A.2 - S.2) * cr (sb A c) (sb B c) = (A.2 - B.2) * cr (sb A c) (sb S c) := by
    have : (A.2 - S.2) * cr (sb A c) (sb B c) - (A.2 - B.2) * cr (sb A c) (sb S c) = (A.2 - c.2) * area A B S := by unfold cr sb area; grind
    rw [ar, Int.mul_zero] at this
    omega
  have y2 : (B.2 - S.2) * cr (sb A c) (sb B c) = (B.2 - A.2) * cr (sb S c) (sb B c) := by
    have : (B.2 - S.2) * cr (sb A c) (sb B c) - (B.2 - A.2) * cr (sb S c) (sb B c) = (B.2 - c.2) * area A B S := by unfold cr sb area; grind
    rw [ar, Int.mul_zero] at this
    omega
  generalize cr (sb A c) (sb B c) = D at *
  generalize cr (sb A c) (sb S c) = m at *
  generalize cr (sb S c) (sb B c) = l at *
  rcases hi with ⟨g1, g2⟩ | ⟨g1, g2⟩
  · constructor
    · have : (A.2 - S.2) * D < 0 := Int.mul_neg_of_neg_of_pos (by omega) h
      rcases Int.lt_or_le 0 m with z | z
      · exact z
      · have := Int.mul_nonneg_of_nonpos_of_nonpos (show A.2 - B.2 ≤ 0 by omega) z
        omega
    · have : 0 < (B.2 - S.2) * D := Int.mul_pos (by omega) h
      rcases Int.lt_or_le 0 l with z | z
      · exact z
      · have := Int.mul_nonpos_of_nonneg_of_nonpos (show 0 ≤ B.2 - A.2 by omega) z
        omega
  · constructor
    · have : 0 < (A.2 - S.2) * D := Int.mul_pos (by omega) h
      rcases Int.lt_or_le 0 m with z | z
      · exact z
      · have := Int.mul_nonpos_of_nonneg_of_nonpos (show 0 ≤ A.2 - B.2 by omega) z
        omega
    · have : (B.2 - S.2) * D < 0 := Int.mul_neg_of_neg_of_pos (by omega) h
      rcases Int.lt_or_le 0 l with z | z
      · exact z
      · have := Int.mul_nonneg_of_nonpos_of_nonpos (show B.2 - A.2 ≤ 0 by omega) z
        omega
theorem St.once {c : Pt} {s : List Pt} (st : St c s) {p : FP} (h1 : 0 < p.1.2) (h2 : 0 < p.2.2) {i j : Int} (ti : Thru p (cg s i) (cg s (i + 1))) (tj : Thru p (cg s j) (cg s (j + 1))) : (i - j) % s.length = 0 := by
  have S := st.scale h1 h2
  have sec : ∀ k : Int, Thru p (cg s k) (cg s (k + 1)) → Sec (sc p c) (scl s p) (sb (spot p) (sc p c)) k ∧ sb (spot p) (sc p c) ≠ (0, 0) := fun k t => by
    have pos := S.posI k
    rw [scl_map, cg_map _ _ st.ne, cg_map _ _ st.ne] at pos
    obtain ⟨a, b⟩ := t.cone h1 pos
    refine ⟨?_, (sb_ne (u := (0, 0)) a).2⟩
    unfold Sec
    rw [scl_map, cg_map _ _ st.ne, cg_map _ _ st.ne]
    exact ⟨Int.le_of_lt a, b⟩
  obtain ⟨a, ne⟩ := sec i ti
  obtain ⟨b, _⟩ := sec j tj
  have := S.uniq ne a b
  rwa [scl_map, List.length_map] at this
theorem StR.once {r : List Pt} (sr : StR r) {p : FP} (h1 : 0 < p.1.2) (h2 : 0 < p.2.2) {i j : Int} (ti : Thru p (cg r i) (cg r (i + 1))) (tj : Thru p (cg r j) (cg r (j + 1))) : (i - j) % r.length = 0 := by
  obtain ⟨s, c, st, e | e⟩ := sr.ex
  · subst e
    exact st.once h1 h2 ti tj
  · subst e
    rw [cg_rev st.ne, cg_rev st.ne] at ti tj
    have ti := ti.swap
    have tj := tj.swap
    rw [show -1 - i = -1 - (i + 1) + 1 from by omega] at ti
    rw [show -1 - j = -1 - (j + 1) + 1 from by omega] at tj
    have := st.once h1 h2 tj ti
    rw [List.length_reverse]
    rwa [show -1 - (j + 1) - (-1 - (i + 1)) = i - j from by omega] at this
theorem Thru.le {p : FP} {a b : Pt} (t : Thru p a b) (h1 : 0 < p.1.2) {u : Pt} {k : Int} (ha : fl u (sc p a) ≤ k) (hb : fl u (sc p b) ≤ k) : fl u (spot p) ≤ k := by
  have key : ∀ {a b : Pt}, Thru p a b → fl u (sc p a) ≤ k → fl u (sc p b) ≤ k → (sc p a).2 < (spot p).2 ∧ (spot p).2 < (sc p b).2 → fl u (spot p) ≤ k := fun {a b} t ha hb hi => by
    have ar := t.ar
    generalize sc p a = A at *
    generalize sc p b = B at *
    generalize spot p = S at *
    have id1 : (B.2 - A.2) * fl u S = (B.2 - S.2) * fl u A + (S.2 - A.2) * fl u B - u.1 * area A B S := by unfold fl area; grind
    rw [ar, Int.mul_zero, Int.sub_zero] at id1
    have a1 : (B.2 - S.2) * fl u A ≤ (B.2 - S.2) * k := Int.mul_le_mul_of_nonneg_left ha (by omega)
    have a2 : (S.2 - A.2) * fl u B ≤ (S.2 - A.2) * k := Int.mul_le_mul_of_nonneg_left hb (by omega)
    have a3 : (B.2 - A.2) * k = (B.2 - S.2) * k + (S.2 - A.2) * k := by grind
    exact Int.le_of_mul_le_mul_left (show (B.2 - A.2) * fl u S ≤ (B.2 - A.2) * k by omega) (by omega)
  rcases t.hi h1 with z | z
  · exact key t ha hb z
  · exact key t.swap hb ha z
theorem Thru.ge {p : FP} {a b : Pt} (t : Thru p a b) (h1 : 0 < p.1.2) {u : Pt} {k : Int} (ha : k ≤ fl u (sc p a)) (hb : k ≤ fl u (sc p b)) : k ≤ fl u (spot p) := by
  have := t.le h1 (u := (-u.1, -u.2)) (k := -k) (by rw [fl_neg]; omega) (by rw [fl_neg]; omega)
  rw [fl_neg] at this
  omega
section
variable {p : FP} {t : Rule}
theorem Thru.box {a b : Pt} {k : Int} (th : Thru p a b) (h1 : 0 < p.1.2) (h2 : 0 < p.2.2) (ha : Box t k a) (hb : Box t k b) : BoxP t k p := by
  have hk : 0 < p.1.2 * p.2.2 := Int.mul_pos h1 h2
  have le : ∀ x y : Int, x ≤ y → (p.1.2 * p.2.2) * x ≤ (p.1.2 * p.2.2) * y := fun x y h => Int.mul_le_mul_of_nonneg_left h (Int.le_of_lt hk)
  refine ⟨th.ge h1 ?_ ?_, th.le h1 ?_ ?_, th.ge h1 ?_ ?_, th.le h1 ?_ ?_⟩ <;> rw [fl_sc]
  · exact le _ _ ha.a
  · exact le _ _ hb.a
  · exact le _ _ ha.b
  · exact le _ _ hb.b
  · exact le _ _ ha.c
  · exact le _ _ hb.c
  · exact le _ _ ha.d
  · exact le _ _ hb.d
theorem Thru.beyond {m : Nat} {k : Int} {e : Pt × Pt} (th : Thru p e.1 e.2) (h1 : 0 < p.1.2) (h2 : 0 < p.2.2) (hb : Beyond t m e) (k0 : 1 ≤ k) (k1 : k < (m : Int) - 1) (hp : BoxP t k p) : False := by
  have hk : 0 < p.1.2 * p.2.2 := Int.mul_pos h1 h2
  have le : ∀ x y : Int, x ≤ y → (p.1.2 * p.2.2) * x ≤ (p.1.2 * p.2.2) * y := fun x y h => Int.mul_le_mul_of_nonneg_left h (Int.le_of_lt hk)
  have lt : ∀ x y : Int, x < y → (p.1.2 * p.2.2) * x < (p.1.2 * p.2.2) * y := fun x y h => Int.mul_lt_mul_of_pos_left h hk
  obtain ⟨a, b, c, d⟩ := hp
  rcases hb with ⟨z1, z2⟩ | ⟨z1, z2⟩ | ⟨z1, z2⟩ | ⟨z1, z2⟩
  · have x := th.le h1 (u := t.ty) (k := (p.1.2 * p.2.2) * (fl t.ty t.o - 20)) (by rw [fl_sc]; exact le _ _ z1) (by rw [fl_sc]; exact le _ _ z2)
    have := lt (fl t.ty t.o - 20) (fl t.ty t.o - 10) (by omega)
    omega
  · have x := th.ge h1 (u := t.ty) (k := (p.1.2 * p.2.2) * (fl t.ty t.o + 20)) (by rw [fl_sc]; exact le _ _ z1) (by rw [fl_sc]; exact le _ _ z2)
    have := lt (fl t.ty t.o + 10) (fl t.ty t.o + 20) (by omega)
    omega
  · have x := th.le h1 (u := t.tx) (k := (p.1.2 * p.2.2) * (fl t.tx t.o + 20)) (by rw [fl_sc]; exact le _ _ z1) (by rw [fl_sc]; exact le _ _ z2)
    have := lt (fl t.tx t.o + 20) (fl t.tx t.o + (20 * k + 4)) (by omega)
    omega
  · have x := th.ge h1 (u := t.tx) (k := (p.1.2 * p.2.2) * (fl t.tx t.o + 20 * ((m : Int) - 1))) (by rw [fl_sc]; exact le _ _ z1) (by rw [fl_sc]; exact le _ _ z2)
    have := lt (fl t.tx t.o + (20 * k + 16)) (fl t.tx t.o + 20 * ((m : Int) - 1)) (by omega)
    omega
theorem BoxP.two {k l : Int} (h1 : 0 < p.1.2) (h2 : 0 < p.2.2) (hk : BoxP t k p) (hl : BoxP t l p) (kl : k < l) : False := by
  have pos : 0 < p.1.2 * p.2.2 := Int.mul_pos h1 h2
  have := Int.mul_lt_mul_of_pos_left (show fl t.tx t.o + (20 * k + 16) < fl t.tx t.o + (20 * l + 4) by omega) pos
  have := hk.b
  have := hl.a
  omega
end
/-- a side that goes past the height holds the place where it does -/
theorem goes_thru {M f : Fr} (hM : 0 < M.2) {r : List Pt} (off : OffH M r) {e : Pt × Pt} (he : e ∈ sides r) (g : goesBy M e = true) (eq : (crossX M e).1 * f.2 = f.1 * (crossX M e).2) : Thru (f, M) e.1 e.2 := by
  obtain ⟨m1, m2⟩ := sides_mem1 he
  have o1 := off _ m1
  have o2 := off _ m2
  obtain ⟨x2, hx⟩ := cross_at hM (goesBy_ne g hM)
  have hx := hx f
  rw [show (crossX M e).1 * f.2 - f.1 * (crossX M e).2 = 0 by omega, Int.mul_zero] at hx
  refine ⟨(Int.mul_eq_zero.mp hx).resolve_left (by omega), ?_⟩
  show (e.1.2 * M.2 < M.1 ∧ M.1 < e.2.2 * M.2) ∨ (e.2.2 * M.2 < M.1 ∧ M.1 < e.1.2 * M.2)
  unfold goesBy risesPast at g
  rw [Bool.or_eq_true, Bool.and_eq_true, Bool.and_eq_true, decide_eq_true_eq, decide_eq_true_eq, decide_eq_true_eq, decide_eq_true_eq] at g
  omega
/-- unlike in worth -/
def neq (x y : Fr) : Prop := x.1 * y.2 ≠ y.1 * x.2
def rawOf (M : Fr) (r : List Pt) : List Fr := ((sides r).filter (goesBy M)).map (crossX M)
theorem raw_mem {M x : Fr} {r : List Pt} (h : x ∈ rawOf M r) : ∃ e, e ∈ sides r ∧ goesBy M e = true ∧ x = crossX M e := by
  obtain ⟨e, he, rfl⟩ := List.mem_map.mp h
  obtain ⟨a, b⟩ := List.mem_filter.mp he
  exact ⟨e, a, b, rfl⟩
theorem StR.neq {r : List Pt} (st : StR r) {M : Fr} (hM : 0 < M.2) (off : OffH M r) : (rawOf M r).Pairwise neq := by
  unfold rawOf
  rw [List.pairwise_map, List.pairwise_filter, sides_map, List.pairwise_map]
  refine List.pairwise_lt_range.imp_of_mem fun {i j} hi hj lt g1 g2 eq => ?_
  have hi := List.mem_range.mp hi
  have hj := List.mem_range.mp hj
  have h0 : r ≠ [] := fun e => by rw [e] at hi; exact absurd hi (Nat.not_lt_zero _)
  have t1 := goes_thru (f := crossX M (cg r i, cg r (i + 1))) hM off (side_any h0 i) g1 rfl
  have t2 := goes_thru (f := crossX M (cg r i, cg r (i + 1))) hM off (side_any h0 j) g2 eq.symm
  have x2 := (cross_at hM (goesBy_ne g1 hM)).1
  have := st.once (p := (crossX M (cg r i, cg r (i + 1)), M)) x2 hM t2 t1
  rw [Int.emod_eq_of_lt (by omega) (by omega)] at this
  omega
theorem plate_neq {t : Rule} {m : Nat} {o : List Pt} {L : List (Int × List Pt)} {M : Fr} (hM : 0 < M.2) (fo : OutF t m o) (up : L.Pairwise (·.1 < ·.1)) (hL : ∀ e, e ∈ L → 1 ≤ e.1 ∧ e.1 < (m : Int) - 1 ∧ e.1 < 4 ∧ HoleF t e.1 e.2)
    (st : ∀ r, r ∈ o :: L.map (·.2) → StR r) (off : ∀ r, r ∈ o :: L.map (·.2) → OffH M r) : (crossRaw (o :: L.map (·.2)) M).Pairwise neq := by
  have e : crossRaw (o :: L.map (·.2)) M = (o :: L.map (·.2)).flatMap (rawOf M) := rfl
  rw [e, List.pairwise_flatMap]
  refine ⟨fun r hr => (st r hr).neq hM (off r hr), ?_⟩
  have inBox : ∀ g, g ∈ L → ∀ x, x ∈ rawOf M g.2 → ∀ f : Fr, 0 < f.2 → x.1 * f.2 = f.1 * x.2 → BoxP t g.1 (f, M) := fun g hg x hx f hf eq => by
    obtain ⟨s, hs, gs, rfl⟩ := raw_mem hx
    have th := goes_thru (f := f) hM (off g.2 (List.mem_cons_of_mem _ (List.mem_map.mpr ⟨g, hg, rfl⟩))) hs gs eq
    obtain ⟨m1, m2⟩ := sides_mem1 hs
    exact th.box hf hM ((hL g hg).2.2.2.bx _ m1) ((hL g hg).2.2.2.bx _ m2)
  have xpos : ∀ r x, x ∈ rawOf M r → 0 < x.2 := fun r x hx => by
    obtain ⟨s, hs, gs, rfl⟩ := raw_mem hx
    exact (cross_at hM (goesBy_ne gs hM)).1
  rw [List.pairwise_cons, List.pairwise_map]
  refine ⟨fun r hr x hx y hy eq => ?_, up.imp_of_mem fun {g h} hg hh lt x hx y hy eq => ?_⟩
  · obtain ⟨g, hg, rfl⟩ := List.mem_map.mp hr
    have bx := inBox g hg y hy x (xpos _ x hx) eq.symm
    have px := xpos _ x hx
    obtain ⟨s, hs, gs, rfl⟩ := raw_mem hx
    have th := goes_thru (f := crossX M s) hM (off o List.mem_cons_self) hs gs rfl
    exact th.beyond px hM (fo.by' s hs) (hL g hg).1 (hL g hg).2.1 bx
  · have px := xpos _ x hx
    exact (inBox g hg x hx x px rfl).two px hM (inBox h hh y hy x px eq.symm) lt
end G
set_option Elab.async false
set_option linter.all false
/-! A point inside: halfway between the first two places where the lowest strip's middle goes through the rings. -/
namespace G
theorem sorted_ex : ∀ l : List Int, ∃ ns : List Int, ns.Pairwise (· < ·) ∧ ∀ k, k ∈ ns ↔ k ∈ l
  | [] => ⟨[], .nil, fun _ => Iff.rfl⟩
  | x :: l => by
    obtain ⟨ns, hup, hm⟩ := sorted_ex l
    refine ⟨ns.filter (fun k => decide (k < x)) ++ x :: ns.filter (fun k => decide (x < k)), ?_, fun k => ?_⟩
    · rw [List.pairwise_append, List.pairwise_cons]
      refine ⟨hup.sublist List.filter_sublist, ⟨fun a ha => ?_, hup.sublist List.filter_sublist⟩, fun a ha b hb => ?_⟩
      · exact of_decide_eq_true (List.mem_filter.mp ha).2
      · have h1 : a < x := of_decide_eq_true (List.mem_filter.mp ha).2
        rcases List.mem_cons.mp hb with rfl | hb
        · exact h1
        · have h2 : x < b := of_decide_eq_true (List.mem_filter.mp hb).2
          omega
    · rw [List.mem_append, List.mem_cons, List.mem_filter, List.mem_filter, List.mem_cons, hm, decide_eq_true_eq, decide_eq_true_eq]
      constructor
      · rintro (⟨a, _⟩ | rfl | ⟨a, _⟩)
        · exact .inr a
        · exact .inl rfl
        · exact .inr a
      · rintro (rfl | a)
        · exact .inr (.inl rfl)
        · rcases Int.lt_trichotomy k x with z | z | z
          · exact .inl ⟨a, z⟩
          · exact .inr (.inl z)
          · exact .inr (.inr ⟨a, z⟩)
theorem ns_ex (cs : List Pt) : ∃ ns, NsOf cs ns := by
  obtain ⟨ns, hup, hm⟩ := sorted_ex (cs.map (·.2))
  refine ⟨ns, hup, fun k => ?_⟩
  rw [hm, List.mem_map]
theorem StR.ar {r : List Pt} (h : StR r) : ringArea r ≠ 0 := by
  obtain ⟨s, c, st, e | e⟩ := h.ex
  · have := st.arPos
    rw [e]
    omega
  · have := st.arPos
    rw [e, area_rev]
    omega
theorem StR.ne {r : List Pt} (h : StR r) : r ≠ [] := fun e => by
  have := h.ar
  rw [e] at this
  exact this rfl
/-- no ring lies at one height -/
theorem StR.steep {r : List Pt} (h : StR r) (y : Int) : ∃ v, v ∈ r ∧ v.2 ≠ y := by
  refine Classical.byContradiction fun z => h.ar ?_
  have flat : ∀ v, v ∈ r → v.2 = y := fun v hv => Classical.byContradiction fun w => z ⟨v, hv, w⟩
  unfold ringArea
  rw [← sum_cyc (fun v => - (y * v.1)) r]
  refine sum_congr fun e he => ?_
  obtain ⟨m1, m2⟩ := sides_mem1 he
  rw [flat _ m1, flat _ m2]
  show _ = - (y * e.2.1) - - (y * e.1.1)
  grind
theorem goes_up {M : Fr} {e : Pt × Pt} (o1 : e.1.2 * M.2 ≠ M.1) (o2 : e.2.2 * M.2 ≠ M.1) : up M e.2 - up M e.1 = b2 (goesBy M e = true) ∨ up M e.2 - up M e.1 = - b2 (goesBy M e = true) := by
  have g : goesBy M e = true ↔ (e.1.2 * M.2 ≤ M.1 ∧ M.1 < e.2.2 * M.2) ∨ (e.2.2 * M.2 ≤ M.1 ∧ M.1 < e.1.2 * M.2) := by
    unfold goesBy risesPast
    rw [Bool.or_eq_true, Bool.and_eq_true, Bool.and_eq_true, decide_eq_true_eq, decide_eq_true_eq, decide_eq_true_eq, decide_eq_true_eq]
  unfold up b2
  simp only [g]
  generalize e.1.2 * M.2 = a at *
  generalize e.2.2 * M.2 = b at *
  generalize M.1 = c at *
  split <;> split <;> split <;> omega
/-- a ring with corners on both sides of a height goes past it twice at least -/
theorem goes_two {M : Fr} {r : List Pt} (off : OffH M r) {v w : Pt} (hv : v ∈ r) (hw : w ∈ r) (lv : v.2 * M.2 < M.1) (lw : M.1 < w.2 * M.2) : 2 ≤ (sides r).countP (goesBy M) := by
  have h0 : r ≠ [] := fun e => by rw [e] at hv; cases hv
  have hl : ∀ e, e ∈ sides r → up M e.2 - up M e.1 = b2 (goesBy M e = true) ∨ up M e.2 - up M e.1 = - b2 (goesBy M e = true) := fun e he => by
    obtain ⟨m1, m2⟩ := sides_mem1 he
    exact goes_up (off _ m1) (off _ m2)
  have even : ((sides r).map fun e => up M e.2 - up M e.1).sum.natAbs ≤ (sides r).countP (goesBy M) ∧ (((sides r).map fun e => up M e.2 - up M e.1).sum - ((sides r).countP (goesBy M) : Nat)) % 2 = 0 := by
    generalize sides r = l at hl ⊢
    induction l with
    | nil => exact ⟨Nat.le_refl _, rfl⟩
    | cons e l ih =>
      obtain ⟨a, b⟩ := ih fun x hx => hl x (List.mem_cons_of_mem _ hx)
      have h := hl e List.mem_cons_self
      rw [List.map_cons, List.sum_cons, List.countP_cons]
      generalize (l.map fun e => up M e.2 - up M e.1).sum = S at *
      generalize up M e.2 - up M e.1 = x at *
      unfold b2 at h
      split at h <;> rename_i z
      · rw [if_pos z]; omega
      · rw [if_neg z]; omega
  rw [sum_cyc (up M) r] at even
  have some : (sides r).countP (goesBy M) ≠ 0 := fun z => by
    rw [List.countP_eq_zero] at z
    have step : ∀ i : Nat, up M (cg r i) = up M (cg r 0) := fun i => by
      induction i with
      | zero => rfl
      | succ i ih =>
        have m := side_any h0 (i : Int)
        have := hl _ m
        rw [b2_no (z _ m)] at this
        simp only at this
        rw [← ih, show ((i + 1 : Nat) : Int) = (i : Int) + 1 from rfl]
        omega
    obtain ⟨i, _, rfl⟩ := mem_cg hv
    obtain ⟨j, _, rfl⟩ := mem_cg hw
    have e := (step i).trans (step j).symm
    unfold up at e
    rw [b2_no (by omega), b2_yes lw] at e
    cases e
  omega
/-! ### counts -/
def ltB (f x : Fr) : Bool := decide (x.1 * f.2 < f.1 * x.2)
theorem raw_count (M f : Fr) (r : List Pt) : (sides r).countP (lf M f) = (rawOf M r).countP (ltB f) := by
  unfold rawOf
  rw [List.countP_map, List.countP_filter]
  refine List.countP_congr fun e _ => ?_
  unfold lf ltB
  rw [Bool.and_comm]
  rfl
theorem cross_cons (M : Fr) (r : List Pt) (rs : List (List Pt)) : crossRaw (r :: rs) M = rawOf M r ++ crossRaw rs M := rfl
theorem count_le {M : Fr} (q : Fr → Bool) : ∀ {rs : List (List Pt)} {r : List Pt}, r ∈ rs → (rawOf M r).countP q ≤ (crossRaw rs M).countP q
  | s :: rs, r, h => by
    rw [cross_cons, List.countP_append]
    rcases List.mem_cons.mp h with rfl | h
    · omega
    · have := count_le (M := M) q h
      omega
theorem count_some {M : Fr} (q : Fr → Bool) : ∀ {rs : List (List Pt)}, (crossRaw rs M).countP q ≠ 0 → ∃ r, r ∈ rs ∧ (rawOf M r).countP q ≠ 0
  | [], h => absurd rfl h
  | s :: rs, h => by
    by_cases z : (rawOf M s).countP q = 0
    · rw [cross_cons, List.countP_append, z, Nat.zero_add] at h
      obtain ⟨r, a, b⟩ := count_some (M := M) q (rs := rs) h
      exact ⟨r, List.mem_cons_of_mem _ a, b⟩
    · exact ⟨s, List.mem_cons_self, z⟩
/-- the half of two fractions lies between them -/
theorem half_between {p q : Fr} (hp : 0 < p.2) (hq : 0 < q.2) (lt : p.1 * q.2 < q.1 * p.2) : 0 < (fHalf (fPlus p q)).2 ∧ p.1 * (fHalf (fPlus p q)).2 < (fHalf (fPlus p q)).1 * p.2 ∧ (fHalf (fPlus p q)).1 * q.2 < q.1 * (fHalf (fPlus p q)).2 := by
  have pq : 0 < p.2 * q.2 := Int.mul_pos hp hq
  obtain ⟨s2, _, _, s1⟩ := mkFr_B (t := p.1 * q.2 + q.1 * p.2) (b := p.2 * q.2) (by omega)
  rw [show mkFr (p.1 * q.2 + q.1 * p.2) (p.2 * q.2) = fPlus p q from rfl] at s1 s2
  generalize fPlus p q = s at *
  obtain ⟨f2, _, _, f1⟩ := mkFr_B (t := s.1) (b := 2 * s.2) (by omega)
  rw [show mkFr s.1 (2 * s.2) = fHalf s from rfl] at f1 f2
  generalize fHalf s = f at *
  have key : 2 * (f.1 * (p.2 * q.2)) = (p.1 * q.2 + q.1 * p.2) * f.2 := by
    refine Int.eq_of_mul_eq_mul_left (Int.ne_of_gt s2) ?_
    have e1 : s.2 * (2 * (f.1 * (p.2 * q.2))) = (f.1 * (2 * s.2)) * (p.2 * q.2) := by grind
    have e2 : s.1 * f.2 * (p.2 * q.2) = (s.1 * (p.2 * q.2)) * f.2 := by grind
    rw [e1, f1, e2, s1]
    grind
  have m : p.1 * q.2 * f.2 < q.1 * p.2 * f.2 := Int.mul_lt_mul_of_pos_right lt f2
  rw [Int.add_mul] at key
  refine ⟨f2, ?_, ?_⟩
  · have e1 : q.2 * (p.1 * f.2) = p.1 * q.2 * f.2 := by grind
    have e2 : q.2 * (f.1 * p.2) = f.1 * (p.2 * q.2) := by grind
    exact Int.lt_of_mul_lt_mul_left (show q.2 * (p.1 * f.2) < q.2 * (f.1 * p.2) by omega) (Int.le_of_lt hq)
  · have e1 : p.2 * (f.1 * q.2) = f.1 * (p.2 * q.2) := by grind
    have e2 : p.2 * (q.1 * f.2) = q.1 * p.2 * f.2 := by grind
    exact Int.lt_of_mul_lt_mul_left (show p.2 * (f.1 * q.2) < p.2 * (q.1 * f.2) by omega) (Int.le_of_lt hp)
theorem lt_fle {f g h : Fr} (hf : 0 < f.2) (hg : 0 < g.2) (hh : 0 < h.2) (a : f.1 * g.2 < g.1 * f.2) (b : fle g h) : f.1 * h.2 < h.1 * f.2 := by
  unfold fle at b
  have h1 : f.1 * g.2 * h.2 < g.1 * f.2 * h.2 := Int.mul_lt_mul_of_pos_right a hh
  have h2 : g.1 * h.2 * f.2 ≤ h.1 * g.2 * f.2 := Int.mul_le_mul_of_nonneg_right b (Int.le_of_lt hf)
  have e1 : g.2 * (f.1 * h.2) = f.1 * g.2 * h.2 := by grind
  have e2 : g.2 * (h.1 * f.2) = h.1 * g.2 * f.2 := by grind
  have e3 : g.1 * f.2 * h.2 = g.1 * h.2 * f.2 := by grind
  exact Int.lt_of_mul_lt_mul_left (show g.2 * (f.1 * h.2) < g.2 * (h.1 * f.2) by omega) (Int.le_of_lt hg)
/-- what the first two of a row of unlike fractions are -/
theorem first_two {s : List Fr} (hs : ∀ f, f ∈ s → 0 < f.2) (hd : s.Pairwise neq) (h2 : 2 ≤ s.length) :
    ∃ p q ps, inOrder s = p :: q :: ps ∧ 0 < (fHalf (fPlus p q)).2 ∧ s.countP (ltB (fHalf (fPlus p q))) = 1 ∧ ∀ x, x ∈ s → x.1 * (fHalf (fPlus p q)).2 ≠ (fHalf (fPlus p q)).1 * x.2 := by
  obtain ⟨srt, perm⟩ := inOrder_ok hs
  have ln := perm.length_eq
  have hd := (perm.pairwise_iff (R := neq) (fun {x y} h e => h (by rw [e]))).mpr hd
  have hs' : ∀ f, f ∈ inOrder s → 0 < f.2 := fun f hf => hs f (perm.mem_iff.mp hf)
  have lift : ∀ p q ps, inOrder s = p :: q :: ps → ∃ p q ps, inOrder s = p :: q :: ps ∧ 0 < (fHalf (fPlus p q)).2 ∧ s.countP (ltB (fHalf (fPlus p q))) = 1 ∧ ∀ x, x ∈ s → x.1 * (fHalf (fPlus p q)).2 ≠ (fHalf (fPlus p q)).1 * x.2 := fun p q ps e => by
    refine ⟨p, q, ps, e, ?_⟩
    rw [e] at srt hd hs' perm
    obtain ⟨a1, a2⟩ := List.pairwise_cons.mp srt
    obtain ⟨a3, _⟩ := List.pairwise_cons.mp a2
    obtain ⟨d1, _⟩ := List.pairwise_cons.mp hd
    have hp := hs' p List.mem_cons_self
    have hq := hs' q (List.mem_cons_of_mem _ List.mem_cons_self)
    have lt : p.1 * q.2 < q.1 * p.2 := by
      have x1 := a1 q List.mem_cons_self
      have x2 := d1 q List.mem_cons_self
      unfold fle at x1
      unfold neq at x2
      omega
    obtain ⟨f2, b1, b2'⟩ := half_between hp hq lt
    generalize fHalf (fPlus p q) = f at *
    have big : ∀ x, x ∈ q :: ps → f.1 * x.2 < x.1 * f.2 := fun x hx => by
      rcases List.mem_cons.mp hx with rfl | hx
      · exact b2'
      · exact lt_fle f2 hq (hs' x (List.mem_cons_of_mem _ (List.mem_cons_of_mem _ hx))) b2' (a3 x hx)
    refine ⟨f2, ?_, fun x hx => ?_⟩
    · rw [← perm.countP_eq, List.countP_cons]
      have z : (q :: ps).countP (ltB f) = 0 := by
        rw [List.countP_eq_zero]
        intro x hx
        have := big x hx
        unfold ltB
        rw [decide_eq_true_eq]
        omega
      have y : ltB f p = true := decide_eq_true b1
      rw [z, if_pos y]
    · have hx := perm.mem_iff.mpr hx
      rcases List.mem_cons.mp hx with rfl | hx
      · omega
      · have := big x hx
        omega
  cases e : inOrder s with
  | nil =>
    rw [e] at ln
    have ln : 0 = s.length := ln
    omega
  | cons p l =>
    cases l with
    | nil =>
      rw [e] at ln
      have ln : 1 = s.length := ln
      omega
    | cons q ps =>
      obtain ⟨p', q', ps', e', r⟩ := lift p q ps e
      rw [e] at e'
      exact ⟨p', q', ps', e', r⟩
/-- the height amid -/
theorem amid {l h : Int} (lt : l < h) : 0 < (mkFr (l + h) 2).2 ∧ (∀ y : Int, y ≤ l → y * (mkFr (l + h) 2).2 < (mkFr (l + h) 2).1) ∧ ∀ y : Int, h ≤ y → (mkFr (l + h) 2).1 < y * (mkFr (l + h) 2).2 := by
  obtain ⟨b, _, _, e⟩ := mkFr_B (t := l + h) (b := 2) (by decide)
  generalize mkFr (l + h) 2 = M at *
  have m : l * M.2 < h * M.2 := Int.mul_lt_mul_of_pos_right lt b
  rw [Int.add_mul] at e
  refine ⟨b, fun y hy => ?_, fun y hy => ?_⟩
  · have := Int.mul_le_mul_of_nonneg_right hy (Int.le_of_lt b)
    omega
  · have := Int.mul_le_mul_of_nonneg_right hy (Int.le_of_lt b)
    omega
theorem side_off {M f : Fr} (hM : 0 < M.2) {r : List Pt} (off : OffH M r) (ne : ∀ x, x ∈ rawOf M r → x.1 * f.2 ≠ f.1 * x.2) : ringSide r (f, M) = if ringTurns r (f, M) = 0 then -1 else 1 := by
  have no : (sides r).any (fun e => isOn e.1 e.2 (f, M)) = false := by
    rw [List.any_eq_false]
    intro e he ho
    obtain ⟨m1, m2⟩ := sides_mem1 he
    have o1 := off _ m1
    have o2 := off _ m2
    unfold isOn isBetween at ho
    simp only [Bool.and_eq_true, decide_eq_true_eq] at ho
    obtain ⟨l0, _, y0, y1⟩ := ho
    have g : goesBy M e = true := by
      unfold goesBy risesPast
      rw [Bool.or_eq_true, Bool.and_eq_true, Bool.and_eq_true, decide_eq_true_eq, decide_eq_true_eq, decide_eq_true_eq, decide_eq_true_eq]
      unfold lo2 at y0
      unfold hi2 at y1
      split at y0 <;> split at y1 <;> omega
    obtain ⟨x2, hx⟩ := cross_at hM (goesBy_ne g hM)
    have hx := hx f
    rw [l0, Int.mul_zero] at hx
    have dy : (e.2.2 - e.1.2) * M.2 ≠ 0 := fun z => by
      rcases Int.mul_eq_zero.mp z with w | w
      · exact goesBy_ne g hM w
      · omega
    have := (Int.mul_eq_zero.mp hx.symm).resolve_left dy
    exact ne _ (List.mem_map.mpr ⟨e, List.mem_filter.mpr ⟨he, g⟩, rfl⟩) (by omega)
  unfold ringSide
  rw [no, if_neg Bool.false_ne_true]
theorem fold_one (p : FP) : ∀ (hs : List (List Pt)), (∀ h, h ∈ hs → ringSide h p = -1) → hs.foldl (fun f h => if f = 1 then lo2 f (-ringSide h p) else f) 1 = 1
  | [], _ => rfl
  | h :: hs, q => by
    rw [List.foldl_cons, q h List.mem_cons_self]
    exact fold_one p hs fun x hx => q x (List.mem_cons_of_mem _ hx)
/-- THE point inside -/
theorem PlF.inner {o : List Pt} {hs : List (List Pt)} (pf : PlF o hs) : InnerOk o hs := by
  obtain ⟨_, pb, str⟩ := pf.gp
  obtain ⟨t, m, L, ht, m0, m1, fo, hup, hL, rfl⟩ := pf.ex
  obtain ⟨ns, hn⟩ := ns_ex (o :: L.map (·.2)).flatten
  have memF : ∀ r, r ∈ o :: L.map (·.2) → ∀ v, v ∈ r → v.2 ∈ ns := fun r hr v hv => (hn.mem v.2).mpr ⟨v, List.mem_flatten.mpr ⟨r, hr, hv⟩, rfl⟩
  -- two heights at least
  obtain ⟨l, h, rest, rfl⟩ : ∃ l h rest, ns = l :: h :: rest := by
    have so := str o List.mem_cons_self
    have v0 := memF o List.mem_cons_self _ (cg_mem 0 so.ne)
    obtain ⟨v, hv, ne⟩ := so.steep (cg o 0).2
    have v1 := memF o List.mem_cons_self v hv
    match ns, v0, v1 with
    | [], v0, _ => cases v0
    | [a], v0, v1 => exact absurd ((List.mem_singleton.mp v1).trans (List.mem_singleton.mp v0).symm) ne
    | a :: b :: c, _, _ => exact ⟨a, b, c, rfl⟩
  obtain ⟨u1, u2⟩ := List.pairwise_cons.mp hn.up
  have lh := u1 h List.mem_cons_self
  have apart : ∀ y, y ∈ l :: h :: rest → y = l ∨ h ≤ y := fun y hy => by
    rcases List.mem_cons.mp hy with e | hy
    · exact .inl e
    · rcases List.mem_cons.mp hy with e | hy
      · exact .inr (by omega)
      · exact .inr (Int.le_of_lt ((List.pairwise_cons.mp u2).1 y hy))
  obtain ⟨hM, below, above⟩ := amid lh
  have HB := mid_B (pb.ns hn List.mem_cons_self) (pb.ns hn (List.mem_cons_of_mem _ List.mem_cons_self))
  have off : ∀ r, r ∈ o :: L.map (·.2) → OffH (mkFr (l + h) 2) r := fun r hr v hv e => by
    rcases apart _ (memF r hr v hv) with z | z
    · have := below v.2 (by omega)
      omega
    · have := above v.2 z
      omega
  have dist := plate_neq hM fo hup hL str off
  -- the ring of the lowest corner
  obtain ⟨v, hv, vl⟩ := (hn.mem l).mp List.mem_cons_self
  obtain ⟨r0, hr0, hv⟩ := List.mem_flatten.mp hv
  obtain ⟨w, hw, wl⟩ := (str r0 hr0).steep l
  have wh : h ≤ w.2 := (apart _ (memF r0 hr0 w hw)).resolve_left wl
  have two := goes_two (off r0 hr0) hv hw (below v.2 (by omega)) (above w.2 wh)
  have len : 2 ≤ (crossRaw (o :: L.map (·.2)) (mkFr (l + h) 2)).length := by
    have c := count_le (M := mkFr (l + h) 2) (fun _ => true) hr0
    rw [List.countP_true] at c
    have : (rawOf (mkFr (l + h) 2) r0).length = (sides r0).countP (goesBy (mkFr (l + h) 2)) := by
      unfold rawOf
      rw [List.length_map, List.countP_eq_length_filter]
    omega
  obtain ⟨p0, p1, ps, e0, f2, cnt, ne⟩ := first_two (fun x hx => (pb.raw HB hx).2.1) dist len
  refine ⟨l, h, rest, p0, p1, ps, hn, e0, ?_, ?_⟩
  · have c0 := pb.raw HB (at_B (rs := o :: L.map (·.2)) (f := p0) (by unfold crossAt; rw [e0]; exact List.mem_cons_self))
    have c1 := pb.raw HB (at_B (rs := o :: L.map (·.2)) (f := p1) (by unfold crossAt; rw [e0]; exact List.mem_cons_of_mem _ List.mem_cons_self))
    obtain ⟨b1, b2', b3, b4⟩ := HB
    have pos : 0 < p0.2 * p1.2 := Int.mul_pos c0.2.1 c1.2.1
    obtain ⟨s2, s3, s4, _⟩ := mkFr_B (t := p0.1 * p1.2 + p1.1 * p0.2) (b := p0.2 * p1.2) (by omega)
    rw [show mkFr (p0.1 * p1.2 + p1.1 * p0.2) (p0.2 * p1.2) = fPlus p0 p1 from rfl] at s2 s3 s4
    have n1 := mul_size (x := p0.1) (y := p1.2) (m := 2880000) (n := 1600) c0.1 (by omega)
    have n2 := mul_size (x := p1.1) (y := p0.2) (m := 2880000) (n := 1600) c1.1 (by omega)
    have n3 := mul_size (x := p0.2) (y := p1.2) (m := 1600) (n := 1600) (by omega) (by omega)
    generalize fPlus p0 p1 = s at *
    obtain ⟨h2, h3, h4, _⟩ := mkFr_B (t := s.1) (b := 2 * s.2) (by omega)
    rw [show mkFr s.1 (2 * s.2) = fHalf s from rfl] at h2 h3 h4
    constructor <;> simp only <;> omega
  · generalize mkFr (l + h) 2 = M at *
    generalize fHalf (fPlus p0 p1) = f at *
    have neR : ∀ r, r ∈ o :: L.map (·.2) → ∀ x, x ∈ rawOf M r → x.1 * f.2 ≠ f.1 * x.2 := fun r hr x hx => ne x (List.mem_flatMap.mpr ⟨r, hr, hx⟩)
    have turns : ∀ r, r ∈ o :: L.map (·.2) → (ringTurns r (f, M)).natAbs ≤ (rawOf M r).countP (ltB f) ∧ (ringTurns r (f, M) - ((rawOf M r).countP (ltB f) : Nat)) % 2 = 0 := fun r hr => by
      rw [← raw_count]
      exact turns_lf hM (off r hr) fun e he g => neR r hr _ (List.mem_map.mpr ⟨e, List.mem_filter.mpr ⟨he, g⟩, rfl⟩)
    have side : ∀ r, r ∈ o :: L.map (·.2) → ringSide r (f, M) = if ringTurns r (f, M) = 0 then -1 else 1 := fun r hr => side_off hM (off r hr) (neR r hr)
    rw [cross_cons, List.countP_append] at cnt
    have to' := turns o List.mem_cons_self
    by_cases z : (rawOf M o).countP (ltB f) = 0
    · -- it would lie in a hole and outside
      obtain ⟨r, hr, rc⟩ := count_some (ltB f) (rs := L.map (·.2)) (M := M) (by omega)
      have le := count_le (M := M) (ltB f) hr
      have tr := turns r (List.mem_cons_of_mem _ hr)
      have w := ring_w (r := r) (p := (f, M)) f2 hM
      obtain ⟨g, hg, rfl⟩ := List.mem_map.mp hr
      obtain ⟨k0, k1, _, hf⟩ := hL g hg
      have bx := box_outside hf.bx (p := (f, M)) f2 hM (d := (1, 0)) (by decide) (by omega)
      have ins := (box_inside ht fo.st fo.by' m0 k0 k1 (p := (f, M)) f2 hM bx (d := (1, 0)) (by decide)).2
      have wo := ring_w (r := o) (p := (f, M)) f2 hM
      omega
    · unfold sideOf
      rw [side o List.mem_cons_self, if_neg (by omega)]
      refine fold_one _ _ fun r hr => ?_
      have le := count_le (M := M) (ltB f) hr
      have tr := turns r (List.mem_cons_of_mem _ hr)
      rw [side r (List.mem_cons_of_mem _ hr), if_pos (by omega)]
/-- what the mathematics gives of a drawn plate -/
theorem plate_facts (o : List Pt) (hs : List (List Pt)) (h : PlateBase o hs) : Facts o hs := by
  obtain ⟨gp, pb, st⟩ := h.pf.gp
  exact ⟨gp, pb, fun p hp => right_pre pb st hp, h.pf.inner⟩
end G
set_option Elab.async false
set_option linter.all false
set_option maxRecDepth 100000
namespace G
open PySem PySem.Spec L2
open PyProof.Rows (envOfC)
section
variable {P : Program} {w : World} {K : PySem.W.Frag} {mg : Str → Option Value} {base : Heap} {C : Addr} {h : Heap}
theorem defAt_mk {name : Str} {f : Addr} {od an : Option Addr} {sl : Array (Option Value)} {oc kV dc pm cd ct : Value} {st : Stmt} {ps : List Str} (X : K.In h) (G : h.Ns mainGlobals mg) (a : PySem.W.nsIn K mainGlobals name = some (some (.ref f)))
    (l : K.lookup f = some ⟨oc, od, .func (PySem.W.fnOf name name (defArgs st) (defBody st) (defScope st) .none kV dc pm an cd ct), sl⟩) (c : PySem.W.codeIn K cd name = true) (k : PySem.W.keepIn K (.ref f) = true)
    (b : ∀ (kV doc pm : Value) (an : Option Addr) (cdv ct : Value) (us : List Value), us.length = ps.length → bindArgs (PySem.W.fnOf name name (defArgs st) (defBody st) (defScope st) .none kV doc pm an cdv ct) ⟨us, []⟩ = pure (ps.zip us)) : DefAt K mg name ps st :=
  ⟨⟨f, _, fun_mk l c k, PySem.W.mg_of X G a, (fun_mk l c k).binds b⟩⟩
/-- .. handed on -/
theorem def_then {goal : Prop} {name : Str} {f : Addr} {od an : Option Addr} {sl : Array (Option Value)} {oc kV dc pm cd ct : Value} {st : Stmt} {ps : List Str} (X : K.In h) (G : h.Ns mainGlobals mg) (a : PySem.W.nsIn K mainGlobals name = some (some (.ref f)))
    (l : K.lookup f = some ⟨oc, od, .func (PySem.W.fnOf name name (defArgs st) (defBody st) (defScope st) .none kV dc pm an cd ct), sl⟩) (c : PySem.W.codeIn K cd name = true) (k : PySem.W.keepIn K (.ref f) = true)
    (b : ∀ (kV doc pm : Value) (an : Option Addr) (cdv ct : Value) (us : List Value), us.length = ps.length → bindArgs (PySem.W.fnOf name name (defArgs st) (defBody st) (defScope st) .none kV doc pm an cdv ct) ⟨us, []⟩ = pure (ps.zip us)) (fin : DefAt K mg name ps st → goal) : goal :=
  fin (defAt_mk X G a l c k b)
/-- .. called by keywords -/
structure KwAt (K : PySem.W.Frag) (mg : Str → Option Value) (name : Str) (ps ks : List Str) : Prop where
  ex : ∀ f fd, mg name = some (.ref f) → (∃ oc od osl, K.lookup f = some ⟨oc, od, .func fd, osl⟩) → KBn K fd ps 0 ks (fun _ ws => ws.reverse) (fun _ zs => zs.reverse) ∧ ps.length = ks.length
theorem kwAt_mk {name : Str} {f : Addr} {od an : Option Addr} {sl : Array (Option Value)} {oc kV dc pm cd ct : Value} {st : Stmt} {ps ks : List Str} (X : K.In h) (G : h.Ns mainGlobals mg) (a : PySem.W.nsIn K mainGlobals name = some (some (.ref f)))
    (l : K.lookup f = some ⟨oc, od, .func (PySem.W.fnOf name name (defArgs st) (defBody st) (defScope st) .none kV dc pm an cd ct), sl⟩) (e : ps.length = ks.length)
    (b : ∀ ws : List Value, ws.length = ks.length → bindArgs (PySem.W.fnOf name name (defArgs st) (defBody st) (defScope st) .none kV dc pm an cd ct) ⟨[], ks.zip ws⟩ = pure (ps.zip ws.reverse)) : KwAt K mg name ps ks := by
  refine ⟨fun g fd hg hl => ?_⟩
  have e1 := hg.symm.trans (PySem.W.mg_of X G a)
  cases e1
  obtain ⟨oc', od', osl', hl⟩ := hl
  have e2 := hl.symm.trans l
  cases e2
  refine ⟨⟨fun s us ws _ h0 h1 => ?_, fun _ r => r.reverse⟩, e⟩
  have : us = [] := List.length_eq_zero_iff.mp h0
  subst this
  exact .of_eq (b ws h1)
theorem kw_then {goal : Prop} {name : Str} {f : Addr} {od an : Option Addr} {sl : Array (Option Value)} {oc kV dc pm cd ct : Value} {st : Stmt} {ps ks : List Str} (X : K.In h) (G : h.Ns mainGlobals mg) (a : PySem.W.nsIn K mainGlobals name = some (some (.ref f)))
    (l : K.lookup f = some ⟨oc, od, .func (PySem.W.fnOf name name (defArgs st) (defBody st) (defScope st) .none kV dc pm an cd ct), sl⟩) (e : ps.length = ks.length)
    (b : ∀ ws : List Value, ws.length = ks.length → bindArgs (PySem.W.fnOf name name (defArgs st) (defBody st) (defScope st) .none kV dc pm an cd ct) ⟨[], ks.zip ws⟩ = pure (ps.zip ws.reverse)) (fin : KwAt K mg name ps ks → goal) : goal :=
  fin (kwAt_mk X G a l e b)
theorem none_then {goal : Prop} {name : Str} (X : K.In h) (G : h.Ns mainGlobals mg) (z : PySem.W.nsIn K mainGlobals name = some none) (fin : mg name = none → goal) : goal :=
  fin (PySem.W.mg_none_of X G z)
end
end G
namespace G
open PySem PySem.Spec L2
open PyProof.Rows (envOfC)
section
variable {P : Program} {w : World} {K : PySem.W.Frag} {mg : Str → Option Value} {base : Heap} {C : Addr} {h : Heap}
theorem init_ok_at {k : Nat} {fI : Addr} {fdI : FuncData} (T : PlateCls K C) (M : Mk K C fI) (FI : Fun K "__init__" "Plate.__init__" s_init fI fdI) (bI : Binds K fdI ["self", "outer", "holes"] [])
    (hb : ∀ (f : Addr) (cdv : Value) (A : Around) (outer : List PySem.Env) (s : Shared) (H : Hp) (E : XK), Room k (A.deeper (envOfC "Plate.__init__" (defScope s_init) s.heap.objs.size f cdv)) → PSs (cxOf CX0 P w K mg base n_init "Plate.__init__" (defScope s_init) f cdv A outer s H E).nox (defBody s_init) (t_init K C)) : InitAt P w K mg base C (k + 1) R_init := by
  refine ⟨fI, fdI, M, FI.ok sc_init (fun vs H Q E pr => ?_) (fun cdv A outer s H vs Q E hr pr => ?_), bI⟩
  · obtain ⟨S, H0, x, dx, v, u, o, q, rfl, _⟩ := pr
    rfl
  · obtain ⟨S, H0, x, dx, v, u, o, q, rfl, rfl, hx, hdx, ne, wf, hv, hu, ⟨r, hs, rfl, rfl, gp⟩, fin⟩ := pr
    refine ⟨t_init K C, hb fI cdv A outer s _ E hr, ?_⟩
    exact init_run (W := ⟨K, C, none⟩) (σ := []) (n := 2) rfl T rfl rfl wf hx hdx ne hv hu (wk_init gp) fin
theorem law_fn {k : Nat} {fl : Addr} {fdl : FuncData} (T : PlateCls K C) (FL : Fun K "law" "law" s_law fl fdl) (facts : ∀ o hs, PlateBase o hs → Facts o hs)
    (hb : ∀ (f : Addr) (cdv : Value) (A : Around) (outer : List PySem.Env) (s : Shared) (H : Hp) (E : XK), Room k (A.deeper (envOfC "law" (defScope s_law) s.heap.objs.size f cdv)) → (A.deeper (envOfC "law" (defScope s_law) s.heap.objs.size f cdv)).guards = some [] → PSs (cxOf CX0 P w K mg base n_law "law" (defScope s_law) f cdv A outer s H E).nox (defBody s_law) (t_law K C)) : FnG P w K mg base (k + 1) fl fdl ["_law_script"] (spLaw K) := by
  obtain ⟨⟨oc, od, kV, doc, pm, an, cdv, ct, osl, rfl, lk, hcd⟩, kp⟩ := FL
  refine fnG_of lk hcd sc_law (fun vs H Q E pr => ?_) (fun A outer s H vs Q E gd hr pr => ?_)
  · obtain ⟨a, ns, rfl, _⟩ := pr
    rfl
  · obtain ⟨a, ns, rfl, hS, q⟩ := pr
    refine ⟨t_law K C, (hb fl cdv A outer s H E hr gd).nox, ?_⟩
    have hd : Dt K C H (.ref a) (.scr (ns.map .int)) := by
      refine .scr (xs := ns.map V.int) (fun H' e => sqL_up hS e) ?_
      clear hS
      induction ns with
      | nil => exact .nil
      | cons n ns ih => exact .cons (.int n) ih
    refine ⟨.ref a, rfl, ?_⟩
    refine ⟨H, a, ns.map V.int, ns, 12, rfl, ⟨Evl.Ex.refl H, fun _ z => nomatch z⟩, hd, by decide, by decide, fun p S' H' e wf => ?_⟩
    have hd' : Dt K C S' (.ref a) (.scr (ns.map .int)) := hd.mono e.ss
    have a0 : At ⟨K, C, some p⟩ S' H' S' H' ((L2.start n_law [.ref a]).set 1 (some (.ref p.1))) 0 ⟨[.dat (.scr (ns.map .int)), .deal, .un, .un, .un, .un, .un, .un, .un], none⟩ := by
      refine ⟨.refl wf, ⟨wf, ?_, fun _ z => nomatch z⟩, fun z => absurd rfl z⟩
      exact .cons hd' (.cons ⟨p, rfl, rfl⟩ (.cons trivial (.cons trivial (.cons trivial (.cons trivial (.cons trivial (.cons trivial (.cons trivial .nil))))))))
    exact wk_law T facts S' H' S' H' _ 0 a0 _ ⟨fun _ _ _ _ _ _ z => z.elim, fun S1 H1 v d e1 hv hd => by subst hd; rw [dt_bl hv]; exact q H1, fun _ _ _ _ _ _ z => z.elim, fun _ _ _ _ _ _ z => z.elim⟩
theorem ln_l_point_right : ∀ ds Q, R_l_point_right ds Q → ds.length + 1 = 4 := fun ds Q ⟨_, _, _, e, _⟩ => by rw [e]; rfl
theorem KwAt.cal {name : Str} {k : Nat} {ps ks : List Str} {sp : Sp} (N : KwAt K mg name ps ks) (c : Cal P w K mg base name k ps sp) : CalK P w K mg base name k ps ks sp := by
  obtain ⟨f, fd, F, hm, hk, hb, hl⟩ := c.ex
  obtain ⟨kb, e⟩ := N.ex f fd hm hl
  exact ⟨f, fd, F, hm, hk, kb, e⟩
end
end G
namespace G
open PySem PySem.Spec L2
theorem head_mk {P : Program} {w : World} {K : PySem.W.Frag} {mg : Str → Option Value} {C fI fl fa : Addr} {h : Heap} {odI anI odL anL : Option Addr} {slI slL : Array (Option Value)} {ocI kVI dcI pmI cdI ctI ocL kVL dcL pmL cdL ctL : Value} {t1 t2 : Tok} {k : Nat}
    (X : K.In h) (G : h.Ns mainGlobals mg) (hfa : mg "law" = some (.ref fa)) (aC : PySem.W.nsIn K mainGlobals "Plate" = some (some (.ref C)))
    (a1 : PySem.W.findIn K (.ref C) "__init__" = some (some (.ref fI))) (i1 : PySem.W.isFn K (.ref fI) = true) (lI : K.lookup fI = some ⟨ocI, odI, .func (PySem.W.fnOf "__init__" "Plate.__init__" (defArgs s_init) (defBody s_init) (defScope s_init) .none kVI dcI pmI anI cdI ctI), slI⟩) (cI : PySem.W.codeIn K cdI "Plate.__init__" = true) (kI : PySem.W.keepIn K (.ref fI) = true)
    (pg : PySem.W.plainGet K C Str.empty = true) (hd : PySem.W.hasDictIn K C = true) (po : PySem.W.plainOver K C = true) (sa : PySem.W.findIn K (.ref C) "__setattr__" = some (some (.builtin "object.__setattr__"))) (mk : PySem.W.makesIn K C = true) (kc : PySem.W.keepIn K (.ref C) = true)
    (nO : PySem.W.findIn K (.ref C) "outer" = some none) (nH : PySem.W.findIn K (.ref C) "holes" = some none)
    (aL : PySem.W.nsIn K mainGlobals "law" = some (some (.ref fl))) (lL : K.lookup fl = some ⟨ocL, odL, .func (PySem.W.fnOf "law" "law" (defArgs s_law) (defBody s_law) (defScope s_law) .none kVL dcL pmL anL cdL ctL), slL⟩) (cL : PySem.W.codeIn K cdL "law" = true) (kL : PySem.W.keepIn K (.ref fl) = true)
    (ag : PySem.W.nsIn K mainGlobals "gcd" = some (some (.builtin "math.gcd"))) (af : PySem.W.nsIn K mainGlobals "FARTHEST" = some (some (.int 1000 t1))) (aw : PySem.W.nsIn K mainGlobals "FEWEST" = some (some (.int 3 t2)))
    (fin : ∀ (T : PlateCls K C) (M : Mk K C fI) (FI : Fun K "__init__" "Plate.__init__" s_init fI (PySem.W.fnOf "__init__" "Plate.__init__" (defArgs s_init) (defBody s_init) (defScope s_init) .none kVI dcI pmI anI cdI ctI)) (bI : Binds K (PySem.W.fnOf "__init__" "Plate.__init__" (defArgs s_init) (defBody s_init) (defScope s_init) .none kVI dcI pmI anI cdI ctI) ["self", "outer", "holes"] [])
      (FL : Fun K "law" "law" s_law fl (PySem.W.fnOf "law" "law" (defArgs s_law) (defBody s_law) (defScope s_law) .none kVL dcL pmL anL cdL ctL)) (mg1 : mg "gcd" = some (.builtin "math.gcd")) (mg2 : mg "FARTHEST" = some (.int 1000 t1)) (mg3 : mg "FEWEST" = some (.int 3 t2)) (mg4 : mg "Plate" = some (.ref C)) (base : Heap),
      FnG P w K mg base k fl (PySem.W.fnOf "law" "law" (defArgs s_law) (defBody s_law) (defScope s_law) .none kVL dcL pmL anL cdL ctL) ["_law_script"] (spLaw K)) :
    ∃ fd : FuncData, (∀ (s : Shared) (u : Value), BindsTo s fd ⟨[u], []⟩ [("_law_script", u)]) ∧ ∀ base : Heap, K.In base → base.Ns mainGlobals mg → FnG P w K mg base k fa fd ["_law_script"] (spLaw K) := by
  have e := hfa.symm.trans (PySem.W.mg_of X G aL)
  cases e
  have FI := fun_mk (st := s_init) lI cI kI
  have bI := FI.binds (ps := ["self", "outer", "holes"]) fun _ _ _ _ _ _ us hl => match us, hl with | [_, _, _], _ => rfl
  exact ⟨_, fun s v => .of_eq rfl, fun base _ _ => fin ⟨⟨pg, hd, po, sa⟩, nO, nH⟩ ⟨mk, a1, i1, kc⟩ FI bI (fun_mk (st := s_law) lL cL kL) (PySem.W.mg_of X G ag) (PySem.W.mg_of X G af) (PySem.W.mg_of X G aw) (PySem.W.mg_of X G aC) base⟩
end G
namespace G
open PySem PySem.Spec L2
section
variable {P : Program} {w : World} {K : PySem.W.Frag} {mg : Str → Option Value} {base : Heap} {C fI fl : Addr} {fdI fdl : FuncData} {t1 t2 : Tok}
set_option maxHeartbeats 2000000 in
theorem law_all (facts : ∀ o hs, PlateBase o hs → Facts o hs) (T : PlateCls K C) (M : Mk K C fI) (FI : Fun K "__init__" "Plate.__init__" s_init fI fdI) (bI : Binds K fdI ["self", "outer", "holes"] []) (FL : Fun K "law" "law" s_law fl fdl)
    (D_is_integer : DefAt K mg "is_integer" ["value"] s_is_integer)
    (D_is_tuple_of : DefAt K mg "is_tuple_of" ["value", "size"] s_is_tuple_of)
    (D_fraction : DefAt K mg "fraction" ["top", "bottom"] s_fraction)
    (D_whole : DefAt K mg "whole" ["number"] s_whole)
    (D_plus : DefAt K mg "plus" ["one", "other"] s_plus)
    (D_minus : DefAt K mg "minus" ["one", "other"] s_minus)
    (D_times : DefAt K mg "times" ["one", "other"] s_times)
    (D_half : DefAt K mg "half" ["one"] s_half)
    (D_compared : DefAt K mg "compared" ["one", "other"] s_compared)
    (D_point_at : DefAt K mg "point_at" ["x", "y"] s_point_at)
    (D_whole_area : DefAt K mg "whole_area" ["a", "b", "c"] s_whole_area)
    (D_whole_turn : DefAt K mg "whole_turn" ["a", "b", "c"] s_whole_turn)
    (D_whole_on : DefAt K mg "whole_on" ["a", "b", "p"] s_whole_on)
    (D_whole_crosses : DefAt K mg "whole_crosses" ["a", "b", "c", "d"] s_whole_crosses)
    (D_is_corner : DefAt K mg "is_corner" ["value"] s_is_corner)
    (D_ring_sides : DefAt K mg "ring_sides" ["ring"] s_ring_sides)
    (D_sides_meet : DefAt K mg "sides_meet" ["one", "other"] s_sides_meet)
    (D_turns_back : DefAt K mg "turns_back" ["a", "b", "c"] s_turns_back)
    (D_crosses_itself : DefAt K mg "crosses_itself" ["ring"] s_crosses_itself)
    (D_ring_fault : DefAt K mg "ring_fault" ["value"] s_ring_fault)
    (D_need_ring : DefAt K mg "need_ring" ["value"] s_need_ring)
    (D_is_ring : DefAt K mg "is_ring" ["value"] s_is_ring)
    (D_ring_area : DefAt K mg "ring_area" ["ring"] s_ring_area)
    (D_goes_round : DefAt K mg "goes_round" ["ring", "corner"] s_goes_round)
    (D_rings_meet : DefAt K mg "rings_meet" ["one", "other"] s_rings_meet)
    (D_is_hole : DefAt K mg "is_hole" ["value", "outer", "ahead"] s_is_hole)
    (D_all_rings : DefAt K mg "all_rings" ["plate"] s_all_rings)
    (D_corners_of : DefAt K mg "corners_of" ["plate"] s_corners_of)
    (D_rings_of : DefAt K mg "rings_of" ["plate"] s_rings_of)
    (D_sides_of : DefAt K mg "sides_of" ["plate"] s_sides_of)
    (D_left_by : DefAt K mg "left_by" ["a", "b", "point"] s_left_by)
    (D_is_between : DefAt K mg "is_between" ["one", "other", "worth"] s_is_between)
    (D_is_on : DefAt K mg "is_on" ["a", "b", "point"] s_is_on)
    (D_rises_past : DefAt K mg "rises_past" ["a", "b", "height"] s_rises_past)
    (D_ring_turns : DefAt K mg "ring_turns" ["ring", "point"] s_ring_turns)
    (D_ring_side : DefAt K mg "ring_side" ["ring", "point"] s_ring_side)
    (D_side_of : DefAt K mg "side_of" ["plate", "point"] s_side_of)
    (D_where_in : DefAt K mg "where_in" ["plate", "point"] s_where_in)
    (D_in_order : DefAt K mg "in_order" ["some"] s_in_order)
    (D_crossings_at : DefAt K mg "crossings_at" ["plate", "height"] s_crossings_at)
    (D_strips : DefAt K mg "strips" ["plate"] s_strips)
    (D_inner_point : DefAt K mg "inner_point" ["plate"] s_inner_point)
    (D_l_deal : DefAt K mg "_law_deal" ["_law_script", "_law_base"] s_l_deal)
    (D_l_any : DefAt K mg "_law_any" ["_law_deal_here", "_law_bound"] s_l_any)
    (D_l_of : DefAt K mg "_law_of" ["_law_deal_here", "_law_some"] s_l_of)
    (D_l_star : DefAt K mg "_law_star" ["_law_deal_here", "_law_centre", "_law_most", "_law_each"] s_l_star)
    (D_l_wave : DefAt K mg "_law_wave" ["_law_deal_here", "_law_many"] s_l_wave)
    (D_l_more : DefAt K mg "_law_more" ["_law_deal_here", "_law_ring_here"] s_l_more)
    (D_l_map : DefAt K mg "_law_map" ["_law_deal_here"] s_l_map)
    (D_l_put : DefAt K mg "_law_put" ["_law_ring_here", "_law_rule"] s_l_put)
    (D_l_rings : DefAt K mg "_law_rings" ["_law_deal_here", "_law_most"] s_l_rings)
    (D_l_scaled : DefAt K mg "_law_scaled" ["_law_ring_here", "_law_point_here"] s_l_scaled)
    (D_l_on : DefAt K mg "_law_on" ["_law_ring_here", "_law_spot"] s_l_on)
    (D_l_crossed : DefAt K mg "_law_crossed" ["_law_ring_here", "_law_spot", "_law_way"] s_l_crossed)
    (D_l_ring_side : DefAt K mg "_law_ring_side" ["_law_deal_here", "_law_ring_here", "_law_point_here"] s_l_ring_side)
    (D_l_side : DefAt K mg "_law_side" ["_law_deal_here", "_law_plate", "_law_point_here"] s_l_side)
    (D_l_frac : DefAt K mg "_law_frac" ["_law_top", "_law_bottom"] s_l_frac)
    (D_l_point : DefAt K mg "_law_point" ["_law_deal_here", "_law_corners"] s_l_point)
    (D_l_where : DefAt K mg "_law_where" ["_law_plate", "_law_corners", "_law_point_here", "_law_side_here"] s_l_where)
    (D_l_point_right : DefAt K mg "_law_point_right" ["_law_deal_here", "_law_plate", "_law_rings_here", "_law_point_here"] s_l_point_right)
    (N_side_of : KwAt K mg "side_of" ["plate", "point"] ["point", "plate"])
    (N_where_in : KwAt K mg "where_in" ["plate", "point"] ["point", "plate"])
    (N_ring_side : KwAt K mg "ring_side" ["ring", "point"] ["point", "ring"])
    (N_ring_turns : KwAt K mg "ring_turns" ["ring", "point"] ["point", "ring"])
    (N_inner_point : KwAt K mg "inner_point" ["plate"] ["plate"])
    (m_abs : mg "abs" = none)
    (m_any : mg "any" = none)
    (m_bool : mg "bool" = none)
    (m_enumerate : mg "enumerate" = none)
    (m_int : mg "int" = none)
    (m_isinstance : mg "isinstance" = none)
    (m_len : mg "len" = none)
    (m_max : mg "max" = none)
    (m_min : mg "min" = none)
    (m_range : mg "range" = none)
    (m_repr : mg "repr" = none)
    (m_sorted : mg "sorted" = none)
    (m_sum : mg "sum" = none)
    (m_tuple : mg "tuple" = none)
    (m_zip : mg "zip" = none)
    (m_gcd : mg "gcd" = some (.builtin "math.gcd")) (m_FARTHEST : mg "FARTHEST" = some (.int 1000 t1)) (m_FEWEST : mg "FEWEST" = some (.int 3 t2)) (m_Plate : mg "Plate" = some (.ref C)) : FnG P w K mg base 11 fl fdl ["_law_script"] (spLaw K) := by
  have c_is_integer := ok_is_integer (P := P) (w := w) (base := base) (C := C) m_int m_isinstance m_bool D_is_integer
  have c_is_tuple_of := ok_is_tuple_of (P := P) (w := w) (base := base) (C := C) m_tuple m_isinstance m_len D_is_tuple_of
  have c_fraction := ok_fraction (P := P) (w := w) (base := base) (C := C) m_gcd D_fraction
  have c_whole := ok_whole (P := P) (w := w) (base := base) (C := C)  D_whole
  have c_plus := ok_plus (P := P) (w := w) (base := base) (C := C) c_fraction D_plus
  have c_minus := ok_minus (P := P) (w := w) (base := base) (C := C) c_fraction D_minus
  have c_times := ok_times (P := P) (w := w) (base := base) (C := C) c_fraction D_times
  have c_half := ok_half (P := P) (w := w) (base := base) (C := C) c_fraction D_half
  have c_compared := ok_compared (P := P) (w := w) (base := base) (C := C)  D_compared
  have c_point_at := ok_point_at (P := P) (w := w) (base := base) (C := C)  D_point_at
  have c_whole_area := ok_whole_area (P := P) (w := w) (base := base) (C := C)  D_whole_area
  have c_whole_turn := ok_whole_turn (P := P) (w := w) (base := base) (C := C) c_whole_area D_whole_turn
  have c_whole_on := ok_whole_on (P := P) (w := w) (base := base) (C := C) c_whole_area D_whole_on
  have c_whole_crosses := ok_whole_crosses (P := P) (w := w) (base := base) (C := C) c_whole_turn D_whole_crosses
  have c_is_corner := ok_is_corner (P := P) (w := w) (base := base) (C := C) c_is_tuple_of c_is_integer m_abs m_FARTHEST D_is_corner
  have c_ring_sides := ok_ring_sides (P := P) (w := w) (base := base) (C := C) m_len m_range m_tuple D_ring_sides
  have c_sides_meet := ok_sides_meet (P := P) (w := w) (base := base) (C := C) c_whole_crosses c_whole_on D_sides_meet
  have c_turns_back := ok_turns_back (P := P) (w := w) (base := base) (C := C) c_whole_area c_whole_on D_turns_back
  have c_crosses_itself := ok_crosses_itself (P := P) (w := w) (base := base) (C := C) c_ring_sides c_turns_back c_sides_meet m_len m_range D_crosses_itself
  have c_ring_fault := ok_ring_fault (P := P) (w := w) (base := base) (C := C) c_is_corner c_crosses_itself m_tuple m_isinstance m_len m_FEWEST m_enumerate D_ring_fault
  have c_need_ring := ok_need_ring (P := P) (w := w) (base := base) (C := C) c_ring_fault D_need_ring
  have c_is_ring := ok_is_ring (P := P) (w := w) (base := base) (C := C) c_ring_fault D_is_ring
  have c_ring_area := ok_ring_area (P := P) (w := w) (base := base) (C := C) c_ring_sides m_sum D_ring_area
  have c_goes_round := ok_goes_round (P := P) (w := w) (base := base) (C := C) c_ring_sides c_whole_area D_goes_round
  have c_rings_meet := ok_rings_meet (P := P) (w := w) (base := base) (C := C) c_ring_sides c_sides_meet m_any D_rings_meet
  have c_is_hole := ok_is_hole (P := P) (w := w) (base := base) (C := C) c_is_ring c_ring_area c_rings_meet c_goes_round D_is_hole
  have c_init : InitAt P w K mg base C 9 R_init := init_ok_at T M FI bI (fun f cdv A outer s H E hr => bd_init c_need_ring c_ring_area c_is_hole m_tuple m_isinstance m_enumerate hr)
  have c_all_rings := ok_all_rings (P := P) (w := w) (base := base) (C := C) T  D_all_rings
  have c_corners_of := ok_corners_of (P := P) (w := w) (base := base) (C := C) c_all_rings m_tuple D_corners_of
  have c_rings_of := ok_rings_of (P := P) (w := w) (base := base) (C := C) c_all_rings m_len m_tuple m_range D_rings_of
  have c_sides_of := ok_sides_of (P := P) (w := w) (base := base) (C := C) c_rings_of m_tuple D_sides_of
  have c_left_by := ok_left_by (P := P) (w := w) (base := base) (C := C)  D_left_by
  have c_is_between := ok_is_between (P := P) (w := w) (base := base) (C := C) m_min m_max D_is_between
  have c_is_on := ok_is_on (P := P) (w := w) (base := base) (C := C) c_left_by c_is_between D_is_on
  have c_rises_past := ok_rises_past (P := P) (w := w) (base := base) (C := C)  D_rises_past
  have c_ring_turns := ok_ring_turns (P := P) (w := w) (base := base) (C := C) c_ring_sides c_rises_past c_left_by D_ring_turns
  have k_ring_turns := N_ring_turns.cal c_ring_turns
  have c_ring_side := ok_ring_side (P := P) (w := w) (base := base) (C := C) c_ring_sides c_is_on c_ring_turns m_any D_ring_side
  have k_ring_side := N_ring_side.cal c_ring_side
  have c_side_of := ok_side_of (P := P) (w := w) (base := base) (C := C) T c_ring_side m_min D_side_of
  have k_side_of := N_side_of.cal c_side_of
  have c_where_in := ok_where_in (P := P) (w := w) (base := base) (C := C) c_corners_of c_point_at c_sides_of c_is_on c_side_of m_enumerate D_where_in
  have k_where_in := N_where_in.cal c_where_in
  have c_in_order := ok_in_order (P := P) (w := w) (base := base) (C := C) c_compared m_len m_tuple D_in_order
  have c_crossings_at := ok_crossings_at (P := P) (w := w) (base := base) (C := C) c_all_rings c_ring_sides c_rises_past c_times c_minus c_whole c_fraction c_plus c_in_order D_crossings_at
  have c_strips := ok_strips (P := P) (w := w) (base := base) (C := C) c_corners_of c_crossings_at c_fraction m_sorted m_zip m_tuple D_strips
  have c_inner_point := ok_inner_point (P := P) (w := w) (base := base) (C := C) c_strips c_half c_plus c_fraction D_inner_point
  have k_inner_point := N_inner_point.cal c_inner_point
  have c_l_deal := ok_l_deal (P := P) (w := w) (base := base) (C := C) m_int m_abs D_l_deal
  have c_l_any := ok_l_any (P := P) (w := w) (base := base) (C := C) m_int D_l_any
  have c_l_of := ok_l_of (P := P) (w := w) (base := base) (C := C) c_l_any m_len D_l_of
  have c_l_star := ok_l_star (P := P) (w := w) (base := base) (C := C) c_l_any m_range m_tuple D_l_star
  have c_l_wave := ok_l_wave (P := P) (w := w) (base := base) (C := C) c_l_any m_range m_tuple D_l_wave
  have c_l_more := ok_l_more (P := P) (w := w) (base := base) (C := C) c_l_any m_len m_range m_int m_tuple D_l_more
  have c_l_map := ok_l_map (P := P) (w := w) (base := base) (C := C) c_l_of c_l_any D_l_map
  have c_l_put := ok_l_put (P := P) (w := w) (base := base) (C := C) m_tuple D_l_put
  have c_l_rings := ok_l_rings (P := P) (w := w) (base := base) (C := C) c_l_any c_l_map c_l_more c_l_put c_l_wave c_l_star m_min m_range m_tuple D_l_rings
  have c_l_scaled := ok_l_scaled (P := P) (w := w) (base := base) (C := C)  D_l_scaled
  have c_l_on := ok_l_on (P := P) (w := w) (base := base) (C := C) m_len m_range D_l_on
  have c_l_crossed := ok_l_crossed (P := P) (w := w) (base := base) (C := C) m_len m_range D_l_crossed
  have c_l_ring_side := ok_l_ring_side (P := P) (w := w) (base := base) (C := C) c_l_scaled c_l_on c_l_any c_l_of c_l_crossed m_int D_l_ring_side
  have c_l_side := ok_l_side (P := P) (w := w) (base := base) (C := C) c_l_ring_side D_l_side
  have c_l_frac := ok_l_frac (P := P) (w := w) (base := base) (C := C) m_abs m_range m_int D_l_frac
  have c_l_point := ok_l_point (P := P) (w := w) (base := base) (C := C) c_l_any c_l_frac c_l_of m_len m_min m_max D_l_point
  have c_l_where := ok_l_where (P := P) (w := w) (base := base) (C := C) c_l_scaled c_l_on m_len m_range m_int D_l_where
  have c_l_point_right := okGd (P := P) (w := w) (base := base) (C := C) D_l_point_right sc_l_point_right ln_l_point_right (fun _ _ _ _ _ _ _ hr hg => bd_l_point_right c_l_side c_side_of k_side_of c_l_where c_where_in k_where_in c_l_ring_side c_ring_side k_ring_side c_l_scaled c_l_any c_l_crossed c_l_of c_ring_turns k_ring_turns m_repr hr hg) wk_l_point_right
  exact law_fn T FL facts (fun f cdv A outer s H E hr hg => bd_law c_l_deal c_l_rings c_l_point c_l_of c_l_point_right c_inner_point k_inner_point c_l_frac c_l_side c_side_of m_range m_tuple m_isinstance m_len m_repr c_init m_Plate hr hg)
end
end G
set_option Elab.async false
set_option maxRecDepth 100000
open PySem PySem.W PyProof.Rows
set_option maxHeartbeats 0 in
theorem PySem.Challenge.cw_leastfield_k12_whole_inside_and_outside_holds : PySem.Challenge.rw_leastfield_k12_whole_inside_and_outside.Holds := by
  w_on; o_law; k_head; (case hw => w_witness2)
  k_fill
  refine G.walkG (l := PySem.Challenge.rw_leastfield_k12_whole_inside_and_outside) (n := 63) (k := 11) (x := "_law_script") (sp := fun w => G.spLaw _) rfl (by decide) rfl ⟨rfl, by decide, by decide⟩ (fun w h Y => PySem.W.kIn_of Y) ?F (fun _ _ a ns hl hS => ⟨a, ns, rfl, hS, fun _ => rfl⟩)
  case F =>
    intro w mg fa h KX G0 hmg
    refine' G.def_then (name := "is_integer") (ps := ["value"]) (st := G.s_is_integer) KX G0 ?a ?l ?c ?k (fun _ _ _ _ _ _ us hl => match us, hl with | [_], _ => rfl) fun D_is_integer => ?_; (case a => k_is); (case l => k_is); (case c => k_is); (case k => k_is)
    refine' G.def_then (name := "is_tuple_of") (ps := ["value", "size"]) (st := G.s_is_tuple_of) KX G0 ?a ?l ?c ?k (fun _ _ _ _ _ _ us hl => match us, hl with | [_, _], _ => rfl) fun D_is_tuple_of => ?_; (case a => k_is); (case l => k_is); (case c => k_is); (case k => k_is)
    refine' G.def_then (name := "fraction") (ps := ["top", "bottom"]) (st := G.s_fraction) KX G0 ?a ?l ?c ?k (fun _ _ _ _ _ _ us hl => match us, hl with | [_, _], _ => rfl) fun D_fraction => ?_; (case a => k_is); (case l => k_is); (case c => k_is); (case k => k_is)
    refine' G.def_then (name := "whole") (ps := ["number"]) (st := G.s_whole) KX G0 ?a ?l ?c ?k (fun _ _ _ _ _ _ us hl => match us, hl with | [_], _ => rfl) fun D_whole => ?_; (case a => k_is); (case l => k_is); (case c => k_is); (case k => k_is)
    refine' G.def_then (name := "plus") (ps := ["one", "other"]) (st := G.s_plus) KX G0 ?a ?l ?c ?k (fun _ _ _ _ _ _ us hl => match us, hl with | [_, _], _ => rfl) fun D_plus => ?_; (case a => k_is); (case l => k_is); (case c => k_is); (case k => k_is)
    refine' G.def_then (name := "minus") (ps := ["one", "other"]) (st := G.s_minus) KX G0 ?a ?l ?c ?k (fun _ _ _ _ _ _ us hl => match us, hl with | [_, _], _ => rfl) fun D_minus => ?_; (case a => k_is); (case l => k_is); (case c => k_is); (case k => k_is)
    refine' G.def_then (name := "times") (ps := ["one", "other"]) (st := G.s_times) KX G0 ?a ?l ?c ?k (fun _ _ _ _ _ _ us hl => match us, hl with | [_, _], _ => rfl) fun D_times => ?_; (case a => k_is); (case l => k_is); (case c => k_is); (case k => k_is)
    refine' G.def_then (name := "half") (ps := ["one"]) (st := G.s_half) KX G0 ?a ?l ?c ?k (fun _ _ _ _ _ _ us hl => match us, hl with | [_], _ => rfl) fun D_half => ?_; (case a => k_is); (case l => k_is); (case c => k_is); (case k => k_is)
    refine' G.def_then (name := "compared") (ps := ["one", "other"]) (st := G.s_compared) KX G0 ?a ?l ?c ?k (fun _ _ _ _ _ _ us hl => match us, hl with | [_, _], _ => rfl) fun D_compared => ?_; (case a => k_is); (case l => k_is); (case c => k_is); (case k => k_is)
    refine' G.def_then (name := "point_at") (ps := ["x", "y"]) (st := G.s_point_at) KX G0 ?a ?l ?c ?k (fun _ _ _ _ _ _ us hl => match us, hl with | [_, _], _ => rfl) fun D_point_at => ?_; (case a => k_is); (case l => k_is); (case c => k_is); (case k => k_is)
    refine' G.def_then (name := "whole_area") (ps := ["a", "b", "c"]) (st := G.s_whole_area) KX G0 ?a ?l ?c ?k (fun _ _ _ _ _ _ us hl => match us, hl with | [_, _, _], _ => rfl) fun D_whole_area => ?_; (case a => k_is); (case l => k_is); (case c => k_is); (case k => k_is)
    refine' G.def_then (name := "whole_turn") (ps := ["a", "b", "c"]) (st := G.s_whole_turn) KX G0 ?a ?l ?c ?k (fun _ _ _ _ _ _ us hl => match us, hl with | [_, _, _], _ => rfl) fun D_whole_turn => ?_; (case a => k_is); (case l => k_is); (case c => k_is); (case k => k_is)
    refine' G.def_then (name := "whole_on") (ps := ["a", "b", "p"]) (st := G.s_whole_on) KX G0 ?a ?l ?c ?k (fun _ _ _ _ _ _ us hl => match us, hl with | [_, _, _], _ => rfl) fun D_whole_on => ?_; (case a => k_is); (case l => k_is); (case c => k_is); (case k => k_is)
    refine' G.def_then (name := "whole_crosses") (ps := ["a", "b", "c", "d"]) (st := G.s_whole_crosses) KX G0 ?a ?l ?c ?k (fun _ _ _ _ _ _ us hl => match us, hl with | [_, _, _, _], _ => rfl) fun D_whole_crosses => ?_; (case a => k_is); (case l => k_is); (case c => k_is); (case k => k_is)
    refine' G.def_then (name := "is_corner") (ps := ["value"]) (st := G.s_is_corner) KX G0 ?a ?l ?c ?k (fun _ _ _ _ _ _ us hl => match us, hl with | [_], _ => rfl) fun D_is_corner => ?_; (case a => k_is); (case l => k_is); (case c => k_is); (case k => k_is)
    refine' G.def_then (name := "ring_sides") (ps := ["ring"]) (st := G.s_ring_sides) KX G0 ?a ?l ?c ?k (fun _ _ _ _ _ _ us hl => match us, hl with | [_], _ => rfl) fun D_ring_sides => ?_; (case a => k_is); (case l => k_is); (case c => k_is); (case k => k_is)
    refine' G.def_then (name := "sides_meet") (ps := ["one", "other"]) (st := G.s_sides_meet) KX G0 ?a ?l ?c ?k (fun _ _ _ _ _ _ us hl => match us, hl with | [_, _], _ => rfl) fun D_sides_meet => ?_; (case a => k_is); (case l => k_is); (case c => k_is); (case k => k_is)
    refine' G.def_then (name := "turns_back") (ps := ["a", "b", "c"]) (st := G.s_turns_back) KX G0 ?a ?l ?c ?k (fun _ _ _ _ _ _ us hl => match us, hl with | [_, _, _], _ => rfl) fun D_turns_back => ?_; (case a => k_is); (case l => k_is); (case c => k_is); (case k => k_is)
    refine' G.def_then (name := "crosses_itself") (ps := ["ring"]) (st := G.s_crosses_itself) KX G0 ?a ?l ?c ?k (fun _ _ _ _ _ _ us hl => match us, hl with | [_], _ => rfl) fun D_crosses_itself => ?_; (case a => k_is); (case l => k_is); (case c => k_is); (case k => k_is)
    refine' G.def_then (name := "ring_fault") (ps := ["value"]) (st := G.s_ring_fault) KX G0 ?a ?l ?c ?k (fun _ _ _ _ _ _ us hl => match us, hl with | [_], _ => rfl) fun D_ring_fault => ?_; (case a => k_is); (case l => k_is); (case c => k_is); (case k => k_is)
    refine' G.def_then (name := "need_ring") (ps := ["value"]) (st := G.s_need_ring) KX G0 ?a ?l ?c ?k (fun _ _ _ _ _ _ us hl => match us, hl with | [_], _ => rfl) fun D_need_ring => ?_; (case a => k_is); (case l => k_is); (case c => k_is); (case k => k_is)
    refine' G.def_then (name := "is_ring") (ps := ["value"]) (st := G.s_is_ring) KX G0 ?a ?l ?c ?k (fun _ _ _ _ _ _ us hl => match us, hl with | [_], _ => rfl) fun D_is_ring => ?_; (case a => k_is); (case l => k_is); (case c => k_is); (case k => k_is)
    refine' G.def_then (name := "ring_area") (ps := ["ring"]) (st := G.s_ring_area) KX G0 ?a ?l ?c ?k (fun _ _ _ _ _ _ us hl => match us, hl with | [_], _ => rfl) fun D_ring_area => ?_; (case a => k_is); (case l => k_is); (case c => k_is); (case k => k_is)
    refine' G.def_then (name := "goes_round") (ps := ["ring", "corner"]) (st := G.s_goes_round) KX G0 ?a ?l ?c ?k (fun _ _ _ _ _ _ us hl => match us, hl with | [_, _], _ => rfl) fun D_goes_round => ?_; (case a => k_is); (case l => k_is); (case c => k_is); (case k => k_is)
    refine' G.def_then (name := "rings_meet") (ps := ["one", "other"]) (st := G.s_rings_meet) KX G0 ?a ?l ?c ?k (fun _ _ _ _ _ _ us hl => match us, hl with | [_, _], _ => rfl) fun D_rings_meet => ?_; (case a => k_is); (case l => k_is); (case c => k_is); (case k => k_is)
    refine' G.def_then (name := "is_hole") (ps := ["value", "outer", "ahead"]) (st := G.s_is_hole) KX G0 ?a ?l ?c ?k (fun _ _ _ _ _ _ us hl => match us, hl with | [_, _, _], _ => rfl) fun D_is_hole => ?_; (case a => k_is); (case l => k_is); (case c => k_is); (case k => k_is)
    refine' G.def_then (name := "all_rings") (ps := ["plate"]) (st := G.s_all_rings) KX G0 ?a ?l ?c ?k (fun _ _ _ _ _ _ us hl => match us, hl with | [_], _ => rfl) fun D_all_rings => ?_; (case a => k_is); (case l => k_is); (case c => k_is); (case k => k_is)
    refine' G.def_then (name := "corners_of") (ps := ["plate"]) (st := G.s_corners_of) KX G0 ?a ?l ?c ?k (fun _ _ _ _ _ _ us hl => match us, hl with | [_], _ => rfl) fun D_corners_of => ?_; (case a => k_is); (case l => k_is); (case c => k_is); (case k => k_is)
    refine' G.def_then (name := "rings_of") (ps := ["plate"]) (st := G.s_rings_of) KX G0 ?a ?l ?c ?k (fun _ _ _ _ _ _ us hl => match us, hl with | [_], _ => rfl) fun D_rings_of => ?_; (case a => k_is); (case l => k_is); (case c => k_is); (case k => k_is)
    refine' G.def_then (name := "sides_of") (ps := ["plate"]) (st := G.s_sides_of) KX G0 ?a ?l ?c ?k (fun _ _ _ _ _ _ us hl => match us, hl with | [_], _ => rfl) fun D_sides_of => ?_; (case a => k_is); (case l => k_is); (case c => k_is); (case k => k_is)
    refine' G.def_then (name := "left_by") (ps := ["a", "b", "point"]) (st := G.s_left_by) KX G0 ?a ?l ?c ?k (fun _ _ _ _ _ _ us hl => match us, hl with | [_, _, _], _ => rfl) fun D_left_by => ?_; (case a => k_is); (case l => k_is); (case c => k_is); (case k => k_is)
    refine' G.def_then (name := "is_between") (ps := ["one", "other", "worth"]) (st := G.s_is_between) KX G0 ?a ?l ?c ?k (fun _ _ _ _ _ _ us hl => match us, hl with | [_, _, _], _ => rfl) fun D_is_between => ?_; (case a => k_is); (case l => k_is); (case c => k_is); (case k => k_is)
    refine' G.def_then (name := "is_on") (ps := ["a", "b", "point"]) (st := G.s_is_on) KX G0 ?a ?l ?c ?k (fun _ _ _ _ _ _ us hl => match us, hl with | [_, _, _], _ => rfl) fun D_is_on => ?_; (case a => k_is); (case l => k_is); (case c => k_is); (case k => k_is)
    refine' G.def_then (name := "rises_past") (ps := ["a", "b", "height"]) (st := G.s_rises_past) KX G0 ?a ?l ?c ?k (fun _ _ _ _ _ _ us hl => match us, hl with | [_, _, _], _ => rfl) fun D_rises_past => ?_; (case a => k_is); (case l => k_is); (case c => k_is); (case k => k_is)
    refine' G.def_then (name := "ring_turns") (ps := ["ring", "point"]) (st := G.s_ring_turns) KX G0 ?a ?l ?c ?k (fun _ _ _ _ _ _ us hl => match us, hl with | [_, _], _ => rfl) fun D_ring_turns => ?_; (case a => k_is); (case l => k_is); (case c => k_is); (case k => k_is)
    refine' G.def_then (name := "ring_side") (ps := ["ring", "point"]) (st := G.s_ring_side) KX G0 ?a ?l ?c ?k (fun _ _ _ _ _ _ us hl => match us, hl with | [_, _], _ => rfl) fun D_ring_side => ?_; (case a => k_is); (case l => k_is); (case c => k_is); (case k => k_is)
    refine' G.def_then (name := "side_of") (ps := ["plate", "point"]) (st := G.s_side_of) KX G0 ?a ?l ?c ?k (fun _ _ _ _ _ _ us hl => match us, hl with | [_, _], _ => rfl) fun D_side_of => ?_; (case a => k_is); (case l => k_is); (case c => k_is); (case k => k_is)
    refine' G.def_then (name := "where_in") (ps := ["plate", "point"]) (st := G.s_where_in) KX G0 ?a ?l ?c ?k (fun _ _ _ _ _ _ us hl => match us, hl with | [_, _], _ => rfl) fun D_where_in => ?_; (case a => k_is); (case l => k_is); (case c => k_is); (case k => k_is)
    refine' G.def_then (name := "in_order") (ps := ["some"]) (st := G.s_in_order) KX G0 ?a ?l ?c ?k (fun _ _ _ _ _ _ us hl => match us, hl with | [_], _ => rfl) fun D_in_order => ?_; (case a => k_is); (case l => k_is); (case c => k_is); (case k => k_is)
    refine' G.def_then (name := "crossings_at") (ps := ["plate", "height"]) (st := G.s_crossings_at) KX G0 ?a ?l ?c ?k (fun _ _ _ _ _ _ us hl => match us, hl with | [_, _], _ => rfl) fun D_crossings_at => ?_; (case a => k_is); (case l => k_is); (case c => k_is); (case k => k_is)
    refine' G.def_then (name := "strips") (ps := ["plate"]) (st := G.s_strips) KX G0 ?a ?l ?c ?k (fun _ _ _ _ _ _ us hl => match us, hl with | [_], _ => rfl) fun D_strips => ?_; (case a => k_is); (case l => k_is); (case c => k_is); (case k => k_is)
    refine' G.def_then (name := "inner_point") (ps := ["plate"]) (st := G.s_inner_point) KX G0 ?a ?l ?c ?k (fun _ _ _ _ _ _ us hl => match us, hl with | [_], _ => rfl) fun D_inner_point => ?_; (case a => k_is); (case l => k_is); (case c => k_is); (case k => k_is)
    refine' G.def_then (name := "_law_deal") (ps := ["_law_script", "_law_base"]) (st := G.s_l_deal) KX G0 ?a ?l ?c ?k (fun _ _ _ _ _ _ us hl => match us, hl with | [_, _], _ => rfl) fun D_l_deal => ?_; (case a => k_is); (case l => k_is); (case c => k_is); (case k => k_is)
    refine' G.def_then (name := "_law_any") (ps := ["_law_deal_here", "_law_bound"]) (st := G.s_l_any) KX G0 ?a ?l ?c ?k (fun _ _ _ _ _ _ us hl => match us, hl with | [_, _], _ => rfl) fun D_l_any => ?_; (case a => k_is); (case l => k_is); (case c => k_is); (case k => k_is)
    refine' G.def_then (name := "_law_of") (ps := ["_law_deal_here", "_law_some"]) (st := G.s_l_of) KX G0 ?a ?l ?c ?k (fun _ _ _ _ _ _ us hl => match us, hl with | [_, _], _ => rfl) fun D_l_of => ?_; (case a => k_is); (case l => k_is); (case c => k_is); (case k => k_is)
    refine' G.def_then (name := "_law_star") (ps := ["_law_deal_here", "_law_centre", "_law_most", "_law_each"]) (st := G.s_l_star) KX G0 ?a ?l ?c ?k (fun _ _ _ _ _ _ us hl => match us, hl with | [_, _, _, _], _ => rfl) fun D_l_star => ?_; (case a => k_is); (case l => k_is); (case c => k_is); (case k => k_is)
    refine' G.def_then (name := "_law_wave") (ps := ["_law_deal_here", "_law_many"]) (st := G.s_l_wave) KX G0 ?a ?l ?c ?k (fun _ _ _ _ _ _ us hl => match us, hl with | [_, _], _ => rfl) fun D_l_wave => ?_; (case a => k_is); (case l => k_is); (case c => k_is); (case k => k_is)
    refine' G.def_then (name := "_law_more") (ps := ["_law_deal_here", "_law_ring_here"]) (st := G.s_l_more) KX G0 ?a ?l ?c ?k (fun _ _ _ _ _ _ us hl => match us, hl with | [_, _], _ => rfl) fun D_l_more => ?_; (case a => k_is); (case l => k_is); (case c => k_is); (case k => k_is)
    refine' G.def_then (name := "_law_map") (ps := ["_law_deal_here"]) (st := G.s_l_map) KX G0 ?a ?l ?c ?k (fun _ _ _ _ _ _ us hl => match us, hl with | [_], _ => rfl) fun D_l_map => ?_; (case a => k_is); (case l => k_is); (case c => k_is); (case k => k_is)
    refine' G.def_then (name := "_law_put") (ps := ["_law_ring_here", "_law_rule"]) (st := G.s_l_put) KX G0 ?a ?l ?c ?k (fun _ _ _ _ _ _ us hl => match us, hl with | [_, _], _ => rfl) fun D_l_put => ?_; (case a => k_is); (case l => k_is); (case c => k_is); (case k => k_is)
    refine' G.def_then (name := "_law_rings") (ps := ["_law_deal_here", "_law_most"]) (st := G.s_l_rings) KX G0 ?a ?l ?c ?k (fun _ _ _ _ _ _ us hl => match us, hl with | [_, _], _ => rfl) fun D_l_rings => ?_; (case a => k_is); (case l => k_is); (case c => k_is); (case k => k_is)
    refine' G.def_then (name := "_law_scaled") (ps := ["_law_ring_here", "_law_point_here"]) (st := G.s_l_scaled) KX G0 ?a ?l ?c ?k (fun _ _ _ _ _ _ us hl => match us, hl with | [_, _], _ => rfl) fun D_l_scaled => ?_; (case a => k_is); (case l => k_is); (case c => k_is); (case k => k_is)
    refine' G.def_then (name := "_law_on") (ps := ["_law_ring_here", "_law_spot"]) (st := G.s_l_on) KX G0 ?a ?l ?c ?k (fun _ _ _ _ _ _ us hl => match us, hl with | [_, _], _ => rfl) fun D_l_on => ?_; (case a => k_is); (case l => k_is); (case c => k_is); (case k => k_is)
    refine' G.def_then (name := "_law_crossed") (ps := ["_law_ring_here", "_law_spot", "_law_way"]) (st := G.s_l_crossed) KX G0 ?a ?l ?c ?k (fun _ _ _ _ _ _ us hl => match us, hl with | [_, _, _], _ => rfl) fun D_l_crossed => ?_; (case a => k_is); (case l => k_is); (case c => k_is); (case k => k_is)
    refine' G.def_then (name := "_law_ring_side") (ps := ["_law_deal_here", "_law_ring_here", "_law_point_here"]) (st := G.s_l_ring_side) KX G0 ?a ?l ?c ?k (fun _ _ _ _ _ _ us hl => match us, hl with | [_, _, _], _ => rfl) fun D_l_ring_side => ?_; (case a => k_is); (case l => k_is); (case c => k_is); (case k => k_is)
    refine' G.def_then (name := "_law_side") (ps := ["_law_deal_here", "_law_plate", "_law_point_here"]) (st := G.s_l_side) KX G0 ?a ?l ?c ?k (fun _ _ _ _ _ _ us hl => match us, hl with | [_, _, _], _ => rfl) fun D_l_side => ?_; (case a => k_is); (case l => k_is); (case c => k_is); (case k => k_is)
    refine' G.def_then (name := "_law_frac") (ps := ["_law_top", "_law_bottom"]) (st := G.s_l_frac) KX G0 ?a ?l ?c ?k (fun _ _ _ _ _ _ us hl => match us, hl with | [_, _], _ => rfl) fun D_l_frac => ?_; (case a => k_is); (case l => k_is); (case c => k_is); (case k => k_is)
    refine' G.def_then (name := "_law_point") (ps := ["_law_deal_here", "_law_corners"]) (st := G.s_l_point) KX G0 ?a ?l ?c ?k (fun _ _ _ _ _ _ us hl => match us, hl with | [_, _], _ => rfl) fun D_l_point => ?_; (case a => k_is); (case l => k_is); (case c => k_is); (case k => k_is)
    refine' G.def_then (name := "_law_where") (ps := ["_law_plate", "_law_corners", "_law_point_here", "_law_side_here"]) (st := G.s_l_where) KX G0 ?a ?l ?c ?k (fun _ _ _ _ _ _ us hl => match us, hl with | [_, _, _, _], _ => rfl) fun D_l_where => ?_; (case a => k_is); (case l => k_is); (case c => k_is); (case k => k_is)
    refine' G.def_then (name := "_law_point_right") (ps := ["_law_deal_here", "_law_plate", "_law_rings_here", "_law_point_here"]) (st := G.s_l_point_right) KX G0 ?a ?l ?c ?k (fun _ _ _ _ _ _ us hl => match us, hl with | [_, _, _, _], _ => rfl) fun D_l_point_right => ?_; (case a => k_is); (case l => k_is); (case c => k_is); (case k => k_is)
    refine' G.kw_then (name := "side_of") (ps := ["plate", "point"]) (ks := ["point", "plate"]) (st := G.s_side_of) KX G0 ?a ?l rfl (fun ws hl => match ws, hl with | [_, _], _ => rfl) fun N_side_of => ?_; (case a => k_is); (case l => k_is)
    refine' G.kw_then (name := "where_in") (ps := ["plate", "point"]) (ks := ["point", "plate"]) (st := G.s_where_in) KX G0 ?a ?l rfl (fun ws hl => match ws, hl with | [_, _], _ => rfl) fun N_where_in => ?_; (case a => k_is); (case l => k_is)
    refine' G.kw_then (name := "ring_side") (ps := ["ring", "point"]) (ks := ["point", "ring"]) (st := G.s_ring_side) KX G0 ?a ?l rfl (fun ws hl => match ws, hl with | [_, _], _ => rfl) fun N_ring_side => ?_; (case a => k_is); (case l => k_is)
    refine' G.kw_then (name := "ring_turns") (ps := ["ring", "point"]) (ks := ["point", "ring"]) (st := G.s_ring_turns) KX G0 ?a ?l rfl (fun ws hl => match ws, hl with | [_, _], _ => rfl) fun N_ring_turns => ?_; (case a => k_is); (case l => k_is)
    refine' G.kw_then (name := "inner_point") (ps := ["plate"]) (ks := ["plate"]) (st := G.s_inner_point) KX G0 ?a ?l rfl (fun ws hl => match ws, hl with | [_], _ => rfl) fun N_inner_point => ?_; (case a => k_is); (case l => k_is)
    refine' G.none_then (name := "abs") KX G0 ?z fun m_abs => ?_; (case z => k_is)
    refine' G.none_then (name := "any") KX G0 ?z fun m_any => ?_; (case z => k_is)
    refine' G.none_then (name := "bool") KX G0 ?z fun m_bool => ?_; (case z => k_is)
    refine' G.none_then (name := "enumerate") KX G0 ?z fun m_enumerate => ?_; (case z => k_is)
    refine' G.none_then (name := "int") KX G0 ?z fun m_int => ?_; (case z => k_is)
    refine' G.none_then (name := "isinstance") KX G0 ?z fun m_isinstance => ?_; (case z => k_is)
    refine' G.none_then (name := "len") KX G0 ?z fun m_len => ?_; (case z => k_is)
    refine' G.none_then (name := "max") KX G0 ?z fun m_max => ?_; (case z => k_is)
    refine' G.none_then (name := "min") KX G0 ?z fun m_min => ?_; (case z => k_is)
    refine' G.none_then (name := "range") KX G0 ?z fun m_range => ?_; (case z => k_is)
    refine' G.none_then (name := "repr") KX G0 ?z fun m_repr => ?_; (case z => k_is)
    refine' G.none_then (name := "sorted") KX G0 ?z fun m_sorted => ?_; (case z => k_is)
    refine' G.none_then (name := "sum") KX G0 ?z fun m_sum => ?_; (case z => k_is)
    refine' G.none_then (name := "tuple") KX G0 ?z fun m_tuple => ?_; (case z => k_is)
    refine' G.none_then (name := "zip") KX G0 ?z fun m_zip => ?_; (case z => k_is)
    refine' G.head_mk KX G0 hmg ?aC ?a1 ?i1 ?lI ?cI ?kI ?pg ?hd ?po ?sa ?mk ?kc ?nO ?nH ?aL ?lL ?cL ?kL ?ag ?af ?aw fun T M FI bI FL m_gcd m_FARTHEST m_FEWEST m_Plate base => G.law_all G.plate_facts T M FI bI FL D_is_integer D_is_tuple_of D_fraction D_whole D_plus D_minus D_times D_half D_compared D_point_at D_whole_area D_whole_turn D_whole_on D_whole_crosses D_is_corner D_ring_sides D_sides_meet D_turns_back D_crosses_itself D_ring_fault D_need_ring D_is_ring D_ring_area D_goes_round D_rings_meet D_is_hole D_all_rings D_corners_of D_rings_of D_sides_of D_left_by D_is_between D_is_on D_rises_past D_ring_turns D_ring_side D_side_of D_where_in D_in_order D_crossings_at D_strips D_inner_point D_l_deal D_l_any D_l_of D_l_star D_l_wave D_l_more D_l_map D_l_put D_l_rings D_l_scaled D_l_on D_l_crossed D_l_ring_side D_l_side D_l_frac D_l_point D_l_where D_l_point_right N_side_of N_where_in N_ring_side N_ring_turns N_inner_point m_abs m_any m_bool m_enumerate m_int m_isinstance m_len m_max m_min m_range m_repr m_sorted m_sum m_tuple m_zip m_gcd m_FARTHEST m_FEWEST m_Plate
    (case aC => k_is); (case a1 => k_is); (case i1 => k_is); (case lI => k_is); (case cI => k_is); (case kI => k_is); (case pg => k_is); (case hd => k_is); (case po => k_is); (case sa => k_is); (case mk => k_is); (case kc => k_is); (case nO => k_is); (case nH => k_is); (case aL => k_is); (case lL => k_is); (case cL => k_is); (case kL => k_is); (case ag => k_is); (case af => k_is); (case aw => k_is)
