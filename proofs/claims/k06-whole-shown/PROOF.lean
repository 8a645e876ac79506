import PyProof.Rows.All
import Wide.All
import OpenK.AllK
import Wide.FinOn
import PySem.Challenge.RW_sliverhold_k06_whole_shown
import HandS.ForMost
import HandS.Evl
import HandS.TupAny
import KE.KDictKeyed
import HandS.IsInst
import HandS.Style
import HandS.Walk
import KE.KDictPairs
import KE.KDictWalk
import HandS.DictComp
import KE.KDictCopyH
import HandS.Iter
import HandS.More
import HandS.TupMul
import HandS.Strs
import HandS.Replace
import HandS.Deep
import KE.GoesEnum
import KE.GoesZip
import KE.KDictDisplayH
import HandS.SetIn
import HandS.WordsExc
import HandS.Defaults
import HandS.Property
import HandS.ExcInit
import HandS.TryOnly
import HandS.ClsMeth
import HandS.Head0
import HandS.Head1
import HandS.Head2
import HandS.HeadEnd
import HandS.HeadHook1
import HandS.HeadHook2
import HandS.HeadHook3
import HandS.HeadNt
import HandS.Codes
set_option Elab.async false
set_option linter.all false
set_option maxRecDepth 100000
set_option maxHeartbeats 0
namespace Slv
open PySem PySem.Spec PyProof.Rows L2
open Evl (Ex)
abbrev D := NestedKey
structure TLe (H H' : Hp) : Prop where
  t : ∀ a xs, Rd H a (.tup xs) → Rd H' a (.tup xs)
  i : ∀ a C dx fs, H a = some (.ins C dx fs) → H' a = some (.ins C dx fs)
theorem TLe.refl (H : Hp) : TLe H H := ⟨fun _ _ h => h, fun _ _ _ _ h => h⟩
theorem TLe.trans {H H1 H2 : Hp} (a : TLe H H1) (b : TLe H1 H2) : TLe H H2 := ⟨fun x xs h => b.t x xs (a.t x xs h), fun x C dx fs h => b.i x C dx fs (a.i x C dx fs h)⟩
theorem tle_of_ex {H H' : Hp} (e : Ex H H') : TLe H H' := ⟨fun _ _ h => Evl.ex_rd e h, fun _ _ _ _ h => e _ _ h⟩
/-- what is no tuple, known or not, and no instance -/
def noTup : HO → Bool
  | .tup _ => false
  | .frz _ _ => false
  | .ins _ _ _ => false
  | _ => true
theorem tle_upd {H : Hp} {l : Addr} {o u : HO} (h : H l = some o) (hn : noTup o = true) : TLe H (upd H l u) := by
  refine ⟨fun a xs r => ?_, fun a C dx fs r => ?_⟩
  · have ne : a ≠ l := fun z => by
      subst z
      rcases r with r | ⟨q, r⟩
      · rw [h] at r; cases r; cases hn
      · rw [h] at r; cases r; cases hn
    rcases r with r | ⟨q, r⟩
    · exact .inl (by rw [upd_ne ne]; exact r)
    · exact .inr ⟨q, by rw [upd_ne ne]; exact r⟩
  · have ne : a ≠ l := fun z => by
      subst z
      rw [h] at r; cases r; cases hn
    rw [upd_ne ne]; exact r
theorem tle_sqT {K : PySem.W.Frag} {H H' : Hp} {a : Addr} {xs : List V} (t : TLe H H') (h : SqT K H a xs) : SqT K H' a xs := by
  rcases h with h | h
  · exact .inl (t.t _ _ h)
  · exact .inr h
mutual
inductive DIs (K : PySem.W.Frag) (H : Hp) : V → D → Prop
  | non : DIs K H .non .none
  | int (i : Int) : DIs K H (.int i) (.num i)
  | str (x : Str) : DIs K H (.str x) (.text x)
  | tup {a : Addr} {xs : List V} {ds : List D} : SqT K H a xs → DAll K H xs ds → DIs K H (.ref a) (.tup ds)
inductive DAll (K : PySem.W.Frag) (H : Hp) : List V → List D → Prop
  | nil : DAll K H [] []
  | cons {x : V} {xs : List V} {d : D} {ds : List D} : DIs K H x d → DAll K H xs ds → DAll K H (x :: xs) (d :: ds)
end
section
variable {K : PySem.W.Frag} {H H' : Hp}
mutual
theorem DIs.mono (t : TLe H H') : ∀ (d : D) (v : V), DIs K H v d → DIs K H' v d
  | .none, _, h => by cases h; exact .non
  | .num i, _, h => by cases h; exact .int i
  | .text x, _, h => by cases h; exact .str x
  | .tup ds, _, h => by
    cases h with
    | tup hs ha => exact .tup (tle_sqT t hs) (DAll.mono t ds _ ha)
theorem DAll.mono (t : TLe H H') : ∀ (ds : List D) (xs : List V), DAll K H xs ds → DAll K H' xs ds
  | [], _, h => by cases h; exact .nil
  | d :: ds, _, h => by
    cases h with
    | cons h1 h2 => exact .cons (DIs.mono t d _ h1) (DAll.mono t ds _ h2)
end
theorem DIs.to (h : DIs K H v d) (t : TLe H H') : DIs K H' v d := DIs.mono t _ _ h
theorem DIs.ex (h : DIs K H v d) (e : Ex H H') : DIs K H' v d := DIs.mono (tle_of_ex e) _ _ h
theorem DAll.to (h : DAll K H xs ds) (t : TLe H H') : DAll K H' xs ds := DAll.mono t _ _ h
theorem DAll.ex (h : DAll K H xs ds) (e : Ex H H') : DAll K H' xs ds := DAll.mono (tle_of_ex e) _ _ h
theorem DIs.none_inv {v : V} (h : DIs K H v .none) : v = .non := by cases h; rfl
theorem DIs.num_inv {v : V} {i : Int} (h : DIs K H v (.num i)) : v = .int i := by cases h; rfl
theorem DIs.text_inv {v : V} {x : Str} (h : DIs K H v (.text x)) : v = .str x := by cases h; rfl
theorem DIs.tup_inv {v : V} {ds : List D} (h : DIs K H v (.tup ds)) : ∃ a xs, v = .ref a ∧ SqT K H a xs ∧ DAll K H xs ds := by
  cases h with
  | tup hs ha => exact ⟨_, _, rfl, hs, ha⟩
theorem DIs.some_ne {v : V} {ds : List D} (h : DIs K H v (.tup ds)) : v ≠ .non := by cases h; intro z; cases z
theorem DAll.length : ∀ {xs : List V} {ds : List D}, DAll K H xs ds → xs.length = ds.length
  | _, _, .nil => rfl
  | _, _, .cons _ t => by rw [List.length_cons, List.length_cons, DAll.length t]
theorem DAll.get : ∀ {xs : List V} {ds : List D} {i : Nat} {d : D}, DAll K H xs ds → ds[i]? = some d → ∃ x, xs[i]? = some x ∧ DIs K H x d
  | _, _, _, _, .nil, e => by simp at e
  | _, _, 0, _, .cons h _, e => by simp at e; subst e; exact ⟨_, rfl, h⟩
  | _, _, i + 1, d, .cons _ t, e => by
    obtain ⟨x, h1, h2⟩ := DAll.get (i := i) (d := d) t (by simpa using e)
    exact ⟨x, by simpa using h1, h2⟩
theorem DAll.getV : ∀ {xs : List V} {ds : List D} {i : Nat} {x : V}, DAll K H xs ds → xs[i]? = some x → ∃ d, ds[i]? = some d ∧ DIs K H x d
  | _, _, _, _, .nil, e => by simp at e
  | _, _, 0, _, .cons h _, e => by simp at e; subst e; exact ⟨_, rfl, h⟩
  | _, _, i + 1, x, .cons _ t, e => by
    obtain ⟨d, h1, h2⟩ := DAll.getV (i := i) (x := x) t (by simpa using e)
    exact ⟨d, by simpa using h1, h2⟩
theorem DAll.append : ∀ {xs ys : List V} {ds es : List D}, DAll K H xs ds → DAll K H ys es → DAll K H (xs ++ ys) (ds ++ es)
  | _, _, _, _, .nil, s => s
  | _, _, _, _, .cons h t, s => .cons h (DAll.append t s)
theorem DAll.take : ∀ {xs : List V} {ds : List D} (n : Nat), DAll K H xs ds → DAll K H (xs.take n) (ds.take n)
  | _, _, 0, _ => .nil
  | _, _, _ + 1, .nil => .nil
  | _, _, n + 1, .cons h t => .cons h (DAll.take n t)
theorem DAll.drop : ∀ {xs : List V} {ds : List D} (n : Nat), DAll K H xs ds → DAll K H (xs.drop n) (ds.drop n)
  | _, _, 0, h => h
  | _, _, _ + 1, .nil => .nil
  | _, _, n + 1, .cons _ t => DAll.drop n t
theorem DAll.set {x : V} {d : D} (h : DIs K H x d) : ∀ {xs : List V} {ds : List D} (i : Nat), DAll K H xs ds → DAll K H (xs.set i x) (ds.set i d)
  | _, _, _, .nil => .nil
  | _, _, 0, .cons _ t => .cons h t
  | _, _, i + 1, .cons q t => .cons q (DAll.set h i t)
theorem DAll.reverse {xs : List V} {ds : List D} (h : DAll K H xs ds) : DAll K H xs.reverse ds.reverse := by
  have all : ∀ {xs : List V} {ds : List D}, DAll K H xs ds → DAll K H xs.reverse ds.reverse := by
    intro xs
    induction xs with
    | nil => intro ds h; cases h; exact .nil
    | cons x xs ih =>
      intro ds h
      cases h with
      | cons h1 h2 =>
        rw [List.reverse_cons, List.reverse_cons]
        exact DAll.append (ih h2) (.cons h1 .nil)
  exact all h
theorem DAll.rep {x : V} {d : D} (h : DIs K H x d) : ∀ n : Nat, DAll K H (List.replicate n x) (List.replicate n d)
  | 0 => .nil
  | n + 1 => .cons h (DAll.rep h n)
theorem DAll.ints {xs : List V} {ns : List Int} (h : DAll K H xs (ns.map .num)) : xs = ns.map V.int := by
  induction ns generalizing xs with
  | nil => cases h; rfl
  | cons n ns ih =>
    rw [List.map_cons] at h
    cases h with
    | cons h1 h2 => rw [h1.num_inv, ih h2]; rfl
theorem dall_ints : ∀ (ns : List Int), DAll K H (ns.map V.int) (ns.map NestedKey.num)
  | [] => .nil
  | n :: ns => .cons (.int n) (dall_ints ns)
mutual
theorem DIs.dp : ∀ (d : D) (v : V), DIs K H v d → Dp K H v d.data
  | .none, _, h => by cases h; exact .non
  | .num i, _, h => by cases h; exact .int i
  | .text x, _, h => by cases h; exact .str x
  | .tup ds, _, h => by
    cases h with
    | tup hs ha => exact .tup hs (DAll.dp ds _ ha)
theorem DAll.dp : ∀ (ds : List D) (xs : List V), DAll K H xs ds → DpAll K H xs (NestedKey.datas ds)
  | [], _, h => by cases h; exact .nil
  | d :: ds, _, h => by
    cases h with
    | cons h1 h2 => exact .cons (DIs.dp d _ h1) (DAll.dp ds _ h2)
end
end
section
variable {X : Cx} {pins : List (Addr × Obj)} {σ : L2.St} {H : Hp} {s : Shared}
mutual
theorem DIs.key (I : Inv X pins σ H s) : ∀ (d : D) (v : V) (u : Value), DIs X.K H v d → RelV v u → NestedIs s.heap d u
  | .none, _, _, h, r => by cases h; cases r; exact .none
  | .num i, _, _, h, r => by cases h; obtain ⟨t, rfl⟩ := r; exact .int i t
  | .text x, _, _, h, r => by cases h; obtain ⟨t, rfl⟩ := r; exact .text x t
  | .tup ds, _, _, h, r => by
    cases h with
    | tup hs ha =>
      cases r
      obtain ⟨its, rv, ⟨o, ho, hc, n, hd⟩, _⟩ := I.tuple hs
      exact .tup ho hc hd (by simpa using DAll.key I ds _ its ha rv)
theorem DAll.key (I : Inv X pins σ H s) : ∀ (ds : List D) (xs : List V) (us : List Value), DAll X.K H xs ds → Vals xs us → NestedAll s.heap ds us
  | [], _, _, h, r => by cases h; cases r; exact .nil
  | d :: ds, _, _, h, r => by
    cases h with
    | cons h1 h2 =>
      cases r with
      | cons r1 r2 => exact .cons (DIs.key I d _ _ h1 r1) (DAll.key I ds _ _ h2 r2)
end
end
structure Asr where
  p : V → Hp → Prop
  mono : ∀ {v : V} {H H' : Hp}, Ex H H' → p v H → p v H'
/-- .. and while the tuples stand -/
def Asr.St (A : Asr) : Prop := ∀ (v : V) (H H' : Hp), TLe H H' → A.p v H → A.p v H'
def aD (K : PySem.W.Frag) (d : D) : Asr := ⟨fun v H => DIs K H v d, fun e h => h.ex e⟩
def aV (x : V) : Asr := ⟨fun v _ => v = x, fun _ h => h⟩
abbrev aB (b : Bool) : Asr := aV (.bl b)
/-- a list of data -/
def aL (K : PySem.W.Frag) (ds : List D) : Asr := ⟨fun v H => ∃ a xs, v = .ref a ∧ SqL K H a xs ∧ DAll K H xs ds, fun e ⟨a, xs, h1, h2, h3⟩ => ⟨a, xs, h1, Evl.ex_l e h2, h3.ex e⟩⟩
theorem aD_st {K : PySem.W.Frag} {d : D} : (aD K d).St := fun _ _ _ t h => DIs.to h t
theorem aV_st {x : V} : (aV x).St := fun _ _ _ _ h => h
abbrev Gam := List (Option Asr)
structure SOk (G : Gam) (σ : L2.St) (H : Hp) : Prop where
  len : G.length = σ.length
  at_ : ∀ (i : Nat) (A : Asr), G[i]? = some (some A) → ∃ v, σ[i]? = some (some v) ∧ A.p v H
section
variable {G : Gam} {σ : L2.St} {H H' : Hp} {A : Asr} {v : V}
theorem SOk.ex (h : SOk G σ H) (e : Ex H H') : SOk G σ H' := ⟨h.len, fun i A hi => let ⟨v, h1, h2⟩ := h.at_ i A hi; ⟨v, h1, A.mono e h2⟩⟩
theorem SOk.st (h : SOk G σ H) (t : TLe H H') (hs : ∀ A, some A ∈ G → A.St) : SOk G σ H' :=
  ⟨h.len, fun i A hi => let ⟨v, h1, h2⟩ := h.at_ i A hi; ⟨v, h1, hs A (List.mem_of_getElem? hi) _ _ _ t h2⟩⟩
theorem SOk.set (h : SOk G σ H) (j : Nat) (hv : A.p v H) (hj : j < G.length) : SOk (G.set j (some A)) (σ.set j (some v)) H := by
  refine ⟨by rw [List.length_set, List.length_set]; exact h.len, fun i B hi => ?_⟩
  by_cases e : j = i
  · subst e
    rw [List.getElem?_set_self hj] at hi
    cases hi
    exact ⟨v, List.getElem?_set_self (by rw [← h.len]; exact hj), hv⟩
  · rw [List.getElem?_set_ne e] at hi
    obtain ⟨x, h1, h2⟩ := h.at_ i B hi
    exact ⟨x, by rw [List.getElem?_set_ne e]; exact h1, h2⟩
/-- a slot forgotten -/
theorem SOk.forget (h : SOk G σ H) (j : Nat) (x : Option V) : SOk (G.set j none) (σ.set j x) H := by
  refine ⟨by rw [List.length_set, List.length_set]; exact h.len, fun i B hi => ?_⟩
  by_cases e : j = i
  · subst e
    by_cases hj : j < G.length
    · rw [List.getElem?_set_self hj] at hi; cases hi
    · rw [List.getElem?_eq_none (by simpa using hj)] at hi; cases hi
  · rw [List.getElem?_set_ne e] at hi
    obtain ⟨y, h1, h2⟩ := h.at_ i B hi
    exact ⟨y, by rw [List.getElem?_set_ne e]; exact h1, h2⟩
theorem SOk.weak {G' : Gam} (h : SOk G σ H) (hl : G'.length = G.length) (hw : ∀ (i : Nat) (A : Asr), G'[i]? = some (some A) → G[i]? = some (some A)) : SOk G' σ H :=
  ⟨hl.trans h.len, fun i A hi => h.at_ i A (hw i A hi)⟩
def wipeG (G : Gam) : List Nat → Gam
  | [] => G
  | v :: vs => (wipeG G vs).set v none
theorem SOk.wipe (h : SOk G σ H) : ∀ vs : List Nat, SOk (wipeG G vs) (wipe σ vs) H
  | [] => h
  | v :: vs => (SOk.wipe h vs).forget v none
theorem wipeG_length (G : Gam) : ∀ vs : List Nat, (wipeG G vs).length = G.length
  | [] => rfl
  | v :: vs => by unfold wipeG; rw [List.length_set, wipeG_length G vs]
end
/-- values that bear a list of assertions -/
inductive AAll : List Asr → List V → Hp → Prop
  | nil {H : Hp} : AAll [] [] H
  | cons {A : Asr} {As : List Asr} {v : V} {vs : List V} {H : Hp} : A.p v H → AAll As vs H → AAll (A :: As) (v :: vs) H
theorem AAll.ex {H H' : Hp} (e : Ex H H') : ∀ {As : List Asr} {vs : List V}, AAll As vs H → AAll As vs H'
  | _, _, .nil => .nil
  | _, _, .cons h t => .cons (Asr.mono _ e h) (AAll.ex e t)
theorem AAll.length {H : Hp} : ∀ {As : List Asr} {vs : List V}, AAll As vs H → As.length = vs.length
  | _, _, .nil => rfl
  | _, _, .cons _ t => by rw [List.length_cons, List.length_cons, AAll.length t]
theorem AAll.get {H : Hp} : ∀ {As : List Asr} {vs : List V} {i : Nat} {A : Asr}, AAll As vs H → As[i]? = some A → ∃ v, vs[i]? = some v ∧ A.p v H
  | _, _, _, _, .nil, e => by simp at e
  | _, _, 0, _, .cons h _, e => by simp at e; subst e; exact ⟨_, rfl, h⟩
  | _, _, i + 1, A, .cons _ t, e => by
    obtain ⟨x, h1, h2⟩ := AAll.get (i := i) (A := A) t (by simpa using e)
    exact ⟨x, by simpa using h1, h2⟩
/-- a def's entry -/
def entry (N : List Str) (As : List Asr) : Gam := As.map some ++ List.replicate (N.length - As.length) none
theorem SOk.entry {N : List Str} {As : List Asr} {vs : List V} {H : Hp} (h : AAll As vs H) : SOk (Slv.entry N As) (L2.start N vs) H := by
  have hl := h.length
  refine ⟨by unfold Slv.entry L2.start; simp [hl], fun i A hi => ?_⟩
  unfold Slv.entry at hi
  by_cases hl2 : i < As.length
  · rw [List.getElem?_append_left (by simpa using hl2), List.getElem?_map] at hi
    obtain ⟨B, hB, e⟩ := Option.map_eq_some_iff.mp hi
    cases e
    obtain ⟨v, hv, q⟩ := h.get hB
    refine ⟨v, ?_, q⟩
    unfold L2.start
    rw [List.getElem?_append_left (by rw [List.length_map, ← hl]; exact hl2), List.getElem?_map, hv]
    rfl
  · rw [List.getElem?_append_right (by simpa using hl2), List.getElem?_replicate] at hi
    split at hi <;> cases hi
def EvG (te : TE) (G : Gam) (H : Hp) (A : Asr) : Prop := ∀ σ H1, SOk G σ H1 → Ex H H1 → ∀ Q : VK, (∀ v H2, Ex H1 H2 → A.p v H2 → Q v H2) → te σ H1 Q
def EvT (tt : TT) (G : Gam) (H : Hp) (b : Bool) : Prop := ∀ σ H1, SOk G σ H1 → Ex H H1 → ∀ Q : Bool → Hp → Prop, (∀ H2, Ex H1 H2 → Q b H2) → tt σ H1 Q
def EvA (ta : TA) (G : Gam) (H : Hp) (As : List Asr) : Prop := ∀ σ H1, SOk G σ H1 → Ex H H1 → ∀ Q : List V → Hp → Prop, (∀ vs H2, Ex H1 H2 → AAll As vs H2 → Q vs H2) → ta σ H1 Q
def EvDs (K : PySem.W.Frag) (ta : TA) (G : Gam) (H : Hp) (ds : List D) : Prop := ∀ σ H1, SOk G σ H1 → Ex H H1 → ∀ Q : List V → Hp → Prop, (∀ vs H2, Ex H1 H2 → DAll K H2 vs ds → Q vs H2) → ta σ H1 Q
def EvO (to : TO) (G : Gam) (H : Hp) (o : Option Int) : Prop := ∀ σ H1, SOk G σ H1 → Ex H H1 → ∀ Q : Option Int → Hp → Prop, (∀ H2, Ex H1 H2 → Q o H2) → to σ H1 Q
/-- a new list -/
def EvN (K : PySem.W.Frag) (te : TE) (G : Gam) (H : Hp) (ds : List D) : Prop := ∀ σ H1, SOk G σ H1 → Ex H H1 → ∀ Q : VK, (∀ p xs H2, H1 p = none → Ex H1 H2 → H2 p = some (.lst xs) → DAll K H2 xs ds → Q (.ref p) H2) → te σ H1 Q
section
variable {K : PySem.W.Frag} {G : Gam} {H H' : Hp} {ta tb tc te : TE} {A B : Asr} {d : D} {i j : Int} {b c : Bool}
theorem EvG.mono (h : EvG te G H A) (e : Ex H H') : EvG te G H' A := fun σ H1 s x Q q => h σ H1 s (e.trans x) Q q
theorem EvT.mono {tt : TT} (h : EvT tt G H b) (e : Ex H H') : EvT tt G H' b := fun σ H1 s x Q q => h σ H1 s (e.trans x) Q q
theorem EvA.mono {ta : TA} {As : List Asr} (h : EvA ta G H As) (e : Ex H H') : EvA ta G H' As := fun σ H1 s x Q q => h σ H1 s (e.trans x) Q q
theorem EvN.mono {ds : List D} (h : EvN K te G H ds) (e : Ex H H') : EvN K te G H' ds := fun σ H1 s x Q q => h σ H1 s (e.trans x) Q q
theorem ev_to (h : EvG te G H A) (hAB : ∀ v H, A.p v H → B.p v H) : EvG te G H B := fun σ H1 s x Q q => h σ H1 s x Q fun v H2 e p => q v H2 e (hAB v H2 p)
theorem ev_is {d' : D} (h : EvG te G H (aD K d)) (e : d = d') : EvG te G H (aD K d') := e ▸ h
theorem ev_isB (h : EvG te G H (aB b)) (e : b = c) : EvG te G H (aB c) := e ▸ h
theorem et_is {tt : TT} (h : EvT tt G H b) (e : b = c) : EvT tt G H c := e ▸ h
theorem ev_isL {ds ds' : List D} (h : EvG te G H (aL K ds)) (e : ds = ds') : EvG te G H (aL K ds') := e ▸ h
theorem ev_var {n : Nat} (h : G[n]? = some (some A)) : EvG (tVar n) G H A := fun σ H1 s x Q q => by
  obtain ⟨v, hv, hp⟩ := s.at_ n A h
  exact ⟨v, hv, q v H1 (Evl.Ex.refl H1) hp⟩
theorem ev_cV {v : V} : EvG (tC v) G H (aV v) := fun _ H1 _ _ _ q => q v H1 (Evl.Ex.refl H1) rfl
theorem ev_int : EvG (tC (.int i)) G H (aD K (.num i)) := fun _ H1 _ _ _ q => q _ H1 (Evl.Ex.refl H1) (.int i)
theorem ev_str {x : Str} : EvG (tC (.str x)) G H (aD K (.text x)) := fun _ H1 _ _ _ q => q _ H1 (Evl.Ex.refl H1) (.str x)
theorem ev_non : EvG (tC .non) G H (aD K .none) := fun _ H1 _ _ _ q => q _ H1 (Evl.Ex.refl H1) .non
theorem ev_nonV : EvG (tC .non) G H (aV .non) := ev_cV
theorem ev_bl : EvG (tC (.bl b)) G H (aB b) := ev_cV
/-- a module's constant tuple -/
theorem ev_ktup {a : Addr} {xs : List V} {ds : List D} (h : ∀ H, SqT K H a xs) (hd : ∀ H, DAll K H xs ds) : EvG (tC (.ref a)) G H (aD K (.tup ds)) := fun _ H1 _ _ _ q => q _ H1 (Evl.Ex.refl H1) (.tup (h H1) (hd H1))
theorem num_of {v : V} {H : Hp} (h : (aV (.int i)).p v H) : (aD K (.num i)).p v H := by
  have e : v = .int i := h
  subst e
  exact DIs.int i
theorem of_num {v : V} {H : Hp} (h : (aD K (.num i)).p v H) : (aV (.int i)).p v H := DIs.num_inv h
/-- an operation on values -/
def RG (r : R2) (A B : Asr) (H : Hp) (C : Asr) : Prop := ∀ H1, Ex H H1 → ∀ x y, A.p x H1 → B.p y H1 → ∀ Q : VK, (∀ v H2, Ex H1 H2 → C.p v H2 → Q v H2) → r x y H1 Q
theorem ev_op {r : R2} {C : Asr} (ha : EvG ta G H A) (hb : EvG tb G H B) (hr : RG r A B H C) : EvG (tOp r ta tb) G H C := fun σ H1 s x Q q =>
  ha σ H1 s x _ fun v H2 e2 p => hb σ H2 (s.ex e2) (x.trans e2) _ fun u H3 e3 p' =>
    hr H3 ((x.trans e2).trans e3) v u (A.mono e3 p) p' Q fun z H4 e4 p4 => q z H4 ((e2.trans e3).trans e4) p4
theorem rg_or1 {r r' : R2} {C : Asr} (h : RG r A B H C) : RG (fun x y H Q => r x y H Q ∨ r' x y H Q) A B H C := fun H1 e x y hx hy Q q => .inl (h H1 e x y hx hy Q q)
theorem rg_or2 {r r' : R2} {C : Asr} (h : RG r' A B H C) : RG (fun x y H Q => r x y H Q ∨ r' x y H Q) A B H C := fun H1 e x y hx hy Q q => .inr (h H1 e x y hx hy Q q)
theorem rg_I0 {g : Int → Int → V} {C : Asr} (hc : ∀ H, C.p (g i j) H) : RG (rI0 g) (aD K (.num i)) (aD K (.num j)) H C := fun H1 e x y hx hy Q q => ⟨i, j, hx.num_inv, hy.num_inv, q _ H1 (Evl.Ex.refl H1) (hc H1)⟩
theorem rg_I {P : Int → Int → Prop} {g : Int → Int → V} {C : Asr} (hp : P i j) (hc : ∀ H, C.p (g i j) H) : RG (rI P g) (aD K (.num i)) (aD K (.num j)) H C := fun H1 e x y hx hy Q q => ⟨i, j, hx.num_inv, hy.num_inv, hp, q _ H1 (Evl.Ex.refl H1) (hc H1)⟩
def RC (r : List V → Hp → VK → Prop) (As : List Asr) (H : Hp) (C : Asr) : Prop := ∀ H1, Ex H H1 → ∀ xs, AAll As xs H1 → ∀ Q : VK, (∀ v H2, Ex H1 H2 → C.p v H2 → Q v H2) → r xs H1 Q
theorem ev_cb {r : List V → Hp → VK → Prop} {ta : TA} {As : List Asr} {C : Asr} (ha : EvA ta G H As) (hr : RC r As H C) : EvG (tCB r ta) G H C := fun σ H1 s x Q q =>
  ha σ H1 s x _ fun vs H2 e2 p => hr H2 (x.trans e2) vs p Q fun z H4 e4 p4 => q z H4 (e2.trans e4) p4
theorem rc_or1 {r r' : List V → Hp → VK → Prop} {As : List Asr} {C : Asr} (h : RC r As H C) : RC (fun xs H Q => r xs H Q ∨ r' xs H Q) As H C := fun H1 e xs hx Q q => .inl (h H1 e xs hx Q q)
theorem rc_or2 {r r' : List V → Hp → VK → Prop} {As : List Asr} {C : Asr} (h : RC r' As H C) : RC (fun xs H Q => r xs H Q ∨ r' xs H Q) As H C := fun H1 e xs hx Q q => .inr (h H1 e xs hx Q q)
theorem ea_nil : EvA tNil G H [] := fun _ H1 _ _ _ q => q [] H1 (Evl.Ex.refl H1) .nil
theorem ea_cons {tr : TA} {As : List Asr} (ha : EvG ta G H A) (hr : EvA tr G H As) : EvA (tCons ta tr) G H (A :: As) := fun σ H1 s x Q q =>
  ha σ H1 s x _ fun v H2 e2 p => hr σ H2 (s.ex e2) (x.trans e2) _ fun vs H3 e3 ps => q _ H3 (e2.trans e3) (.cons (A.mono e3 p) ps)
theorem ed_nil : EvDs K tNil G H [] := fun _ H1 _ _ _ q => q [] H1 (Evl.Ex.refl H1) .nil
theorem ed_cons {tr : TA} {ds : List D} (ha : EvG ta G H (aD K d)) (hr : EvDs K tr G H ds) : EvDs K (tCons ta tr) G H (d :: ds) := fun σ H1 s x Q q =>
  ha σ H1 s x _ fun v H2 e2 p => hr σ H2 (s.ex e2) (x.trans e2) _ fun vs H3 e3 ps => q _ H3 (e2.trans e3) (.cons (DIs.ex p e3) ps)
theorem ev_tup {ta : TA} {ds : List D} (h : EvDs K ta G H ds) (hl : ds.length ≤ 100000) : EvG (tTup ta) G H (aD K (.tup ds)) := fun σ H1 s x Q q =>
  h σ H1 s x _ fun vs H2 e2 p => ⟨Evl.sz_of (by rw [p.length]; exact hl), fun a ha => q _ _ (e2.trans (Evl.Ex.new ha)) (.tup (SqT.of upd_same) (p.ex (Evl.Ex.new ha)))⟩
theorem ev_lst {ta : TA} {ds : List D} (h : EvDs K ta G H ds) (hl : ds.length ≤ 100000) : EvN K (tLst ta) G H ds := fun σ H1 s x Q q =>
  h σ H1 s x _ fun vs H2 e2 p => ⟨Evl.sz_of (by rw [p.length]; exact hl), fun a ha => q a vs _ (Evl.fresh_back e2 ha) (e2.trans (Evl.Ex.new ha)) upd_same (p.ex (Evl.Ex.new ha))⟩
theorem EvN.l {ds : List D} (h : EvN K te G H ds) : EvG te G H (aL K ds) := fun σ H1 s x Q q => h σ H1 s x _ fun p xs H2 _ e2 h2 h3 => q _ H2 e2 ⟨p, xs, rfl, Evl.sq_of h2, h3⟩
structure Spf (ι : Type) where
  As : ι → List Asr
  Pre : ι → Prop
  R : ι → Asr
def Spf.sp {ι : Type} (f : Spf ι) : Sp := fun vs H Q _ => ∃ i, f.Pre i ∧ AAll (f.As i) vs H ∧ ∀ v H', Ex H H' → (f.R i).p v H' → Q v H'
theorem ev_call {ι : Type} {f : Spf ι} {E : XK} {ta : TA} (x : ι) (ha : EvA ta G H (f.As x)) (hp : f.Pre x) : EvG (tCall f.sp [] E ta) G H (f.R x) := fun σ H1 s e Q q =>
  ha σ H1 s e _ fun vs H2 e2 p => ⟨x, hp, by rw [List.append_nil]; exact p, fun v H' e3 r => q v H' (e2.trans e3) r⟩
theorem et_test (h : EvG te G H (aB b)) : EvT (tTest te) G H b := fun σ H1 s x Q q => h σ H1 s x _ fun v H2 e2 p => ⟨b, p, q H2 e2⟩
theorem et_B (h : EvG te G H (aB b)) : EvT (tB te) G H b := fun σ H1 s x Q q => h σ H1 s x _ fun v H2 e2 p => ⟨b, p, q H2 e2⟩
theorem et_and {t u : TT} (h1 : EvT t G H b) (h2 : b = true → EvT u G H c) : EvT (tAnd t u) G H (b && c) := fun σ H1 s x Q q => h1 σ H1 s x _ fun H2 e2 => by
  cases b with
  | true => exact h2 rfl σ H2 (s.ex e2) (x.trans e2) Q fun H3 e3 => q H3 (e2.trans e3)
  | false => exact q H2 e2
theorem et_or {t u : TT} (h1 : EvT t G H b) (h2 : b = false → EvT u G H c) : EvT (tOr t u) G H (b || c) := fun σ H1 s x Q q => h1 σ H1 s x _ fun H2 e2 => by
  cases b with
  | true => exact q H2 e2
  | false => exact h2 rfl σ H2 (s.ex e2) (x.trans e2) Q fun H3 e3 => q H3 (e2.trans e3)
theorem et_not {t : TT} (h1 : EvT t G H b) : EvT (tNot t) G H (!b) := fun σ H1 s x Q q => h1 σ H1 s x _ fun H2 e2 => q H2 e2
theorem et_yes : EvT tYes G H true := fun σ H1 s x Q q => q H1 (Evl.Ex.refl H1)
theorem ev_andV (h1 : EvG ta G H (aB b)) (h2 : b = true → EvG tb G H (aB c)) : EvG (tAndV ta tb) G H (aB (b && c)) := fun σ H1 s x Q q => h1 σ H1 s x _ fun v H2 e2 p => ⟨b, p, by
  cases b with
  | true => exact h2 rfl σ H2 (s.ex e2) (x.trans e2) Q fun v H3 e3 p3 => q v H3 (e2.trans e3) p3
  | false => exact q _ H2 e2 rfl⟩
theorem ev_orV (h1 : EvG ta G H (aB b)) (h2 : b = false → EvG tb G H (aB c)) : EvG (tOrV ta tb) G H (aB (b || c)) := fun σ H1 s x Q q => h1 σ H1 s x _ fun v H2 e2 p => ⟨b, p, by
  cases b with
  | true => exact q _ H2 e2 rfl
  | false => exact h2 rfl σ H2 (s.ex e2) (x.trans e2) Q fun v H3 e3 p3 => q v H3 (e2.trans e3) p3⟩
theorem ev_notV (h1 : EvG ta G H (aB b)) : EvG (tNotV ta) G H (aB (!b)) := fun σ H1 s x Q q => h1 σ H1 s x _ fun v H2 e2 p => ⟨b, p, q _ H2 e2 rfl⟩
theorem ev_if {t : TT} (h : EvT t G H b) (h1 : b = true → EvG ta G H A) (h2 : b = false → EvG tb G H A) : EvG (tIf t ta tb) G H A := fun σ H1 s x Q q => h σ H1 s x _ fun H2 e2 => by
  cases b with
  | true => exact h1 rfl σ H2 (s.ex e2) (x.trans e2) Q fun v H3 e3 p3 => q v H3 (e2.trans e3) p3
  | false => exact h2 rfl σ H2 (s.ex e2) (x.trans e2) Q fun v H3 e3 p3 => q v H3 (e2.trans e3) p3
theorem ev_chain {k : Int} {f g : Int → Int → Bool} (ha : EvG ta G H (aD K (.num i))) (hb : EvG tb G H (aD K (.num j))) (hc : EvG tc G H (aD K (.num k))) :
    EvG (tChain (rI0 fun i j => .bl (f i j)) (rI0 fun i j => .bl (g i j)) ta tb tc) G H (aB (f i j && g j k)) := fun σ H1 s x Q q =>
  ha σ H1 s x _ fun v H2 e2 p2 => hb σ H2 (s.ex e2) (x.trans e2) _ fun u H3 e3 p3 => ⟨i, j, DIs.num_inv p2, DIs.num_inv p3, f i j, rfl, by
    cases hf : f i j with
    | true =>
      show tc σ H3 fun w' H4 => _
      refine hc σ H3 (s.ex (e2.trans e3)) (x.trans (e2.trans e3)) _ fun w' H4 e4 p4 => ⟨j, k, DIs.num_inv p3, DIs.num_inv p4, ?_⟩
      rw [hf] at q
      exact q _ H4 ((e2.trans e3).trans e4) rfl
    | false =>
      rw [hf] at q
      exact q _ H3 (e2.trans e3) rfl⟩
theorem eo_none : EvO tNoPart G H none := fun _ H1 _ _ _ q => q H1 (Evl.Ex.refl H1)
theorem eo_some (h : EvG te G H (aD K (.num i))) : EvO (tPart te) G H (some i) := fun σ H1 s x Q q => h σ H1 s x _ fun v H2 e2 p => ⟨i, DIs.num_inv p, q H2 e2⟩
end
abbrev XE3 := List (D × Addr × Value)
/-- at a: a dict with the entries xs -/
def ddO (P : Program) (w : World) (a : Addr) (xs : XE3) : HO := .ext fun h => (a == sysModules) = false ∧ xs.length ≤ sizeLine ∧
  ∃ o es ep, h.get? a = some o ∧ o.ExactDict ∧ o.data = .dict es ep ∧ es.toList = xs.map (entryOfKey (nestedKind P w)) ∧ (xs.map (·.1)).Nodup
theorem ddO_no {P : Program} {w : World} {a : Addr} {xs : XE3} : noTup (ddO P w a xs) = true := rfl
abbrev KD (K : PySem.W.Frag) (H : Hp) : List (D × V) → XE3 → Prop := Paired fun p q => p.1 = q.1 ∧ (DIs K H (.ref q.2.1) p.1 ∧ p.1.depth ≤ 8) ∧ RelV p.2 q.2.2
/-- to be read; to be written -/
def DDr (P : Program) (w : World) (K : PySem.W.Frag) (H : Hp) (a : Addr) (kvs : List (D × V)) : Prop := ∃ xs, Rd H a (ddO P w a xs) ∧ KD K H kvs xs
def DDw (P : Program) (w : World) (K : PySem.W.Frag) (H : Hp) (a : Addr) (kvs : List (D × V)) : Prop := ∃ xs, H a = some (ddO P w a xs) ∧ KD K H kvs xs
section
variable {P : Program} {w : World} {K : PySem.W.Frag} {H H' : Hp} {a b : Addr} {kvs : List (D × V)} {xs : XE3} {k : D} {v : V} {u : Value}
theorem KD.to (h : KD K H kvs xs) (t : TLe H H') : KD K H' kvs xs := Paired.mapP h fun _ _ z => ⟨z.1, ⟨z.2.1.1.to t, z.2.1.2⟩, z.2.2⟩
theorem KD.val (r : KD K H kvs xs) (k : D) : RelO (valV kvs k) ((atKey xs k).map (·.2)) := by
  induction r with
  | nil => exact True.intro
  | @cons p q ps qs h t ih =>
    obtain ⟨h1, _, h2⟩ := h
    by_cases e : p.1 = k
    · have e' : q.1 = k := h1.symm.trans e
      have b : atKey (q :: qs) k = some q.2 := by simp [atKey, List.find?_cons, e']
      rw [valV_pos e, b]; exact h2
    · have e' : ¬ q.1 = k := fun z => e (h1.trans z)
      have b : atKey (q :: qs) k = atKey qs k := by simp [atKey, List.find?_cons, e']
      rw [valV_neg e, b]; exact ih
theorem KD.repl (r : KD K H kvs xs) (k : D) (ry : RelV v u) : KD K H (kvs.map fun kv => if kv.1 = k then (kv.1, v) else kv) (xs.map (putAt k u)) := by
  induction r with
  | nil => exact .nil
  | @cons p q ps qs h t ih =>
    rw [List.map_cons, List.map_cons]
    refine .cons ?_ ih
    obtain ⟨h1, h2, h3⟩ := h
    unfold putAt
    by_cases e : p.1 = k
    · rw [if_pos e, if_pos (h1.symm.trans e)]; exact ⟨h1, h2, ry⟩
    · rw [if_neg e, if_neg (fun z => e (h1.trans z))]; exact ⟨h1, h2, h3⟩
theorem KD.put (r : KD K H kvs xs) (k : D) (hb : DIs K H (.ref b) k) (hk : k.depth ≤ 8) (ry : RelV v u) : KD K H (putK kvs k v) (storedH xs k b u) := by
  have e : (kvs.any fun kv => decide (kv.1 = k)) = (atKey xs k).isSome := by
    rw [valV_any, (r.val k).isSome_eq, Option.isSome_map]
  unfold putK storedH
  rw [e]
  by_cases q : (atKey xs k).isSome = true
  · rw [if_pos q, if_pos q]; exact r.repl k ry
  · rw [if_neg q, if_neg q]; exact Paired.snoc r ⟨rfl, ⟨hb, hk⟩, ry⟩
theorem KD.keys (r : KD K H kvs xs) : kvs.map (·.1) = xs.map (·.1) := by
  induction r with
  | nil => rfl
  | cons h t ih => rw [List.map_cons, List.map_cons, h.1, ih]
theorem DDw.r (h : DDw P w K H a kvs) : DDr P w K H a kvs := let ⟨xs, h1, h2⟩ := h; ⟨xs, .inl h1, h2⟩
theorem DDr.ex (h : DDr P w K H a kvs) (e : Ex H H') : DDr P w K H' a kvs := let ⟨xs, h1, h2⟩ := h; ⟨xs, Evl.ex_rd e h1, h2.to (tle_of_ex e)⟩
theorem DDw.ex (h : DDw P w K H a kvs) (e : Ex H H') : DDw P w K H' a kvs := let ⟨xs, h1, h2⟩ := h; ⟨xs, e _ _ h1, h2.to (tle_of_ex e)⟩
/-- .. kept at its place, the tuples kept -/
theorem DDw.keep (h : DDw P w K H a kvs) (t : TLe H H') (ha : ∀ o, H a = some o → H' a = some o) : DDw P w K H' a kvs := let ⟨xs, h1, h2⟩ := h; ⟨xs, ha _ h1, h2.to t⟩
theorem DDr.keep (h : DDr P w K H a kvs) (t : TLe H H') (ha : ∀ o, Rd H a o → Rd H' a o) : DDr P w K H' a kvs := let ⟨xs, h1, h2⟩ := h; ⟨xs, ha _ h1, h2.to t⟩
theorem ddO_at {h : Heap} (hok : HOk P w H h) (r : Rd H a (ddO P w a xs)) : (a == sysModules) = false ∧ xs.length ≤ sizeLine ∧
    ∃ o es ep, h.get? a = some o ∧ o.ExactDict ∧ o.data = .dict es ep ∧ es.toList = xs.map (entryOfKey (nestedKind P w)) ∧ (xs.map (·.1)).Nodup := by
  have x : ObjOk P w H h a (ddO P w a xs) := r.ok hok
  exact x.1
theorem ddO_ok {h : Heap} (h1 : (a == sysModules) = false) (h2 : xs.length ≤ sizeLine) (h3 : ∃ o es ep, h.get? a = some o ∧ o.ExactDict ∧ o.data = .dict es ep ∧ es.toList = xs.map (entryOfKey (nestedKind P w)) ∧ (xs.map (·.1)).Nodup) :
    ObjOk P w H h a (ddO P w a xs) := by
  obtain ⟨o, es, ep, ho, r⟩ := h3
  exact ⟨⟨h1, h2, o, es, ep, ho, r⟩, ⟨o, ho⟩, fun g1 g2 ⟨z1, z2, o', es', ep', ho', r'⟩ k => ⟨z1, z2, o', es', ep', k _ ho', r'⟩⟩
theorem kd_nodup {h : Heap} (hok : HOk P w H h) (x : DDr P w K H a kvs) : (kvs.map (·.1)).Nodup := by
  obtain ⟨xs, r, kd⟩ := x
  obtain ⟨_, _, _, _, _, _, _, _, _, hn⟩ := ddO_at hok r
  rw [kd.keys]
  exact hn
end
section
variable {X : Cx} {pins : List (Addr × Obj)} {σ : L2.St} {H : Hp} {s : Shared} {a b : Addr} {kvs : List (D × V)} {xs : XE3} {k : D} {v : V} {u : Value} {A : Around} {E : Value → Shared → Prop}
theorem kd_is (I : Inv X pins σ H s) (r : KD X.K H kvs xs) : ∀ x ∈ xs, (nestedKind X.prog X.w).is s.heap x.1 x.2.1 := by
  induction r with
  | nil => intro x hx; cases hx
  | @cons p q ps qs h t ih =>
    intro x hx
    rcases List.mem_cons.mp hx with rfl | hx
    · obtain ⟨h1, ⟨h2, h3⟩, _⟩ := h
      rw [← h1]
      exact ⟨DIs.key I _ _ _ h2 rfl, h3⟩
    · exact ih x hx
/-- the library's way of telling it -/
theorem dd_lib (I : Inv X pins σ H s) (r : Rd H a (ddO X.prog X.w a xs)) (kd : KD X.K H kvs xs) : (a == sysModules) = false ∧ xs.length ≤ sizeLine ∧ s.heap.DictOfH (nestedKind X.prog X.w) a xs := by
  obtain ⟨h1, h2, o, es, ep, ho, hx, hd, he, hn⟩ := ddO_at I.hok r
  exact ⟨h1, h2, o, es, ep, ho, hx, hd, he, kd_is I kd, hn⟩
theorem room8 (hu : A.units + 64 < cLine) : (nestedKind X.prog X.w).room A.in1 := by
  show A.units + 1 + 8 < cLine
  omega
theorem room80 (hu : A.units + 64 < cLine) : (nestedKind X.prog X.w).room A := by
  show A.units + 8 < cLine
  omega
theorem room82 (hu : A.units + 64 < cLine) : (nestedKind X.prog X.w).room A.in1.in1 := by
  show A.units + 1 + 1 + 8 < cLine
  omega
theorem key_is (I : Inv X pins σ H s) (hk : DIs X.K H (.ref b) k) (hd : k.depth ≤ 8) : (nestedKind X.prog X.w).is s.heap k b := ⟨DIs.key I _ _ _ hk rfl, hd⟩
/-- a key is an object -/
theorem key_ref {x : V} (h : DIs X.K H x k) (hk : ∃ ds, k = .tup ds) : ∃ b, x = .ref b := by
  obtain ⟨ds, rfl⟩ := hk
  obtain ⟨a, xs, e, _⟩ := h.tup_inv
  exact ⟨a, e⟩
def isTup : D → Bool
  | .tup _ => true
  | _ => false
theorem isTup_ex : ∀ {k : D}, isTup k = true → ∃ ds, k = .tup ds
  | .tup ds, _ => ⟨ds, rfl⟩
  | .none, h => by cases h
  | .num _, h => by cases h
  | .text _, h => by cases h
def rInD2 (P : Program) (w : World) (K : PySem.W.Frag) : R2 := fun x y H Q => ∃ a kvs k, y = .ref a ∧ DDr P w K H a kvs ∧ DIs K H x k ∧ isTup k = true ∧ k.depth ≤ 8 ∧ Q (.bl (valV kvs k).isSome) H
def rNotInD2 (P : Program) (w : World) (K : PySem.W.Frag) : R2 := fun x y H Q => ∃ a kvs k, y = .ref a ∧ DDr P w K H a kvs ∧ DIs K H x k ∧ isTup k = true ∧ k.depth ≤ 8 ∧ Q (.bl (!(valV kvs k).isSome)) H
def rGetD2 (P : Program) (w : World) (K : PySem.W.Frag) : R2 := fun x y H Q => ∃ a kvs k v, x = .ref a ∧ DDr P w K H a kvs ∧ DIs K H y k ∧ isTup k = true ∧ k.depth ≤ 8 ∧ valV kvs k = some v ∧ Q v H
theorem op_inD2 (hu : X.A.units + 64 < cLine) : OpR X (compareOp .In) (rInD2 X.prog X.w X.K) := by
  intro pins s σ H x y v u Q I rx ry ⟨a, kvs, k, ey, ⟨xs, r, kd⟩, hk, ht, hd, q⟩
  subst ey
  cases ry
  obtain ⟨b, rfl⟩ := key_ref (X := X) hk (isTup_ex ht)
  cases rx
  obtain ⟨h1, h2, h3⟩ := dd_lib I r kd
  refine wpAny_in_heap (room8 hu) (key_is I hk hd) h1 h3 ?_
  rw [(kd.val k).isSome_eq, Option.isSome_map] at q
  exact ⟨.bl _, H, I.tok _, rfl, q⟩
theorem op_notInD2 (hu : X.A.units + 64 < cLine) : OpR X (compareOp .NotIn) (rNotInD2 X.prog X.w X.K) := by
  intro pins s σ H x y v u Q I rx ry ⟨a, kvs, k, ey, ⟨xs, r, kd⟩, hk, ht, hd, q⟩
  subst ey
  cases ry
  obtain ⟨b, rfl⟩ := key_ref (X := X) hk (isTup_ex ht)
  cases rx
  obtain ⟨h1, h2, h3⟩ := dd_lib I r kd
  refine notIn_keyed (knd := nestedKind X.prog X.w) (kvs := pairsH xs) (room8 hu) (key_is I hk hd) h1 ⟨xs, h3, rfl⟩ ?_
  rw [(kd.val k).isSome_eq, Option.isSome_map] at q
  rw [valueAt_pairsH, Option.isSome_map]
  exact ⟨.bl _, H, I.tok _, rfl, q⟩
theorem dd_typeIs (I : Inv X pins σ H s) (r : Rd H a (ddO X.prog X.w a xs)) : s.TypeIs (.ref a) "dict" ∧ ∃ ob, s.heap.get? a = some ob ∧ ob.dict = none := by
  obtain ⟨h1, h2, o, es, ep, ho, hx, _⟩ := ddO_at I.hok r
  exact ⟨⟨o, ho, hx.1⟩, o, ho, hx.2.1⟩
theorem dd_get {x y : V} {v u : Value} {Q : VK} (hu : X.A.units + 64 < cLine) (I : Inv X pins σ H s) (rx : RelV x v) (ry : RelV y u) (h : rGetD2 X.prog X.w X.K x y H Q) :
    s.TypeIs v "dict" ∧ wpAny (model X.prog X.w) X.A (getItem v u) (EP X pins σ Q) X.xe s := by
  obtain ⟨a, kvs, k, z, ex, ⟨xs, r, kd⟩, hk, ht, hd, hv, q⟩ := h
  subst ex
  cases rx
  obtain ⟨b, rfl⟩ := key_ref (X := X) hk (isTup_ex ht)
  cases ry
  obtain ⟨h1, h2, h3⟩ := dd_lib I r kd
  have z2 := kd.val k
  rw [hv] at z2
  obtain ⟨u, hu2, ru⟩ := RelO.some_of z2
  obtain ⟨p, hp, e2⟩ := Option.map_eq_some_iff.mp hu2
  subst e2
  exact ⟨(dd_typeIs I r).1, wpAny_getItem_heap (room8 hu) (key_is I hk hd) h3 hp ⟨z, H, I.tok _, ru, q⟩⟩
def rSetD2 (P : Program) (w : World) (K : PySem.W.Frag) : TSet := fun o i v H Q => ∃ a kvs k b, o = .ref a ∧ i = .ref b ∧ DDw P w K H a kvs ∧ DIs K H i k ∧ isTup k = true ∧ k.depth ≤ 8 ∧ kvs.length < sizeLine ∧
  ∀ H', (∃ u, H' = upd H a u ∧ noTup u = true) → DDw P w K H' a (putK kvs k v) → Q H'
theorem KD.length {K : PySem.W.Frag} {H : Hp} {kvs : List (D × V)} {xs : XE3} (r : KD K H kvs xs) : kvs.length = xs.length := Paired.length r
theorem dd_wrote {h' : Heap} {tk : Nat} {xs' : XE3} {kvs' : List (D × V)} (I : Inv X pins σ H s) (e : H a = some (ddO X.prog X.w a xs)) (h1 : (a == sysModules) = false) (hl : xs'.length ≤ sizeLine) (dd' : h'.DictOfH (nestedKind X.prog X.w) a xs')
    (hs : Heap.SameBut a s.heap h') (kd' : KD X.K H kvs' xs') : Inv X pins σ (upd H a (ddO X.prog X.w a xs')) { s with heap := h', toks := tk } ∧ DDw X.prog X.w X.K (upd H a (ddO X.prog X.w a xs')) a kvs' := by
  obtain ⟨o, es, ep, ho, hx, hd, he, _, hn⟩ := dd'
  refine ⟨d_write I (by rw [e]; exact True.intro) hs ⟨o, ho⟩ (ddO_ok h1 hl ⟨o, es, ep, ho, hx, hd, he, hn⟩), xs', upd_same, kd'.to (tle_upd e ddO_no)⟩
theorem set_dd (hu : X.A.units + 64 < cLine) : PSet X (rSetD2 X.prog X.w X.K) := by
  intro pins s σ H o i v ov iv u Q I r1 r2 r3 ⟨a, kvs, k, b, eo, ei, ⟨xs, e, kd⟩, hk, ht, hd, hl, q⟩
  subst eo ei
  cases r1
  cases r2
  obtain ⟨h1, h2, h3⟩ := dd_lib I (.inl e) kd
  refine wpAny_setItem_heap (hsz := h2) (room8 hu) (key_is I hk hd) h3 fun h' dd' hs => ?_
  have kd' := kd.put k hk hd r3
  have hl' : (storedH xs k b u).length ≤ sizeLine := by
    rw [← kd'.length]
    have := length_putK kvs k v
    omega
  obtain ⟨J, w'⟩ := dd_wrote (tk := s.toks + (nestedKind X.prog X.w).draws k) I e h1 hl' dd' hs kd'
  exact ⟨_, J, q _ ⟨_, rfl, ddO_no⟩ w'⟩
def tDNewD (P : Program) (w : World) (K : PySem.W.Frag) : TE := fun _ H Q => ∀ p H', H p = none → (∃ u, H' = upd H p u ∧ noTup u = true) → DDw P w K H' p [] → Q (.ref p) H'
theorem dd_empty {P : Program} {w : World} {H : Hp} (h : Heap) (hb : sysModules < h.objs.size) : ObjOk P w H (h.push { cls := .type "dict", data := .dict #[] }) h.objs.size (ddO P w h.objs.size []) :=
  ddO_ok (beq_eq_false_iff_ne.mpr (Ne.symm (Nat.ne_of_lt hb))) (Nat.zero_le _) ⟨_, #[], 0, Heap.get?_push_size _ rfl, ⟨rfl, rfl, rfl⟩, rfl, rfl, List.nodup_nil⟩
theorem pe_dnewD {pos : Pos} : PE X (.Dict [] [] pos) (tDNewD X.prog X.w X.K) := ⟨fun pins s σ H Q I h =>
  wpAny_Dict_empty ⟨.ref s.heap.objs.size, _, I.laid (a := s.heap.objs.size) (o := ddO X.prog X.w s.heap.objs.size []) (t' := s.toks) (fun _ _ q => Heap.get?_push_of_some _ q) (Nat.le_refl _) (dd_empty s.heap I.big), rfl,
    h _ _ (I.hok.fresh (Nat.le_refl _)) ⟨_, rfl, ddO_no⟩ ⟨[], upd_same, .nil⟩⟩⟩
def rLenD2 (P : Program) (w : World) (K : PySem.W.Frag) : List V → Hp → VK → Prop := fun vs H Q => ∃ a kvs, vs = [.ref a] ∧ DDr P w K H a kvs ∧ Q (.int kvs.length) H
theorem call_lenD2 : CallR X (.builtin "len") (rLenD2 X.prog X.w X.K) := by
  intro pins s σ H vs us Q I r ⟨a, kvs, e, ⟨xs, rd, kd⟩, q⟩
  subst e
  obtain ⟨u, rfl, rx⟩ := vals1 r
  cases rx
  obtain ⟨h1, h2, h3⟩ := dd_lib I rd kd
  have hm : s.heap.DictKeyed (nestedKind X.prog X.w) a (pairsH xs) := ⟨xs, h3, rfl⟩
  refine PyProof.Rows.call_len_slot (n := (pairsH xs).length) hm.typeIs PySem.F.slot_dict_len (fun Q' hq => len_keyed h1 hm hq) (by omega) (by rw [pairsH_length]; rw [sizeLine_eq] at h2; omega) ?_
  rw [pairsH_length, ← kd.length]
  exact ⟨.int kvs.length, H, I.tok _, ⟨_, rfl⟩, q⟩
end
section
variable {X : Cx} {pins : List (Addr × Obj)} {σ : L2.St} {H : Hp} {s : Shared} {d : Addr} {o : Obj} {xs : XE3}
theorem dd_frz (I : Inv X pins σ H s) (h : H d = some (.frz o (ddO X.prog X.w d xs))) : (d == sysModules) = false ∧ s.heap.get? d = some o ∧ o.ExactDict ∧ ∃ (es : Array DictEntry) (ep : Nat), o.data = .dict es ep ∧ es.size = xs.length ∧
    ∀ (i : Nat) (x : D × Addr × Value), xs[i]? = some x → ∃ en : DictEntry, es[i]? = some en ∧ en.key = .ref x.2.1 ∧ en.val = x.2.2 := by
  have z : ObjOk X.prog X.w H s.heap d (.frz o (ddO X.prog X.w d xs)) := I.hok d _ h
  obtain ⟨hg, q⟩ := z
  obtain ⟨⟨h1, h2, o', es, ep, ho, hx, hd, he, _⟩, _⟩ := q
  rw [hg] at ho
  cases ho
  refine ⟨h1, hg, hx, es, ep, hd, size_of_entries he, fun i x hi => ?_⟩
  have q := entry_at he i
  rw [hi, Option.map_some] at q
  exact ⟨_, q, rfl, rfl⟩
end
/-- the keys of the locked dict at d -/
def Itq (P : Program) (w : World) (d : Addr) (o : Obj) (xs : XE3) : It :=
  ⟨fun i H => H d = some (.frz o (ddO P w d xs)) ∧ i < xs.length, fun i H x H' => H' = H ∧ ∃ t, xs[i]? = some t ∧ x = .ref t.2.1, fun i H => H d = some (.frz o (ddO P w d xs)) ∧ xs.length ≤ i⟩
/-- its pairs, each a new tuple -/
def Itp (P : Program) (w : World) (d : Addr) (o : Obj) (xs : XE3) : It :=
  ⟨fun i H => H d = some (.frz o (ddO P w d xs)) ∧ (i < xs.length ∧ ∀ t, xs[i]? = some t → ∃ v, RelV v t.2.2), fun i H x H' => ∃ T t v, xs[i]? = some t ∧ RelV v t.2.2 ∧ x = .ref T ∧ H T = none ∧ H' = upd H T (.tup [.ref t.2.1, v]),
    fun i H => H d = some (.frz o (ddO P w d xs)) ∧ xs.length ≤ i⟩
section
variable {P : Program} {w : World} {K : PySem.W.Frag} {tg : Expr} {d : Addr} {o : Obj} {xs : XE3} {es : Array DictEntry} {ep : Nat}
theorem same_data {o : Obj} {es es' : Array DictEntry} {ep ep' : Nat} (a : o.data = .dict es ep) (b : o.data = .dict es' ep') : es' = es ∧ ep' = ep := by
  rw [a] at b
  cases b
  exact ⟨rfl, rfl⟩
theorem turn_q (it : Addr) (hod : o.data = .dict es ep) : Turn P w K tg (Itq P w d o xs) [it] it (fun i h => h.IsKeyIter it d i xs.length ep) := by
  have only : ∀ b ∈ [it], b = it := fun b hb => by simpa using hb
  constructor
  · simp
  · intro i h st b hb
    rw [only b hb]
    obtain ⟨oi, e, _, dd⟩ := st
    exact ⟨oi, e, fun v z => by rw [dd] at z; cases z⟩
  · exact fun i h h' st k => st.at fun oi e => k it (by simp) oi e
  · rintro X rfl rfl rfl hc i pins s σ H E I hf st ⟨hd, hi⟩
    obtain ⟨f0, f1, f2, f3, f4, f5⟩ := hf it (by simp)
    obtain ⟨_, hgd, _, es', ep', hdt, hsz, ent⟩ := dd_frz I hd
    obtain ⟨rfl, rfl⟩ := same_data hod hdt
    have hx := List.getElem?_eq_getElem hi
    obtain ⟨en, hen, hkey, _⟩ := ent i _ hx
    refine next_key_item st hgd hdt hsz hen fun h' st' sb => ?_
    have J : Inv X pins σ H { s with heap := h' } := I.turned (t' := s.toks) (fun b ob hb e => (sb.2 b hb).trans e) f0 f1 f3 f4 f5
    obtain ⟨oi, e, c, dd⟩ := id st'
    exact ⟨en.key, rfl, go_of (s := { s with heap := h' }) e c dd (by decide) ⟨.ref _, H, J, hkey, ⟨rfl, _, hx, rfl⟩, st', fun b hb => (hf b hb).1⟩⟩
  · rintro X rfl rfl rfl hc i pins s σ H E I hf st ⟨hd, hi⟩
    obtain ⟨f0, f1, f2, f3, f4, f5⟩ := hf it (by simp)
    obtain ⟨_, hgd, _, es', ep', hdt, hsz, _⟩ := dd_frz I hd
    obtain ⟨rfl, rfl⟩ := same_data hod hdt
    exact next_key_end (I.ok.hd hc) st hgd hdt hsz hi fun h' eb => ⟨rfl, I.turned (t' := s.toks) (fun b ob hb e => eb b ob hb e) f0 f1 f3 f4 f5⟩
  · intro A i s Q E st h
    refine wpAny_pyIter_slot st.typeIs F.slot_dict_keyiterator_iter (wpAny_call_entry F.slot_dict_keyiterator_iter st.typeIs F.entry_dict_keyiterator_iter ?_ (F.args_dict_keyiterator_iter_1 _))
    exact wpAny_pure ⟨_, rfl, "dict_keyiterator", _, st.typeIs, F.slot_dict_keyiterator_next.lookup, h⟩
theorem turn_p {elts : List Expr} {kk : Nat} {tpos : Pos} (it : Addr) (hod : o.data = .dict es ep) :
    Turn P w K (.Tuple elts kk tpos) (Itp P w d o xs) [it] it (fun i h => ∃ ok ov, IsItemIter h it d i xs.length ep ok ov) := by
  have only : ∀ b ∈ [it], b = it := fun b hb => by simpa using hb
  constructor
  · simp
  · rintro i h ⟨ok, ov, e⟩ b hb
    rw [only b hb]
    exact ⟨_, e, fun v z => nomatch z⟩
  · rintro i h h' ⟨ok, ov, e⟩ k
    exact ⟨ok, ov, k it (by simp) _ e⟩
  · rintro X rfl rfl rfl hc i pins s σ H E I hf ⟨ok, ov, st⟩ ⟨hd, hi, hv⟩
    obtain ⟨_, hgd, hex, es', ep', hdt, hsz, ent⟩ := dd_frz I hd
    obtain ⟨rfl, rfl⟩ := same_data hod hdt
    have hx := List.getElem?_eq_getElem hi
    obtain ⟨v, rv⟩ := hv _ hx
    obtain ⟨en, hen, hkey, hval⟩ := ent i _ hx
    have hlt : it < s.heap.objs.size := Heap.lt_size st
    have his : i < es'.size := by omega
    have een : es'[i] = en := by
      rw [Array.getElem?_eq_getElem his] at hen
      exact Option.some.inj hen
    rw [← hsz] at st
    refine wpAny_pyNext_items_item_raw st ⟨o, hgd, hex, hdt⟩ his fun h' ho hT hz hk => ?_
    refine ⟨_, rfl, wpAny_letOwnedTupleGo_items (s := { s with heap := h' }) ho fun h'' he' sb => ?_⟩
    have hT2 := (sb.2 _ (Nat.ne_of_gt hlt)).trans hT
    rw [een, hkey, hval] at hT2
    have new : ObjOk X.prog X.w (upd H s.heap.objs.size (.tup [.ref xs[i].2.1, v])) h'' s.heap.objs.size (.tup [.ref xs[i].2.1, v]) :=
      ⟨by show 2 ≤ sizeLine; decide, [.ref xs[i].2.1, xs[i].2.2], .cons rfl (.cons rv .nil), ⟨_, hT2, rfl, _, rfl⟩⟩
    have J : Inv X pins σ (upd H s.heap.objs.size (.tup [.ref xs[i].2.1, v])) { s with heap := h'' } :=
      I.turnedNew (t' := s.toks) (ch := [it]) (fun b ob hb e => (sb.2 b (by simpa using hb)).trans (hk b ob (by simpa using hb) e)) hf (Nat.le_refl _) new
    refine ⟨.ref s.heap.objs.size, _, J, rfl, ⟨_, _, v, hx, rv, rfl, I.hok.fresh (Nat.le_refl _), rfl⟩, ⟨_, _, by rw [← hsz]; exact he'⟩, fun b hb => ?_⟩
    rw [only b hb, upd_ne (Nat.ne_of_lt hlt)]
    exact (hf it (by simp)).1
  · rintro X rfl rfl rfl hc i pins s σ H E I hf ⟨ok, ov, st⟩ ⟨hd, hi⟩
    obtain ⟨f0, f1, f2, f3, f4, f5⟩ := hf it (by simp)
    obtain ⟨_, hgd, hex, es', ep', hdt, hsz, _⟩ := dd_frz I hd
    obtain ⟨rfl, rfl⟩ := same_data hod hdt
    rw [← hsz] at st
    exact wpAny_pyNext_items_end_raw (I.ok.hd hc) st ⟨o, hgd, hex, hdt⟩ (by omega) fun h' eb => ⟨rfl, I.turned (t' := s.toks) (fun b ob hb e => eb b ob hb e) f0 f1 f3 f4 f5⟩
  · rintro A i s Q E ⟨_, _, e⟩ h
    exact PySem.W.kcp_self e h
end
/-- for k in d; for k, v in d.items(), the dict locked -/
def iKeysD (P : Program) (w : World) (td : TE) : TI := fun σ H R => td σ H fun x H1 => ∃ d o xs, x = .ref d ∧ H1 d = some (.frz o (ddO P w d xs)) ∧ R (Itq P w d o xs) H1
def iItemsD (P : Program) (w : World) (td : TE) : TI := fun σ H R => td σ H fun x H1 => ∃ d o xs, x = .ref d ∧ H1 d = some (.frz o (ddO P w d xs)) ∧ R (Itp P w d o xs) H1
section
variable {X : Cx} {tg e : Expr} {td : TE} {apos cpos : Pos}
theorem pi_keysD (he : PE X e td) : PI X tg e (iKeysD X.prog X.w td) := by
  refine ⟨fun pins s σ H R I h => ?_⟩
  refine thn (he.run pins s σ H _ I h) fun u s1 ⟨x, H1, I1, rx, d, o, xs, ex, hd, q⟩ => ?_
  subst ex
  cases rx
  obtain ⟨hs, hgd, hx, es, ep, hdt, hsz, ent⟩ := dd_frz I1 hd
  refine iter_keys hs hgd hx hdt (pi_one (tk := s1.toks) I1 _ (turn_q _ hdt) ⟨_, Heap.get?_push_size _ rfl, rfl, ?_⟩ q)
  rw [hsz] <;> rfl
theorem pi_itemsD {elts : List Expr} {kk : Nat} {tpos : Pos} (he : PE X e td) (hbase : attributeBase e "items" X.env (eval e X.env) = eval e X.env := by rfl) (hline : (apos.endLine == cpos.line) = true := by rfl) :
    PI X (.Tuple elts kk tpos) (.Call (.Attribute e "items" apos) [] [] cpos) (iItemsD X.prog X.w td) := by
  refine ⟨fun pins s σ H R I h => ?_⟩
  refine wpAny_Call_method (T := "dict") (id := "dict.items") hbase rfl hline F.plainAttrs_dict F.slot_dict_items F.type_dict_items (thn (he.run pins s σ H _ I h) fun u s1 ⟨x, H1, I1, rx, d, o, xs, ex, hd, q⟩ => ?_)
  subst ex
  cases rx
  obtain ⟨hs, hgd, hx, es, ep, hdt, hsz, ent⟩ := dd_frz I1 hd
  have raw : s1.heap.DictRaw d es ep := ⟨o, hgd, hx, hdt⟩
  refine ⟨raw.typeIs, fun b z => by cases z; exact ⟨o, hgd, hx.2.1⟩, ?_⟩
  have I2 : Inv X pins σ H1 { s1 with heap := s1.heap.push { cls := .type "dict_items", data := .fields #[.ref d] } } := I1.kept (t' := s1.toks) fun b ob q => Heap.get?_push_of_some _ q
  have fin : wpAny (model X.prog X.w) X.A (pyIter (.ref s1.heap.objs.size)) (PIE X pins σ (.Tuple elts kk tpos) R) X.xe { s1 with heap := s1.heap.push { cls := .type "dict_items", data := .fields #[.ref d] } } := by
    refine wpAny_pyIter_items_raw (d := d) ⟨_, Heap.get?_push_size _ rfl, rfl, rfl⟩ (raw.at fun ob q => Heap.get?_push_of_some _ q) (pi_one (tk := s1.toks) I2 _ (turn_p _ hdt) ⟨.none, .none, ?_⟩ q)
    rw [← hsz]
    exact Heap.get?_push_size _ rfl
  show wpAny _ _ (callWith cpos (.builtin "dict.items") [.ref d] [] []) _ X.xe s1
  exact method_meetsIn F.slot_dict_items F.entry_dict_items rfl (PySem.evalArgs_none ⟨rfl, raw.typeIs, F.args_dict_items_1 _, _, meets_dict_items_raw d hs, ⟨es, ep, raw⟩, fin⟩)
def rListD2 (P : Program) (w : World) (K : PySem.W.Frag) : List V → Hp → VK → Prop := fun vs H Q => ∃ a kvs, vs = [.ref a] ∧ DDr P w K H a kvs ∧
  ∀ p ys H', H p = none → H' = upd H p (.lst ys) → DAll K H' ys (kvs.map (·.1)) → Q (.ref p) H'
theorem dall_keys {K : PySem.W.Frag} {H : Hp} {kvs : List (D × V)} {xs : XE3} (kd : KD K H kvs xs) : DAll K H (xs.map fun t => V.ref t.2.1) (kvs.map (·.1)) := by
  induction kd with
  | nil => exact .nil
  | cons h t ih => rw [List.map_cons, List.map_cons]; exact .cons h.2.1.1 ih
theorem call_listD2 (hcalm : X.calm = true) : CallR X (.type "list") (rListD2 X.prog X.w X.K) := by
  intro pins s σ H vs us Q I r ⟨a, kvs, e, ⟨xs, rd, kd⟩, q⟩
  subst e
  obtain ⟨u, rfl, rx⟩ := vals1 r
  cases rx
  obtain ⟨h1, h2, h3⟩ := dd_lib I rd kd
  obtain ⟨es, ep, hr, hs, he⟩ := h3.raw
  refine PySem.W.kdl_call (PySem.KdlSrc.rawDict h1) (I.ok.hd hcalm) hr (by omega) fun h' tk acc c k hacc hit => ?_
  have eacc : acc.toList = xs.map fun t => Value.ref t.2.1 := by
    apply List.ext_getElem?
    intro i
    rw [List.getElem?_map]
    obtain ⟨l1, l2⟩ := hit
    by_cases hi : i < es.size
    · obtain ⟨y, hy, hk, _⟩ := he i hi
      rw [hy, Option.map_some]
      have hi2 : i < acc.size := by omega
      have z := l2 i _ (Array.getElem?_eq_getElem hi2)
      obtain ⟨_, z⟩ := z
      rw [Array.getElem?_toList, Array.getElem?_eq_getElem hi2, z, hk]
    · rw [List.getElem?_eq_none (by rw [Array.length_toList]; omega), List.getElem?_eq_none (by omega)]
      rfl
  have rv : Vals (xs.map fun t => V.ref t.2.1) acc.toList := by
    rw [eacc]
    clear eacc rd kd h3 hr hs he h2
    induction xs with
    | nil => exact .nil
    | cons t xs ih => exact .cons rfl ih
  refine ⟨.ref s.heap.objs.size, upd H s.heap.objs.size (.lst (xs.map fun t => V.ref t.2.1)), I.laid (t' := tk) k (Nat.le_refl _) ⟨by rw [List.length_map]; exact h2, acc.toList, c, rv, by simpa using hacc⟩, rfl, ?_⟩
  have hn := I.hok.fresh (Nat.le_refl _)
  exact q _ _ _ hn rfl ((dall_keys kd).ex (Evl.Ex.new hn))
end
theorem storedAll_fresh : ∀ (ps acc : XE3), ((acc ++ ps).map (·.1)).Nodup → storedAllH acc ps = acc ++ ps
  | [], acc, _ => by rw [List.append_nil]; rfl
  | p :: ps, acc, h => by
    have hn : atKey acc p.1 = none := by
      unfold atKey
      rw [Option.map_eq_none_iff, List.find?_eq_none]
      intro x hx hxp
      have e : x.1 = p.1 := by simpa using hxp
      rw [List.map_append, List.map_cons, List.nodup_append] at h
      exact h.2.2 x.1 (List.mem_map.mpr ⟨x, hx, rfl⟩) p.1 List.mem_cons_self e
    have e1 : storedH acc p.1 p.2.1 p.2.2 = acc ++ [p] := by
      unfold storedH
      rw [hn]
      rfl
    show storedAllH (storedH acc p.1 p.2.1 p.2.2) ps = acc ++ p :: ps
    rw [e1, storedAll_fresh ps (acc ++ [p]) (by simpa using h)]
    simp
section
variable {X : Cx} {pins : List (Addr × Obj)} {σ : L2.St} {H : Hp} {s : Shared}
theorem pairs_raw (I : Inv X pins σ H s) : ∀ (ps : List (D × Int)) (xs : List V) (its : List Value), DAll X.K H xs (ps.map fun p => .tup [p.1, .num p.2]) → (∀ p ∈ ps, isTup p.1 = true ∧ p.1.depth ≤ 8) → Vals xs its →
    ∃ zs : List (Addr × D × Addr × Value), its = zs.map (fun z => Value.ref z.1) ∧ (∀ z ∈ zs, IsTup s.heap z.1 #[.ref z.2.2.1, z.2.2.2]) ∧ KD X.K H (ps.map fun p => (p.1, V.int p.2)) (zs.map (·.2))
  | [], _, _, h, _, r => by
    cases h
    cases r
    exact ⟨[], rfl, fun z hz => (by cases hz), .nil⟩
  | p :: ps, _, _, h, hk, r => by
    rw [List.map_cons] at h
    cases h with
    | cons h1 h2 =>
      cases r with
      | cons r1 r2 =>
        obtain ⟨zs, e1, e2, e3⟩ := pairs_raw I ps _ _ h2 (fun q hq => hk q (List.mem_cons_of_mem _ hq)) r2
        obtain ⟨T, ys, eT, hT, hys⟩ := h1.tup_inv
        subst eT
        cases r1
        obtain ⟨hp1, hp2⟩ := hk p List.mem_cons_self
        cases hys with
        | cons k1 k2 =>
          cases k2 with
          | cons k3 k4 =>
            cases k4
            obtain ⟨b, eb⟩ := key_ref (X := X) k1 (isTup_ex hp1)
            subst eb
            have en := k3.num_inv
            subst en
            obtain ⟨ts, rv, ht, _⟩ := I.tuple hT
            cases rv with
            | cons v1 v2 =>
              cases v2 with
              | cons v3 v4 =>
                cases v4
                cases v1
                exact ⟨(T, p.1, b, _) :: zs, by rw [e1]; rfl, fun z hz => by
                  rcases List.mem_cons.mp hz with rfl | hz
                  · exact ht
                  · exact e2 z hz, .cons ⟨rfl, ⟨k1, hp2⟩, v3⟩ e3⟩
def rDictL (P : Program) (w : World) (K : PySem.W.Frag) : List V → Hp → VK → Prop := fun vs H Q => ∃ (a : Addr) (ps : List (D × Int)) (xs : List V), vs = [.ref a] ∧ SqL K H a xs ∧ DAll K H xs (ps.map fun p => .tup [p.1, .num p.2]) ∧
  (∀ p ∈ ps, isTup p.1 = true ∧ p.1.depth ≤ 8) ∧ (ps.map (·.1)).Nodup ∧ ∀ p H', H p = none → (∃ u, H' = upd H p u ∧ noTup u = true) → DDw P w K H' p (ps.map fun q => (q.1, V.int q.2)) → Q (.ref p) H'
theorem call_dictL (hcalm : X.calm = true) (hu : X.A.units + 64 < cLine) : CallR X (.type "dict") (rDictL X.prog X.w X.K) := by
  intro pins s σ H vs us Q I r ⟨a, ps, xs, e, hl, hd, hk, hn, q⟩
  subst e
  obtain ⟨u, rfl, rx⟩ := vals1 r
  cases rx
  obtain ⟨its, rv, ⟨o, n, ho, hc, hdi, hdat⟩, hz⟩ := I.list hl
  obtain ⟨zs, e1, e2, kd⟩ := pairs_raw I ps xs its hd hk rv
  subst e1
  have hlen : xs.length = zs.length := by rw [rv.length, List.length_map]
  have hlen2 : ps.length = zs.length := by
    have := kd.length
    rw [List.length_map, List.length_map] at this
    exact this
  have atz : ∀ (j : Nat) (k v : Value), (zs.map fun z => (Value.ref z.2.2.1, z.2.2.2))[j]? = some (k, v) → ∃ z, zs[j]? = some z ∧ k = .ref z.2.2.1 ∧ v = z.2.2.2 := fun j k v hj => by
    rw [List.getElem?_map] at hj
    obtain ⟨z, hz, e⟩ := Option.map_eq_some_iff.mp hj
    cases e
    exact ⟨z, hz, rfl, rfl⟩
  have hok : PlainSeq "list" s.heap a (zs.map fun z => Value.ref z.1).toArray ∧ PairItems s.heap (zs.map fun z => Value.ref z.1).toArray (fun j => ((zs[j]?).map (·.1)).getD 0) (zs.map fun z => (Value.ref z.2.2.1, z.2.2.2)) := by
    refine ⟨⟨o, n, ho, hc, hdi, hdat⟩, by simp, fun j k v hj => ?_⟩
    obtain ⟨z, hz, rfl, rfl⟩ := atz j k v hj
    refine ⟨by simp [hz], ?_⟩
    have t := e2 z (List.mem_of_getElem? hz)
    simp only [hz, Option.map_some, Option.getD_some]
    exact .inl t
  refine call_dict_pairsH (knd := nestedKind X.prog X.w) (ps := zs.map (·.2)) (PairArg.list a _ _ _) (I.ok.hd hcalm) (room82 hu) hok ⟨by simp, fun i key v hi => ?_⟩ (fun h' hk' x hx => ?_) (by rw [List.length_map, ← hlen]; exact hz) fun h' tk dd k => ?_
  · obtain ⟨z, hz, rfl, rfl⟩ := atz i key v hi
    exact ⟨z.2.1, z.2.2.1, by rw [List.getElem?_map, hz]; rfl, rfl⟩
  · have q := kd_is I kd x hx
    refine nestedKind_stays.stays (fun b ob vs' m e _ => hk' b ob (Nat.ne_of_lt (Heap.lt_size e)) (by simp) e) q
  · have en : (((zs.map (·.2)).map (·.1)) : List D).Nodup := by
      rw [← kd.keys, List.map_map]
      exact hn
    rw [storedAll_fresh _ [] (by simpa using en), List.nil_append] at dd
    obtain ⟨od, es, ep, h1, h2, h3, h4, _, h5⟩ := dd
    have hm : (s.heap.objs.size == sysModules) = false := beq_eq_false_iff_ne.mpr (Nat.ne_of_gt I.big)
    have hf := I.hok.fresh (Nat.le_refl _)
    refine ⟨.ref s.heap.objs.size, upd H s.heap.objs.size (ddO X.prog X.w s.heap.objs.size (zs.map (·.2))), I.laid (t' := tk) (fun b o e => k b o (by simp) e) (Nat.le_refl _) (ddO_ok hm (by rw [List.length_map, ← hlen]; exact hz) ⟨od, es, ep, h1, h2, h3, h4, h5⟩), rfl, ?_⟩
    exact q _ _ hf ⟨_, rfl, ddO_no⟩ ⟨_, upd_same, kd.to (tle_of_ex (Evl.Ex.new hf))⟩
end
section
variable {X : Cx}
/-- d[k] = v by the comprehension -/
theorem dd_dictSet {pins : List (Addr × Obj)} {σ : L2.St} {H : Hp} {s : Shared} {E : Value → Shared → Prop} {a b : Addr} {kvs : List (D × V)} {k : D} {v : V} {r : Value} {Q : Unit → Shared → Prop} (hu : X.A.units + 64 < cLine) (I : Inv X pins σ H s)
    (hd : DDw X.prog X.w X.K H a kvs) (hk : DIs X.K H (.ref b) k) (h8 : k.depth ≤ 8) (hz : kvs.length < sizeLine) (rv : RelV v r)
    (h : ∀ H' s', (∃ u, H' = upd H a u ∧ noTup u = true) → DDw X.prog X.w X.K H' a (putK kvs k v) → Inv X pins σ H' s' → Q () s') : wpAny (model X.prog X.w) X.A (dictSet a (.ref b) r) Q E s := by
  obtain ⟨xs, e, kd⟩ := hd
  obtain ⟨h1, h2, h3⟩ := dd_lib I (.inl e) kd
  refine wpAny_dictSet_heap (hsz := h2) (room80 hu) (key_is I hk h8) h3 fun h' dd' hs => ?_
  have kd' := kd.put k hk h8 rv
  have hl : (storedH xs k b r).length ≤ sizeLine := by
    rw [← kd'.length]
    have := length_putK kvs k v
    omega
  obtain ⟨J, w'⟩ := dd_wrote (tk := s.toks + (nestedKind X.prog X.w).draws k) I e h1 hl dd' hs kd'
  exact h _ _ ⟨_, rfl, ddO_no⟩ w' J
def tDcD (P : Program) (w : World) (K : PySem.W.Frag) (wi : TI) (g : TG) (tk tv : TE) (vs : List Nat) : TE := fun σ H Q => wi σ H fun J H1 => ∀ D H1', H1 D = none → (∃ u, H1' = upd H1 D u ∧ noTup u = true) → DDw P w K H1' D [] →
  ∃ W : Nat → Nat → Hp → Prop, (∃ m, W 0 m H1') ∧ ∀ i m H, W i m H → (J.stop i H ∧ Q (.ref D) H) ∨
    (J.go i H ∧ ∃ Nx : Hp → Prop, (∀ H', Nx H' → ∃ m', m' < m ∧ W (i + 1) m' H') ∧ ∀ x H', J.yld i H x H' → g x (wipe σ vs) H' fun σ2 H2 => wipe σ2 vs = wipe σ vs ∧
      tk σ2 H2 fun y H4 => tv σ2 H4 fun z H5 => ∃ kvs k b, y = .ref b ∧ DDw P w K H5 D kvs ∧ DIs K H5 y k ∧ k.depth ≤ 8 ∧ kvs.length < sizeLine ∧
        ∀ H6, (∃ u, H6 = upd H5 D u ∧ noTup u = true) → DDw P w K H6 D (putK kvs k z) → Nx H6)
theorem pe_dcD {kx vx tg iter : Expr} {scope : Scope} {own : List (Str × Nat)} {pos : Pos} {wi : TI} {g : TG} {tk tv : TE} (hu : X.A.units + 64 < cLine) (hc : X.calm = true) (hN : X.N.Nodup) (hi : PI X tg iter wi) (ok : BlkOk X.N X.env.scope scope own)
    (hg : ∀ (s : Shared) (H : Hp) (C : Addr) (cl : List (Str × Addr)) (fp : List Addr), PG (X.blk s H scope (compEnvC scope cl C X.env) fp) tg g)
    (hk : ∀ (s : Shared) (H : Hp) (C : Addr) (cl : List (Str × Addr)) (fp : List Addr), PE (X.blk s H scope (compEnvC scope cl C X.env) fp) kx tk)
    (he : ∀ (s : Shared) (H : Hp) (C : Addr) (cl : List (Str × Addr)) (fp : List Addr), PE (X.blk s H scope (compEnvC scope cl C X.env) fp) vx tv) (hs : ∀ x, foldedSetIterable iter X.env x = pure x := by intro _; rfl) :
    PE X (.DictComp kx vx [⟨tg, iter, [], 0⟩] scope pos) (tDcD X.prog X.w X.K wi g tk tv (own.map (·.2))) := by
  refine ⟨fun pins s0 σ0 H0 Q I0 rd => ?_⟩
  rw [arm_eval_DictComp]
  have capt : ∀ y ∈ scope.names, y.2 = .free → ∃ c, X.env.cells.lookup y.1 = some c := fun y hy e => (ok.free y hy e).elim (fun z => I0.ok.has _ (.inl z)) fun z => I0.ok.has _ (.inr z)
  refine wpAny_comprehension_free (use := none) rfl hs (closure_ok capt) ok.kind (fun y hy e => by rw [ok.uniq y hy, e]) (thn (hi.run pins s0 σ0 H0 _ I0 rd) fun _ s1 z1 => thn z1 fun _ s2 z2 => ?_)
  obtain ⟨it, fp, tn, J, H2, rfl, I2, T, st2, f2, q⟩ := z2
  refine wpAny_newObj_type (newEnv_comp ?_)
  -- the new dict
  have fr := I2.hok.fresh (Nat.le_refl s2.heap.objs.size)
  have I3 := I2.laid (a := s2.heap.objs.size) (o := ddO X.prog X.w s2.heap.objs.size []) (t' := s2.toks) (fun b o e => Heap.get?_push_of_some _ e) (Nat.le_refl _) (dd_empty s2.heap I2.big)
  obtain ⟨W, ⟨m0, w0⟩, turn⟩ := q s2.heap.objs.size _ fr ⟨_, rfl, ddO_no⟩ ⟨[], upd_same, .nil⟩
  have low : ∀ b ∈ fp, b < s2.heap.objs.size := fun b hb => let ⟨_, e, _⟩ := T.obj _ _ st2 b hb; Heap.lt_size e
  have f3 : ∀ b ∈ fp, FpOk X pins (upd H2 s2.heap.objs.size (ddO X.prog X.w s2.heap.objs.size [])) b ∧ b < (s2.heap.push { cls := .type "dict", data := .dict #[] }).objs.size := fun b hb =>
    ⟨⟨by rw [upd_ne (Nat.ne_of_lt (low b hb))]; exact (f2 b hb).1, (f2 b hb).2⟩, by rw [Heap.size_push]; exact Nat.lt_succ_of_lt (low b hb)⟩
  have st3 : tn 0 (s2.heap.push { cls := .type "dict", data := .dict #[] }) := T.keep _ _ _ st2 fun b _ o e => Heap.get?_push_of_some _ e
  generalize hD : s2.heap.objs.size = dA at *
  generalize hs3 : ({ s2 with heap := s2.heap.push { cls := .type "dict", data := .dict #[] }, toks := s2.toks } : Shared) = s3 at I3
  have h3 : s3.heap = s2.heap.push { cls := .type "dict", data := .dict #[] } := by rw [← hs3]
  rw [← h3] at f3 st3
  generalize hH3 : upd H2 dA (ddO X.prog X.w dA []) = H3 at *
  have I4 := block_start I3 ok hN f3
  have hgB := hg s3 H3 s3.heap.objs.size (cellsFrom (s3.heap.objs.size + 1) scope.names (cloFrom X.env.cells scope.names [])) fp
  have hkB := hk s3 H3 s3.heap.objs.size (cellsFrom (s3.heap.objs.size + 1) scope.names (cloFrom X.env.cells scope.names [])) fp
  have heB := he s3 H3 s3.heap.objs.size (cellsFrom (s3.heap.objs.size + 1) scope.names (cloFrom X.env.cells scope.names [])) fp
  show codeAny _ _ (.compStart (.DictComp kx vx [⟨tg, iter, [], 0⟩] scope pos) 0 (.ref it) (.ref dA) (compEnvC scope (cellsFrom (s3.heap.objs.size + 1) scope.names (cloFrom X.env.cells scope.names [])) s3.heap.objs.size X.env)) (compPost (model X.prog X.w) X.A X.xe none (EP X pins σ0 Q) (.ref dA) s3.heap.objs.size) { s3 with heap := pushCells (s3.heap.push { cls := .type "dict", data := .dict #[] }) scope.names }
  generalize hce : compEnvC scope (cellsFrom (s3.heap.objs.size + 1) scope.names (cloFrom X.env.cells scope.names [])) s3.heap.objs.size X.env = ce at I4 hgB hkB heB ⊢
  have cL : ce.locals = s3.heap.objs.size := by subst hce; rfl
  generalize hs4 : ({ s3 with heap := pushCells (s3.heap.push { cls := .type "dict", data := .dict #[] }) scope.names } : Shared) = s4 at I4 ⊢
  have st4 : tn 0 s4.heap := T.keep _ _ _ st3 fun b _ o e => by rw [← hs4]; exact pushCells_keeps _ _ _ _ (Heap.get?_push_of_some _ e)
  have stay : ∀ {σ' : L2.St} {H' : Hp} {s' : Shared}, Inv (X.blk s3 H3 scope ce fp) [] σ' H' s' → (∀ b ∈ fp, H' b = none) → ∀ b ∈ fp, FpOk (X.blk s3 H3 scope ce fp) [] H' b := fun {σ' H' s'} J' hn b hb =>
    ⟨hn b hb, (J'.ok.exf b hb).1, J'.ok.exfs b hb, .inl hb, fun x c e => (J'.ok.exf b hb).2 x c e, fun p hp => absurd (show p ∈ ([] : List (Addr × Obj)) ++ [] from hp) (by simp)⟩
  have loop : codeAny (model X.prog X.w) X.A (.compLoop (.DictComp kx vx [⟨tg, iter, [], 0⟩] scope pos) 0 (.ref it) (.ref dA) ce) (compPost (model X.prog X.w) X.A X.xe none (EP X pins σ0 Q) (.ref dA) s3.heap.objs.size) s4 := by
    refine compLoop_anyD (fun n s' => ∃ i H', Inv (X.blk s3 H3 scope ce fp) [] (wipe σ0 (own.map (·.2))) H' s' ∧ tn i s'.heap ∧ (∀ b ∈ fp, H' b = none) ∧ W i n H') ?_ m0 ⟨0, H3, I4, st4, fun b hb => (f3 b hb).1.1, w0⟩
    rintro n s5 ⟨i, H5, I5, st5, n5, w5⟩
    rcases turn i n H5 w5 with ⟨stop, qq⟩ | ⟨go, Nx, hNx, step⟩
    · refine thnF (T.done (X.blk s3 H3 scope ce fp) rfl rfl rfl hc i [] s5 _ H5 (fun _ _ => False) I5 (stay I5 n5) st5 stop) fun r s6 ⟨hr, I6⟩ => ?_
      subst hr
      have I7 : Inv X pins σ0 H5 s6 := I3.call' (ch := fp) I6.os I6.base I6.hok I6.bare fun b hb => ⟨(f3 b hb).1.2.2.2.1, (f3 b hb).1.2.1, (f3 b hb).1.2.2.2.2.1, (f3 b hb).1.2.2.2.2.2⟩
      have nC : H5 s3.heap.objs.size = none := cL ▸ (show H5 ce.locals = none from I6.free)
      obtain ⟨m, hn, _⟩ := I6.loc
      have hn' : s6.heap.Ns ce.locals m := hn
      rw [cL] at hn'
      obtain ⟨g0, g1, g2, g3, g4, g5⟩ := I3.fpOk (Nat.le_refl _) nC
      exact ⟨m, hn', fun h'' sb => ⟨.ref dA, H5, I7.turned (t' := s6.toks) (fun b o hb e => (sb.2 b hb).trans e) g0 g1 g3 g4 g5, rfl, qq⟩⟩
    · refine thnF (T.item (X.blk s3 H3 scope ce fp) rfl rfl rfl hc i [] s5 _ H5 (fun _ _ => False) I5 (stay I5 n5) st5 go) fun r s6 ⟨u, hr, z6⟩ => ?_
      subst hr
      refine thnF z6 fun _ s7 ⟨x, H7, I7, r7, y7, st7, n7⟩ => ?_
      have P7 := I7.pinned (stay I7 n7) (T.obj _ _ st7)
      refine thnF (hgB.run _ s7 _ H7 x u _ P7 r7 (step x H7 y7)) fun _ s8 ⟨σ8, H8, I8, hw8, q8⟩ => ?_
      refine thnF ((pts_nil (X := X.blk s3 H3 scope ce fp)).run _ s8 σ8 H8 (fun b H' => b = true ∧ H' = H8) I8 ⟨rfl, rfl⟩) fun bt s9 ⟨H9, I9, eb, eH⟩ => ?_
      subst eb eH
      simp only [if_true]
      refine thnF (hkB.run _ s9 σ8 H9 _ I9 q8) fun kv s10 ⟨yk, H10, I10, r10, q10⟩ => ?_
      refine thnF (heB.run _ s10 σ8 H10 _ I10 q10) fun vv s11 ⟨yv, H11, I11, r11, kvs, k, b, ey, hdd, hkk, h8, hz, nx⟩ => ?_
      subst ey
      cases r10
      refine dd_dictSet (X := X.blk s3 H3 scope ce fp) hu I11 hdd hkk h8 hz r11 fun H12 s12 hup hdd' I12 => ?_
      obtain ⟨m', hm, w'⟩ := hNx H12 (nx H12 hup hdd')
      have pinned : ∀ b ∈ fp, ∀ o, s7.heap.get? b = some o → s12.heap.get? b = some o ∧ H12 b = none := fun b hb o e =>
        ⟨(I12.pin (b, o) (List.mem_append_right _ (List.mem_append_right _ (mem_pinsAt hb e)))).1, (I12.pin (b, o) (List.mem_append_right _ (List.mem_append_right _ (mem_pinsAt hb e)))).2.1⟩
      refine ⟨m', hm, i + 1, H12, (I12.unpinned (pins := [])).weak (by rw [← hw8, wipe_length]) (fun j v e => ?_), T.keep _ _ _ st7 fun b hb o e => (pinned b hb o e).1, fun b hb => ?_, w'⟩
      · rw [← hw8] at e
        exact (wipe_some e).1
      · obtain ⟨o, e, _⟩ := T.obj _ _ st7 b hb
        exact (pinned b hb o e).2
  exact codeAny_compStart_dict loop (T.self X.A 0 _ _ _ st4 loop)
end
def rAddU (K : PySem.W.Frag) : R2 := fun x y H Q => rI0 (fun i j => .int (i + j)) x y H Q ∨ (rCatA K x y H Q ∨ rCat x y H Q)
theorem op_addU {X : Cx} : OpR X (binaryOp .Add) (rAddU X.K) := OpR.or op_add (OpR.or op_catA op_cat)
theorem tuple_mul1 (l : Addr) (items : Array Value) (n : Nat) (dd : Option Addr) (sl : Array (Option Value)) (x : Int) (u : Tok) (c0 : (decide (x < -(2 ^ 63)) || decide (x ≥ 2 ^ 63)) = false) (c1 : (items.isEmpty || x == 1) = true) :
    Meets (Builtin.«tuple.__mul__» ⟨[.ref l, .int x u], []⟩) (fun _ R s => s.heap.get? l = some { cls := .type "tuple", dict := dd, data := .seq items n, slots := sl } ∧ R (.ok (.ret (Value.ref l))) s) :=
  .of_wp fun prog w A R s h => by
    obtain ⟨hp, g, d, tk, os⟩ := s
    obtain ⟨hl, h⟩ := h
    have idx := AutoSeq1.idx_int
    wp_walk using wpAny_loadPart' hl
    refine wpAny_ite_false (decide_eq_false (by rw [c0]; exact Bool.false_ne_true)) ?_
    wp_walk using wpAny_loadPart' hl
    exact ⟨_, rfl, h⟩
/-- a tuple once is the tuple itself -/
def rOnce (K : PySem.W.Frag) : R2 := fun x y H Q => ∃ l xs, x = .ref l ∧ y = .int 1 ∧ SqT K H l xs ∧ Q (.ref l) H
theorem op_once {X : Cx} : OpR X (binaryOp .Mult) (rOnce X.K) := by
  intro pins s σ H x y v u Q I rx ry ⟨l, xs, ex, ey, hT, q⟩
  subst ex ey
  cases rx
  obtain ⟨t, rfl⟩ := ry
  obtain ⟨its, r, ⟨⟨cls, dd, data, sl⟩, ho, hc, n, hd⟩, hs⟩ := I.tuple hT
  simp only at hc hd
  subst hc hd
  refine wpAny_binaryOp_repeat_ref (T := "tuple") (U := "int") (by decide) ⟨_, ho, rfl⟩ (fun s' => typeIs_int s' 1 t) noFill_tuple_mul F.fills_int_mul F.slot_int_rmul repeat_tuple F.slot_int_index.lookup
    (call_meets F.slot_int_rmul (typeIs_int s 1 t) F.entry_int_rmul (F.args_int_rmul_2 _ _) (int_rmul_tuple 1 t l its.toArray n dd sl)
      ⟨ho, rfl, ⟨_, ho, rfl⟩, call_meets F.slot_tuple_mul ⟨_, ho, rfl⟩ F.entry_tuple_mul (F.args_tuple_mul_2 _ _) (tuple_mul1 l its.toArray n dd sl 1 t (by decide) (by simp)) ⟨ho, ?_⟩⟩)
  exact ⟨.ref l, H, I, rfl, q⟩
def rMulU (K : PySem.W.Frag) : R2 := fun x y H Q => rI CMul (fun i j => .int (i * j)) x y H Q ∨ (rRepT K x y H Q ∨ rOnce K x y H Q)
theorem op_mulU {X : Cx} : OpR X (binaryOp .Mult) (rMulU X.K) := OpR.or op_mul (OpR.or op_repT op_once)
def rEqU (K : PySem.W.Frag) : R2 := fun x y H Q => rEqD K x y H Q ∨ rEq x y H Q
def rNeU (K : PySem.W.Frag) : R2 := fun x y H Q => rNeD K x y H Q ∨ rNe x y H Q
theorem op_eqU {X : Cx} (hu : X.A.units + 64 < cLine) : OpR X (compareOp .Eq) (rEqU X.K) := OpR.or (op_eqD hu) op_eq
theorem op_neU {X : Cx} (hu : X.A.units + 64 < cLine) : OpR X (compareOp .NotEq) (rNeU X.K) := OpR.or (op_neD hu) op_ne
def rInDK : R2 := fun x y H Q => ∃ a o, y = .ref a ∧ DGet H a x o ∧ Q (.bl o.isSome) H
def rNotInDK : R2 := fun x y H Q => ∃ a o, y = .ref a ∧ DGet H a x o ∧ Q (.bl (!o.isSome)) H
theorem op_inDK {X : Cx} (hu : X.A.units + 64 < cLine) : OpR X (compareOp .In) rInDK := by
  intro pins s σ H x y v u Q I rx ry ⟨a, o, ey, g, q⟩
  subst ey
  cases ry
  exact d_in (by omega) I g rx fun s' J => ⟨.bl o.isSome, H, J, rfl, q⟩
theorem op_notInDK {X : Cx} (hu : X.A.units + 64 < cLine) : OpR X (compareOp .NotIn) rNotInDK := by
  intro pins s σ H x y v u Q I rx ry ⟨a, o, ey, g, q⟩
  subst ey
  cases ry
  exact d_notIn (by omega) I g rx fun s' J => ⟨.bl (!o.isSome), H, J, rfl, q⟩
def rInU (P : Program) (w : World) (K : PySem.W.Frag) : R2 := fun x y H Q => rIn K false x y H Q ∨ (rInDK x y H Q ∨ rInD2 P w K x y H Q)
def rNotInU (P : Program) (w : World) (K : PySem.W.Frag) : R2 := fun x y H Q => rIn K true x y H Q ∨ (rNotInDK x y H Q ∨ rNotInD2 P w K x y H Q)
theorem op_inU {X : Cx} (hu : X.A.units + 64 < cLine) : OpR X (compareOp .In) (rInU X.prog X.w X.K) := OpR.or op_in_seq (OpR.or (op_inDK hu) (op_inD2 hu))
theorem op_notInU {X : Cx} (hu : X.A.units + 64 < cLine) : OpR X (compareOp .NotIn) (rNotInU X.prog X.w X.K) := OpR.or op_notIn_seq (OpR.or (op_notInDK hu) (op_notInD2 hu))
def rGetDK : R2 := fun x y H Q => ∃ a v, x = .ref a ∧ DGet H a y (some v) ∧ Q v H
theorem ix_dk {X : Cx} (hu : X.A.units + 64 < cLine) : IxR X rGetDK := by
  intro value slice pins s σ H x y v u Q I rx ry ⟨a, z, ex, g, q⟩ hs
  subst ex
  cases rx
  exact tail_any (dict_typeIs I g) F.slot_dict_getitem.lookup (d_getItem (by omega) I g ry fun w' s' J r => ⟨z, H, J, r, q⟩) hs
theorem ix_d2 {X : Cx} (hu : X.A.units + 64 < cLine) : IxR X (rGetD2 X.prog X.w X.K) := by
  intro value slice pins s σ H x y v u Q I rx ry h hs
  obtain ⟨h1, h2⟩ := dd_get hu I rx ry h
  exact tail_any h1 F.slot_dict_getitem.lookup h2 hs
def rIxU (P : Program) (w : World) (K : PySem.W.Frag) : R2 := fun x y H Q => rIx K x y H Q ∨ (rGetDK x y H Q ∨ rGetD2 P w K x y H Q)
theorem ix_U {X : Cx} (hu : X.A.units + 64 < cLine) : IxR X (rIxU X.prog X.w X.K) := ix_seq.or ((ix_dk hu).or (ix_d2 hu))
def rSetDK : TSet := fun o i v H Q => ∃ a H', o = .ref a ∧ DPut H a i v H' ∧ Q H'
theorem set_dk {X : Cx} (hu : X.A.units + 64 < cLine) : PSet X rSetDK := by
  intro pins s σ H o i v ov iv u Q I r1 r2 r3 ⟨a, H', eo, g, q⟩
  subst eo
  cases r1
  exact d_setItem (by omega) I g r2 r3 fun s' J => ⟨H', J, q⟩
def rSetU (P : Program) (w : World) (K : PySem.W.Frag) : TSet := fun o i v H Q => rSetL o i v H Q ∨ (rSetDK o i v H Q ∨ rSetD2 P w K o i v H Q)
theorem set_U {X : Cx} (hu : X.A.units + 64 < cLine) : PSet X (rSetU X.prog X.w X.K) := by
  intro pins s σ H o i v ov iv u Q I r1 r2 r3 h
  rcases h with h | h | h
  · exact set_list pins s σ H o i v ov iv u Q I r1 r2 r3 h
  · exact set_dk hu pins s σ H o i v ov iv u Q I r1 r2 r3 h
  · exact set_dd hu pins s σ H o i v ov iv u Q I r1 r2 r3 h
def rLenSeq (K : PySem.W.Frag) : List V → Hp → VK → Prop := fun xs H Q => ∃ p ys, xs = [.ref p] ∧ (SqL K H p ys ∨ SqT K H p ys) ∧ Q (.int ys.length) H
def rLenStr : List V → Hp → VK → Prop := fun xs H Q => ∃ z : Str, xs = [.str z] ∧ z.length ≤ sizeLine ∧ Q (.int z.length) H
def rLenDK : List V → Hp → VK → Prop := fun xs H Q => ∃ p kvs, xs = [.ref p] ∧ H p = some (.dK kvs) ∧ Q (.int kvs.length) H
def rLenDT : List V → Hp → VK → Prop := fun xs H Q => ∃ p kvs, xs = [.ref p] ∧ H p = some (.dT kvs) ∧ Q (.int kvs.length) H
theorem call_lenDK {X : Cx} : CallR X (.builtin "len") rLenDK := by
  intro pins s σ H xs us Q I r ⟨p, kvs, e, h, q⟩
  subst e
  obtain ⟨u, rfl, rx⟩ := vals1 r
  cases rx
  exact d_len I (.inl h) fun t s' J => ⟨.int kvs.length, H, J, ⟨t, rfl⟩, q⟩
theorem call_lenDT {X : Cx} : CallR X (.builtin "len") rLenDT := by
  intro pins s σ H xs us Q I r ⟨p, kvs, e, h, q⟩
  subst e
  obtain ⟨u, rfl, rx⟩ := vals1 r
  cases rx
  obtain ⟨z, hd, ys, rel, dd⟩ := dt_of I.hok h
  have hm : s.heap.DictKeyed (tupleKind (mixKind X.prog X.w)) p (pairsH ys) := ⟨ys, dd, rfl⟩
  have hl : kvs.length = ys.length := Paired.length rel
  refine PyProof.Rows.call_len_slot (n := (pairsH ys).length) hm.typeIs PySem.F.slot_dict_len (fun Q' hq => len_keyed hd hm hq) (by omega) (by rw [pairsH_length]; rw [sizeLine_eq] at z; omega) ?_
  rw [pairsH_length, ← hl]
  exact ⟨.int kvs.length, H, I.tok _, ⟨_, rfl⟩, q⟩
def rLenU (P : Program) (w : World) (K : PySem.W.Frag) : List V → Hp → VK → Prop := fun xs H Q => rLenSeq K xs H Q ∨ (rLenStr xs H Q ∨ (rLenDK xs H Q ∨ (rLenDT xs H Q ∨ rLenD2 P w K xs H Q)))
theorem call_lenU {X : Cx} : CallR X (.builtin "len") (rLenU X.prog X.w X.K) := CallR.or call_len_seq (CallR.or call_len_str (CallR.or call_lenDK (CallR.or call_lenDT call_lenD2)))
def rListSeq (K : PySem.W.Frag) : List V → Hp → VK → Prop := fun xs H Q => ∃ p ys, xs = [.ref p] ∧ (SqL K H p ys ∨ SqT K H p ys) ∧ ∀ l, H l = none → Q (.ref l) (upd H l (.lst ys))
def rListU (P : Program) (w : World) (K : PySem.W.Frag) : List V → Hp → VK → Prop := fun xs H Q => rListSeq K xs H Q ∨ rListD2 P w K xs H Q
theorem call_listU {X : Cx} (hc : X.calm = true) : CallR X (.type "list") (rListU X.prog X.w X.K) := CallR.or call_list_of (call_listD2 hc)
def rTupleSeq (K : PySem.W.Frag) : List V → Hp → VK → Prop := fun xs H Q => ∃ p ys, xs = [.ref p] ∧ ((SqL K H p ys ∧ ∀ l, H l = none → Q (.ref l) (upd H l (.tup ys))) ∨ (SqT K H p ys ∧ Q (.ref p) H))
theorem call_tupleU {X : Cx} : CallR X (.type "tuple") (rTupleSeq X.K) := call_tuple_of
section
variable {K : PySem.W.Frag} {P : Program} {w : World} {G : Gam} {H : Hp} {ta tb : TE} {A B : Asr} {d e : D} {ds es : List D} {i j : Int}
theorem ev_add (ha : EvG ta G H (aD K (.num i))) (hb : EvG tb G H (aD K (.num j))) : EvG (tOp (rAddU K) ta tb) G H (aD K (.num (i + j))) := ev_op ha hb (rg_or1 (rg_I0 fun _ => DIs.int _))
theorem ev_sub (ha : EvG ta G H (aD K (.num i))) (hb : EvG tb G H (aD K (.num j))) : EvG (tOp (rI0 fun i j => .int (i - j)) ta tb) G H (aD K (.num (i - j))) := ev_op ha hb (rg_I0 fun _ => DIs.int _)
theorem ev_mul (ha : EvG ta G H (aD K (.num i))) (hb : EvG tb G H (aD K (.num j))) (hc : CMul i j) : EvG (tOp (rMulU K) ta tb) G H (aD K (.num (i * j))) := ev_op ha hb (rg_or1 (rg_I hc fun _ => DIs.int _))
theorem ev_fdiv (ha : EvG ta G H (aD K (.num i))) (hb : EvG tb G H (aD K (.num j))) (hc : CDiv i j) : EvG (tOp (rI CDiv fun i j => .int (i / j)) ta tb) G H (aD K (.num (i / j))) := ev_op ha hb (rg_I hc fun _ => DIs.int _)
theorem ev_mod (ha : EvG ta G H (aD K (.num i))) (hb : EvG tb G H (aD K (.num j))) (hc : 0 < j) : EvG (tOp (rI (fun _ j => 0 < j) fun i j => .int (i % j)) ta tb) G H (aD K (.num (i % j))) := ev_op ha hb (rg_I hc fun _ => DIs.int _)
theorem ev_cmpI {f : Int → Int → Bool} (ha : EvG ta G H (aD K (.num i))) (hb : EvG tb G H (aD K (.num j))) : EvG (tOp (rI0 fun i j => .bl (f i j)) ta tb) G H (aB (f i j)) := ev_op ha hb (rg_I0 fun _ => rfl)
theorem ev_ixT (ha : EvG ta G H (aD K (.tup ds))) (hb : EvG tb G H (aD K (.num i))) (h : atI ds i = some d) : EvG (tOp (rIxU P w K) ta tb) G H (aD K d) := ev_op ha hb (rg_or1 (rg_or2 (rg_or1 fun H1 ex x y hx hy Q q => by
  obtain ⟨a, xs, ea, hs, hd⟩ := DIs.tup_inv hx
  obtain ⟨j, h1, h2, _⟩ := atI_get h
  obtain ⟨v, hv, hp⟩ := hd.get h2
  refine ⟨a, xs, i, v, ea, DIs.num_inv hy, hs, ?_, q _ H1 (Evl.Ex.refl H1) hp⟩
  obtain ⟨k, hk, hk2⟩ := Option.bind_eq_some_iff.mp (show (ixN ds.length i).bind (fun j => ds[j]?) = some d from h)
  show (ixN xs.length i).bind (fun j => xs[j]?) = some v
  rw [hd.length, hk]
  have e : k = j := by
    have := (ixN_seq hk).1
    rw [h1] at this
    exact (Option.some.inj this).symm
  subst e
  exact hv)))
theorem ev_ixL (ha : EvG ta G H (aL K ds)) (hb : EvG tb G H (aD K (.num i))) (h : atI ds i = some d) : EvG (tOp (rIxU P w K) ta tb) G H (aD K d) := ev_op ha hb (rg_or1 (rg_or1 fun H1 ex x y hx hy Q q => by
  obtain ⟨a, xs, ea, hs, hd⟩ := hx
  obtain ⟨j, h1, h2, _⟩ := atI_get h
  obtain ⟨v, hv, hp⟩ := hd.get h2
  refine ⟨a, xs, i, v, ea, DIs.num_inv hy, hs, ?_, q _ H1 (Evl.Ex.refl H1) hp⟩
  obtain ⟨k, hk, hk2⟩ := Option.bind_eq_some_iff.mp (show (ixN ds.length i).bind (fun j => ds[j]?) = some d from h)
  show (ixN xs.length i).bind (fun j => xs[j]?) = some v
  rw [hd.length, hk]
  have e : k = j := by
    have := (ixN_seq hk).1
    rw [h1] at this
    exact (Option.some.inj this).symm
  subst e
  exact hv))
theorem ev_ixS {z : Str} {c : Nat} (ha : EvG ta G H (aD K (.text z))) (hb : EvG tb G H (aD K (.num i))) (hz : z.length ≤ sizeLine) (h : atI z.cps.toList i = some c) : EvG (tOp (rIxU P w K) ta tb) G H (aD K (.text ⟨#[c]⟩)) :=
  ev_op ha hb (rg_or1 (rg_or2 (rg_or2 fun H1 ex x y hx hy Q q => ⟨z, i, c, DIs.text_inv hx, DIs.num_inv hy, hz, h, q _ H1 (Evl.Ex.refl H1) (.str _)⟩)))
theorem ev_catT (ha : EvG ta G H (aD K (.tup ds))) (hb : EvG tb G H (aD K (.tup es))) (hl : ds.length + es.length ≤ 100000) : EvG (tOp (rAddU K) ta tb) G H (aD K (.tup (ds ++ es))) := ev_op ha hb (rg_or2 (rg_or1 fun H1 ex x y hx hy Q q => by
  obtain ⟨a, xs, ea, hs, hd⟩ := DIs.tup_inv hx
  obtain ⟨b, ys, eb, ht, he⟩ := DIs.tup_inv hy
  refine ⟨a, b, xs, ys, ea, eb, hs, ht, Evl.sz_of (by rw [hd.length, he.length]; exact hl), fun z => ?_, fun _ z => ?_, fun _ _ p hp => ?_⟩
  · subst z
    cases hd
    exact q _ H1 (Evl.Ex.refl H1) (eb ▸ hy)
  · subst z
    cases he
    rw [List.append_nil] at q
    exact q _ H1 (Evl.Ex.refl H1) (ea ▸ hx)
  · exact q _ _ (Evl.Ex.new hp) (.tup (SqT.of upd_same) (DAll.append (hd.ex (Evl.Ex.new hp)) (he.ex (Evl.Ex.new hp))))))
theorem flat_rep {α : Type} (x : α) : ∀ n : Nat, (List.replicate n [x]).flatten = List.replicate n x
  | 0 => rfl
  | n + 1 => by rw [List.replicate_succ, List.flatten_cons, flat_rep x n]; rfl
theorem ev_rep {n : Nat} (ha : EvG ta G H (aD K (.tup [d]))) (hb : EvG tb G H (aD K (.num n))) (h1 : 1 ≤ n) (h2 : n ≤ 1000) : EvG (tOp (rMulU K) ta tb) G H (aD K (.tup (List.replicate n d))) := ev_op ha hb (rg_or2 fun H1 ex x y hx hy Q q => by
  obtain ⟨a, xs, ea, hs, hd⟩ := DIs.tup_inv hx
  cases hd with
  | cons hx1 hx2 =>
    cases hx2
    by_cases e : n = 1
    · subst e
      exact .inr ⟨a, _, ea, DIs.num_inv hy, hs, q _ H1 (Evl.Ex.refl H1) (ea ▸ hx)⟩
    · refine .inl ⟨a, n, _, ea, DIs.num_inv hy, hs, by simp, by omega, by omega, by simp, fun p hp => ?_⟩
      rw [flat_rep]
      exact q _ _ (Evl.Ex.new hp) (.tup (SqT.of upd_same) (DAll.rep (DIs.ex hx1 (Evl.Ex.new hp)) n)))
theorem ea_one (ha : EvG ta G H A) : EvA (tCons ta tNil) G H [A] := ea_cons ha ea_nil
theorem aall1 {v : List V} (h : AAll [A] v H) : ∃ x, v = [x] ∧ A.p x H := by
  cases h with
  | cons h1 h2 => cases h2; exact ⟨_, rfl, h1⟩
theorem aall2 {v : List V} (h : AAll [A, B] v H) : ∃ x y, v = [x, y] ∧ A.p x H ∧ B.p y H := by
  cases h with
  | cons h1 h2 =>
    cases h2 with
    | cons h3 h4 => cases h4; exact ⟨_, _, rfl, h1, h3⟩
theorem ev_lenT (ha : EvG ta G H (aD K (.tup ds))) : EvG (tCB (rLenU P w K) (tCons ta tNil)) G H (aD K (.num ds.length)) := ev_cb (ea_one ha) (rc_or1 fun H1 ex vs hv Q q => by
  obtain ⟨x, rfl, hx⟩ := aall1 hv
  obtain ⟨a, xs, rfl, hs, hd⟩ := DIs.tup_inv hx
  exact ⟨a, xs, rfl, .inr hs, q _ H1 (Evl.Ex.refl H1) (by rw [hd.length]; exact DIs.int _)⟩)
theorem ev_lenL (ha : EvG ta G H (aL K ds)) : EvG (tCB (rLenU P w K) (tCons ta tNil)) G H (aD K (.num ds.length)) := ev_cb (ea_one ha) (rc_or1 fun H1 ex vs hv Q q => by
  obtain ⟨x, rfl, a, xs, rfl, hs, hd⟩ := aall1 hv
  exact ⟨a, xs, rfl, .inl hs, q _ H1 (Evl.Ex.refl H1) (by rw [hd.length]; exact DIs.int _)⟩)
theorem ev_lenS {z : Str} (ha : EvG ta G H (aD K (.text z))) (hz : z.length ≤ sizeLine) : EvG (tCB (rLenU P w K) (tCons ta tNil)) G H (aD K (.num z.length)) := ev_cb (ea_one ha) (rc_or2 (rc_or1 fun H1 ex vs hv Q q => by
  obtain ⟨x, rfl, hx⟩ := aall1 hv
  have e := DIs.text_inv hx
  subst e
  exact ⟨z, rfl, hz, q _ H1 (Evl.Ex.refl H1) (DIs.int _)⟩))
def rInt1 : List V → Hp → VK → Prop := fun xs H Q => (∃ i, xs = [.int i] ∧ Q (.int i) H) ∨ ∃ k, xs = [.bl k] ∧ Q (.int (if k then 1 else 0)) H
theorem call_intU {X : Cx} : CallR X (.type "int") rInt1 := call_int1
theorem ev_int1 (ha : EvG ta G H (aD K (.num i))) : EvG (tCB rInt1 (tCons ta tNil)) G H (aD K (.num i)) := ev_cb (ea_one ha) fun H1 ex vs hv Q q => by
  obtain ⟨x, rfl, hx⟩ := aall1 hv
  have e := DIs.num_inv hx
  subst e
  exact .inl ⟨i, rfl, q _ H1 (Evl.Ex.refl H1) (.int i)⟩
def rMin2 : List V → Hp → VK → Prop := fun xs H Q => ∃ i j, xs = [.int i, .int j] ∧ Q (.int (if j < i then j else i)) H
theorem call_minU {X : Cx} (hc : X.calm = true) : CallR X (.builtin "min") rMin2 := call_min2 hc
theorem ev_min2 (ha : EvG ta G H (aD K (.num i))) (hb : EvG tb G H (aD K (.num j))) : EvG (tCB rMin2 (tCons ta (tCons tb tNil))) G H (aD K (.num (min i j))) := ev_cb (ea_cons ha (ea_one hb)) fun H1 ex vs hv Q q => by
  obtain ⟨x, y, rfl, hx, hy⟩ := aall2 hv
  have e := DIs.num_inv hx
  have e2 := DIs.num_inv hy
  subst e e2
  refine ⟨i, j, rfl, q _ H1 (Evl.Ex.refl H1) ?_⟩
  have z : (if j < i then j else i) = min i j := by split <;> omega
  rw [z]
  exact .int _
theorem ev_listT (ha : EvG ta G H (aD K (.tup ds))) : EvN K (tCB (rListU P w K) (tCons ta tNil)) G H ds := fun σ H1 s x Q q => ha σ H1 s x _ fun v H2 e2 p => by
  obtain ⟨a, xs, rfl, hs, hd⟩ := DIs.tup_inv p
  exact .inl ⟨a, xs, rfl, .inr hs, fun l hl => q l xs _ (Evl.fresh_back e2 hl) (e2.trans (Evl.Ex.new hl)) upd_same (hd.ex (Evl.Ex.new hl))⟩
theorem ev_listL (ha : EvG ta G H (aL K ds)) : EvN K (tCB (rListU P w K) (tCons ta tNil)) G H ds := fun σ H1 s x Q q => ha σ H1 s x _ fun v H2 e2 p => by
  obtain ⟨a, xs, rfl, hs, hd⟩ := p
  exact .inl ⟨a, xs, rfl, .inl hs, fun l hl => q l xs _ (Evl.fresh_back e2 hl) (e2.trans (Evl.Ex.new hl)) upd_same (hd.ex (Evl.Ex.new hl))⟩
theorem ev_tupleL (ha : EvG ta G H (aL K ds)) : EvG (tCB (rTupleSeq K) (tCons ta tNil)) G H (aD K (.tup ds)) := fun σ H1 s x Q q => ha σ H1 s x _ fun v H2 e2 p => by
  obtain ⟨a, xs, rfl, hs, hd⟩ := p
  exact ⟨a, xs, rfl, .inl ⟨hs, fun l hl => q _ _ (e2.trans (Evl.Ex.new hl)) (.tup (SqT.of upd_same) (hd.ex (Evl.Ex.new hl)))⟩⟩
end
def Lay (n : Nat) (d : D) : Prop := d.data.canLay0 = true ∧ d.depth ≤ n
theorem Lay.mono {n m : Nat} {d : D} (h : Lay n d) (e : n ≤ m) : Lay m d := ⟨h.1, Nat.le_trans h.2 e⟩
theorem Lay.non {n : Nat} : Lay n .none := ⟨by simp [NestedKey.data, PyData.canLay0], by simp [NestedKey.depth]⟩
theorem Lay.num {n : Nat} {i : Int} : Lay n (.num i) := ⟨by simp [NestedKey.data, PyData.canLay0], by simp [NestedKey.depth]⟩
theorem Lay.text {n : Nat} {x : Str} (h : PyData.strOk x = true) : Lay n (.text x) := ⟨by simp [NestedKey.data, PyData.canLay0, h], by simp [NestedKey.depth]⟩
theorem layAll {n : Nat} : ∀ ds : List D, (∀ x ∈ ds, Lay n x) → PyData.canLayAll0 (NestedKey.datas ds) = true ∧ NestedKey.depthAll ds ≤ n
  | [], _ => ⟨by simp [NestedKey.datas, PyData.canLayAll0], by simp [NestedKey.depthAll]⟩
  | d :: ds, h => by
    obtain ⟨h1, h2⟩ := layAll ds fun x hx => h x (List.mem_cons_of_mem _ hx)
    obtain ⟨h3, h4⟩ := h d List.mem_cons_self
    refine ⟨by simp [NestedKey.datas, PyData.canLayAll0, h1, h3], ?_⟩
    simp only [NestedKey.depthAll]
    omega
theorem Lay.tup {n : Nat} {ds : List D} (h : ∀ x ∈ ds, Lay n x) : Lay (n + 1) (.tup ds) := by
  obtain ⟨h1, h2⟩ := layAll ds h
  refine ⟨by simp [NestedKey.data, PyData.canLay0, h1], ?_⟩
  simp only [NestedKey.depth]
  omega
mutual
theorem depth_data : ∀ d : D, d.data.depth = d.depth
  | .none => by simp [NestedKey.data, PyData.depth, NestedKey.depth]
  | .num _ => by simp [NestedKey.data, PyData.depth, NestedKey.depth]
  | .text _ => by simp [NestedKey.data, PyData.depth, NestedKey.depth]
  | .tup ds => by simp [NestedKey.data, PyData.depth, NestedKey.depth, depth_datas ds, Nat.add_comm]
theorem depth_datas : ∀ ds : List D, PyData.depthAll (NestedKey.datas ds) = NestedKey.depthAll ds
  | [] => by simp [NestedKey.datas, PyData.depthAll, NestedKey.depthAll]
  | d :: ds => by simp [NestedKey.datas, PyData.depthAll, NestedKey.depthAll, depth_data d, depth_datas ds]
end
theorem Lay.shaped {n : Nat} {d : D} (h : Lay n d) (hn : n ≤ 60) : SeqAt.shaped d.data = true := by
  unfold SeqAt.shaped
  rw [depth_data, h.1, Bool.true_and]
  exact decide_eq_true (by have := h.2; omega)
theorem Lay.shapedL {n : Nat} {ds : List D} (h : ∀ d ∈ ds, Lay n d) (hn : n ≤ 60) : SeqAt.shaped (.list (NestedKey.datas ds)) = true := by
  obtain ⟨h1, h2⟩ := layAll ds h
  have e : PyData.canLay0 (.list (NestedKey.datas ds)) = true := by simp [PyData.canLay0, h1]
  unfold SeqAt.shaped
  rw [e, Bool.true_and]
  refine decide_eq_true ?_
  simp only [PyData.depth, depth_datas]
  omega
mutual
theorem eqv_beq : ∀ d e : D, PyData.eqv d.data e.data = d.beq e
  | .none, .none => by simp [NestedKey.data, PyData.eqv, NestedKey.beq]
  | .none, .num _ => by simp [NestedKey.data, PyData.eqv, NestedKey.beq]
  | .none, .text _ => by simp [NestedKey.data, PyData.eqv, NestedKey.beq]
  | .none, .tup _ => by simp [NestedKey.data, PyData.eqv, NestedKey.beq]
  | .num _, .none => by simp [NestedKey.data, PyData.eqv, NestedKey.beq]
  | .num i, .num j => by simp [NestedKey.data, PyData.eqv, NestedKey.beq]; exact Bool.beq_eq_decide_eq i j
  | .num _, .text _ => by simp [NestedKey.data, PyData.eqv, NestedKey.beq]
  | .num _, .tup _ => by simp [NestedKey.data, PyData.eqv, NestedKey.beq]
  | .text _, .none => by simp [NestedKey.data, PyData.eqv, NestedKey.beq]
  | .text _, .num _ => by simp [NestedKey.data, PyData.eqv, NestedKey.beq]
  | .text x, .text y => by simp [NestedKey.data, PyData.eqv, NestedKey.beq]; exact Bool.beq_eq_decide_eq x y
  | .text _, .tup _ => by simp [NestedKey.data, PyData.eqv, NestedKey.beq]
  | .tup _, .none => by simp [NestedKey.data, PyData.eqv, NestedKey.beq]
  | .tup _, .num _ => by simp [NestedKey.data, PyData.eqv, NestedKey.beq]
  | .tup _, .text _ => by simp [NestedKey.data, PyData.eqv, NestedKey.beq]
  | .tup ds, .tup es => by simp [NestedKey.data, PyData.eqv, NestedKey.beq, eqv_beqs ds es]
theorem eqv_beqs : ∀ ds es : List D, PyData.eqvAll (NestedKey.datas ds) (NestedKey.datas es) = NestedKey.beqAll ds es
  | [], [] => by simp [NestedKey.datas, PyData.eqvAll, NestedKey.beqAll]
  | [], _ :: _ => by simp [NestedKey.datas, PyData.eqvAll, NestedKey.beqAll]
  | _ :: _, [] => by simp [NestedKey.datas, PyData.eqvAll, NestedKey.beqAll]
  | d :: ds, e :: es => by simp [NestedKey.datas, PyData.eqvAll, NestedKey.beqAll, eqv_beq d e, eqv_beqs ds es]
end
theorem eqv_data (d e : D) : PyData.eqv d.data e.data = decide (d = e) := by rw [eqv_beq, NestedKey.decide_eq]
section
variable {K : PySem.W.Frag} {P : Program} {w : World} {G : Gam} {H : Hp} {ta tb te : TE} {A B : Asr} {d e : D} {ds es : List D} {i j : Int}
theorem ev_eq (ha : EvG ta G H (aD K d)) (hb : EvG tb G H (aD K e)) (h1 : Lay 8 d) (h2 : Lay 8 e) : EvG (tOp (rEqU K) ta tb) G H (aB (decide (d = e))) := ev_op ha hb (rg_or1 fun H1 ex x y hx hy Q q =>
  ⟨_, _, DIs.dp _ _ hx, DIs.dp _ _ hy, h1.shaped (by decide), h2.shaped (by decide), q _ H1 (Evl.Ex.refl H1) (by rw [eqv_data]; rfl)⟩)
theorem ev_ne (ha : EvG ta G H (aD K d)) (hb : EvG tb G H (aD K e)) (h1 : Lay 8 d) (h2 : Lay 8 e) : EvG (tOp (rNeU K) ta tb) G H (aB (!decide (d = e))) := ev_op ha hb (rg_or1 fun H1 ex x y hx hy Q q =>
  ⟨_, _, DIs.dp _ _ hx, DIs.dp _ _ hy, h1.shaped (by decide), h2.shaped (by decide), q _ H1 (Evl.Ex.refl H1) (by rw [eqv_data]; rfl)⟩)
/-- what is no tuple -/
def flatD : D → Bool
  | .tup _ => false
  | _ => true
theorem flat_scal {x y : V} (hx : DIs K H x d) (hy : DIs K H y e) (h1 : flatD d = true) (h2 : flatD e = true) : scal x y = true ∧ decide (x = y) = decide (d = e) := by
  cases d with
  | tup _ => cases h1
  | none => cases e with
    | tup _ => cases h2
    | none => cases hx; cases hy; exact ⟨rfl, by simp⟩
    | num _ => cases hx; cases hy; exact ⟨rfl, by simp⟩
    | text _ => cases hx; cases hy; exact ⟨rfl, by simp⟩
  | num _ => cases e with
    | tup _ => cases h2
    | none => cases hx; cases hy; exact ⟨rfl, by simp⟩
    | num _ => cases hx; cases hy; exact ⟨rfl, by simp⟩
    | text _ => cases hx; cases hy; exact ⟨rfl, by simp⟩
  | text _ => cases e with
    | tup _ => cases h2
    | none => cases hx; cases hy; exact ⟨rfl, by simp⟩
    | num _ => cases hx; cases hy; exact ⟨rfl, by simp⟩
    | text _ => cases hx; cases hy; exact ⟨rfl, by simp⟩
theorem ev_eqF (ha : EvG ta G H (aD K d)) (hb : EvG tb G H (aD K e)) (h1 : flatD d = true) (h2 : flatD e = true) : EvG (tOp (rEqU K) ta tb) G H (aB (decide (d = e))) := ev_op ha hb (rg_or2 fun H1 ex x y hx hy Q q => by
  obtain ⟨z1, z2⟩ := flat_scal hx hy h1 h2
  refine ⟨z1, q _ H1 (Evl.Ex.refl H1) ?_⟩
  rw [z2]; rfl)
theorem ev_neF (ha : EvG ta G H (aD K d)) (hb : EvG tb G H (aD K e)) (h1 : flatD d = true) (h2 : flatD e = true) : EvG (tOp (rNeU K) ta tb) G H (aB (!decide (d = e))) := ev_op ha hb (rg_or2 fun H1 ex x y hx hy Q q => by
  obtain ⟨z1, z2⟩ := flat_scal hx hy h1 h2
  refine ⟨z1, q _ H1 (Evl.Ex.refl H1) ?_⟩
  rw [z2]; rfl)
theorem ev_eqI (ha : EvG ta G H (aD K (.num i))) (hb : EvG tb G H (aD K (.num j))) : EvG (tOp (rEqU K) ta tb) G H (aB (decide (i = j))) := ev_isB (ev_eqF ha hb rfl rfl) (by simp)
theorem ev_neI (ha : EvG ta G H (aD K (.num i))) (hb : EvG tb G H (aD K (.num j))) : EvG (tOp (rNeU K) ta tb) G H (aB (!decide (i = j))) := ev_isB (ev_neF ha hb rfl rfl) (by simp)
theorem ev_eqS {x y : Str} (ha : EvG ta G H (aD K (.text x))) (hb : EvG tb G H (aD K (.text y))) : EvG (tOp (rEqU K) ta tb) G H (aB (decide (x = y))) := ev_isB (ev_eqF ha hb rfl rfl) (by simp)
theorem ev_neS {x y : Str} (ha : EvG ta G H (aD K (.text x))) (hb : EvG tb G H (aD K (.text y))) : EvG (tOp (rNeU K) ta tb) G H (aB (!decide (x = y))) := ev_isB (ev_neF ha hb rfl rfl) (by simp)
theorem ev_neB {b c : Bool} (ha : EvG ta G H (aB b)) (hb : EvG tb G H (aB c)) : EvG (tOp (rNeU K) ta tb) G H (aB (!decide (b = c))) := ev_op ha hb (rg_or2 fun H1 ex x y hx hy Q q => by
  have ex : x = .bl b := hx
  have ey : y = .bl c := hy
  subst ex ey
  refine ⟨rfl, q _ H1 (Evl.Ex.refl H1) ?_⟩
  show V.bl _ = V.bl _
  simp)
/-- lists of data -/
theorem eqv_lists (ds es : List D) : PyData.eqv (.list (NestedKey.datas ds)) (.list (NestedKey.datas es)) = decide (ds = es) := by
  have z := eqv_data (.tup ds) (.tup es)
  have z2 : PyData.eqv (.list (NestedKey.datas ds)) (.list (NestedKey.datas es)) = PyData.eqv (NestedKey.data (.tup ds)) (NestedKey.data (.tup es)) := by simp [NestedKey.data, PyData.eqv]
  rw [z2, z]
  simp
theorem ev_eqL (ha : EvG ta G H (aL K ds)) (hb : EvG tb G H (aL K es)) (h1 : ∀ x ∈ ds, Lay 8 x) (h2 : ∀ x ∈ es, Lay 8 x) : EvG (tOp (rEqU K) ta tb) G H (aB (decide (ds = es))) := ev_op ha hb (rg_or1 fun H1 ex x y hx hy Q q => by
  obtain ⟨a, xs, rfl, s1, a1⟩ := hx
  obtain ⟨b, ys, rfl, s2, a2⟩ := hy
  refine ⟨_, _, .lst s1 (DAll.dp _ _ a1), .lst s2 (DAll.dp _ _ a2), Lay.shapedL h1 (by decide), Lay.shapedL h2 (by decide), q _ H1 (Evl.Ex.refl H1) ?_⟩
  rw [eqv_lists]; rfl)
theorem ev_neL (ha : EvG ta G H (aL K ds)) (hb : EvG tb G H (aL K es)) (h1 : ∀ x ∈ ds, Lay 8 x) (h2 : ∀ x ∈ es, Lay 8 x) : EvG (tOp (rNeU K) ta tb) G H (aB (!decide (ds = es))) := ev_op ha hb (rg_or1 fun H1 ex x y hx hy Q q => by
  obtain ⟨a, xs, rfl, s1, a1⟩ := hx
  obtain ⟨b, ys, rfl, s2, a2⟩ := hy
  refine ⟨_, _, .lst s1 (DAll.dp _ _ a1), .lst s2 (DAll.dp _ _ a2), Lay.shapedL h1 (by decide), Lay.shapedL h2 (by decide), q _ H1 (Evl.Ex.refl H1) ?_⟩
  rw [eqv_lists]; rfl)
/-- [] -/
theorem ev_nil : EvG (tLst tNil) G H (aL K []) := (ev_lst (K := K) ed_nil (Nat.zero_le _)).l
/-- .. one of them empty -/
theorem ev_eqN (ha : EvG ta G H (aL K ds)) (h1 : ∀ x ∈ ds, Lay 8 x) : EvG (tOp (rEqU K) ta (tLst tNil)) G H (aB ds.isEmpty) :=
  ev_isB (ev_eqL ha ev_nil h1 (by simp)) (by cases ds <;> simp)
theorem ev_neN (ha : EvG ta G H (aL K ds)) (h1 : ∀ x ∈ ds, Lay 8 x) : EvG (tOp (rNeU K) ta (tLst tNil)) G H (aB (!ds.isEmpty)) :=
  ev_isB (ev_neL ha ev_nil h1 (by simp)) (by cases ds <;> simp)
theorem ev_t0 : EvG (tTup tNil) G H (aD K (.tup [])) := ev_tup ed_nil (Nat.zero_le _)
theorem ev_eqT0 (ha : EvG ta G H (aD K (.tup ds))) (h1 : ∀ x ∈ ds, Lay 7 x) : EvG (tOp (rEqU K) ta (tTup tNil)) G H (aB ds.isEmpty) :=
  ev_isB (ev_eq ha ev_t0 (Lay.tup h1) (Lay.tup (n := 7) (by simp))) (by cases ds <;> simp)
theorem ev_neT0 (ha : EvG ta G H (aD K (.tup ds))) (h1 : ∀ x ∈ ds, Lay 7 x) : EvG (tOp (rNeU K) ta (tTup tNil)) G H (aB (!ds.isEmpty)) :=
  ev_isB (ev_ne ha ev_t0 (Lay.tup h1) (Lay.tup (n := 7) (by simp))) (by cases ds <;> simp)
def rIsNo : R2 := fun x y H Q => y = .non ∧ Q (.bl (decide (x = .non))) H
def rNotNo : R2 := fun x y H Q => y = .non ∧ Q (.bl (!decide (x = .non))) H
theorem op_isNo {X : Cx} : OpR X (compareOp .Is) rIsNo := op_isN
theorem op_notNo {X : Cx} : OpR X (compareOp .IsNot) rNotNo := op_notN
def isNoD : D → Bool
  | .none => true
  | _ => false
theorem isNo_dec {x : V} (h : DIs K H x d) : decide (x = V.non) = isNoD d := by
  cases h <;> simp [isNoD]
theorem ev_isN (ha : EvG ta G H (aD K d)) : EvG (tOp rIsNo ta (tC .non)) G H (aB (isNoD d)) := ev_op ha ev_nonV fun H1 ex x y hx hy Q q => ⟨hy, q _ H1 (Evl.Ex.refl H1) (by rw [isNo_dec hx]; rfl)⟩
theorem ev_notN (ha : EvG ta G H (aD K d)) : EvG (tOp rNotNo ta (tC .non)) G H (aB (!isNoD d)) := ev_op ha ev_nonV fun H1 ex x y hx hy Q q => ⟨hy, q _ H1 (Evl.Ex.refl H1) (by rw [isNo_dec hx]; rfl)⟩
theorem ev_isNV {b : Bool} (ha : EvG ta G H A) (hA : ∀ v H', A.p v H' → decide (v = V.non) = b) : EvG (tOp rIsNo ta (tC .non)) G H (aB b) := ev_op ha ev_nonV fun H1 ex x y hx hy Q q => ⟨hy, q _ H1 (Evl.Ex.refl H1) (by rw [hA _ _ hx]; rfl)⟩
theorem ev_notNV {b : Bool} (ha : EvG ta G H A) (hA : ∀ v H', A.p v H' → decide (v = V.non) = b) : EvG (tOp rNotNo ta (tC .non)) G H (aB (!b)) := ev_op ha ev_nonV fun H1 ex x y hx hy Q q => ⟨hy, q _ H1 (Evl.Ex.refl H1) (by rw [hA _ _ hx]; rfl)⟩
theorem flat_V {x : V} (h : DIs K H x d) (f : flatD d = true) : flatV x = true := by
  cases h <;> first | rfl | cases f
theorem flat_eqV {x y : V} (hx : DIs K H x d) (hy : DIs K H y e) (f : flatD d = true) (g : flatD e = true) : eqV x y = decide (d = e) := by
  cases hx <;> cases hy <;> first | (cases f; done) | (cases g; done) | (simp [eqV]; done) | (simp [eqV]; exact Bool.beq_eq_decide_eq _ _)
theorem flat_all : ∀ {ds : List D} {xs : List V}, DAll K H xs ds → ds.all flatD = true → xs.all flatV = true
  | _, _, .nil, _ => rfl
  | _, _, .cons h t, f => by
    rw [List.all_cons, Bool.and_eq_true] at f
    rw [List.all_cons, flat_V h f.1, flat_all t f.2]; rfl
theorem inV_dec {x : V} (hx : DIs K H x d) (f : flatD d = true) : ∀ {ds : List D} {xs : List V}, DAll K H xs ds → ds.all flatD = true → inV x xs = decide (d ∈ ds)
  | _, _, .nil, _ => by simp [inV]
  | _, _, .cons (d := e) (ds := es) (xs := ys) (x := y) h t, g => by
    rw [List.all_cons, Bool.and_eq_true] at g
    have q := inV_dec hx f t g.2
    have z := flat_eqV h hx g.1 f
    unfold inV at q ⊢
    rw [List.any_cons, z, q]
    by_cases e1 : e = d
    · subst e1; simp
    · have e2 : ¬ d = e := fun z => e1 z.symm
      simp [e1, e2]
theorem ev_inT (ha : EvG ta G H (aD K d)) (hb : EvG tb G H (aD K (.tup ds))) (f : flatD d = true) (g : ds.all flatD = true) : EvG (tOp (rInU P w K) ta tb) G H (aB (decide (d ∈ ds))) := ev_op ha hb (rg_or1 fun H1 ex x y hx hy Q q => by
  obtain ⟨a, xs, rfl, hs, hd⟩ := DIs.tup_inv hy
  refine ⟨a, xs, rfl, .inr hs, flat_V hx f, flat_all hd g, q _ H1 (Evl.Ex.refl H1) ?_⟩
  rw [inV_dec hx f hd g]; rfl)
theorem ev_notInT (ha : EvG ta G H (aD K d)) (hb : EvG tb G H (aD K (.tup ds))) (f : flatD d = true) (g : ds.all flatD = true) : EvG (tOp (rNotInU P w K) ta tb) G H (aB (!decide (d ∈ ds))) := ev_op ha hb (rg_or1 fun H1 ex x y hx hy Q q => by
  obtain ⟨a, xs, rfl, hs, hd⟩ := DIs.tup_inv hy
  refine ⟨a, xs, rfl, .inr hs, flat_V hx f, flat_all hd g, q _ H1 (Evl.Ex.refl H1) ?_⟩
  rw [inV_dec hx f hd g]; rfl)
theorem ev_inL (ha : EvG ta G H (aD K d)) (hb : EvG tb G H (aL K ds)) (f : flatD d = true) (g : ds.all flatD = true) : EvG (tOp (rInU P w K) ta tb) G H (aB (decide (d ∈ ds))) := ev_op ha hb (rg_or1 fun H1 ex x y hx hy Q q => by
  obtain ⟨a, xs, rfl, hs, hd⟩ := hy
  refine ⟨a, xs, rfl, .inl hs, flat_V hx f, flat_all hd g, q _ H1 (Evl.Ex.refl H1) ?_⟩
  rw [inV_dec hx f hd g]; rfl)
theorem ev_notInL (ha : EvG ta G H (aD K d)) (hb : EvG tb G H (aL K ds)) (f : flatD d = true) (g : ds.all flatD = true) : EvG (tOp (rNotInU P w K) ta tb) G H (aB (!decide (d ∈ ds))) := ev_op ha hb (rg_or1 fun H1 ex x y hx hy Q q => by
  obtain ⟨a, xs, rfl, hs, hd⟩ := hy
  refine ⟨a, xs, rfl, .inl hs, flat_V hx f, flat_all hd g, q _ H1 (Evl.Ex.refl H1) ?_⟩
  rw [inV_dec hx f hd g]; rfl)
def cutD (ds : List D) (lo hi : Option Int) : List D := (ds.drop (HT.sIx ds.length 0 lo)).take (HT.sIx ds.length ds.length hi - HT.sIx ds.length 0 lo)
theorem DAll.cut {xs : List V} (h : DAll K H xs ds) (lo hi : Option Int) : DAll K H (cutV xs lo hi) (cutD ds lo hi) := by
  unfold cutV cutD
  rw [h.length]
  exact (h.drop _).take _
theorem cut_whole {α : Type} {xs : List α} {n m : Nat} (h : n = 0) (h2 : m = xs.length) : (xs.drop n).take (m - n) = xs := by
  subst h h2; simp
/-- of a list, of a tuple -/
def rSlU (K : PySem.W.Frag) : V → Option Int → Option Int → Hp → VK → Prop := fun x lo hi H Q => rSlL K x lo hi H Q ∨ rSlA K x lo hi H Q
theorem sl_U {X : Cx} : SlR X (rSlU X.K) := SlR.or sl_list sl_tupA
variable {tl th : TO} {lo hi : Option Int}
theorem ev_slT (h : EvG te G H (aD K (.tup ds))) (h1 : EvO tl G H lo) (h2 : EvO th G H hi) : EvG (tSl (rSlU K) te tl th) G H (aD K (.tup (cutD ds lo hi))) := fun σ H1 s x Q q =>
  h σ H1 s x _ fun v H2 e2 p => h1 σ H2 (s.ex e2) (x.trans e2) _ fun H3 e3 => h2 σ H3 (s.ex (e2.trans e3)) (x.trans (e2.trans e3)) _ fun H4 e4 => .inr (by
    obtain ⟨a, xs, rfl, hs, hd⟩ := DIs.tup_inv ((DIs.ex p e3).ex e4)
    refine ⟨a, xs, rfl, hs, fun ⟨z1, z2⟩ => ?_, fun _ l hl => q _ _ (((e2.trans e3).trans e4).trans (Evl.Ex.new hl)) (.tup (SqT.of upd_same) ((hd.ex (Evl.Ex.new hl)).cut lo hi))⟩
    have e : cutD ds lo hi = ds := by
      unfold cutD
      rw [hd.length] at z1 z2
      rw [z1, z2]
      exact cut_whole rfl rfl
    exact q _ _ ((e2.trans e3).trans e4) (by rw [e]; exact DIs.tup hs hd))
theorem ev_slL (h : EvG te G H (aL K ds)) (h1 : EvO tl G H lo) (h2 : EvO th G H hi) : EvN K (tSl (rSlU K) te tl th) G H (cutD ds lo hi) := fun σ H1 s x Q q =>
  h σ H1 s x _ fun v H2 e2 p => h1 σ H2 (s.ex e2) (x.trans e2) _ fun H3 e3 => h2 σ H3 (s.ex (e2.trans e3)) (x.trans (e2.trans e3)) _ fun H4 e4 => .inl (by
    obtain ⟨a, xs, rfl, hs, hd⟩ := Asr.mono (aL K ds) (e3.trans e4) p
    have e5 := (e2.trans e3).trans e4
    exact ⟨a, xs, rfl, hs, fun l hl => q l _ _ (Evl.fresh_back e5 hl) (e5.trans (Evl.Ex.new hl)) upd_same ((hd.ex (Evl.Ex.new hl)).cut lo hi)⟩)
end
def nFrz : HO → Bool
  | .frz _ _ => false
  | _ => true
structure Le (H H' : Hp) : Prop where
  rd : ∀ a o, nFrz o = true → Rd H a o → Rd H' a o
  ins : ∀ a C dx fs, H a = some (.ins C dx fs) → H' a = some (.ins C dx fs)
theorem Le.t {H H' : Hp} (l : Le H H') : TLe H H' := ⟨fun a xs r => l.rd a _ rfl r, l.ins⟩
theorem le_of_ex {H H' : Hp} (e : Ex H H') : Le H H' := ⟨fun _ _ _ r => Evl.ex_rd e r, fun a _ _ _ h => e a _ h⟩
/-- what may be locked: no instance, nothing locked -/
def lockable : HO → Bool
  | .frz _ _ => false
  | .tup _ => false
  | .ins _ _ _ => false
  | _ => true
theorem le_lock {H : Hp} {d : Addr} {u : HO} {od : Obj} (h : H d = some u) (hu : lockable u = true) : Le H (upd H d (.frz od u)) := by
  refine ⟨fun a o n r => ?_, fun a C dx fs e => ?_⟩
  · by_cases hd : a = d
    · subst hd
      rcases r with r | ⟨q, r⟩
      · rw [h] at r; cases r; exact .inr ⟨od, upd_same⟩
      · rw [h] at r; cases r; cases hu
    · rcases r with r | ⟨q, r⟩
      · exact .inl (by rw [upd_ne hd]; exact r)
      · exact .inr ⟨q, by rw [upd_ne hd]; exact r⟩
  · have hd : a ≠ d := fun z => by subst z; rw [h] at e; cases e; cases hu
    rw [upd_ne hd]; exact e
theorem le_unlock {H : Hp} {d : Addr} {u : HO} {od : Obj} (h : H d = some (.frz od u)) : Le H (upd H d u) := by
  refine ⟨fun a o n r => ?_, fun a C dx fs e => ?_⟩
  · by_cases hd : a = d
    · subst hd
      rcases r with r | ⟨q, r⟩
      · rw [h] at r; cases r; cases n
      · rw [h] at r; cases r; exact .inl upd_same
    · rcases r with r | ⟨q, r⟩
      · exact .inl (by rw [upd_ne hd]; exact r)
      · exact .inr ⟨q, by rw [upd_ne hd]; exact r⟩
  · have hd : a ≠ d := fun z => by subst z; rw [h] at e; cases e
    rw [upd_ne hd]; exact e
/-- locked, more laid, unlocked: laid -/
theorem ex_unlock {H H' : Hp} {d : Addr} {u : HO} {od : Obj} (h : H d = some u) (e : Ex (upd H d (.frz od u)) H') : Ex H (upd H' d u) := fun a o ha => by
  by_cases hd : a = d
  · subst hd
    rw [h] at ha; cases ha
    exact upd_same
  · rw [upd_ne hd]
    exact e a o (by rw [upd_ne hd]; exact ha)
theorem ex_locked {H H' : Hp} {d : Addr} {u : HO} {od : Obj} (e : Ex H H') : Ex (upd H d (.frz od u)) (upd H' d (.frz od u)) := fun a o ha => by
  by_cases hd : a = d
  · subst hd
    rw [upd_same] at ha ⊢
    exact ha
  · rw [upd_ne hd] at ha ⊢
    exact e a o ha
def Asr.Le (A : Asr) : Prop := ∀ (v : V) (H H' : Hp), Slv.Le H H' → A.p v H → A.p v H'
section
variable {K : PySem.W.Frag} {P : Program} {w : World} {G : Gam} {H H' : Hp} {A B : Asr} {d e : D} {ds es : List D} {i j : Int} {σ : L2.St}
theorem aD_le : (aD K d).Le := fun _ _ _ l h => DIs.to h l.t
theorem aV_le {x : V} : (aV x).Le := fun _ _ _ _ h => h
theorem aL_le : (aL K ds).Le := fun v H H' l ⟨a, xs, h1, h2, h3⟩ => ⟨a, xs, h1, by
  rcases h2 with h2 | h2
  · exact .inl (l.rd _ _ rfl h2)
  · exact .inr h2, h3.to l.t⟩
/-- a dict to be read -/
def aDD (P : Program) (w : World) (K : PySem.W.Frag) (kvs : List (D × V)) : Asr := ⟨fun v H => ∃ a, v = .ref a ∧ DDr P w K H a kvs, fun e ⟨a, h1, h2⟩ => ⟨a, h1, h2.ex e⟩⟩
theorem aDD_le {kvs : List (D × V)} : (aDD P w K kvs).Le := fun v H H' l ⟨a, h1, xs, h2, h3⟩ => ⟨a, h1, xs, l.rd _ _ rfl h2, h3.to l.t⟩
/-- an instance with its fields -/
def aI (C : Addr) (fs : List (Str × V)) : Asr := ⟨fun v H => ∃ a dx, v = .ref a ∧ H a = some (.ins C dx fs), fun e ⟨a, dx, h1, h2⟩ => ⟨a, dx, h1, e _ _ h2⟩⟩
theorem aI_le {C : Addr} {fs : List (Str × V)} : (aI C fs).Le := fun v H H' l ⟨a, dx, h1, h2⟩ => ⟨a, dx, h1, l.ins _ _ _ _ h2⟩
theorem aI_st {C : Addr} {fs : List (Str × V)} : (aI C fs).St := fun v H H' l ⟨a, dx, h1, h2⟩ => ⟨a, dx, h1, l.i _ _ _ _ h2⟩
theorem SOk.le (h : SOk G σ H) (l : Le H H') (hs : ∀ A, some A ∈ G → A.Le) : SOk G σ H' :=
  ⟨h.len, fun i A hi => let ⟨v, h1, h2⟩ := h.at_ i A hi; ⟨v, h1, hs A (List.mem_of_getElem? hi) _ _ _ l h2⟩⟩
theorem lockable_mut {u : HO} (h : Mut (some u)) (hn : ∀ C dx fs, u ≠ .ins C dx fs) : lockable u = true := by
  cases u <;> first | rfl | (exact False.elim h) | exact absurd rfl (hn _ _ _)
theorem ddO_mut {a : Addr} {xs : XE3} : Mut (some (ddO P w a xs)) := True.intro
theorem ddO_lockable {a : Addr} {xs : XE3} : lockable (ddO P w a xs) = true := rfl
/-- an expression under a lock -/
theorem ev_lock {te : TE} (dd : Addr) (u : HO) (hd : H dd = some u) (mu : Mut (some u)) (hl : lockable u = true) (hG : ∀ B, some B ∈ G → B.Le) (hA : A.Le) (h : ∀ od, EvG te G (upd H dd (.frz od u)) A) : EvG (tLockE te) G H A := fun σ H1 s x Q q => by
  have h1 := x _ _ hd
  refine ⟨dd, u, h1, mu, fun od => ?_⟩
  refine h od σ (upd H1 dd (.frz od u)) (s.le (le_lock h1 hl) hG) (ex_locked x) _ fun v H2 e2 p => ?_
  have h2 : H2 dd = some (.frz od u) := e2 _ _ upd_same
  exact ⟨h2, q v _ (ex_unlock h1 e2) (hA _ _ _ (le_unlock h2) p)⟩
theorem wipe_set {σ : L2.St} {i : Nat} {o : Option V} : ∀ {vs : List Nat}, i ∈ vs → wipe (σ.set i o) vs = wipe σ vs
  | [], h => by cases h
  | v :: vs, h => by
    unfold wipe
    by_cases e : i ∈ vs
    · rw [wipe_set e]
    · have ev : v = i := by
        rcases List.mem_cons.mp h with z | z
        · exact z.symm
        · exact absurd z e
      subst ev
      have comm : ∀ {us : List Nat}, v ∉ us → wipe (σ.set v o) us = (wipe σ us).set v o := by
        intro us
        induction us with
        | nil => intro _; rfl
        | cons u us ih =>
          intro hu
          have h1 : v ≠ u := fun z => hu (z ▸ List.mem_cons_self)
          unfold wipe
          rw [ih (fun z => hu (List.mem_cons_of_mem _ z)), List.set_comm _ _ h1]
      rw [comm e, List.set_set]
theorem wipe_in {σ : L2.St} {u : Nat} : ∀ {ws : List Nat}, u ∈ ws → (wipe σ ws).set u none = wipe σ ws
  | [], z => by cases z
  | w :: ws, z => by
    show ((wipe σ ws).set w none).set u none = (wipe σ ws).set w none
    by_cases e : u = w
    · subst e; rw [List.set_set]
    · have m : u ∈ ws := by
        rcases List.mem_cons.mp z with z | z
        · exact absurd z e
        · exact z
      rw [List.set_comm _ _ (fun z => e z.symm), wipe_in m]
theorem wipe_idem (σ : L2.St) (vs : List Nat) : wipe (wipe σ vs) vs = wipe σ vs := by
  have all : ∀ us : List Nat, (∀ u ∈ us, u ∈ vs) → wipe (wipe σ vs) us = wipe σ vs := by
    intro us
    induction us with
    | nil => intro _; rfl
    | cons u us ih =>
      intro hu
      show (wipe (wipe σ vs) us).set u none = wipe σ vs
      rw [ih fun z hz => hu z (List.mem_cons_of_mem _ hz)]
      exact wipe_in (hu u List.mem_cons_self)
  exact all vs fun _ z => z
/-- a target takes data d: the slots then -/
def TgG (K : PySem.W.Frag) (g : TG) (G : Gam) (vs : List Nat) (d : D) (G' : Gam) : Prop := ∀ x σ H, SOk G σ H → DIs K H x d → ∀ Q : L2.St → Hp → Prop, (∀ σ', SOk G' σ' H → wipe σ' vs = wipe σ vs → Q σ' H) → g x σ H Q
def TgsG (K : PySem.W.Frag) (g : TGs) (G : Gam) (vs : List Nat) (ds : List D) (G' : Gam) : Prop := ∀ xs σ H, SOk G σ H → DAll K H xs ds → ∀ Q : L2.St → Hp → Prop, (∀ σ', SOk G' σ' H → wipe σ' vs = wipe σ vs → Q σ' H) → g xs σ H Q
theorem tg_name {n : Nat} {vs : List Nat} (hn : n < G.length := by exact Nat.le_of_ble_eq_true rfl) (hv : n ∈ vs := by decide) : TgG K (gName n) G vs d (G.set n (some (aD K d))) := fun x σ H s h Q q => q _ (s.set n h hn) (wipe_set hv)
theorem tgs_nil {vs : List Nat} : TgsG K gNil G vs [] G := fun xs σ H s h Q q => by
  cases h
  exact ⟨rfl, q σ s rfl⟩
theorem tgs_cons {g : TG} {u : TGs} {vs : List Nat} {G1 G2 : Gam} (h1 : TgG K g G vs d G1) (h2 : TgsG K u G1 vs ds G2) : TgsG K (gCons g u) G vs (d :: ds) G2 := fun xs σ H s h Q q => by
  cases h with
  | cons ha hb => exact ⟨_, _, rfl, h1 _ σ H s ha _ fun σ1 s1 e1 => h2 _ σ1 H s1 hb Q fun σ2 s2 e2 => q σ2 s2 (e2.trans e1)⟩
theorem tg_tup {g : TGs} {vs : List Nat} {n : Nat} {G' : Gam} (h : TgsG K g G vs ds G') (hn : ds.length = n) : TgG K (gTup K n g) G vs (.tup ds) G' := fun x σ H s hx Q q => by
  obtain ⟨a, xs, rfl, hs, hd⟩ := DIs.tup_inv hx
  exact ⟨a, xs, rfl, hs, by rw [hd.length]; exact hn, h xs σ H s hd Q q⟩
theorem tg_is {g : TG} {vs : List Nat} {G' : Gam} {d' : D} (h : TgG K g G vs d G') (e : d = d') : TgG K g G vs d' G' := e ▸ h
/-- the turns give the data ds while the heap grows -/
def EvI (K : PySem.W.Frag) (wi : TI) (G : Gam) (H : Hp) (ds : List D) : Prop := ∀ σ H1, SOk G σ H1 → Ex H H1 → ∀ R : It → Hp → Prop,
  (∀ J H2 (GJ : Hp → Prop), Ex H1 H2 → Walk J ds.length GJ (fun i H x H' => Ex H H' ∧ ∃ d, ds[i]? = some d ∧ DIs K H' x d) → (∀ H3, Ex H2 H3 → GJ H3) → R J H2) → wi σ H1 R
theorem ei_is {wi : TI} (h : EvI K wi G H ds) (e : ds = es) : EvI K wi G H es := e ▸ h
variable {ta tb te : TE}
theorem ei_list (h : EvG te G H (aL K ds)) : EvI K (iList K te) G H ds := fun σ H1 s x R q => h σ H1 s x _ fun v H2 e2 ⟨a, xs, hv, hs, hd⟩ => ⟨a, hv, ⟨xs, hs⟩, q _ H2 (fun H => SqL K H a xs ∧ DAll K H xs ds) e2 (by
  rw [← hd.length]
  exact walk_list.mono (fun _ g => g.1) fun i H x H' hi g y => ⟨by rw [y.1]; exact Evl.Ex.refl _, by rw [y.1]; exact g.2.getV y.2⟩) fun H3 e3 => ⟨Evl.ex_l e3 hs, hd.ex e3⟩⟩
theorem ei_tup (h : EvG te G H (aD K (.tup ds))) : EvI K (iTup K te) G H ds := fun σ H1 s x R q => h σ H1 s x _ fun v H2 e2 p => by
  obtain ⟨a, xs, hv, hs, hd⟩ := DIs.tup_inv p
  exact ⟨a, hv, ⟨xs, hs⟩, q _ H2 (fun H => SqT K H a xs ∧ DAll K H xs ds) e2 (by
    rw [← hd.length]
    exact walk_tup.mono (fun _ g => g.1) fun i H x H' hi g y => ⟨by rw [y.1]; exact Evl.Ex.refl _, by rw [y.1]; exact g.2.getV y.2⟩) fun H3 e3 => ⟨tle_sqT (tle_of_ex e3) hs, hd.ex e3⟩⟩
/-- a list or a tuple -/
def iSeqU (K : PySem.W.Frag) (te : TE) : TI := fun σ H R => iList K te σ H R ∨ iTup K te σ H R
theorem pi_seqU {X : Cx} {tg e : Expr} {te : TE} (h : PE X e te) : PI X tg e (iSeqU X.K te) := ⟨fun pins s σ H R I q => by
  rcases q with q | q
  · exact (pi_list h).run pins s σ H R I q
  · exact (pi_tup h).run pins s σ H R I q⟩
theorem ei_L (h : EvG te G H (aL K ds)) : EvI K (iSeqU K te) G H ds := fun σ H1 s x R q => .inl (ei_list h σ H1 s x R q)
theorem ei_T (h : EvG te G H (aD K (.tup ds))) : EvI K (iSeqU K te) G H ds := fun σ H1 s x R q => .inr (ei_tup h σ H1 s x R q)
theorem ei_range1 {ta : TA} {n : Nat} (h : EvA ta G H [aD K (.num n)]) (hn : n < 2 ^ 62) : EvI K (iRng1 ta) G H ((List.range n).map fun i : Nat => .num i) := fun σ H1 s x R q => h σ H1 s x _ fun vs H2 e2 p => by
  obtain ⟨v, rfl, hv⟩ := aall1 p
  have e := DIs.num_inv hv
  subst e
  refine ⟨(n : Int), rfl, by omega, by omega, ?_⟩
  rw [Int.toNat_natCast]
  refine q (Itr 0 n) H2 (fun _ => True) e2 ?_ fun _ _ => trivial
  rw [List.length_map, List.length_range]
  refine walk_range.mono (fun _ g => g) fun i H x H' hi g y => ⟨by rw [y.1]; exact Evl.Ex.refl _, .num i, by simp [hi], ?_⟩
  have z : x = .int ((0 : Int) + (i : Nat)) := y.2
  rw [z, Int.zero_add]
  exact .int _
theorem ei_range2 {ta : TA} {m n : Nat} (h : EvA ta G H [aD K (.num m), aD K (.num n)]) (hm : m < 2 ^ 62) (hn : n < 2 ^ 62) : EvI K (iRng2 ta) G H ((List.range (n - m)).map fun i : Nat => .num ((m + i : Nat) : Int)) := fun σ H1 s x R q => h σ H1 s x _ fun vs H2 e2 p => by
  obtain ⟨v, u, rfl, hv, hu⟩ := aall2 p
  have e := DIs.num_inv hv
  have e' := DIs.num_inv hu
  subst e e'
  refine ⟨(m : Int), (n : Int), rfl, ⟨by omega, by omega, by omega, by omega⟩, ?_⟩
  have z : ((n : Int) - (m : Int)).toNat = n - m := by omega
  rw [z]
  refine q (Itr m (n - m)) H2 (fun _ => True) e2 ?_ fun _ _ => trivial
  rw [List.length_map, List.length_range]
  exact walk_range.mono (fun _ g => g) fun i H x H' hi g y => ⟨by rw [y.1]; exact Evl.Ex.refl _, _, by simp [hi]; rfl, by rw [y.2]; exact (show ((m : Int) + (i : Nat)) = ((m + i : Nat) : Int) by omega) ▸ .int _⟩
/-- a new list whose items bear As -/
def EvL (te : TE) (G : Gam) (H : Hp) (As : List Asr) : Prop := ∀ σ H1, SOk G σ H1 → Ex H H1 → ∀ Q : VK, (∀ p xs H2, H1 p = none → Ex H1 H2 → H2 p = some (.lst xs) → AAll As xs H2 → Q (.ref p) H2) → te σ H1 Q
theorem AAll.snoc {v : V} : ∀ {As : List Asr} {xs : List V}, AAll As xs H → A.p v H → AAll (As ++ [A]) (xs ++ [v]) H
  | _, _, .nil, hv => .cons hv .nil
  | _, _, .cons a t, hv => .cons a (AAll.snoc t hv)
theorem AAll.st (t : TLe H H') : ∀ {As : List Asr} {xs : List V}, (∀ B ∈ As, B.St) → AAll As xs H → AAll As xs H'
  | _, _, _, .nil => .nil
  | _, _, hs, .cons a r => .cons (hs _ List.mem_cons_self _ _ _ t a) (AAll.st t (fun B m => hs B (List.mem_cons_of_mem _ m)) r)
theorem aall_D : ∀ {ds : List D} {xs : List V}, AAll (ds.map (aD K)) xs H → DAll K H xs ds
  | [], _, h => by cases h; exact .nil
  | d :: ds, _, h => by
    cases h with
    | cons a t => exact .cons a (aall_D t)
theorem aall_B : ∀ {bs : List Bool} {xs : List V}, AAll (bs.map aB) xs H → xs = bs.map V.bl
  | [], _, h => by cases h; rfl
  | b :: bs, _, h => by
    cases h with
    | cons a t =>
      have e : _ = V.bl b := a
      rw [e, aall_B t]; rfl
/-- [te for g in wi if tt]: over the data of xs -/
theorem el_lc {τ : Type} {wi : TI} {g : TG} {tt : TT} {vs : List Nat} (xs : List τ) (enc : τ → D) (Gt : τ → Gam) (b : τ → Bool) (f : τ → Asr) (hi : EvI K wi G H ds) (hx : ds = xs.map enc) (hl : xs.length < 100000)
    (hg : ∀ x ∈ xs, TgG K g (wipeG G vs) vs (enc x) (Gt x)) (ht : ∀ x ∈ xs, EvT tt (Gt x) H (b x)) (he : ∀ x ∈ xs, b x = true → EvG te (Gt x) H (f x)) (hf : ∀ x ∈ xs, (f x).St) :
    EvL (tLc wi g tt te vs) G H ((xs.filter b).map f) := fun σ H1 s x Q q => by
  subst hx
  refine hi σ H1 s x _ fun J H2 GJ e2 wk hGJ D hD => ?_
  have fD := Evl.fresh_back e2 hD
  rw [List.length_map] at wk
  refine lc_it wk (fun i H' => Ex H2 H' ∧ ∃ ys, H' D = some (.lst ys) ∧ AAll (((xs.take i).filter b).map f) ys H') ⟨Evl.Ex.new hD, [], upd_same, .nil⟩ (fun i H' _ p => hGJ H' p.1) (fun i y H3 H4 hlt ⟨e3, ys, hys, ha⟩ ⟨e4, d, hd, hyd⟩ => ?_) fun H3 ⟨e3, ys, hys, ha⟩ => ?_
  · have hxi : xs[i]? = some xs[i] := List.getElem?_eq_getElem hlt
    rw [List.getElem?_map, hxi, Option.map_some, Option.some.injEq] at hd
    subst hd
    have hm : xs[i] ∈ xs := List.getElem_mem hlt
    have s4 : SOk (wipeG G vs) (wipe σ vs) H4 := (s.ex ((e2.trans e3).trans e4)).wipe vs
    refine hg _ hm y (wipe σ vs) H4 s4 hyd _ fun σ' s' hw => ?_
    have ew := wipe_idem σ vs
    refine ⟨hw.trans ew, ?_⟩
    have e24 : Ex H2 H4 := e3.trans e4
    have x4 : Ex H H4 := (x.trans e2).trans e24
    refine ht _ hm σ' H4 s' x4 _ fun H5 e5 => ?_
    have tk : xs.take (i + 1) = xs.take i ++ [xs[i]] := by rw [List.take_succ, hxi]; rfl
    have h4D : H5 D = some (.lst ys) := e5 _ _ (e4 _ _ hys)
    cases hb : b xs[i] with
    | true =>
      rw [if_pos rfl]
      refine he _ hm hb σ' H5 (s'.ex e5) (x4.trans e5) _ fun z H6 e6 hz => ?_
      have h6 : H6 D = some (.lst ys) := e6 _ _ h4D
      have hst : ∀ A ∈ ((xs.take i).filter b).map f ++ [f xs[i]], A.St := fun A hA => by
        rcases List.mem_append.mp hA with z | z
        · obtain ⟨u, hu, rfl⟩ := List.mem_map.mp z
          exact hf u (List.mem_of_mem_take (List.mem_filter.mp hu).1)
        · rw [List.mem_singleton.mp z]; exact hf _ hm
      refine ⟨ys, h6, Evl.sz_lt ?_, (e24.trans (e5.trans e6)).mut hD, _, upd_same, ?_⟩
      · have := ha.length
        rw [List.length_map] at this
        have l2 := List.length_filter_le b (xs.take i)
        have l3 := List.length_take_le i xs
        omega
      · rw [tk, List.filter_append, List.map_append]
        have fe : ([xs[i]].filter b).map f = [f xs[i]] := by simp [hb]
        rw [fe]
        exact AAll.st (tle_upd h6 rfl) hst ((ha.ex ((e4.trans e5).trans e6)).snoc hz)
    | false =>
      rw [if_neg (by decide)]
      refine ⟨e24.trans e5, ys, h4D, ?_⟩
      rw [tk, List.filter_append, List.map_append]
      have fe : ([xs[i]].filter b).map f = [] := by simp [hb]
      rw [fe, List.append_nil]
      exact ha.ex (e4.trans e5)
  · rw [List.take_length] at ha
    exact q D ys H3 fD (e2.trans e3) hys ha
theorem et_yes' : EvT tYes G H true := et_yes
/-- .. of data -/
theorem en_lc {τ : Type} {wi : TI} {g : TG} {tt : TT} {vs : List Nat} (xs : List τ) (enc : τ → D) (Gt : τ → Gam) (b : τ → Bool) (f : τ → D) (hi : EvI K wi G H ds) (hx : ds = xs.map enc) (hl : xs.length < 100000)
    (hg : ∀ x ∈ xs, TgG K g (wipeG G vs) vs (enc x) (Gt x)) (ht : ∀ x ∈ xs, EvT tt (Gt x) H (b x)) (he : ∀ x ∈ xs, b x = true → EvG te (Gt x) H (aD K (f x))) :
    EvN K (tLc wi g tt te vs) G H ((xs.filter b).map f) := fun σ H1 s x Q q => by
  have z := el_lc (K := K) (te := te) xs enc Gt b (fun x => aD K (f x)) hi hx hl hg ht he (fun _ _ => aD_st)
  refine z σ H1 s x Q fun p ys H2 n e h a => q p ys H2 n e h (aall_D ?_)
  rw [List.map_map]
  exact a
/-- .. with no test -/
theorem en_map {τ : Type} {wi : TI} {g : TG} {vs : List Nat} (xs : List τ) (enc : τ → D) (Gt : τ → Gam) (f : τ → D) (hi : EvI K wi G H ds) (hx : ds = xs.map enc) (hl : xs.length < 100000)
    (hg : ∀ x ∈ xs, TgG K g (wipeG G vs) vs (enc x) (Gt x)) (he : ∀ x ∈ xs, EvG te (Gt x) H (aD K (f x))) :
    EvN K (tLc wi g tYes te vs) G H (xs.map f) := by
  have z := en_lc (K := K) (te := te) xs enc Gt (fun _ => true) f hi hx hl hg (fun _ _ => et_yes) fun x m _ => he x m
  have e : xs.filter (fun _ => true) = xs := by simp
  rw [e] at z
  exact z
/-- .. of bools -/
def EvBs (te : TE) (G : Gam) (H : Hp) (bs : List Bool) : Prop := EvL te G H (bs.map aB)
theorem eb_map {τ : Type} {wi : TI} {g : TG} {vs : List Nat} (xs : List τ) (enc : τ → D) (Gt : τ → Gam) (f : τ → Bool) (hi : EvI K wi G H ds) (hx : ds = xs.map enc) (hl : xs.length < 100000)
    (hg : ∀ x ∈ xs, TgG K g (wipeG G vs) vs (enc x) (Gt x)) (he : ∀ x ∈ xs, EvG te (Gt x) H (aB (f x))) :
    EvBs (tLc wi g tYes te vs) G H (xs.map f) := by
  have z := el_lc (K := K) (te := te) xs enc Gt (fun _ => true) (fun x => aB (f x)) hi hx hl hg (fun _ _ => et_yes) (fun x m _ => he x m) (fun _ _ => aV_st)
  have e : xs.filter (fun _ => true) = xs := by simp
  rw [e] at z
  unfold EvBs
  rw [List.map_map]
  exact z
theorem ev_any {bs : List Bool} (h : EvBs te G H bs) : EvG (tCB (rAny K) (tCons te tNil)) G H (aB (bs.any id)) := fun σ H1 s x Q q => h σ H1 s x _ fun p ys H2 _ e2 hp ha => by
  have e := aall_B ha
  subst e
  exact ⟨p, bs, rfl, Evl.sq_of hp, q _ H2 e2 rfl⟩
theorem ev_all {bs : List Bool} (h : EvBs te G H bs) : EvG (tCB (rAll K) (tCons te tNil)) G H (aB (bs.all id)) := fun σ H1 s x Q q => h σ H1 s x _ fun p ys H2 _ e2 hp ha => by
  have e := aall_B ha
  subst e
  exact ⟨p, bs, rfl, Evl.sq_of hp, q _ H2 e2 rfl⟩
theorem ev_sum {ns : List Int} (h : EvG te G H (aL K (ns.map .num))) : EvG (tCB (rSum K) (tCons te tNil)) G H (aD K (.num ns.sum)) := fun σ H1 s x Q q => h σ H1 s x _ fun v H2 e2 ⟨a, xs, ev, hs, hd⟩ => by
  have e := DAll.ints hd
  subst e ev
  exact ⟨a, ns, rfl, hs, q _ H2 e2 (.int _)⟩
end
/-- the tuple at a, each item in a new pair with its number -/
def IteT (K : PySem.W.Frag) (a : Addr) : It :=
  ⟨fun i H => ∃ (xs : List V) (x : V), SqT K H a xs ∧ xs[i]? = some x, fun i H v H' => ∃ T x, v = .ref T ∧ H T = none ∧ H' = upd H T (.tup [.int (i : Nat), x]) ∧ ∀ xs, SqT K H a xs → xs[i]? = some x, fun i H => ∃ xs : List V, SqT K H a xs ∧ xs.length = i⟩
theorem turn_enumT {P : Program} {w : World} {K : PySem.W.Frag} {elts : List Expr} {kk : Nat} {tpos : Pos} (a e it : Addr) :
    Turn P w K (.Tuple elts kk tpos) (IteT K a) [e, it] e (fun i h => (∃ old, IsEnum h e it ((i : Nat) : Int) old) ∧ h.IsTupleIter it a i ∧ e ≠ it ∧ a ≠ e ∧ a ≠ it) := by
  have two : ∀ b ∈ [e, it], b = e ∨ b = it := fun b hb => by simpa using hb
  constructor
  · simp
  · rintro i h ⟨⟨old, he⟩, ⟨o, ho, hc, hd⟩, _⟩ b hb
    rcases two b hb with rfl | rfl
    · exact ⟨_, he, fun v q => nomatch q⟩
    · exact ⟨o, ho, fun v q => by rw [hd] at q; cases q⟩
  · rintro i h h' ⟨⟨old, he⟩, hi, ne⟩ k
    exact ⟨⟨old, k e (by simp) _ he⟩, hi.at fun o q => k it (by simp) o q, ne⟩
  · rintro X rfl rfl rfl hc i pins s σ H E I hf ⟨⟨old, he⟩, hit, hne, hae, hai⟩ ⟨xs, x, hq, hx⟩
    obtain ⟨its, rv, p, hz⟩ := I.tuple hq
    obtain ⟨u, hu, ru⟩ := rv.get hx
    have hel : e < s.heap.objs.size := Heap.lt_size he
    have hil : it < s.heap.objs.size := by obtain ⟨_, q, _⟩ := hit; exact Heap.lt_size q
    have hil2 : i < its.toArray.size := by
      have := (List.getElem?_eq_some_iff.mp hu).1
      simpa using this
    refine wpAny_pyNext_enum_itemC (Draws.tuple (show X.A.in1.handled = none from I.ok.hd hc) it a hai its.toArray) he ⟨hit, p⟩ hil2 hne (by simp [hne, Ne.symm hae]) fun z h' tk hz2 ho st2 hT hsz hk => ?_
    obtain ⟨hit2, _⟩ := st2
    have ez : z = u := by
      have : its[i]? = some z := by simpa using hz2
      rw [hu] at this
      exact (Option.some.inj this).symm
    subst ez
    refine ⟨_, rfl, wpAny_letOwnedTupleGo_enum (s := { s with heap := h', toks := tk + 1 }) ho fun h'' he2 sb => ?_⟩
    have hT2 : h''.get? s.heap.objs.size = some { cls := .type "tuple", data := .seq #[.int i tk, z] } := (sb.2 _ (Nat.ne_of_gt hel)).trans hT
    have new : ObjOk X.prog X.w (upd H s.heap.objs.size (.tup [.int (i : Nat), x])) h'' s.heap.objs.size (.tup [.int (i : Nat), x]) :=
      ⟨by show 2 ≤ sizeLine; decide, [.int i tk, z], .cons ⟨_, rfl⟩ (.cons ru .nil), ⟨_, hT2, rfl, _, rfl⟩⟩
    have J : Inv X pins σ (upd H s.heap.objs.size (.tup [.int (i : Nat), x])) { s with heap := h'', toks := tk + 1 } :=
      I.turnedNew (ch := [e, it]) (fun b ob hb q => (sb.2 b (fun y => hb (by simp [y]))).trans (hk b ob (fun y => hb (by simp [y])) (fun y => hb (by simp [y])) q)) hf (Nat.le_refl _) new
    refine ⟨.ref s.heap.objs.size, _, J, rfl, ⟨_, x, rfl, I.hok.fresh (Nat.le_refl _), rfl, fun ys hy => by rw [I.tuple_inj hy hq]; exact hx⟩, ⟨⟨z, ?_⟩, hit2.at fun o q => (sb.2 it (Ne.symm hne)).trans q, hne, hae, hai⟩, fun b hb => ?_⟩
    · have e1 : ((i + 1 : Nat) : Int) = (i : Int) + 1 := by omega
      rw [e1]; exact he2
    · have hb2 : b < s.heap.objs.size := by
        rcases two b hb with y | y
        · rw [y]; exact hel
        · rw [y]; exact hil
      rw [upd_ne (Nat.ne_of_lt hb2)]
      exact (hf b hb).1
  · rintro X rfl rfl rfl hc i pins s σ H E I hf ⟨⟨old, he⟩, hit, hne, hae, hai⟩ ⟨xs, hq, hx⟩
    obtain ⟨its, rv, p, hz⟩ := I.tuple hq
    obtain ⟨f0, f1, f2, f3, f4, f5⟩ := hf it (by simp)
    have hl := rv.length
    have en : i = its.toArray.size := by simp; omega
    subst en
    exact wpAny_pyNext_enum_endD (Draws.tuple (show X.A.in1.handled = none from I.ok.hd hc) it a hai its.toArray) he ⟨hit, p⟩ fun h' eb => ⟨rfl, I.turned (t' := s.toks) (fun b o hb q => eb b o hb q) f0 f1 f3 f4 f5⟩
  · rintro A i s Q E ⟨⟨_, he⟩, _⟩ h
    exact wpAny_pyIter_enum he h
section
variable {A : Around} {E : Value → Shared → Prop} {s : Shared} {prog : Program} {w : World}
theorem meets_enumT (l : Addr) (items : Array Value) (n : Nat) (dct : Option Addr) (sl : Array (Option Value)) :
    Meets (Builtin.«enumerate.__new__» ⟨[.type "enumerate", .ref l], []⟩) (fun _ R s => s.heap.get? l = some { cls := .type "tuple", dict := dct, data := .seq items n, slots := sl } ∧
      R (.ok (.ret (.ref (s.heap.objs.size + 1)))) { s with heap := (s.heap.push { cls := .type "tuple_iterator", data := .fields #[.ref l, .int 0 0] }).push { cls := .type "enumerate", data := .fields #[.none, .bool false, .ref s.heap.objs.size, rawInt 0, .none, .none] } }) :=
  .of_wp fun prog w A R s h => by
    obtain ⟨hp, g, d, tk, os⟩ := s
    obtain ⟨hl, h⟩ := h
    have hsub := sub_enumerate
    have hT : Heap.IsTuple (Shared.heap ⟨hp, g, d, tk, os⟩) l items := ⟨_, hl, rfl, n, rfl⟩
    have q1 : ∀ {A' : Around} {E : Value → Shared → Prop} {Q : Value → Shared → Prop}, Q (.ref hp.objs.size) ⟨hp.push { cls := .type "tuple_iterator", data := .fields #[.ref l, .int 0 0] }, g, d, tk, os⟩ → wpAny (model prog w) A' (pyIter (.ref l)) Q E ⟨hp, g, d, tk, os⟩ :=
      fun q => wpAny_pyIter_tuple hT q
    have hsz : (hp.push { cls := .type "tuple_iterator", data := .fields #[.ref l, .int 0 0] }).objs.size = hp.objs.size + 1 := Heap.size_push ..
    rw [← hsz] at h
    wp_walk using q1
    refine wpAny_stack_any fun st => wpAny_pure ?_
    split
    · rename_i c _ _ _ _ _
      cases (c == Value.type "enumerate")
      · wp_walk using q1
        exact ⟨_, rfl, h⟩
      · wp_walk using q1
        exact ⟨_, rfl, h⟩
    · wp_walk using q1
      exact ⟨_, rfl, h⟩
theorem call_enumT {l : Addr} {items : Array Value} {Q : Value → Shared → Prop} (hL : s.heap.IsTuple l items)
    (h : ∀ h', IsEnum h' (s.heap.objs.size + 1) s.heap.objs.size 0 .none → h'.IsTupleIter s.heap.objs.size l 0 → (∀ b o, s.heap.get? b = some o → h'.get? b = some o) → Q (.ref (s.heap.objs.size + 1)) { s with heap := h' }) :
    wpAny (model prog w) A (call (.type "enumerate") [.ref l]) Q E s := by
  obtain ⟨⟨c, dct, dt, sl⟩, hl, hc, n, hd⟩ := hL
  simp only at hc hd
  subst hc hd
  refine callType_new F.called_enumerate (by decide) (F.typeCall_enumerate_1 _) (F.newCall_enumerate_1 _) (fun obj => F.args_object_init_2 obj _) F.entry_enumerate_new (meets_enumT l items n dct sl) ⟨hl, ?_⟩
  generalize hh : s.heap.push { cls := .type "tuple_iterator", data := .fields #[.ref l, .int 0 0] } = h1
  have hz : h1.objs.size = s.heap.objs.size + 1 := by rw [← hh]; exact Heap.size_push ..
  have g1 : h1.get? s.heap.objs.size = some { cls := .type "tuple_iterator", data := .fields #[.ref l, .int 0 0] } := by rw [← hh]; exact Heap.get?_push_size _ rfl
  have k1 : ∀ b o, s.heap.get? b = some o → h1.get? b = some o := fun b o q => by rw [← hh]; exact Heap.get?_push_of_some _ q
  have he : IsEnum (h1.push { cls := .type "enumerate", data := .fields #[.none, .bool false, .ref s.heap.objs.size, rawInt 0, .none, .none] }) (s.heap.objs.size + 1) s.heap.objs.size 0 .none := by
    have := Heap.get?_push_size h1 (o := { cls := .type "enumerate", data := .fields #[.none, .bool false, .ref s.heap.objs.size, rawInt 0, .none, .none] }) rfl
    rw [hz] at this; exact this
  exact ⟨⟨_, he, rfl⟩, h _ he ⟨_, Heap.get?_push_of_some _ g1, rfl, rfl⟩ fun b o q => Heap.get?_push_of_some _ (k1 b o q)⟩
end
def iEnumT (K : PySem.W.Frag) (ta : TA) : TI := fun σ H R => ta σ H fun vs H1 => ∃ a xs, vs = [.ref a] ∧ SqT K H1 a xs ∧ R (IteT K a) H1
theorem pi_enumT {X : Cx} {e : Expr} {ta : TA} {p pos tpos : Pos} {elts : List Expr} {kk : Nat} (hg : Gl X "enumerate") (hm : X.mg "enumerate" = none) (ha : PA X [e] ta) (hs : starEach [e] X.env = [(false, eval e X.env)] := by rfl) :
    PI X (.Tuple elts kk tpos) (.Call (.Name "enumerate" p) [e] [] pos) (iEnumT X.K ta) := by
  refine ⟨fun pins s σ H R I h => ?_⟩
  refine Call_ (ld_blt I hg hm boot_enumerate (PyProof.Rows.callWith_type1 (thn (ha.run pos pins s σ H _ I h) fun us s1 ⟨vs, H1, I1, r1, a, xs, ex, hq, q⟩ => ?_) hs rfl))
  subst ex
  cases r1 with
  | cons r rr =>
    cases rr
    cases r
    obtain ⟨its, rv, p', hz⟩ := I1.tuple hq
    have la : a < s1.heap.objs.size := by obtain ⟨o, ho, _⟩ := p'; exact Heap.lt_size ho
    refine call_enumT (items := its.toArray) p' fun h' he hit hk => wpAny_pyIter_enum he ?_
    have I2 : Inv X pins σ H1 { s1 with heap := h' } := I1.kept (t' := s1.toks) hk
    refine ⟨s1.heap.objs.size + 1, [s1.heap.objs.size + 1, s1.heap.objs.size], _, _, H1, rfl, I2, turn_enumT a (s1.heap.objs.size + 1) s1.heap.objs.size, ⟨⟨.none, he⟩, hit, Nat.succ_ne_self _, Nat.ne_of_lt (Nat.lt_succ_of_lt la), Nat.ne_of_lt la⟩, fun b hb => ?_, q⟩
    have hle : s1.heap.objs.size ≤ b := by
      have e' : b = s1.heap.objs.size + 1 ∨ b = s1.heap.objs.size := by simpa using hb
      rcases e' with z | z
      · rw [z]; exact Nat.le_add_right _ _
      · rw [z]; exact Nat.le_refl _
    exact I1.fpOk hle (I1.hok.fresh hle)
def iEnumU (K : PySem.W.Frag) (ta : TA) : TI := fun σ H R => iEnum K ta σ H R ∨ iEnumT K ta σ H R
theorem pi_enumU {X : Cx} {e : Expr} {ta : TA} {p pos tpos : Pos} {elts : List Expr} {kk : Nat} (hg : Gl X "enumerate") (hm : X.mg "enumerate" = none) (ha : PA X [e] ta) (hs : starEach [e] X.env = [(false, eval e X.env)] := by rfl) :
    PI X (.Tuple elts kk tpos) (.Call (.Name "enumerate" p) [e] [] pos) (iEnumU X.K ta) := ⟨fun pins s σ H R I h => by
  rcases h with h | h
  · exact (pi_enum hg hm ha hs).run pins s σ H R I h
  · exact (pi_enumT hg hm ha hs).run pins s σ H R I h⟩
section
variable {K : PySem.W.Frag} {P : Program} {w : World} {G : Gam} {H H' : Hp} {A B : Asr} {d e : D} {ds es : List D} {te : TE}
theorem walk_enumT {a : Addr} {xs : List V} : Walk (IteT K a) xs.length (fun H => SqT K H a xs) (YPair (fun i => some (.int (i : Nat))) (fun i => xs[i]?)) :=
  ⟨fun i _ hi q => ⟨xs, xs[i], q, by simp [hi]⟩, fun _ q => ⟨xs, q, rfl⟩, fun i H v H' _ q y => let ⟨T, x, h1, h2, h3, h4⟩ := y; ⟨T, .int (i : Nat), x, h1, h2, h3, rfl, h4 xs q⟩⟩
def numD (i : Nat) : D := .num i
/-- the data with their numbers -/
def enumD (ds : List D) : List D := (List.range ds.length).map fun i : Nat => .tup [.num i, ds.getD i .none]
theorem pair_walk {J : It} {n : Nat} {GJ : Hp → Prop} {f g : Nat → Option V} {es : List D} (wk : Walk J n GJ (YPair f g)) (hn : n = es.length) (h : ∀ (i : Nat) (x y : V) (H : Hp), GJ H → f i = some x → g i = some y → ∃ d e, es[i]? = some (.tup [d, e]) ∧ DIs K H x d ∧ DIs K H y e) :
    Walk J es.length GJ (fun i H x H' => Ex H H' ∧ ∃ d, es[i]? = some d ∧ DIs K H' x d) := by
  subst hn
  refine wk.mono (fun _ g => g) fun i H x H' hi hg y => ?_
  obtain ⟨T, u, v, rfl, hT, rfl, hu, hv⟩ := y
  obtain ⟨d, e, h1, h2, h3⟩ := h i u v H hg hu hv
  have ex := Evl.Ex.new (o := .tup [u, v]) hT
  exact ⟨ex, _, h1, .tup (SqT.of upd_same) (.cons (h2.ex ex) (.cons (h3.ex ex) .nil))⟩
theorem enumD_at {xs : List V} (hd : DAll K H xs ds) {i : Nat} {y : V} (h : xs[i]? = some y) : ∃ d e, (enumD ds)[i]? = some (.tup [d, e]) ∧ DIs K H (.int (i : Nat)) d ∧ DIs K H y e := by
  obtain ⟨e, he, hy⟩ := hd.getV h
  have hlt := (List.getElem?_eq_some_iff.mp he).1
  refine ⟨.num i, e, ?_, .int _, hy⟩
  unfold enumD
  rw [List.getElem?_map, List.getElem?_range hlt]
  simp [List.getD, he]
theorem enumD_length : (enumD ds).length = ds.length := by unfold enumD; simp
theorem ei_enumL (h : EvG te G H (aL K ds)) : EvI K (iEnumU K (tCons te tNil)) G H (enumD ds) := fun σ H1 s x R q => .inl (h σ H1 s x _ fun v H2 e2 ⟨a, xs, hv, hs, hd⟩ => ⟨a, xs, by rw [hv], hs, q _ H2 (fun H => SqL K H a xs ∧ DAll K H xs ds) e2
  (pair_walk (walk_enum.mono (fun _ g => g.1) fun _ _ _ _ _ _ y => y) (by rw [enumD_length, hd.length]) fun i u v H g hu hv => by
    cases hu
    exact enumD_at g.2 hv) fun H3 e3 => ⟨Evl.ex_l e3 hs, hd.ex e3⟩⟩)
theorem ei_enumT (h : EvG te G H (aD K (.tup ds))) : EvI K (iEnumU K (tCons te tNil)) G H (enumD ds) := fun σ H1 s x R q => .inr (h σ H1 s x _ fun v H2 e2 p => by
  obtain ⟨a, xs, hv, hs, hd⟩ := DIs.tup_inv p
  exact ⟨a, xs, by rw [hv], hs, q _ H2 (fun H => SqT K H a xs ∧ DAll K H xs ds) e2
    (pair_walk (walk_enumT.mono (fun _ g => g.1) fun _ _ _ _ _ _ y => y) (by rw [enumD_length, hd.length]) fun i u v H g hu hv => by
      cases hu
      exact enumD_at g.2 hv) fun H3 e3 => ⟨tle_sqT (tle_of_ex e3) hs, hd.ex e3⟩⟩)
end
def ItzX (K : PySem.W.Frag) (z : Str) (b : Addr) : It :=
  ⟨fun i H => ∃ (ys : List V) (y : V), SqT K H b ys ∧ ys[i]? = some y ∧ i < z.cps.size, fun i H v H' => ∃ T c y, v = .ref T ∧ H T = none ∧ H' = upd H T (.tup [.str ⟨#[c]⟩, y]) ∧ z.cps[i]? = some c ∧ ∀ ys, SqT K H b ys → ys[i]? = some y,
    fun i H => ∃ ys : List V, SqT K H b ys ∧ ys.length = i ∧ z.cps.size = i⟩
theorem stri_at {h h' : Heap} {a : Addr} {T : String} {x : Str} {t : Tok} {i : Nat} (r : h.IsStrIter a T x t i) (k : ∀ o, h.get? a = some o → h'.get? a = some o) : h'.IsStrIter a T x t i := let ⟨o, q, r⟩ := r; ⟨o, k _ q, r⟩
theorem turn_zipX {P : Program} {w : World} {K : PySem.W.Frag} {elts : List Expr} {kk : Nat} {tpos : Pos} {x : Str} {t : Tok} {b z TI TO i1 i2 : Addr} (S : ZipSep2 z TI TO i1 i2 [i1] [i2, b]) (hbi : b ≠ i2) :
    Turn P w K (.Tuple elts kk tpos) (ItzX K x b) [z, TI, TO, i1, i2] z (fun i h => IsZip h z TI TO .none ∧ IsPair h TI (.ref i1) (.ref i2) ∧ (∃ u v, IsPair h TO u v) ∧ h.IsStrIter i1 (strIterType x) x t i ∧ h.IsTupleIter i2 b i) := by
  have five : ∀ c ∈ [z, TI, TO, i1, i2], c = z ∨ c = TI ∨ c = TO ∨ c = i1 ∨ c = i2 := fun c hc => by simpa using hc
  constructor
  · simp
  · rintro i h ⟨hz, hTI, ⟨u, v, hTO⟩, ⟨o1, e1, _, d1⟩, ⟨o2, e2, _, d2⟩⟩ c hc
    rcases five c hc with rfl | rfl | rfl | rfl | rfl
    · exact ⟨_, hz, fun v q => nomatch q⟩
    · exact ⟨_, hTI, fun v q => nomatch q⟩
    · exact ⟨_, hTO, fun v q => nomatch q⟩
    · exact ⟨o1, e1, fun v q => by rw [d1] at q; cases q⟩
    · exact ⟨o2, e2, fun v q => by rw [d2] at q; cases q⟩
  · rintro i h h' ⟨hz, hTI, ⟨u, v, hTO⟩, h1, h2⟩ k
    exact ⟨k z (by simp) _ hz, k TI (by simp) _ hTI, ⟨u, v, k TO (by simp) _ hTO⟩, stri_at h1 fun o q => k i1 (by simp) o q, h2.at fun o q => k i2 (by simp) o q⟩
  · rintro X rfl rfl rfl hc i pins s σ H E I hf ⟨hz, hTI, ⟨x0, y0, hTO⟩, h1, h2⟩ ⟨ys, y, hqy, hy, hix⟩
    obtain ⟨its, rv, p, _⟩ := I.tuple hqy
    obtain ⟨u, hu, ru⟩ := rv.get hy
    have hzl : z < s.heap.objs.size := Heap.lt_size hz
    have hil2 : i < its.toArray.size := by
      have := (List.getElem?_eq_some_iff.mp hu).1
      simpa using this
    have hh : X.A.in1.handled = none := I.ok.hd hc
    refine wpAny_pyNext_zipD2_item S (Draws.text hh i1 x t) (Draws.tuple hh i2 b hbi its.toArray) hz hTI hTO h1 ⟨h2, p⟩ hix hil2 fun x1 x2 h' tk hp1 hp2 z' TO' h1' h2' hT hsz hk => ?_
    obtain ⟨c, tc, hcx, rfl⟩ := hp1
    have ez : x2 = u := by
      have : its[i]? = some x2 := by simpa using hp2
      rw [hu] at this
      exact (Option.some.inj this).symm
    subst ez
    refine ⟨_, rfl, wpAny_letOwnedTupleGo_zip (s := { s with heap := h', toks := tk }) z' fun h'' z'' sb => ?_⟩
    have hT2 : h''.get? s.heap.objs.size = some { cls := .type "tuple", data := .seq #[.str ⟨#[c]⟩ tc, x2] } := (sb.2 _ (Nat.ne_of_gt hzl)).trans hT
    have new : ObjOk X.prog X.w (upd H s.heap.objs.size (.tup [.str ⟨#[c]⟩, y])) h'' s.heap.objs.size (.tup [.str ⟨#[c]⟩, y]) :=
      ⟨by show 2 ≤ sizeLine; decide, [.str ⟨#[c]⟩ tc, x2], .cons ⟨_, rfl⟩ (.cons ru .nil), ⟨_, hT2, rfl, _, rfl⟩⟩
    have J : Inv X pins σ (upd H s.heap.objs.size (.tup [.str ⟨#[c]⟩, y])) { s with heap := h'', toks := tk } :=
      I.turnedNew (t' := tk) (ch := [z, TI, TO, i1, i2]) (fun c o hb q => (sb.2 c (fun q' => hb (by simp [q']))).trans (hk c o (fun q' => hb (by simp [q'])) (fun q' => hb (by simp [q'])) (fun q' => hb (by simp [q'])) (fun q' => hb (by simp [q'])) q)) hf (Nat.le_refl _) new
    refine ⟨.ref s.heap.objs.size, _, J, rfl, ⟨_, c, y, rfl, I.hok.fresh (Nat.le_refl _), rfl, hcx, fun l hl => by rw [I.tuple_inj hl hqy]; exact hy⟩, ⟨z'', ?_, ⟨.str ⟨#[c]⟩ tc, x2, ?_⟩, ?_, ?_⟩, fun c hcm => ?_⟩
    · exact (sb.2 _ S.TIz).trans (hk _ _ S.TIz S.TITO S.TIi1 S.TIi2 hTI)
    · exact (sb.2 _ S.TOz).trans TO'
    · exact stri_at h1' fun o q => (sb.2 _ (Ne.symm S.zi1)).trans q
    · exact h2'.1.at fun o q => (sb.2 _ (Ne.symm S.zi2)).trans q
    · have hlt : c < s.heap.objs.size := by
        rcases five c hcm with q | q | q | q | q
        · rw [q]; exact hzl
        · rw [q]; exact Heap.lt_size hTI
        · rw [q]; exact Heap.lt_size hTO
        · rw [q]; obtain ⟨_, e1, _⟩ := h1; exact Heap.lt_size e1
        · rw [q]; obtain ⟨_, e2, _⟩ := h2; exact Heap.lt_size e2
      rw [upd_ne (Nat.ne_of_lt hlt)]
      exact (hf c hcm).1
  · rintro X rfl rfl rfl hc i pins s σ H E I hf ⟨hz, hTI, ⟨x0, y0, hTO⟩, h1, h2⟩ ⟨ys, hqy, hl1, hl2⟩
    obtain ⟨its, rv, p, _⟩ := I.tuple hqy
    have l := rv.length
    have hh : X.A.in1.handled = none := I.ok.hd hc
    have en : i = its.toArray.size := by simp; omega
    refine wpAny_pyNext_zipD2_end S (Draws.text hh i1 x t) (Draws.tuple hh i2 b hbi its.toArray) hz hTI hTO h1 ⟨h2, p⟩ (by omega) (by omega) (.inr en) fun h' tk hk => ⟨rfl, I.turnedL (t' := tk) (ch := [z, TI, TO, i1, i2]) (fun c o hb q =>
      hk c o (fun q' => hb (by simp [q'])) (fun q' => hb (by simp [q'])) (fun q' => hb (by simp [q'])) (fun q' => hb (by simp [q'])) q) hf⟩
  · rintro A i s Q E st h
    exact wpAny_pyIter_zip st.1 h
def iZipX (K : PySem.W.Frag) (ta : TA) : TI := fun σ H R => ta σ H fun vs H1 => ∃ x b ys, vs = [.str x, .ref b] ∧ SqT K H1 b ys ∧ R (ItzX K x b) H1
theorem pi_zipX {X : Cx} {e e2 : Expr} {ta : TA} {p pos tpos : Pos} {elts : List Expr} {kk : Nat} (hg : Gl X "zip") (hm : X.mg "zip" = none) (ha : PA X [e, e2] ta)
    (hs : starEach [e, e2] X.env = (false, eval e X.env) :: starEach [e2] X.env := by rfl) (hpl : (backTo pos (starEach [e2] X.env)).any (·.1) = false := by rfl) :
    PI X (.Tuple elts kk tpos) (.Call (.Name "zip" p) [e, e2] [] pos) (iZipX X.K ta) := by
  refine ⟨fun pins s σ H R I h => ?_⟩
  refine Call_ (ld_blt I hg hm PyProof.Rows.boot_zip (PyProof.Rows.callWith_type1 (thn (ha.run pos pins s σ H _ I h) fun us s1 ⟨vs, H1, I1, r1, x, b, ys, ex, hqy, q⟩ => ?_) hs hpl))
  subst ex
  cases r1 with
  | cons r rr =>
    cases rr with
    | cons r' rr =>
      cases rr
      obtain ⟨t, rfl⟩ := r
      cases r'
      obtain ⟨its, rv, p2, _⟩ := I1.tuple hqy
      have lb : b < s1.heap.objs.size := by obtain ⟨o, ho, _⟩ := p2; exact Heap.lt_size ho
      refine zip_begins2 (begins_text x t) (begins_tuple b its.toArray) trivial (show s1.heap.IsTuple b its.toArray from p2) fun h' hz hTI hTO h1 h2 hsz hk => wpAny_pyIter_zip hz ?_
      have I2 : Inv X pins σ H1 { s1 with heap := h' } := I1.kept (t' := s1.toks) hk
      refine ⟨s1.heap.objs.size + 4, [s1.heap.objs.size + 4, s1.heap.objs.size + 2, s1.heap.objs.size + 3, s1.heap.objs.size, s1.heap.objs.size + 1], _, _, H1, rfl, I2, turn_zipX (t := t) (zip_sep2 (N := s1.heap.objs.size) (fp1 := []) (fp2 := [b]) (by simp) (by simpa using lb)) (Nat.ne_of_lt (Nat.lt_succ_of_lt lb)), ⟨hz, hTI, ⟨_, _, hTO⟩, ⟨_, h1, rfl, rfl⟩, ⟨_, h2, rfl, rfl⟩⟩, fun c hcm => ?_, q⟩
      have hle : s1.heap.objs.size ≤ c := by
        have e' : c = s1.heap.objs.size + 4 ∨ c = s1.heap.objs.size + 2 ∨ c = s1.heap.objs.size + 3 ∨ c = s1.heap.objs.size ∨ c = s1.heap.objs.size + 1 := by simpa using hcm
        rcases e' with z | z | z | z | z
        · rw [z]; exact Nat.le_add_right _ _
        · rw [z]; exact Nat.le_add_right _ _
        · rw [z]; exact Nat.le_add_right _ _
        · rw [z]; exact Nat.le_refl _
        · rw [z]; exact Nat.le_add_right _ _
      exact I1.fpOk hle (I1.hok.fresh hle)
section
variable {K : PySem.W.Frag} {G : Gam} {H : Hp} {ds : List D} {ta tb : TE} {z : Str}
def zipD (z : Str) (ds : List D) : List D := (List.range ds.length).map fun i : Nat => .tup [.text ⟨#[z.cps.getD i 0]⟩, ds.getD i .none]
theorem walk_zipX {b : Addr} {ys : List V} (hn : z.cps.size = ys.length) : Walk (ItzX K z b) ys.length (fun H => SqT K H b ys) (YPair (fun i => (z.cps[i]?).map fun c => V.str ⟨#[c]⟩) (fun i => ys[i]?)) :=
  ⟨fun i _ hi q => ⟨ys, ys[i], q, by simp [hi], by omega⟩, fun _ q => ⟨ys, q, rfl, hn⟩, fun i H v H' _ q y => let ⟨T, c, u, h1, h2, h3, h4, h5⟩ := y; ⟨T, .str ⟨#[c]⟩, u, h1, h2, h3, by simp [h4], h5 ys q⟩⟩
theorem ei_zipX (ha : EvG ta G H (aD K (.text z))) (hb : EvG tb G H (aD K (.tup ds))) (hn : z.cps.size = ds.length) : EvI K (iZipX K (tCons ta (tCons tb tNil))) G H (zipD z ds) := fun σ H1 s x R q => ha σ H1 s x _ fun v H2 e2 p2 => hb σ H2 (s.ex e2) (x.trans e2) _ fun u H3 e3 p3 => by
  have ez := DIs.text_inv p2
  subst ez
  obtain ⟨a, xs, hv, hs, hd⟩ := DIs.tup_inv p3
  have hl := hd.length
  refine ⟨z, a, xs, by rw [hv], hs, q _ H3 (fun H => SqT K H a xs ∧ DAll K H xs ds) (e2.trans e3) (pair_walk ((walk_zipX (by omega)).mono (fun _ g => g.1) fun _ _ _ _ _ _ y => y) (by unfold zipD; simp [hl]) fun i u v H g hu hv => ?_) fun H4 e4 => ⟨tle_sqT (tle_of_ex e4) hs, hd.ex e4⟩⟩
  obtain ⟨c, hc, rfl⟩ := Option.map_eq_some_iff.mp hu
  obtain ⟨e, he, hy⟩ := g.2.getV hv
  have hlt := (List.getElem?_eq_some_iff.mp he).1
  refine ⟨.text ⟨#[c]⟩, e, ?_, .str _, hy⟩
  unfold zipD
  rw [List.getElem?_map, List.getElem?_range hlt]
  simp [List.getD, he, Array.getD_eq_getD_getElem?, hc]
end
def tDispD (P : Program) (w : World) (K : PySem.W.Frag) (tk tv : TE) : TE := fun σ H Q => ∀ D H', H D = none → (∃ u, H' = upd H D u ∧ noTup u = true) → DDw P w K H' D [] → tk σ H' fun x H1 => tv σ H1 fun y H2 =>
  ∃ k b, x = .ref b ∧ DDw P w K H2 D [] ∧ DIs K H2 x k ∧ k.depth ≤ 8 ∧ ∀ H3, (∃ u, H3 = upd H2 D u ∧ noTup u = true) → DDw P w K H3 D [(k, y)] → Q (.ref D) H3
theorem pe_dispD {X : Cx} {k v : Expr} {pos : Pos} {tk tv : TE} (hu : X.A.units + 64 < cLine) (hk : PE X k tk) (hv : PE X v tv) : PE X (.Dict [some k] [v] pos) (tDispD X.prog X.w X.K tk tv) := by
  refine ⟨fun pins s σ H Q I q => ?_⟩
  have hn := I.hok.fresh (Nat.le_refl s.heap.objs.size)
  have I1 : Inv X pins σ (upd H s.heap.objs.size (ddO X.prog X.w s.heap.objs.size [])) { s with heap := s.heap.push { cls := .type "dict", data := .dict #[] } } :=
    I.laid (t' := s.toks) (fun _ _ q => Heap.get?_push_of_some _ q) (Nat.le_refl _) (dd_empty s.heap I.big)
  have q1 := q s.heap.objs.size _ hn ⟨_, rfl, ddO_no⟩ ⟨[], upd_same, .nil⟩
  rw [arm_eval_Dict, zip_pairTrees [some k] [v] X.env pos rfl rfl, dictDisplay_pairs _ (by simp [pairTrees]) (by simp [pairTrees])]
  refine wpAny_bind (wpAny_standAt (wpAny_bind (wpAny_subDictH (knd := nestedKind X.prog X.w) (room80 hu) (by simp [pairTrees]) ?_)))
  refine pairTrees_cons_walk (thn (hk.run pins _ σ _ _ I1 q1) fun kv s2 ⟨x, H1, I2, r1, q2⟩ => thn (hv.run pins _ σ _ _ I2 q2) fun vv s3 ⟨y, H2, I3, r2, kk, b, ex, ⟨xs, hD, kd⟩, hkk, h8, q3⟩ => pairTrees_nil_walk ?_)
  subst ex
  cases r1
  cases kd
  obtain ⟨z1, z2, z3⟩ := dd_lib I3 (.inl hD) .nil
  refine ⟨[(kk, b, vv)], ⟨rfl, rfl, key_is I3 hkk h8, True.intro⟩, z3, fun h' tk' dd' sb => ?_⟩
  have kd' : KD X.K H2 [(kk, y)] [(kk, b, vv)] := .cons ⟨rfl, ⟨hkk, h8⟩, r2⟩ .nil
  obtain ⟨J, w'⟩ := dd_wrote (tk := tk') I3 hD z1 (by show 1 ≤ sizeLine; decide) dd' sb kd'
  exact wpAny_pure ⟨.ref s.heap.objs.size, _, J, rfl, q3 _ ⟨_, rfl, ddO_no⟩ w'⟩
def tClearD (P : Program) (w : World) (K : PySem.W.Frag) (td : TE) : TE := fun σ H Q => td σ H fun x H1 => ∃ a kvs, x = .ref a ∧ DDw P w K H1 a kvs ∧ ∀ H2, (∃ u, H2 = upd H1 a u ∧ noTup u = true) → DDw P w K H2 a [] → Q .non H2
theorem pe_clearD {X : Cx} {e : Expr} {td : TE} {apos cpos : Pos} (he : PE X e td) (hbase : attributeBase e "clear" X.env (eval e X.env) = eval e X.env := by rfl) (hline : (apos.endLine == cpos.line) = true := by rfl) :
    PE X (.Call (.Attribute e "clear" apos) [] [] cpos) (tClearD X.prog X.w X.K td) := by
  refine ⟨fun pins s σ H Q I h => ?_⟩
  refine wpAny_Call_method (T := "dict") (id := "dict.clear") hbase rfl hline F.plainAttrs_dict F.slot_dict_clear F.type_dict_clear (thn (he.run pins s σ H _ I h) fun u s1 ⟨x, H1, I1, rx, a, kvs, ex, ⟨xs, hD, kd⟩, q⟩ => ?_)
  subst ex
  cases rx
  obtain ⟨z1, z2, z3⟩ := dd_lib I1 (.inl hD) kd
  obtain ⟨es, ep, hr, hs, _⟩ := z3.raw
  refine ⟨hr.typeIs, fun b z => by cases z; obtain ⟨o, ho, hc, _⟩ := hr; exact ⟨o, ho, hc.2.1⟩, ?_⟩
  show wpAny _ _ (callWith cpos (.builtin "dict.clear") [.ref a] [] []) _ X.xe s1
  refine method_meetsIn F.slot_dict_clear F.entry_dict_clear rfl (PySem.evalArgs_none ⟨rfl, hr.typeIs, F.args_dict_clear_1 _, _, meets_dict_clear_raw a, es, ep, hr, by rw [hs]; exact z2, fun h' hr' hs' => ?_⟩)
  obtain ⟨o, ho, hc, hdat⟩ := hr'
  obtain ⟨J, w'⟩ := dd_wrote (tk := s1.toks) (xs' := []) (kvs' := []) I1 hD z1 (Nat.zero_le _) ⟨o, #[], _, ho, hc, hdat, rfl, (fun _ hx => nomatch hx), List.nodup_nil⟩ hs' .nil
  exact ⟨.non, _, J, rfl, q _ ⟨_, rfl, ddO_no⟩ w'⟩
theorem newSetR {P : Program} {w : World} {A : Around} {E : Value → Shared → Prop} {s : Shared} {Q : Value → Shared → Prop}
    (h : SetR w (s.heap.push { cls := .type "set", dict := none, data := .set #[] 0 (.fresh 0 0 (!w.params.followText "set-order")) }) s.heap.objs.size (fun _ => false) 0 →
      Q (.ref s.heap.objs.size) { s with heap := s.heap.push { cls := .type "set", dict := none, data := .set #[] 0 (.fresh 0 0 (!w.params.followText "set-order")) } }) : wpAny (model P w) A (newSet (.type "set")) Q E s := by
  unfold newSet
  refine wpAny_bind (wpAny_byText ?_)
  dsimp only
  simp only [newObj]
  exact wpAny_bind (wpAny_alloc (wpAny_pure (h (setR_fresh w))))
theorem set2_core {P : Program} {w : World} {A : Around} {E : Value → Shared → Prop} {s : Shared} {road : DisplayRoad} {b : Bool} {t1 t2 : Sem Value} {Q : Value → Shared → Prop} (h1 : (road == .constants) = false) (h2 : (road == .unsure) = false)
    (h : ∀ h', SetR w h' s.heap.objs.size (fun _ => false) 0 → (∀ b o, s.heap.get? b = some o → h'.get? b = some o) →
      wpAny (model P w) A t1 (fun v1 s1 => wpAny (model P w) A t2 (fun v2 s2 => wpAny (model P w) A (setAdd s.heap.objs.size v1) (fun _ s3 => wpAny (model P w) A (setAdd s.heap.objs.size v2) (fun _ s4 => Q (.ref s.heap.objs.size) s4) E s3) E s2) E s1) E { s with heap := h' }) :
    wpAny (model P w) A (setDisplay road b [(false, t1), (false, t2)]) Q E s := by
  unfold setDisplay
  dsimp only
  rw [if_neg (by rw [h1]; exact Bool.false_ne_true)]
  refine wpAny_bind (newSetR fun R => ?_)
  dsimp only
  have e0 : (if [(false, t1), (false, t2)].length > 30 then 0 else (List.findIdx? (fun x => x.1) [(false, t1), (false, t2)]).getD [(false, t1), (false, t2)].length) = 2 := rfl
  rw [e0]
  refine wpAny_bind (wpAny_holding ?_)
  have q := h _ R (fun b o e => Heap.get?_push_of_some _ e)
  refine wpAny_bind ?_
  show wpAny _ _ (t1 >>= fun v => holding [v] (t2 >>= fun u => holding [u] (pure []) >>= fun r => pure (u :: r)) >>= fun r => pure (v :: r)) _ _ _
  refine wpAny_bind (wpAny_mono q (fun v1 s1 q1 => ?_) fun _ _ z => z)
  refine wpAny_bind (wpAny_holding (wpAny_bind (wpAny_mono q1 (fun v2 s2 q2 => ?_) fun _ _ z => z)))
  refine wpAny_bind (wpAny_holding (wpAny_pure (wpAny_pure (wpAny_pure ?_))))
  refine wpAny_bind (wpAny_holding ?_)
  refine wpAny_bind ?_
  rw [List.forIn_cons]
  refine wpAny_bind (wpAny_bind (wpAny_mono q2 (fun _ s3 q3 => wpAny_pure ?_) fun _ _ z => z))
  show wpAny _ _ (forIn [v2] _ _) _ _ _
  rw [List.forIn_cons]
  refine wpAny_bind (wpAny_bind (wpAny_mono q3 (fun _ s4 q4 => wpAny_pure ?_) fun _ _ z => z))
  show wpAny _ _ (forIn [] _ _) _ _ _
  rw [List.forIn_nil]
  refine wpAny_pure ?_
  rw [if_neg (by rw [h2]; exact Bool.false_ne_true)]
  refine wpAny_pure ?_
  show wpAny _ _ (forIn [] _ _ >>= _) _ _ _
  rw [List.forIn_nil]
  exact wpAny_bind (wpAny_pure (wpAny_pure (wpAny_pure q4)))
def tSet2 (w : World) (ta tb : TE) : TE := fun σ H Q => ∀ D, H D = none → ta σ (upd H D (SetO w D (fun _ => false) 0)) fun x H1 => tb σ H1 fun y H2 => ∃ i j : Int, x = .int i ∧ y = .int j ∧ H2 D = some (SetO w D (fun _ => false) 0) ∧
  ∀ n (S : Int → Bool), (∀ k, S k = (decide (k = i) || decide (k = j))) → n ≤ 2 → Q (.ref D) (upd H2 D (SetO w D S n))
theorem addR {P : Program} {w : World} {A : Around} {E : Value → Shared → Prop} {s : Shared} {a : Addr} {S : Int → Bool} {n : Nat} {k : Int} {tk : Tok} {Q : Bool → Shared → Prop} (R : SetR w s.heap a S n) (hn : n + 1 < scanBound)
    (h : ∀ (h' : Heap) (t : Nat), Heap.SameBut a s.heap h' → SetR w h' a (fun j => S j || decide (j = k)) (if S k = true then n else n + 1) → Q (!S k) { s with heap := h', toks := t }) : wpAny (model P w) A (setAdd a (.int k tk)) Q E s := by
  unfold setAdd
  refine wpAny_holding (wpAny_bind ((intKind P w).pyHash (k := k) (intKind_is _ _ _ _) ?_))
  exact setR_add_hashed (s := { s with toks := s.toks + 1 }) R hn fun h' sb R' => h h' _ sb R'
theorem pe_set2 {X : Cx} {a b : Expr} {pos : Pos} {ta tb : TE} (hcd : PySem.W.kdsCode X.K X.env.code = true) (ha : PE X a ta) (hb : PE X b tb) (hp : [a, b].all PySem.W.kdsPlain = true) : PE X (.Set [a, b] 0 pos) (tSet2 X.w ta tb) := by
  refine ⟨fun pins s σ H Q I q => ?_⟩
  rw [arm_eval_Set]
  refine wpAny_bind (wpAny_standAt ?_)
  refine wpAny_bind (PySem.W.kds_main I.kIn hcd fun bm => ?_)
  rw [PySem.W.kds_star [a, b] hp]
  show wpAny (model X.prog X.w) X.A (setDisplay (displayRoad 0 [a, b]) bm [(false, do let v ← eval a X.env; standAt pos; pure v), (false, do let v ← eval b X.env; standAt pos; pure v)]) _ _ _
  refine set2_core (by rfl) (by rfl) fun h' R k => ?_
  have hn := I.hok.fresh (Nat.le_refl s.heap.objs.size)
  have I1 : Inv X pins σ (upd H s.heap.objs.size (SetO X.w s.heap.objs.size (fun _ => false) 0)) { s with heap := h' } := I.laid (t' := s.toks) k (Nat.le_refl _) (setO_new R)
  refine wpAny_bind (thn (ha.run _ _ σ _ _ I1 (q _ hn)) fun v1 s1 ⟨x, H1, I2, r1, q1⟩ => wpAny_bind (wpAny_standAt (wpAny_pure ?_)))
  refine wpAny_bind (thn (hb.run _ _ σ H1 _ I2 q1) fun v2 s2 ⟨y, H2, I3, r2, i, j, ex, ey, hD, q2⟩ => wpAny_bind (wpAny_standAt (wpAny_pure ?_)))
  subst ex ey
  obtain ⟨ti, rfl⟩ := r1
  obtain ⟨tj, rfl⟩ := r2
  refine addR (setO_get I3 hD) (by decide) fun h1 t1 sb1 R3 => ?_
  refine addR (s := { s2 with heap := h1, toks := t1 }) R3 (by simp; decide) fun h2 t2 sb2 R4 => ?_
  have sb : Heap.SameBut s.heap.objs.size s2.heap h2 := sb1.trans sb2
  have there : ∃ q, h2.get? s.heap.objs.size = some q := let ⟨o, _, _, _, e, _⟩ := R4; ⟨o, e⟩
  have J := d_write (t' := t2) I3 (by rw [hD]; exact True.intro) sb there (setO_new R4)
  refine ⟨.ref s.heap.objs.size, _, J, rfl, q2 _ _ (fun k => by simp) ?_⟩
  simp only [Bool.false_or, Bool.false_eq_true, if_false]
  split <;> omega
theorem vals_pick {xs : List V} {its : List Value} (r : Vals xs its) : ∀ is : List Nat, Vals (is.filterMap fun i => xs[i]?) (is.filterMap fun i => its.toArray[i]?)
  | [] => .nil
  | i :: is => by
    have ih := vals_pick r is
    cases h : xs[i]? with
    | some x =>
      obtain ⟨u, hu, ru⟩ := r.get h
      have hu2 : its.toArray[i]? = some u := by simpa using hu
      rw [List.filterMap_cons, List.filterMap_cons, h, hu2]
      exact .cons ru ih
    | none =>
      have hl := r.length
      have hi : xs.length ≤ i := List.getElem?_eq_none_iff.mp h
      have hu2 : its.toArray[i]? = none := by simp; omega
      rw [List.filterMap_cons, List.filterMap_cons, h, hu2]
      exact ih
def tStepL (K : PySem.W.Frag) (te : TE) : TE := fun σ H Q => te σ H fun x H1 => ∃ a xs, x = .ref a ∧ SqL K H1 a xs ∧ ∀ p ys, (∀ y ∈ ys, y ∈ xs) → H1 p = none → Q (.ref p) (upd H1 p (.lst ys))
theorem pe_step2 {X : Cx} {e : Expr} {te : TE} {k : Nat} {p1 p3 pos : Pos} (he : PE X e te) : PE X (.Subscript e (.Slice none none (some (.Constant (.int 2) k p1)) p3) pos) (tStepL X.K te) := by
  refine ⟨fun pins s σ H Q I h => ?_⟩
  refine Subscript_ (thn (he.run pins s σ H _ I h) fun v s1 ⟨x, H1, I1, r1, a, xs, ex, hx, q⟩ => ?_)
  subst ex
  cases r1
  have hst : PO X (some (.Constant (.int 2) k p1)) (tPart (tC (.int 2))) := po_some pe_int
  refine wpAny_Slice (thn (po_none.run pins s1 σ H1 (fun o H2 => o = none ∧ H2 = H1) I1 ⟨rfl, rfl⟩) fun vl s2 ⟨l, H2, I2, pl, el, e2⟩ => ?_)
  subst el e2
  refine thn (po_none.run pins s2 σ H2 (fun o H3 => o = none ∧ H3 = H2) I2 ⟨rfl, rfl⟩) fun vu s3 ⟨u, H3, I3, pu, eu, e3⟩ => ?_
  subst eu e3
  refine thn (hst.run pins s3 σ H3 (fun o H4 => o = some 2 ∧ H4 = H3) I3 ⟨2, rfl, rfl, rfl⟩) fun vs s4 ⟨o, H4, I4, ps, eo, e4⟩ => ?_
  subst eo e4
  have I5 : Inv X pins σ H4 { s4 with heap := s4.heap.push { cls := .type "slice", data := .fields #[vl, vu, vs] } } := I4.kept (t' := s4.toks) fun b ob q => Heap.get?_push_of_some _ q
  obtain ⟨its, r, ht, hz⟩ := I5.list hx
  have hlen := r.length
  show wpAny (model X.prog X.w) X.A (subscriptTail e (.Slice none none (some (.Constant (.int 2) k p1)) p3) (.ref a) (.ref s4.heap.objs.size)) (EP X pins σ Q) X.xe { s4 with heap := s4.heap.push { cls := .type "slice", data := .fields #[vl, vu, vs] } }
  refine tail_any (ops := [.ref a, .ref s4.heap.objs.size]) ht.isList.typeIs (PySem.slot_list_getitem.lookup) ?_ (by with_unfolding_all rfl)
  refine wpAny_getItem_list_slice ht.isList (Heap.IsSliceOf.new _ vl vu vs) pl pu ps (by decide) ?_ (by rw [List.size_toArray]; omega)
  generalize his : sliceRange (sliceBounds none none (some 2) its.toArray.size).1 (sliceBounds none none (some 2) its.toArray.size).2.1 (sliceBounds none none (some 2) its.toArray.size).2.2 = is
  have hisl : is.length ≤ its.length := by
    rw [← his]
    show ((List.range (Int.toNat (if (2 : Int) > 0 then if (0 : Int) < (its.toArray.size : Int) then ((its.toArray.size : Int) - 0 + 2 - 1) / 2 else 0 else if (0 : Int) > (its.toArray.size : Int) then (0 - (its.toArray.size : Int) - 2 - 1) / -2 else 0))).map _).length ≤ _
    rw [List.length_map, List.length_range, if_pos (by decide), List.size_toArray]
    split <;> omega
  have vp := vals_pick r is
  have hlp : (is.filterMap fun i => xs[i]?).length ≤ xs.length := by
    have := List.length_filterMap_le (fun i => xs[i]?) is
    omega
  have ep : slicePick its.toArray none none (some 2) = (is.filterMap fun i => its.toArray[i]?).toArray := by
    unfold slicePick
    rw [his]
  rw [ep]
  refine ⟨.ref _, _, I5.laid (t' := s4.toks) (o := .lst (is.filterMap fun i => xs[i]?)) (fun b ob q => Heap.get?_push_of_some _ q) (Nat.le_refl _) ?_, rfl, q _ _ (fun y hy => ?_) (I5.hok.fresh (Nat.le_refl _))⟩
  · exact ⟨Nat.le_trans hlp hz, _, 0, vp, Heap.get?_push_size _ rfl⟩
  · obtain ⟨i, _, hi⟩ := List.mem_filterMap.mp hy
    exact List.mem_of_getElem? hi
section
variable {K : PySem.W.Frag} {P : Program} {w : World} {G : Gam} {H : Hp} {ta tb te : TE} {A B : Asr} {d e : D} {ds es : List D} {i j : Int}
theorem ev_neg (ha : EvG ta G H (aD K (.num i))) : EvG (tUn (rU fun i => .int (-i)) ta) G H (aD K (.num (-i))) := fun σ H1 s x Q q => ha σ H1 s x _ fun v H2 e2 p => ⟨i, DIs.num_inv p, q _ H2 e2 (.int _)⟩
theorem ev_pow (ha : EvG ta G H (aD K (.num i))) (hb : EvG tb G H (aD K (.num j))) (hc : CPow i j) : EvG (tOp (rI CPow fun i j => .int (i ^ j.toNat)) ta tb) G H (aD K (.num (i ^ j.toNat))) := ev_op ha hb (rg_I hc fun _ => DIs.int _)
theorem ev_numIs {k : Int} (ha : EvG ta G H (aD K (.num i))) (e : i = k) : EvG ta G H (aD K (.num k)) := e ▸ ha
def tyD : D → String
  | .none => "NoneType"
  | .num _ => "int"
  | .text _ => "str"
  | .tup _ => "tuple"
theorem tyX_D {x : V} (h : DIs K H x d) : TyX K H x (.type (tyD d)) := by
  cases h with
  | non => exact .base .non
  | int i => exact .base (.int i)
  | str x => exact .base (.str x)
  | tup hs ha =>
    rcases hs with (hs | ⟨o, hs⟩) | ⟨o, its, n, h1, h2, _⟩
    · exact .base (.tup hs)
    · exact .fTuple hs
    · exact .kTuple h1 h2
theorem ev_isi {T : String} {b : Bool} (ha : EvG ta G H (aD K d)) (hk : kitB (tyD d) T = some b) : EvG (tCB (rIsi K) (tCons ta (tCons (tC (.ty T)) tNil))) G H (aB b) := fun σ H1 s x Q q => ha σ H1 s x _ fun v H2 e2 p =>
  ⟨v, .ty T, _, _, b, rfl, .ty T, tyX_D p, kit_ty hk, q _ H2 e2 rfl⟩
/-- a list or a tuple -/
def tIsLT (K : PySem.W.Frag) (ta : TE) : TE := tCB (rIsiT K) (tCons ta (tCons (tTup (tCons (tC (.ty "list")) (tCons (tC (.ty "tuple")) tNil))) tNil))
theorem ev_isLT (ha : EvG ta G H (aD K (.tup ds))) : EvG (tIsLT K ta) G H (aB true) := fun σ H1 s x Q q => ha σ H1 s x _ fun v H2 e2 p => by
  refine ⟨by show 2 ≤ sizeLine; decide, fun T hT => ?_⟩
  have e3 := Evl.Ex.new (o := .tup [.ty "list", .ty "tuple"]) hT
  refine ⟨v, T, [.ty "list", .ty "tuple"], .type "tuple", [.type "list", .type "tuple"], true, rfl, upd_same, .cons (.ty _) (.cons (.ty _) .nil), tyX_D (d := .tup ds) (DIs.ex p e3), ?_, q _ _ (e2.trans e3) rfl⟩
  exact kitAny_cons (b := false) (kit_ty (by decide +kernel)) (fun _ => kitAny_cons (b := true) (kit_ty (by decide +kernel)) (fun z => by cases z) fun _ => rfl) (fun z => by cases z)
theorem sorted2 {i j : Int} {ns : List Int} (h1 : ns.Pairwise (· < ·)) (h2 : ∀ k : Int, k ∈ ns ↔ (decide (k = i) || decide (k = j)) = true) : ns = if i = j then [i] else if i < j then [i, j] else [j, i] := by
  have hi : i ∈ ns := (h2 i).mpr (by simp)
  have hj : j ∈ ns := (h2 j).mpr (by simp)
  have all : ∀ k ∈ ns, k = i ∨ k = j := fun k hk => by simpa using (h2 k).mp hk
  match ns, h1, hi, hj, all with
  | [], _, hi, _, _ => cases hi
  | [a], _, hi, hj, _ =>
    have e1 : i = a := by simpa using hi
    have e2 : j = a := by simpa using hj
    subst e1 e2
    simp
  | [a, b], h1, hi, hj, all =>
    have hab : a < b := by simpa using h1
    have z1 := all a (by simp)
    have z2 := all b (by simp)
    rcases z1 with z1 | z1 <;> rcases z2 with z2 | z2
    · omega
    · subst z1 z2; rw [if_neg (by omega), if_pos hab]
    · subst z1 z2; rw [if_neg (by omega), if_neg (by omega)]
    · omega
  | a :: b :: c :: r, h1, _, _, all =>
    have hab : a < b := (List.pairwise_cons.mp h1).1 b (by simp)
    have hac : a < c := (List.pairwise_cons.mp h1).1 c (by simp)
    have hbc : b < c := (List.pairwise_cons.mp (List.pairwise_cons.mp h1).2).1 c (by simp)
    have z1 := all a (by simp)
    have z2 := all b (by simp)
    have z3 := all c (by simp)
    omega
def sort2 (i j : Int) : List Int := if i = j then [i] else if i < j then [i, j] else [j, i]
def rSortU (w : World) (K : PySem.W.Frag) : List V → Hp → VK → Prop := fun xs H Q => rSorted K xs H Q ∨ rSortedSet w xs H Q
theorem call_sortU {X : Cx} (hc : X.calm = true) : CallR X (.builtin "sorted") (rSortU X.w X.K) := CallR.or cr_sorted (cr_sortedSet hc)
theorem ev_sortSet (ha : EvG ta G H (aD K (.num i))) (hb : EvG tb G H (aD K (.num j))) : EvG (tCB (rSortU w K) (tCons (tSet2 w ta tb) tNil)) G H (aL K ((sort2 i j).map .num)) := fun σ H1 s x Q q => fun D hD =>
  ha σ _ (s.ex (Evl.Ex.new hD)) (x.trans (Evl.Ex.new hD)) _ fun v H2 e2 p2 => hb σ H2 (s.ex ((Evl.Ex.new hD).trans e2)) (x.trans ((Evl.Ex.new hD).trans e2)) _ fun u H3 e3 p3 => by
    refine ⟨i, j, DIs.num_inv p2, DIs.num_inv p3, e3 _ _ (e2 _ _ upd_same), fun n S hS hn => .inr ⟨D, S, n, rfl, upd_same, by omega, fun ns p h1 h2 h3 h4 => ?_⟩⟩
    have e : ns = sort2 i j := sorted2 h1 fun k => by rw [h2 k, hS k]
    subst e
    have x3 : Ex H1 H3 := ((Evl.Ex.new hD).trans e2).trans e3
    have x4 : Ex H1 (upd H3 D (SetO w D S n)) := x3.mut hD
    exact q _ _ (x4.trans (Evl.Ex.new h4)) ⟨p, _, rfl, Evl.sq_of upd_same, by
      have : (sort2 i j).map V.int = ((sort2 i j).map V.int) := rfl
      exact dall_ints _⟩
theorem sort2_ne (h : i ≠ j) : sort2 i j = if i < j then [i, j] else [j, i] := by unfold sort2; rw [if_neg h]
theorem perm2 {i j : Int} {ns : List Int} (hp : ns.Perm [i, j]) (hs : ns.Pairwise (· ≤ ·)) (hne : i ≠ j) : ns = sort2 i j := by
  have hl := hp.length_eq
  match ns, hl, hp, hs with
  | [a, b], _, hp, hs =>
    have hab : a ≤ b := by simpa using hs
    have m1 : a ∈ [i, j] := hp.mem_iff.mp (by simp)
    have m2 : i ∈ [a, b] := hp.mem_iff.mpr (by simp)
    have m3 : j ∈ [a, b] := hp.mem_iff.mpr (by simp)
    have m4 : b ∈ [i, j] := hp.mem_iff.mp (by simp)
    simp at m1 m2 m3 m4
    rw [sort2_ne hne]
    by_cases h : i < j
    · rw [if_pos h]
      have : a = i ∧ b = j := by omega
      rw [this.1, this.2]
    · rw [if_neg h]
      have : a = j ∧ b = i := by omega
      rw [this.1, this.2]
theorem ev_sortL2 (ha : EvG ta G H (aL K [.num i, .num j])) (hne : i ≠ j) : EvG (tCB (rSortU w K) (tCons ta tNil)) G H (aL K ((sort2 i j).map .num)) := fun σ H1 s x Q q => ha σ H1 s x _ fun v H2 e2 ⟨a, xs, ev, hs, hd⟩ => by
  have e : xs = [i, j].map V.int := DAll.ints (ns := [i, j]) hd
  subst e ev
  refine .inl ⟨a, [i, j], rfl, hs, by simp, fun ns p hp hr hn => ?_⟩
  have e := perm2 hp hr hne
  subst e
  exact q _ _ (e2.trans (Evl.Ex.new hn)) ⟨p, _, rfl, Evl.sq_of upd_same, dall_ints _⟩
def nm (i : Nat) : Str := ⟨#[97 + i]⟩
def abcV : List V := [.str (nm 0), .str (nm 1), .str (nm 2)]
def abcD : List D := [.text (nm 0), .text (nm 1), .text (nm 2)]
def rTupIx (K : PySem.W.Frag) : V → List V → Hp → VK → Prop := fun x xs H Q => ∃ p, ∃ ys : List Str, ∃ z j, x = .ref p ∧ xs = [.str z] ∧ SqT K H p (ys.map V.str) ∧ ys[j]? = some z ∧ (∀ m, m < j → ys[m]? ≠ some z) ∧ Q (.int (j : Nat)) H
theorem mt_tupIx {X : Cx} : MtR X "tuple.index" (rTupIx X.K) := mt_tup_index
def rStrIx : V → List V → Hp → VK → Prop := fun x xs H Q => ∃ a b i rest, x = .str a ∧ xs = [.str b] ∧ Builtin.Str.occurrences a b 0 a.length 1 = i :: rest ∧ Q (.int (i : Nat)) H
theorem mt_strIx {X : Cx} : MtR X "str.index" rStrIx := mt_sindex
/-- NAMES, a tuple of the module -/
structure KNames (K : PySem.W.Frag) (a : Addr) : Prop where
  ty : ∃ o, K.lookup a = some o ∧ o.cls = .type "tuple" ∧ o.dict = none
  it : ∀ H, SqT K H a abcV
theorem KNames.dall : DAll K H abcV abcD := .cons (.str _) (.cons (.str _) (.cons (.str _) .nil))
theorem ev_names {a : Addr} (N : KNames K a) : EvG (tC (.ref a)) G H (aD K (.tup abcD)) := ev_ktup N.it fun _ => KNames.dall
theorem nm_at {n : Nat} (hn : n < 3) : ([nm 0, nm 1, nm 2] : List Str)[n]? = some (nm n) ∧ ∀ m, m < n → ([nm 0, nm 1, nm 2] : List Str)[m]? ≠ some (nm n) := by
  match n, hn with
  | 0, _ => exact ⟨rfl, fun m h => absurd h (Nat.not_lt_zero m)⟩
  | 1, _ => exact ⟨rfl, fun m h => by
    have : m = 0 := by omega
    subst this; decide⟩
  | 2, _ => exact ⟨rfl, fun m h => by
    have : m = 0 ∨ m = 1 := by omega
    rcases this with rfl | rfl <;> decide⟩
theorem ev_namesIx {a : Addr} {n : Nat} (N : KNames K a) (ha : EvG ta G H (aD K (.text (nm n)))) (hn : n < 3) : EvG (tBM K "tuple" (rTupIx K) (tC (.ref a)) (tCons ta tNil)) G H (aD K (.num n)) := fun σ H1 s x Q q =>
  ⟨.inr (.inl ⟨rfl, N.ty⟩), ha σ H1 s x _ fun v H2 e2 p => by
    have e := DIs.text_inv p
    subst e
    obtain ⟨h1, h2⟩ := nm_at hn
    exact ⟨a, [nm 0, nm 1, nm 2], nm n, n, rfl, rfl, N.it H2, h1, h2, q _ H2 e2 (.int _)⟩⟩
theorem occ_abc {n : Nat} (hn : n < 3) : ∃ rest, Builtin.Str.occurrences ("abc" : Str) (nm n) 0 ("abc" : Str).length 1 = n :: rest := by
  match n, hn with
  | 0, _ => exact ⟨[], by decide +kernel⟩
  | 1, _ => exact ⟨[], by decide +kernel⟩
  | 2, _ => exact ⟨[], by decide +kernel⟩
theorem ev_abcIx {n : Nat} (ha : EvG ta G H (aD K (.text (nm n)))) (hn : n < 3) : EvG (tBM K "str" rStrIx (tC (.str "abc")) (tCons ta tNil)) G H (aD K (.num n)) := fun σ H1 s x Q q =>
  ⟨rfl, ha σ H1 s x _ fun v H2 e2 p => by
    have e := DIs.text_inv p
    subst e
    obtain ⟨rest, h⟩ := occ_abc hn
    exact ⟨"abc", nm n, n, rest, rfl, rfl, h, q _ H2 e2 (.int _)⟩⟩
theorem abc_at {n : Nat} (hn : n < 3) : atI ("abc" : Str).cps.toList (n : Int) = some (97 + n) := by
  match n, hn with
  | 0, _ => decide +kernel
  | 1, _ => decide +kernel
  | 2, _ => decide +kernel
/-- 'abc'[i] -/
theorem ev_abc {n : Nat} (hb : EvG tb G H (aD K (.num n))) (hn : n < 3) : EvG (tOp (rIxU P w K) (tC (.str "abc")) tb) G H (aD K (.text (nm n))) := ev_ixS ev_str hb (by decide +kernel) (abc_at hn)
theorem ev_inDD {kvs : List (D × V)} (ha : EvG ta G H (aD K d)) (hb : EvG tb G H (aDD P w K kvs)) (ht : isTup d = true) (h8 : d.depth ≤ 8) : EvG (tOp (rInU P w K) ta tb) G H (aB (valV kvs d).isSome) := ev_op ha hb (rg_or2 (rg_or2 fun H1 ex x y hx ⟨a, hy, hd⟩ Q q =>
  ⟨a, kvs, d, hy, hd, hx, ht, h8, q _ H1 (Evl.Ex.refl H1) rfl⟩))
theorem ev_notInDD {kvs : List (D × V)} (ha : EvG ta G H (aD K d)) (hb : EvG tb G H (aDD P w K kvs)) (ht : isTup d = true) (h8 : d.depth ≤ 8) : EvG (tOp (rNotInU P w K) ta tb) G H (aB (!(valV kvs d).isSome)) := ev_op ha hb (rg_or2 (rg_or2 fun H1 ex x y hx ⟨a, hy, hd⟩ Q q =>
  ⟨a, kvs, d, hy, hd, hx, ht, h8, q _ H1 (Evl.Ex.refl H1) rfl⟩))
theorem ev_getDD {kvs : List (D × V)} {v : V} (ha : EvG ta G H (aDD P w K kvs)) (hb : EvG tb G H (aD K d)) (ht : isTup d = true) (h8 : d.depth ≤ 8) (hv : valV kvs d = some v) : EvG (tOp (rIxU P w K) ta tb) G H (aV v) := ev_op ha hb (rg_or2 (rg_or2 fun H1 ex x y ⟨a, hx, hd⟩ hy Q q =>
  ⟨a, kvs, d, v, hx, hd, hy, ht, h8, hv, q _ H1 (Evl.Ex.refl H1) rfl⟩))
theorem ev_lenDD {kvs : List (D × V)} (ha : EvG ta G H (aDD P w K kvs)) : EvG (tCB (rLenU P w K) (tCons ta tNil)) G H (aD K (.num kvs.length)) := ev_cb (ea_one ha) (rc_or2 (rc_or2 (rc_or2 (rc_or2 fun H1 ex vs hv Q q => by
  obtain ⟨x, rfl, a, rfl, hd⟩ := aall1 hv
  exact ⟨a, kvs, rfl, hd, q _ H1 (Evl.Ex.refl H1) (.int _)⟩))))
theorem ev_listDD {kvs : List (D × V)} (ha : EvG ta G H (aDD P w K kvs)) : EvG (tCB (rListU P w K) (tCons ta tNil)) G H (aL K (kvs.map (·.1))) := fun σ H1 s x Q q => ha σ H1 s x _ fun v H2 e2 ⟨a, hv, hd⟩ => by
  subst hv
  exact .inr ⟨a, kvs, rfl, hd, fun p ys H' hp eH hall => by
    subst eH
    exact q _ _ (e2.trans (Evl.Ex.new hp)) ⟨p, ys, rfl, Evl.sq_of upd_same, hall⟩⟩
theorem ev_revL (ha : EvG ta G H (aL K ds)) : EvG (tRevL K ta) G H (aL K ds.reverse) := fun σ H1 s x Q q => ha σ H1 s x _ fun v H2 e2 ⟨a, xs, hv, hs, hd⟩ => ⟨a, xs, hv, hs, fun p hp =>
  q _ _ (e2.trans (Evl.Ex.new hp)) ⟨p, _, rfl, Evl.sq_of upd_same, (hd.ex (Evl.Ex.new hp)).reverse⟩⟩
end
def topS (i : Nat) : Stmt := PySem.Challenge.pw_sliverhold_k06_whole_shown.main.body.getD i (.Pass ⟨0, 0, 0, 0⟩)
abbrev FnP (K : PySem.W.Frag) (x : Str) (st : Stmt) (f : Addr) (fd : FuncData) : Prop := FunD K x x (defArgs st) (defBody st) (defScope st) [] [] f fd
/-- a def of the top -/
def TopDef (K : PySem.W.Frag) (mg : Str → Option Value) (x : Str) (i : Nat) : Prop := ∃ f fd, FnP K x (topS i) f fd ∧ mg x = some (.ref f)
/-- a def that keeps its promise -/
def Ok (P : Program) (w : World) (K : PySem.W.Frag) (mg : Str → Option Value) (base : Heap) (CX : CXT) (k : Nat) (x : Str) (ps : List Str) (sp : Sp) : Prop :=
  ∃ f fd, FnOk P w K mg base CX k f fd ps sp ∧ mg x = some (.ref f) ∧ PySem.W.keepIn K (.ref f) = true ∧ Binds K fd ps []
section
variable {P : Program} {w : World} {K : PySem.W.Frag} {mg : Str → Option Value} {base : Heap} {CX : CXT} {k j : Nat} {x : Str} {ps N : List Str} {sp : Sp} {i : Nat}
theorem Ok.mono (h : Ok P w K mg base CX j x ps sp) (e : j ≤ k) : Ok P w K mg base CX k x ps sp := let ⟨f, fd, a, b⟩ := h; ⟨f, fd, a.mono e, b⟩
theorem TopDef.ok (D : TopDef K mg x i) (S : FnScope N ps (defScope (topS i)))
    (hb : ∀ (kV doc pm : Value) (an : Option Addr) (cdv ct : Value) (us : List Value), us.length = ps.length → bindArgs (PySem.W.fnOf x x (defArgs (topS i)) (defBody (topS i)) (defScope (topS i)) .none kV doc pm an cdv ct) ⟨us, []⟩ = pure (ps.zip us))
    (len : ∀ vs H Q E, sp vs H Q E → vs.length = ps.length)
    (hbody : ∀ (f : Addr) (cdv : Value) (A : Around) (outer : List Env) (s : Shared) (H : Hp) (vs : List V) (Q : VK) (E : XK), Room k (A.deeper (envOfC x (defScope (topS i)) s.heap.objs.size f cdv)) → PySem.W.codeIn K cdv x = true → sp vs H Q E →
      ∃ t, PSs (cxOf CX P w K mg base N x (defScope (topS i)) f cdv A outer s H E) (defBody (topS i)) t ∧ t { nx := fun _ H' => Q .non H', rt := Q } (start N vs) H) : Ok P w K mg base CX (k + 1) x ps sp := by
  obtain ⟨f, fd, F, g⟩ := D
  have b := F.bindsN hb
  have kp := F.kp
  obtain ⟨oc, od, dV, kV, doc, pm, an, cdv, ct, osl, rfl, lk, hcd, _, _⟩ := F.ex
  exact ⟨f, _, fn_of lk hcd S len fun A outer s H vs Q E hr hsp => hbody f cdv A outer s H vs Q E hr hcd hsp, g, kp, b⟩
end
theorem pe_callD {X : Cx} {k : Nat} {x : Str} {ps : List Str} {sp : Sp} {e : Expr} {es : List Expr} {t : TA} {p pos : Pos} (F : Ok X.prog X.w X.K X.mg X.base CX0 k x ps sp) (hr : Room k X.A) (hg : Gl X x) (ha : PA X (e :: es) t)
    (hdb : (x == ("__debug__" : Str)) = false := by decide) (he : starEach (e :: es) X.env = (false, eval e X.env) :: starEach es X.env := by rfl) (hpl : (backTo pos (starEach es X.env)).any (·.1) = false := by rfl) :
    PE X (.Call (.Name x p) (e :: es) [] pos) (tCall sp [] E0 t) := by
  obtain ⟨f, fd, F, g, kp, b⟩ := F
  exact pe_call F hr hg g kp b .nil pass0 ha hdb he hpl
/-- every slot -/
abbrev sv : List Nat := List.range 60
section
variable {K : PySem.W.Frag} {P : Program} {w : World} {G G' : Gam} {σ : L2.St} {H : Hp} {te : TE} {tt : TT} {A : Asr} {d : D} {D : Ends} {b : Bool} {t u : TS} {g : TG}
theorem st_ret (h : EvG te G H A) (s : SOk G σ H) (q : ∀ v H', Ex H H' → A.p v H' → D.rt v H') : tRet te D σ H := h σ H s (Evl.Ex.refl H) _ q
theorem st_retN (q : D.rt .non H) : tRetN D σ H := q
theorem st_set {n : Nat} (h : EvG te G H A) (s : SOk G σ H) (q : ∀ σ' H', Ex H H' → SOk (G.set n (some A)) σ' H' → D.nx σ' H') (hn : n < G.length := by exact Nat.le_of_ble_eq_true rfl) : tAsg te (gName n) D σ H :=
  h σ H s (Evl.Ex.refl H) _ fun v H2 e p => q _ H2 e ((s.ex e).set n p hn)
theorem st_asg (h : EvG te G H (aD K d)) (s : SOk G σ H) (hg : TgG K g G sv d G') (q : ∀ σ' H', Ex H H' → SOk G' σ' H' → D.nx σ' H') : tAsg te g D σ H :=
  h σ H s (Evl.Ex.refl H) _ fun v H2 e p => hg v σ H2 (s.ex e) p _ fun σ' s' _ => q σ' H2 e s'
theorem st_drop (h : EvG te G H A) (s : SOk G σ H) (q : ∀ H', Ex H H' → SOk G σ H' → D.nx σ H') : tDrop te D σ H := h σ H s (Evl.Ex.refl H) _ fun v H2 e p => q H2 e (s.ex e)
theorem st_if (h : EvT tt G H b) (s : SOk G σ H) (q1 : b = true → ∀ H', Ex H H' → SOk G σ H' → t D σ H') (q2 : b = false → ∀ H', Ex H H' → SOk G σ H' → u D σ H') : tIfS tt t u D σ H := h σ H s (Evl.Ex.refl H) _ fun H2 e => by
  cases b with
  | true => exact q1 rfl H2 e (s.ex e)
  | false => exact q2 rfl H2 e (s.ex e)
theorem st_par {n m : Nat} {ta : TA} {B : Asr} (h : EvA ta G H [A, B]) (s : SOk G σ H) (q : ∀ σ' H', Ex H H' → SOk ((G.set n (some A)).set m (some B)) σ' H' → D.nx σ' H') (hn : n < G.length := by exact Nat.le_of_ble_eq_true rfl) (hm : m < G.length := by exact Nat.le_of_ble_eq_true rfl) : tPar n m ta D σ H :=
  h σ H s (Evl.Ex.refl H) _ fun vs H2 e p => by
    obtain ⟨x, y, rfl, hx, hy⟩ := aall2 p
    exact ⟨x, y, rfl, q _ H2 e (((s.ex e).set n hx hn).set m hy (by rw [List.length_set]; exact hm))⟩
def SR (ts : TS) (G : Gam) (H : Hp) (A : Asr) : Prop := ∀ σ H1, SOk G σ H1 → Ex H H1 → ∀ D : Ends, (∀ v H2, Ex H1 H2 → A.p v H2 → D.rt v H2) → ts D σ H1
theorem sr_ret (h : EvG te G H A) : SR (tRet te) G H A := fun σ H1 s x D q => h σ H1 s x _ q
theorem sr_retS (h : EvG te G H A) : SR (tSeq (tRet te) u) G H A := fun σ H1 s x D q => h σ H1 s x _ q
theorem sr_next (h : SR u G H A) : SR (tSeq tNext u) G H A := fun σ H1 s x D q => h σ H1 s x D q
theorem sr_ass {r : TS} (h : SR (tSeq t (tSeq u r)) G H A) : SR (tSeq (tSeq t u) r) G H A := fun σ H1 s x D q => h σ H1 s x D q
theorem sr_if (h : EvT tt G H b) {r : TS} (h1 : b = true → SR (tSeq t r) G H A) (h2 : b = false → SR (tSeq u r) G H A) : SR (tSeq (tIfS tt t u) r) G H A := fun σ H1 s x D q => h σ H1 s x _ fun H2 e => by
  cases b with
  | true => exact h1 rfl σ H2 (s.ex e) (x.trans e) D fun v H3 e3 p => q v H3 (e.trans e3) p
  | false => exact h2 rfl σ H2 (s.ex e) (x.trans e) D fun v H3 e3 p => q v H3 (e.trans e3) p
theorem sr_if1 (h : EvT tt G H b) (h1 : b = true → SR t G H A) (h2 : b = false → SR u G H A) : SR (tIfS tt t u) G H A := fun σ H1 s x D q => h σ H1 s x _ fun H2 e => by
  cases b with
  | true => exact h1 rfl σ H2 (s.ex e) (x.trans e) D fun v H3 e3 p => q v H3 (e.trans e3) p
  | false => exact h2 rfl σ H2 (s.ex e) (x.trans e) D fun v H3 e3 p => q v H3 (e.trans e3) p
theorem sr_ifT (h : EvT tt G H b) (e : b = true) {r : TS} (h1 : SR (tSeq t r) G H A) : SR (tSeq (tIfS tt t u) r) G H A := sr_if h (fun _ => h1) fun z => by rw [e] at z; cases z
theorem sr_ifF (h : EvT tt G H b) (e : b = false) {r : TS} (h1 : SR (tSeq u r) G H A) : SR (tSeq (tIfS tt t u) r) G H A := sr_if h (fun z => by rw [e] at z; cases z) fun _ => h1
theorem ev_ifT {ta tb : TE} (h : EvT tt G H b) (e : b = true) (h1 : EvG ta G H A) : EvG (tIf tt ta tb) G H A := ev_if h (fun _ => h1) fun z => by rw [e] at z; cases z
theorem ev_ifF {ta tb : TE} (h : EvT tt G H b) (e : b = false) (h1 : EvG tb G H A) : EvG (tIf tt ta tb) G H A := ev_if h (fun z => by rw [e] at z; cases z) fun _ => h1
theorem sr_set {n : Nat} {B : Asr} (h : EvG te G H B) (h1 : SR u (G.set n (some B)) H A) (hn : n < G.length := by exact Nat.le_of_ble_eq_true rfl) : SR (tSeq (tAsg te (gName n)) u) G H A := fun σ H1 s x D q => h σ H1 s x _ fun v H2 e p =>
  h1 _ H2 ((s.ex e).set n p hn) (x.trans e) D fun v H3 e3 p => q v H3 (e.trans e3) p
theorem sr_asg (h : EvG te G H (aD K d)) (hg : TgG K g G sv d G') (h1 : SR u G' H A) : SR (tSeq (tAsg te g) u) G H A := fun σ H1 s x D q => h σ H1 s x _ fun v H2 e p =>
  hg v σ H2 (s.ex e) p _ fun σ' s' _ => h1 σ' H2 s' (x.trans e) D fun v H3 e3 p => q v H3 (e.trans e3) p
theorem sr_par {n m : Nat} {ta : TA} {B C : Asr} (h : EvA ta G H [B, C]) (h1 : SR u ((G.set n (some B)).set m (some C)) H A) (hn : n < G.length := by exact Nat.le_of_ble_eq_true rfl) (hm : m < G.length := by exact Nat.le_of_ble_eq_true rfl) : SR (tSeq (tPar n m ta) u) G H A := fun σ H1 s x D q => h σ H1 s x _ fun vs H2 e p => by
  obtain ⟨a, b, rfl, ha, hb⟩ := aall2 p
  exact ⟨a, b, rfl, h1 _ H2 (((s.ex e).set n ha hn).set m hb (by rw [List.length_set]; exact hm)) (x.trans e) D fun v H3 e3 p => q v H3 (e.trans e3) p⟩
end
/-- a pure def -/
theorem Spf.run {ι : Type} {f : Spf ι} {N : List Str} {t : TS} {vs : List V} {H : Hp} {Q : VK} {E : XK} (h : f.sp vs H Q E) (r : ∀ i, f.Pre i → SR t (entry N (f.As i)) H (f.R i)) : t { nx := fun _ H' => Q .non H', rt := Q } (start N vs) H := by
  obtain ⟨i, hp, ha, q⟩ := h
  exact r i hp _ H (SOk.entry ha) (Evl.Ex.refl H) _ q
theorem Spf.len {ι : Type} {f : Spf ι} {n : Nat} (h : ∀ i, (f.As i).length = n) (vs : List V) (H : Hp) (Q : VK) (E : XK) (q : f.sp vs H Q E) : vs.length = n := by
  obtain ⟨i, _, ha, _⟩ := q
  rw [← h i, ha.length]
structure Ads where
  names : Addr
  shapes : Addr
  program : Addr
  badPath : Addr
  holdError : Addr
  way : Addr
  atMost : Addr
  noBound : Addr
  over : Addr
def clsBody (s : Stmt) : List Stmt := match s with
  | .ClassDef _ _ _ b _ _ _ _ _ _ _ => b
  | _ => []
/-- a def of a class of the top -/
def methS (i j : Nat) : Stmt := (clsBody (topS i)).getD j (.Pass ⟨0, 0, 0, 0⟩)
abbrev MethD (K : PySem.W.Frag) (x qual : Str) (i j : Nat) (f : Addr) (fd : FuncData) : Prop := FunD K x qual (defArgs (methS i j)) (defBody (methS i j)) (defScope (methS i j)) [] [] f fd
def shapeL : List (Str × Str) := [("read", "rn"), ("cut", "rrii"), ("tight", "rr"), ("join", "rrr"), ("move", "rr"), ("drop", "r"), ("keep", "r"), ("pack", "r"), ("clear", ""), ("tell", "r"), ("ask", "p"), ("void", "rp"), ("jump", "p")]
/-- what isinstance asks of an instance's class -/
structure InsTy (K : PySem.W.Frag) (C : Addr) : Prop where
  at_ : PySem.W.findIn K (.ref C) "__class__" = some (some (.builtin "object.__class__"))
  get : PySem.W.specialIn K (.builtin "object.__class__") "__get__" = some (some (.builtin "getset_descriptor.__get__"))
  tak : PySem.W.takesIn K (.builtin "object.__class__") = some true
  mro : PySem.W.mroIn K C (.type "object") = some true
  kit : PySem.W.kitOne K (.ref C) (.ref C) = some true
/-- a property whose getter is that def -/
def PropFx (K : PySem.W.Frag) (C : Addr) (f qual : Str) (i j : Nat) : Prop := ∃ p g fd, PropOf K C f p g ∧ MethD K f qual i j g fd
/-- C.__init__ read off the class C is that value -/
def InitOf (K : PySem.W.Frag) (C : Addr) (u : Value) : Prop := ∃ mc, PySem.W.readsIn K C mc = true ∧ PySem.W.specialIn K (.ref C) "__getattribute__" = some (some (.builtin "type.__getattribute__")) ∧ PySem.W.findCls K (.ref C) mc "__init__" = some (.val u)
structure Fx (K : PySem.W.Frag) (mg : Str → Option Value) (ad : Ads) : Prop where
  len_ : mg "len" = none
  list_ : mg "list" = none
  tuple_ : mg "tuple" = none
  int_ : mg "int" = none
  min_ : mg "min" = none
  sum_ : mg "sum" = none
  any_ : mg "any" = none
  all_ : mg "all" = none
  max_ : mg "max" = none
  sorted_ : mg "sorted" = none
  dict_ : mg "dict" = none
  isinstance_ : mg "isinstance" = none
  range_ : mg "range" = none
  enumerate_ : mg "enumerate" = none
  zip_ : mg "zip" = none
  str_ : mg "str" = none
  bool_ : mg "bool" = none
  d_is_integer : TopDef K mg "is_integer" 7
  d_fits : TopDef K mg "fits" 13
  d_is_step : TopDef K mg "is_step" 14
  d_check_program : TopDef K mg "check_program" 16
  d_size_of : TopDef K mg "size_of" 18
  d_is_whole : TopDef K mg "is_whole" 19
  d_fresh : TopDef K mg "fresh" 20
  d_part : TopDef K mg "part" 21
  d_joined : TopDef K mg "joined" 22
  d_shelved : TopDef K mg "shelved" 23
  d_made : TopDef K mg "made" 24
  d_act : TopDef K mg "act" 25
  d_settled : TopDef K mg "settled" 26
  d_turns : TopDef K mg "turns" 27
  d_start_of : TopDef K mg "start_of" 28
  d_after : TopDef K mg "after" 29
  d_waste_of : TopDef K mg "waste_of" 30
  d_is_clear : TopDef K mg "is_clear" 31
  d_later_of : TopDef K mg "later_of" 32
  d_followed : TopDef K mg "followed" 33
  d_walked : TopDef K mg "walked" 37
  d_are_heights : TopDef K mg "are_heights" 38
  d_check_limit : TopDef K mg "check_limit" 42
  d__law_number : TopDef K mg "_law_number" 44
  d__law_step : TopDef K mg "_law_step" 45
  d__law_written : TopDef K mg "_law_written" 46
  d__law_plain : TopDef K mg "_law_plain" 47
  d__law_fresh : TopDef K mg "_law_fresh" 48
  d__law_box : TopDef K mg "_law_box" 49
  d__law_is_whole : TopDef K mg "_law_is_whole" 50
  d__law_joined : TopDef K mg "_law_joined" 51
  d__law_do : TopDef K mg "_law_do" 52
  d__law_stand : TopDef K mg "_law_stand" 53
  d__law_after : TopDef K mg "_law_after" 54
  d__law_first : TopDef K mg "_law_first" 55
  d__law_lost : TopDef K mg "_law_lost" 56
  d__law_is_clear : TopDef K mg "_law_is_clear" 57
  d__law_walk : TopDef K mg "_law_walk" 58
  d__law_explored : TopDef K mg "_law_explored" 59
  d__law_sums : TopDef K mg "_law_sums" 60
  d__law_are_heights : TopDef K mg "_law_are_heights" 61
  d__law_is_most : TopDef K mg "_law_is_most" 62
  d__law_is_ring : TopDef K mg "_law_is_ring" 63
  d__law_roads : TopDef K mg "_law_roads" 64
  d__law_some_path : TopDef K mg "_law_some_path" 65
  d__law_bent : TopDef K mg "_law_bent" 66
  d__law_most_right : TopDef K mg "_law_most_right" 67
  d__law_rings_right : TopDef K mg "_law_rings_right" 68
  d__law_paths_right : TopDef K mg "_law_paths_right" 69
  d_law : TopDef K mg "law" 70
  NAMES : mg "NAMES" = some (.ref ad.names) ∧ KNames K ad.names
  MAX_WIDTH : ∃ t, mg "MAX_WIDTH" = some (.int 6 t)
  MAX_STEPS : ∃ t, mg "MAX_STEPS" = some (.int 12 t)
  g_Program : mg "Program" = some (.ref ad.program)
  c_program : Cls K ad.program
  n_program : NoAttr K ad.program "wide" ∧ NoAttr K ad.program "count" ∧ NoAttr K ad.program "rows"
  t_program : InsTy K ad.program
  p_width : PropFx K ad.program "width" "Program.width" 15 2
  p_many : PropFx K ad.program "many" "Program.many" 15 3
  p_steps : PropFx K ad.program "steps" "Program.steps" 15 4
  g_HoldError : mg "HoldError" = some (.ref ad.holdError)
  i_HoldError : InitOf K ad.holdError (.builtin "ValueError.__init__")
  g_BadPath : mg "BadPath" = some (.ref ad.badPath)
  o_BadPath : OexC K ad.badPath
  n_BadPath : PySem.W.findIn K (.ref ad.badPath) "index" = some none
  i_BadPath : ∃ f fd, PySem.W.findIn K (.ref ad.badPath) "__init__" = some (some (.ref f)) ∧ PySem.W.typeIn K (.ref f) = some (.type "function") ∧ MethD K "__init__" "BadPath.__init__" 4 0 f fd
  x_BadPath : PySem.W.exmOne K (.ref ad.badPath) (.ref ad.badPath) = some true
namespace Hd
abbrev Frag := PySem.W.Frag
def pa (K : Frag) (C f : Str) : Addr := He.ma K (He.ga K C) f
/-- a property's getter -/
def gt (K : Frag) (C f : Str) : Addr := match PySem.W.recIn K (pa K C f) "property" with
  | some (.ref g :: _) => g
  | _ => 0
def fa : List He.Fa := ([.free "len", .free "list", .free "tuple", .free "int", .free "min", .free "sum", .free "any", .free "all", .free "max", .free "sorted", .free "dict", .free "isinstance", .free "range", .free "enumerate", .free "zip", .free "str", .free "bool", .int "MAX_WIDTH" 6, .int "MAX_STEPS" 12, .glo "is_integer", .glo "fits", .glo "is_step", .glo "check_program", .glo "size_of", .glo "is_whole"] : List He.Fa) ++ ([.glo "fresh", .glo "part", .glo "joined", .glo "shelved", .glo "made", .glo "act", .glo "settled", .glo "turns", .glo "start_of", .glo "after", .glo "waste_of", .glo "is_clear", .glo "later_of", .glo "followed", .glo "walked", .glo "are_heights", .glo "check_limit", .glo "_law_number", .glo "_law_step", .glo "_law_written", .glo "_law_plain", .glo "_law_fresh", .glo "_law_box", .glo "_law_is_whole", .glo "_law_joined"] : List He.Fa) ++ ([.glo "_law_do", .glo "_law_stand", .glo "_law_after", .glo "_law_first", .glo "_law_lost", .glo "_law_is_clear", .glo "_law_walk", .glo "_law_explored", .glo "_law_sums", .glo "_law_are_heights", .glo "_law_is_most", .glo "_law_is_ring", .glo "_law_roads", .glo "_law_some_path", .glo "_law_bent", .glo "_law_most_right", .glo "_law_rings_right", .glo "_law_paths_right", .glo "law", .glo "NAMES", .glo "SHAPES", .glo "Program", .glo "HoldError", .glo "BadPath", .glo "Way"] : List He.Fa) ++ ([.glo "AtMost", .glo "NoBound", .glo "Over", .cls "Program", .cls "Way", .cls "AtMost", .cls "NoBound", .cls "Over", .noat "Program" "wide", .noat "Program" "count", .noat "Program" "rows", .noat "BadPath" "index", .noat "Way" "path", .noat "AtMost" "path", .noat "AtMost" "number", .noat "AtMost" "heights", .noat "NoBound" "path", .noat "NoBound" "ring", .noat "Over" "path", .mkr "Program", .mkr "Way", .mkr "AtMost", .mkr "NoBound", .mkr "Over", .meth "Way" "end"] : List He.Fa) ++ ([.meth "AtMost" "shows", .meth "NoBound" "shows", .meth "Over" "shows", .exm "BadPath" "BadPath" true] : List He.Fa)
def dTop (x : Str) (i : Nat) : He5.DefA := ⟨fun K => He.ga K x, x, x, defArgs (topS i), defBody (topS i), defScope (topS i), [], []⟩
def dMeth (C m qual : Str) (i j : Nat) : He5.DefA := ⟨fun K => pa K C m, m, qual, defArgs (methS i j), defBody (methS i j), defScope (methS i j), [], []⟩
def dProp (C m qual : Str) (i j : Nat) : He5.DefA := ⟨fun K => gt K C m, m, qual, defArgs (methS i j), defBody (methS i j), defScope (methS i j), [], []⟩
def fn : List He5.DefA := ([dTop "is_integer" 7, dTop "fits" 13, dTop "is_step" 14, dTop "check_program" 16, dTop "size_of" 18, dTop "is_whole" 19, dTop "fresh" 20, dTop "part" 21, dTop "joined" 22, dTop "shelved" 23, dTop "made" 24, dTop "act" 25, dTop "settled" 26, dTop "turns" 27, dTop "start_of" 28, dTop "after" 29, dTop "waste_of" 30, dTop "is_clear" 31, dTop "later_of" 32, dTop "followed" 33, dTop "walked" 37, dTop "are_heights" 38, dTop "check_limit" 42, dTop "_law_number" 44, dTop "_law_step" 45] : List He5.DefA) ++ ([dTop "_law_written" 46, dTop "_law_plain" 47, dTop "_law_fresh" 48, dTop "_law_box" 49, dTop "_law_is_whole" 50, dTop "_law_joined" 51, dTop "_law_do" 52, dTop "_law_stand" 53, dTop "_law_after" 54, dTop "_law_first" 55, dTop "_law_lost" 56, dTop "_law_is_clear" 57, dTop "_law_walk" 58, dTop "_law_explored" 59, dTop "_law_sums" 60, dTop "_law_are_heights" 61, dTop "_law_is_most" 62, dTop "_law_is_ring" 63, dTop "_law_roads" 64, dTop "_law_some_path" 65, dTop "_law_bent" 66, dTop "_law_most_right" 67, dTop "_law_rings_right" 68, dTop "_law_paths_right" 69, dTop "law" 70] : List He5.DefA) ++ ([dMeth "Program" "__init__" "Program.__init__" 15 0, dMeth "BadPath" "__init__" "BadPath.__init__" 4 0, dMeth "Way" "__init__" "Way.__init__" 36 0, dMeth "AtMost" "__init__" "AtMost.__init__" 39 0, dMeth "NoBound" "__init__" "NoBound.__init__" 40 0, dMeth "Over" "__init__" "Over.__init__" 41 0, dMeth "Way" "end" "Way.end" 36 1, dMeth "AtMost" "shows" "AtMost.shows" 39 2, dMeth "NoBound" "shows" "NoBound.shows" 40 2, dMeth "Over" "shows" "Over.shows" 41 2, dProp "Program" "width" "Program.width" 15 2, dProp "Program" "many" "Program.many" 15 3, dProp "Program" "steps" "Program.steps" 15 4] : List He5.DefA)
def namesB (K : Frag) (a : Addr) : Bool := match K.lookup a with
  | some ⟨.type c, none, .seq its _, _⟩ => decide (c = "tuple") && (decide (its.size ≤ sizeLine) && He.relAll abcV its.toList)
  | _ => false
def insB (K : Frag) (C : Addr) : Bool := He.eqO (PySem.W.findIn K (.ref C) "__class__") (some (some (.builtin "object.__class__"))) && (He.eqO (PySem.W.specialIn K (.builtin "object.__class__") "__get__") (some (some (.builtin "getset_descriptor.__get__"))) &&
  (decide (PySem.W.takesIn K (.builtin "object.__class__") = some true) && (decide (PySem.W.mroIn K C (.type "object") = some true) && decide (PySem.W.kitOne K (.ref C) (.ref C) = some true))))
def propB (K : Frag) (C f : Str) : Bool := He.eqO (PySem.W.findIn K (.ref (He.ga K C)) f) (some (some (.ref (pa K C f)))) && (He.eqO (PySem.W.specialIn K (.ref (pa K C f)) "__get__") (some (some (.builtin "property.__get__"))) &&
  (decide (PySem.W.takesIn K (.ref (pa K C f)) = some true) && (match PySem.W.recIn K (pa K C f) "property" with
    | some (.ref _ :: _) => true
    | _ => false)))
def initB (K : Frag) (C : Addr) (u : Value) : Bool := PySem.W.readsIn K C (.type "type") && (He.eqO (PySem.W.specialIn K (.ref C) "__getattribute__") (some (some (.builtin "type.__getattribute__"))) && (match PySem.W.findCls K (.ref C) (.type "type") "__init__" with
    | some (.val v) => decide (v = u)
    | _ => false))
def oexB (K : Frag) (C : Addr) : Bool := match K.lookup C with
  | some ⟨.type c, _, .cls cd, sl⟩ => (match cd.mro, sl.toList with
    | .ref C' :: bm, [_, _, _, _, some (.builtin n), _] => decide (c = "type") && (decide (C' = C) && (decide (n = "ValueError.__new__") && (!cd.hasDel && (cd.hasDict && PySem.HandSPX.refsVE bm))))
    | _, _ => false)
  | _ => false
def exB (K : Frag) : Bool := namesB K (He.ga K "NAMES") && (insB K (He.ga K "Program") && (propB K "Program" "width" && (propB K "Program" "many" && (propB K "Program" "steps" && (initB K (He.ga K "HoldError") (.builtin "ValueError.__init__") && (initB K (He.ga K "Way") (.ref (pa K "Way" "__init__")) &&
  (oexB K (He.ga K "BadPath") && (He.eqO (PySem.W.findIn K (.ref (He.ga K "BadPath")) "__setattr__") (some (some (.builtin "object.__setattr__"))) && (decide (PySem.W.subIn K (.ref (He.ga K "BadPath")) (.type "BaseException") = some true) && (decide (PySem.W.typeIn K (.ref (He.ga K "BadPath")) = some (.type "type")) && (PySem.W.keepIn K (.ref (He.ga K "BadPath")) &&
  (He.eqO (PySem.W.findIn K (.ref (He.ga K "BadPath")) "__init__") (some (some (.ref (pa K "BadPath" "__init__")))) && (decide (PySem.W.typeIn K (.ref (pa K "BadPath" "__init__")) = some (.type "function")) && He.valsB K (He.ga K "SHAPES") (shapeL.map fun p => (p.1, He.Dv.str p.2)))))))))))))))
abbrev AlS : Type := He.AlD × Bool × Option (List (Option (Str × Int)))
def obsS (K : Frag) : AlS := (He5.obsA fa fn K, exB K, He.dicW K (He.ga K "SHAPES"))
def valS (w : World) : AlS := (He5.valA fn, true, some (He.keysIn w.params (shapeL.map (·.1))))
/-- the values of the dicts among these; what the functions and records among these name -/
def nxD (g : Addr → Option Obj) (as : List Addr) : List Addr := as.flatMap fun a => match g a with
  | some ⟨_, _, .dict es _, _⟩ => es.toList.flatMap fun e => He.refV e.val
  | _ => []
def nxF (g : Addr → Option Obj) (as : List Addr) : List Addr := as.flatMap fun a => match g a with
  | some ⟨_, _, .func fd, _⟩ => He.refV fd.code
  | some ⟨_, _, .fields vs, _⟩ => vs.toList.flatMap He.refV
  | _ => []
def nxC (g : Addr → Option Obj) (as : List Addr) : List Addr := as.flatMap fun a => match g a with
  | some ⟨_, _, .func fd, _⟩ => He.refV fd.code
  | some ⟨_, _, .cls cd, _⟩ => [cd.ns]
  | _ => []
/-- the globals' values; their code, namespaces; the methods, properties; their code, getters; the getters' code -/
def as4 (g : Addr → Option Obj) (l1 l2 l3 l4 : List Addr) : List Addr := [mainGlobals] ++ l1 ++ l2 ++ l3 ++ l4 ++ nxC g l4 ++ [cStatics]
def as3 (g : Addr → Option Obj) (l1 l2 l3 : List Addr) : List Addr := as4 g l1 l2 l3 (nxF g l3)
def as2 (g : Addr → Option Obj) (l1 l2 : List Addr) : List Addr := as3 g l1 l2 (nxD g l2)
def as1 (g : Addr → Option Obj) (l1 : List Addr) : List Addr := as2 g l1 (nxC g l1)
def asS (g : Addr → Option Obj) : List Addr := as1 g (nxD g [mainGlobals])
def obsSG (g : Addr → Option Obj) : AlS := obsS (He.frG g (asS g))
abbrev hk : PySem.W.Hook where
  α := AlS
  obs := fun s => obsSG s.heap.get?
  val := valS
  says := fun w h => ∃ K : Frag, K.In h ∧ obsS K = valS w
  of := fun _ _ e => ⟨_, He.frG_in, e⟩
  keeps := fun _ _ _ ⟨K, hK, c⟩ k => ⟨K, PySem.W.Frag.In.keeps hK k, c⟩
def ob (s : PySem.W.SharedT) : AlS := obsSG (HandSHeadRun.getT s)
theorem ob_eq (s : PySem.W.SharedT) : ob s = hk.obs s.abs := by
  have e : HandSHeadRun.getT s = s.abs.heap.get? := funext fun a => HandSHeadRun.getT_eq s a
  show obsSG (HandSHeadRun.getT s) = obsSG s.abs.heap.get?
  rw [e]
def loose : List Str := (["_wall", "HoldError", "BadProgram", "BadPath", "BadLimit", "is_integer", "NAMES", "MAX_WIDTH", "MAX_STEPS", "SHAPES", "fits", "is_step", "Program", "check_program", "size_of", "is_whole", "fresh", "part", "joined", "shelved", "made", "act", "settled", "turns", "start_of", "after", "waste_of", "is_clear", "later_of", "followed"] : List Str) ++ ((["Answer", "Way", "walked", "are_heights", "AtMost", "NoBound", "Over", "check_limit", "_law_number", "_law_step", "_law_written", "_law_plain", "_law_fresh", "_law_box", "_law_is_whole", "_law_joined", "_law_do", "_law_stand", "_law_after", "_law_first", "_law_lost", "_law_is_clear", "_law_walk", "_law_explored", "_law_sums", "_law_are_heights", "_law_is_most", "_law_is_ring", "_law_roads", "_law_some_path"] : List Str) ++ ((["_law_bent", "_law_most_right", "_law_rings_right", "_law_paths_right"] : List Str)))
def lawIx : Nat := 70
abbrev R : PySem.W.OpenRow := PySem.W.OpenLaw.row PySem.Challenge.rw_sliverhold_k06_whole_shown
end Hd
namespace Hd
theorem run_true (w : World) : HandSHeadRun.RunEq R (PySem.W.view R.prog [lawIx]) hk ob 6000 loose (w.withFollow "special-get-raises" true) := by
  intro os
  kernel_rfl
end Hd
namespace Hd
theorem run_false (w : World) : HandSHeadRun.RunEq R (PySem.W.view R.prog [lawIx]) hk ob 6000 loose (w.withFollow "special-get-raises" false) := by
  intro os
  kernel_rfl
end Hd
/-- a piece: the block's number, its first cell, the cell behind its last -/
abbrev Pc := Nat × Nat × Nat
/-- a block: its size, the shelf's cells of it -/
abbrev Blk := Nat × List Nat
abbrev Stand := Nat × List (Option Pc) × List Blk
def encP : Option Pc → D
  | none => .none
  | some (n, f, l) => .tup [.num n, .num f, .num l]
def natD (n : Nat) : D := .num n
def encB (b : Blk) : D := .tup [.num b.1, .tup (b.2.map natD)]
def encS (s : Stand) : D := .tup [.num s.1, .tup (s.2.1.map encP), .tup (s.2.2.map encB)]
inductive Stp
  | read (a n : Nat) | cut (a b i j : Nat) | tight (a b : Nat) | join (a b c : Nat) | move (a b : Nat) | drop (a : Nat) | keep (a : Nat) | pack (a : Nat) | clear | tell (a : Nat) | ask (p : Nat) | void (a p : Nat) | jump (p : Nat)
def nmD (a : Nat) : D := .text (nm a)
def encT : Stp → D
  | .read a n => .tup [.text "read", nmD a, .num n]
  | .cut a b i j => .tup [.text "cut", nmD a, nmD b, .num i, .num j]
  | .tight a b => .tup [.text "tight", nmD a, nmD b]
  | .join a b c => .tup [.text "join", nmD a, nmD b, nmD c]
  | .move a b => .tup [.text "move", nmD a, nmD b]
  | .drop a => .tup [.text "drop", nmD a]
  | .keep a => .tup [.text "keep", nmD a]
  | .pack a => .tup [.text "pack", nmD a]
  | .clear => .tup [.text "clear"]
  | .tell a => .tup [.text "tell", nmD a]
  | .ask p => .tup [.text "ask", .num p]
  | .void a p => .tup [.text "void", nmD a, .num p]
  | .jump p => .tup [.text "jump", .num p]
def Stp.Ok (w c t : Nat) : Stp → Prop
  | .read a n => a < c ∧ 1 ≤ n ∧ n ≤ w
  | .cut a b i j => a < c ∧ b < c ∧ i ≤ j ∧ j ≤ w
  | .tight a b => a < c ∧ b < c
  | .join a b d => a < c ∧ b < c ∧ d < c
  | .move a b => a < c ∧ b < c
  | .drop a => a < c
  | .keep a => a < c
  | .pack a => a < c
  | .clear => True
  | .tell a => a < c
  | .ask p => p ≤ t
  | .void a p => a < c ∧ p ≤ t
  | .jump p => p ≤ t
def Stp.makes : Stp → Bool
  | .read _ _ => true
  | .drop _ => true
  | .cut _ _ _ _ => true
  | .join _ _ _ => true
  | .tight _ _ => true
  | .move _ _ => true
  | _ => false
structure Pln where
  wide : Nat
  many : Nat
  steps : List Stp
structure Pln.Ok (p : Pln) : Prop where
  w1 : 1 ≤ p.wide
  w6 : p.wide ≤ 6
  m1 : 1 ≤ p.many
  m3 : p.many ≤ 3
  s1 : 1 ≤ p.steps.length
  s12 : p.steps.length ≤ 12
  ok : ∀ t ∈ p.steps, t.Ok p.wide p.many p.steps.length
def sizeOf : Option Pc → Nat
  | none => 0
  | some (_, f, l) => l - f
def blkSize (bs : List Blk) (n : Nat) : Nat := (bs.getD n (0, [])).1
def isWhole (p : Option Pc) (bs : List Blk) : Bool := match p with
  | none => true
  | some (n, f, l) => decide (l - f = blkSize bs n)
def part (p : Option Pc) (b e : Nat) : Option Pc := match p with
  | none => none
  | some (n, f, l) => if min (f + b) l < min (f + e) l then some (n, min (f + b) l, min (f + e) l) else none
abbrev HB := List (Option Pc) × List Blk
def freshP (size : Nat) (bs : List Blk) : Option Pc × List Blk := if size = 0 then (none, bs) else (some (bs.length, 0, size), bs ++ [(size, [])])
def joinP (p q : Option Pc) (w : Nat) (bs : List Blk) : Option Pc × List Blk := match p, q with
  | none, q => (q, bs)
  | some p, none => (some p, bs)
  | some (n, f, l), some (n', f', l') => if n = n' ∧ l = f' then (some (n, f, l'), bs) else freshP (min w ((l - f) + (l' - f'))) bs
/-- the shelf takes a piece's cells -/
def shelve (bs : List Blk) : Pc → List Blk
  | (n, f, l) => bs.set n (blkSize bs n, (List.range (blkSize bs n)).filter fun x => decide (x ∈ (bs.getD n (0, [])).2) || (decide (f ≤ x) && decide (x < l)))
def getP (h : List (Option Pc)) (a : Nat) : Option Pc := h.getD a none
def madeP (t : Stp) (w : Nat) (h : List (Option Pc)) (bs : List Blk) : Option Pc × List Blk := match t with
  | .read _ n => freshP n bs
  | .drop _ => (none, bs)
  | .cut _ b i j => (part (getP h b) i j, bs)
  | .join _ b c => joinP (getP h b) (getP h c) w bs
  | .tight _ b => if isWhole (getP h b) bs then (getP h b, bs) else freshP (sizeOf (getP h b)) bs
  | .move _ b => (getP h b, bs)
  | _ => (none, bs)
def putP (h : List (Option Pc)) (a : Nat) (r : Option Pc × List Blk) : HB := (h.set a r.1, r.2)
def actP (t : Stp) (w : Nat) (h : List (Option Pc)) (bs : List Blk) : HB := match t with
  | .clear => (h, bs.map fun b => (b.1, []))
  | .ask _ => (h, bs)
  | .jump _ => (h, bs)
  | .void _ _ => (h, bs)
  | .tell _ => (h, bs)
  | .keep a => match getP h a with
    | none => (h, bs)
    | some p => (h, shelve bs p)
  | .pack a => match getP h a with
    | none => (h, bs)
    | some p => if isWhole (some p) bs then (h, shelve bs p) else (h, bs)
  | .read a n => putP h a (madeP (.read a n) w h bs)
  | .drop a => putP h a (madeP (.drop a) w h bs)
  | .cut a b i j => putP h a (madeP (.cut a b i j) w h bs)
  | .join a b c => putP h a (madeP (.join a b c) w h bs)
  | .tight a b => putP h a (madeP (.tight a b) w h bs)
  | .move a b => putP h a (madeP (.move a b) w h bs)
/-- the blocks that are held, in the order in which they come -/
def orderOf : List (Option Pc) → List Nat → List Nat
  | [], acc => acc
  | none :: h, acc => orderOf h acc
  | some (n, _, _) :: h, acc => orderOf h (if n ∈ acc then acc else acc ++ [n])
def ordOf (h : List (Option Pc)) : List Nat := orderOf h []
def renum (o : List Nat) : Option Pc → Option Pc
  | none => none
  | some (n, f, l) => some (o.idxOf n, f, l)
def goneOf (o : List Nat) (bs : List Blk) : Nat := (((List.range bs.length).filter fun n => !decide (n ∈ o) && !(bs.getD n (0, [])).2.isEmpty).map fun n => (bs.getD n (0, [])).1 - (bs.getD n (0, [])).2.length).sum
def settle (i : Nat) (h : List (Option Pc)) (bs : List Blk) : Stand × Nat := ((i, h.map (renum (ordOf h)), (ordOf h).map fun n => bs.getD n (0, [])), goneOf (ordOf h) bs)
def turnsP (t : Stp) (i : Nat) (h : List (Option Pc)) : List Nat := match t with
  | .jump p => [p]
  | .ask p => if p = i + 1 then [p] else if p < i + 1 then [p, i + 1] else [i + 1, p]
  | .void a p => if getP h a = none then [p] else [i + 1]
  | _ => [i + 1]
def startP (p : Pln) : Stand := (0, List.replicate p.many none, [])
def afterP (p : Pln) (s : Stand) : List (Stand × Nat) := match p.steps[s.1]? with
  | none => []
  | some t => (turnsP t s.1 s.2.1).map fun i => settle i (actP t p.wide s.2.1 s.2.2).1 (actP t p.wide s.2.1 s.2.2).2
/-- what is held and seen by nobody -/
def wasteB (h : List (Option Pc)) (n : Nat) (b : Blk) : Nat := ((List.range b.1).filter fun x => !decide (x ∈ b.2) && !(h.any fun p => match p with
  | some (m, f, l) => decide (m = n) && (decide (f ≤ x) && decide (x < l))
  | none => false)).length
def wasteP (s : Stand) : Nat := ((List.range s.2.2.length).map fun n => wasteB s.2.1 n (s.2.2.getD n (0, []))).sum
def clearP (p : Pln) (s : Stand) : Bool := match p.steps[s.1]? with
  | some .clear => true
  | _ => false
def walkFrom (p : Pln) : Stand → Int → List Int → Option (List (Stand × Int))
  | _, _, [] => some []
  | s, g, i :: r => match (afterP p s).find? fun q => decide ((q.1.1 : Int) = i) with
    | none => none
    | some q =>
      let g' := if clearP p s then 0 else g + q.2
      match walkFrom p q.1 g' r with
      | none => none
      | some l => some ((q.1, g' + wasteP q.1) :: l)
def walkP (p : Pln) : List Int → Option (List (Stand × Int))
  | [] => none
  | i :: r => if i = 0 then (walkFrom p (startP p) 0 r).map fun l => (startP p, 0) :: l else none
structure PcOk (bs : List Blk) (q : Pc) : Prop where
  n : q.1 < bs.length
  fl : q.2.1 < q.2.2
  l : q.2.2 ≤ blkSize bs q.1
structure BlkOk1 (w : Nat) (b : Blk) : Prop where
  s1 : 1 ≤ b.1
  sw : b.1 ≤ w
  lt : ∀ x ∈ b.2, x < b.1
  asc : b.2.Pairwise (· < ·)
structure HBOk (w c : Nat) (h : List (Option Pc)) (bs : List Blk) : Prop where
  len : h.length = c
  pc : ∀ q, some q ∈ h → PcOk bs q
  bk : ∀ b ∈ bs, BlkOk1 w b
structure SOk1 (p : Pln) (s : Stand) : Prop where
  ix : s.1 ≤ p.steps.length
  hb : HBOk p.wide p.many s.2.1 s.2.2
  few : s.2.2.length ≤ p.many
theorem atD {ds : List D} {n : Nat} {d : D} (h : ds[n]? = some d) : atI ds (n : Int) = some d := atI_nat h
structure Frs (W : List Addr) (H H' : Hp) : Prop where
  keep : ∀ a, a ∉ W → ∀ o, H a = some o → H' a = some o
  t : TLe H H'
section
variable {K : PySem.W.Frag} {P : Program} {w : World} {W : List Addr} {G : Gam} {σ : L2.St} {H H1 H2 : Hp} {a b : Addr} {ds : List D} {d : D} {o u : HO} {te ti to : TE} {EE : Ends} {A : Asr}
theorem Frs.refl : Frs W H H := ⟨fun _ _ _ h => h, TLe.refl H⟩
theorem Frs.ex (e : Ex H H1) : Frs W H H1 := ⟨fun a _ o h => e a o h, tle_of_ex e⟩
theorem Frs.trans (x : Frs W H H1) (y : Frs W H1 H2) : Frs W H H2 := ⟨fun a n o h => y.keep a n o (x.keep a n o h), x.t.trans y.t⟩
theorem Frs.mono {V : List Addr} (x : Frs W H H1) (h : ∀ a ∈ W, a ∈ V) : Frs V H H1 := ⟨fun a n o q => x.keep a (fun z => n (h a z)) o q, x.t⟩
/-- a written place of W -/
theorem Frs.upd (x : Frs W H H1) (ha : a ∈ W) (h : H1 a = some o) (hn : noTup o = true) : Frs W H (upd H1 a u) := ⟨fun c n v q => by
  have ne : c ≠ a := fun z => n (by rw [z]; exact ha)
  rw [upd_ne ne]; exact x.keep c n v q, x.t.trans (tle_upd h hn)⟩
/-- a written place that is new -/
theorem Frs.updN (x : Frs W H H1) (ha : H a = none) (h : H1 a = some o) (hn : noTup o = true) : Frs W H (L2.upd H1 a u) := ⟨fun c n v q => by
  rw [upd_ne (fun z => by rw [z, ha] at q; cases q)]; exact x.keep c n v q, x.t.trans (tle_upd h hn)⟩
theorem Frs.nil (x : Frs [] H H1) : Ex H H1 := fun a o h => x.keep a (by simp) o h
/-- what was changed was new -/
theorem Frs.ofNew (x : Frs W H1 H2) (e : Ex H H1) (h : ∀ a ∈ W, H a = none) : Ex H H2 := fun a o q => x.keep a (fun z => by rw [h a z] at q; cases q) o (e a o q)
theorem SOk.frs (s : SOk G σ H) (x : Frs W H H1) (hs : ∀ A, some A ∈ G → A.St) : SOk G σ H1 := s.st x.t hs
/-- slots whose assertions stand while the tuples do -/
inductive GS : Gam → Prop
  | nil : GS []
  | non {G : Gam} : GS G → GS (none :: G)
  | som {A : Asr} {G : Gam} : A.St → GS G → GS (some A :: G)
theorem GS.all : ∀ {G : Gam}, GS G → ∀ A, some A ∈ G → A.St
  | _, .nil, _, h => by cases h
  | _, .non g, A, h => by
    rcases List.mem_cons.mp h with z | z
    · cases z
    · exact g.all A z
  | _, .som hA g, A, h => by
    rcases List.mem_cons.mp h with z | z
    · cases z; exact hA
    · exact g.all A z
def WL (K : PySem.W.Frag) (H : Hp) (a : Addr) (ds : List D) : Prop := ∃ xs, H a = some (.lst xs) ∧ DAll K H xs ds
theorem WL.ex (h : WL K H a ds) (e : Ex H H1) : WL K H1 a ds := let ⟨xs, h1, h2⟩ := h; ⟨xs, e _ _ h1, h2.ex e⟩
theorem WL.frs (h : WL K H a ds) (x : Frs W H H1) (ha : a ∉ W) : WL K H1 a ds := let ⟨xs, h1, h2⟩ := h; ⟨xs, x.keep a ha _ h1, h2.to x.t⟩
theorem WL.upd {v : HO} (h : WL K H a ds) (hb : H b = some o) (hn : noTup o = true) (ne : a ≠ b) : WL K (upd H b v) a ds := let ⟨xs, h1, h2⟩ := h; ⟨xs, by rw [upd_ne ne]; exact h1, h2.to (tle_upd hb hn)⟩
theorem WL.updN {v : HO} (h : WL K H a ds) (hb : H b = none) : WL K (L2.upd H b v) a ds := h.ex (Evl.Ex.new hb)
theorem WL.aL (h : WL K H a ds) : (aL K ds).p (.ref a) H := let ⟨xs, h1, h2⟩ := h; ⟨a, xs, rfl, Evl.sq_of h1, h2⟩
theorem WL.some (h : WL K H a ds) : ∃ xs, H a = Option.some (.lst xs) := let ⟨xs, h1, _⟩ := h; ⟨xs, h1⟩
theorem WL.ne_none (h : WL K H a ds) (hb : H b = none) : a ≠ b := fun z => by
  obtain ⟨xs, h1, _⟩ := h
  rw [z, hb] at h1; cases h1
/-- the name of such a list -/
theorem ev_wl {n : Nat} (h : G[n]? = Option.some (Option.some (aV (.ref a)))) (w : WL K H a ds) : EvG (tVar n) G H (Slv.aL K ds) := fun σ H1 s x Q q => by
  obtain ⟨v, hv, hp⟩ := s.at_ n _ h
  have e : v = .ref a := hp
  subst e
  exact ⟨_, hv, q _ H1 (Evl.Ex.refl H1) (w.ex x).aL⟩
theorem EvN.st {n : Nat} (h : EvN K te G H ds) (s : SOk G σ H) (q : ∀ p σ' H', H p = none → Ex H H' → SOk (G.set n (Option.some (aV (.ref p)))) σ' H' → WL K H' p ds → EE.nx σ' H') (hn : n < G.length := by exact Nat.le_of_ble_eq_true rfl) : tAsg te (gName n) EE σ H :=
  h σ H s (Evl.Ex.refl H) _ fun p xs H2 n e h1 h2 => q p _ H2 n e ((s.ex e).set _ rfl hn) ⟨xs, h1, h2⟩
/-- xs.append(e) -/
theorem st_append (ho : EvG to G H (aV (.ref a))) (h : EvG te G H (aD K d)) (s : SOk G σ H) (w : WL K H a ds) (hl : ds.length < 100000)
    (q : ∀ H', Frs [a] H H' → SOk G σ H' → WL K H' a (ds ++ [d]) → EE.nx σ H') (hs : ∀ A, Option.some A ∈ G → A.St) : tDrop (tBM K "list" rAppend to (tCons te tNil)) EE σ H :=
  ho σ H s (Evl.Ex.refl H) _ fun v H1 e1 p1 => by
    have ev : v = .ref a := p1
    subst ev
    obtain ⟨xs, h1, h2⟩ := w.ex e1
    refine ⟨.inl ⟨rfl, xs, Evl.sq_of h1⟩, h σ H1 (s.ex e1) e1 _ fun y H2 e2 p2 => ?_⟩
    have h3 := e2 _ _ h1
    have f : Frs [a] H (L2.upd H2 a (.lst (xs ++ [y]))) := (Frs.ex (e1.trans e2)).upd (by simp) h3 rfl
    exact ⟨a, xs, y, rfl, rfl, h3, Evl.sz_lt (by rw [h2.length]; exact hl), q _ f (s.frs f hs) ⟨xs ++ [y], upd_same, DAll.append ((h2.ex e2).to (tle_upd h3 rfl)) (.cons (DIs.to p2 (tle_upd h3 rfl)) .nil)⟩⟩
/-- xs[i] = e -/
theorem st_setL {i : Int} {j : Nat} (h : EvG te G H (aD K d)) (ho : EvG to G H (aV (.ref a))) (hi : EvG ti G H (aD K (.num i))) (s : SOk G σ H) (wl : WL K H a ds) (hj : ixN ds.length i = Option.some j)
    (q : ∀ H', Frs [a] H H' → SOk G σ H' → WL K H' a (ds.set j d) → EE.nx σ H') (hs : ∀ A, Option.some A ∈ G → A.St) : tAsg te (gSub to ti (rSetU P w K)) EE σ H :=
  h σ H s (Evl.Ex.refl H) _ fun y H1 e1 p1 => ho σ H1 (s.ex e1) e1 _ fun v H2 e2 p2 => hi σ H2 (s.ex (e1.trans e2)) (e1.trans e2) _ fun z H3 e3 p3 => by
    have ev : v = .ref a := p2
    subst ev
    have e13 := (e1.trans e2).trans e3
    obtain ⟨xs, h1, h2⟩ := wl.ex e13
    have f : Frs [a] H (L2.upd H3 a (.lst (xs.set j y))) := (Frs.ex e13).upd (by simp) h1 rfl
    exact .inl ⟨a, xs, i, j, rfl, DIs.num_inv p3, h1, by rw [h2.length]; exact hj, q _ f (s.frs f hs) ⟨_, upd_same, DAll.set ((DIs.ex p1 (e2.trans e3)).to (tle_upd h1 rfl)) j (h2.to (tle_upd h1 rfl))⟩⟩
theorem ixN_nat {n j : Nat} (h : j < n) : ixN n (j : Int) = Option.some j := by
  unfold ixN
  rw [if_pos (by omega), if_pos (by omega), Int.toNat_natCast]
theorem flat_nats : ∀ {xs : List Nat}, (xs.map natD).all flatD = true
  | [] => rfl
  | x :: xs => by rw [List.map_cons, List.all_cons, flat_nats (xs := xs)]; rfl
theorem mem_nats {x : Nat} {xs : List Nat} : decide (natD x ∈ xs.map natD) = decide (x ∈ xs) := by
  refine decide_eq_decide.mpr ⟨fun h => ?_, fun h => List.mem_map.mpr ⟨x, h, rfl⟩⟩
  obtain ⟨y, hy, e⟩ := List.mem_map.mp h
  have e2 : (y : Int) = x := by simpa [natD] using e
  have : y = x := by omega
  exact this ▸ hy
theorem et_orL {tt u : TT} {b c : Bool} (h1 : EvT tt G H b) (h2 : EvT u G H c) : EvT (tOr tt u) G H (b || c) := et_or h1 fun _ => h2
theorem et_andL {tt u : TT} {b c : Bool} (h1 : EvT tt G H b) (h2 : EvT u G H c) : EvT (tAnd tt u) G H (b && c) := et_and h1 fun _ => h2
theorem aall3 {A B C : Asr} {v : List V} (h : AAll [A, B, C] v H) : ∃ x y z, v = [x, y, z] ∧ A.p x H ∧ B.p y H ∧ C.p z H := by
  cases h with
  | cons h1 h =>
    obtain ⟨y, z, rfl, h2, h3⟩ := aall2 h
    exact ⟨_, y, z, rfl, h1, h2, h3⟩
theorem aall4 {A B C A' : Asr} {v : List V} (h : AAll [A, B, C, A'] v H) : ∃ x y z u, v = [x, y, z, u] ∧ A.p x H ∧ B.p y H ∧ C.p z H ∧ A'.p u H := by
  cases h with
  | cons h1 h =>
    obtain ⟨y, z, u, rfl, h2, h3, h4⟩ := aall3 h
    exact ⟨_, y, z, u, rfl, h1, h2, h3, h4⟩
/-- an argument list, then what the promise asks -/
theorem call_of {sp : Sp} {ta : TA} {As : List Asr} {E : XK} {Q : VK} (h : EvA ta G H As) (s : SOk G σ H) (q : ∀ vs H', Ex H H' → SOk G σ H' → AAll As vs H' → sp vs H' Q E) : tCall sp [] E ta σ H Q :=
  h σ H s (Evl.Ex.refl H) _ fun vs H' e p => by rw [List.append_nil]; exact q vs H' e (s.ex e) p
/-- at a: the dict with the keys and ints kvs -/
def intK (kvs : List (Int × V)) : List (Key × V) := kvs.map fun kv => (Sum.inl kv.1, kv.2)
theorem valV_intK (kvs : List (Int × V)) (i : Int) : valV (intK kvs) (Sum.inl i) = valV kvs i := by
  induction kvs with
  | nil => rfl
  | cons p r ih =>
    unfold intK at ih ⊢
    rw [List.map_cons]
    by_cases e : p.1 = i
    · rw [valV_pos (by rw [e]), valV_pos e]
    · rw [valV_neg (fun z => e (Sum.inl.inj z)), valV_neg e, ih]
theorem putK_intK (kvs : List (Int × V)) (i : Int) (v : V) : putK (intK kvs) (Sum.inl i) v = intK (putK kvs i v) := by
  have ha : ((intK kvs).any fun kv => decide (kv.1 = Sum.inl i)) = kvs.any fun kv => decide (kv.1 = i) := by
    unfold intK
    rw [List.any_map]
    congr 1
    funext kv
    simp
  unfold putK
  rw [ha]
  split
  · unfold intK
    rw [List.map_map, List.map_map]
    refine List.map_congr_left fun kv _ => ?_
    by_cases e : kv.1 = i
    · simp [e]
    · simp [e]
  · unfold intK
    simp
end
section
variable {X : Cx} (P : Program) (w : World) (K : PySem.W.Frag)
theorem xAdd (hK : X.K = K := by rfl) : OpR X (binaryOp .Add) (rAddU K) := hK ▸ op_addU
theorem xMul (hK : X.K = K := by rfl) : OpR X (binaryOp .Mult) (rMulU K) := hK ▸ op_mulU
theorem xEq (hu : X.A.units + 64 < cLine) (hK : X.K = K := by rfl) : OpR X (compareOp .Eq) (rEqU K) := hK ▸ op_eqU hu
theorem xNe (hu : X.A.units + 64 < cLine) (hK : X.K = K := by rfl) : OpR X (compareOp .NotEq) (rNeU K) := hK ▸ op_neU hu
theorem xIn (hu : X.A.units + 64 < cLine) (hP : X.prog = P := by rfl) (hw : X.w = w := by rfl) (hK : X.K = K := by rfl) : OpR X (compareOp .In) (rInU P w K) := by subst hP hw hK; exact op_inU hu
theorem xNotIn (hu : X.A.units + 64 < cLine) (hP : X.prog = P := by rfl) (hw : X.w = w := by rfl) (hK : X.K = K := by rfl) : OpR X (compareOp .NotIn) (rNotInU P w K) := by subst hP hw hK; exact op_notInU hu
theorem xIx (hu : X.A.units + 64 < cLine) (hP : X.prog = P := by rfl) (hw : X.w = w := by rfl) (hK : X.K = K := by rfl) : IxR X (rIxU P w K) := by subst hP hw hK; exact ix_U hu
theorem xSet (hu : X.A.units + 64 < cLine) (hP : X.prog = P := by rfl) (hw : X.w = w := by rfl) (hK : X.K = K := by rfl) : PSet X (rSetU P w K) := by subst hP hw hK; exact set_U hu
theorem xLen (hP : X.prog = P := by rfl) (hw : X.w = w := by rfl) (hK : X.K = K := by rfl) : CallR X (.builtin "len") (rLenU P w K) := by subst hP hw hK; exact call_lenU
theorem xList (hc : X.calm = true) (hP : X.prog = P := by rfl) (hw : X.w = w := by rfl) (hK : X.K = K := by rfl) : CallR X (.type "list") (rListU P w K) := by subst hP hw hK; exact call_listU hc
theorem xTuple (hK : X.K = K := by rfl) : CallR X (.type "tuple") (rTupleSeq K) := hK ▸ call_tupleU
theorem xDict (hc : X.calm = true) (hu : X.A.units + 64 < cLine) (hP : X.prog = P := by rfl) (hw : X.w = w := by rfl) (hK : X.K = K := by rfl) : CallR X (.type "dict") (rDictL P w K) := by subst hP hw hK; exact call_dictL hc hu
theorem xSum (hc : X.calm = true) (hK : X.K = K := by rfl) : CallR X (.builtin "sum") (rSum K) := hK ▸ cr_sum hc
theorem xAny (hc : X.calm = true) (hK : X.K = K := by rfl) : CallR X (.builtin "any") (rAny K) := hK ▸ cr_any hc
theorem xAll (hc : X.calm = true) (hK : X.K = K := by rfl) : CallR X (.builtin "all") (rAll K) := hK ▸ cr_all hc
theorem xMax (hc : X.calm = true) (hK : X.K = K := by rfl) : CallR X (.builtin "max") (rMax K) := hK ▸ cr_max hc
theorem xSort (hc : X.calm = true) (hw : X.w = w := by rfl) (hK : X.K = K := by rfl) : CallR X (.builtin "sorted") (rSortU w K) := by subst hw hK; exact call_sortU hc
theorem xIsi (hK : X.K = K := by rfl) : CallR X (.builtin "isinstance") (rIsi K) := hK ▸ call_isi
theorem xIsiT (hK : X.K = K := by rfl) : CallR X (.builtin "isinstance") (rIsiT K) := hK ▸ call_isiT
theorem xSl (hK : X.K = K := by rfl) : SlR X (rSlU K) := hK ▸ sl_U
variable {tg e e2 o : Expr} {te te2 to : TE} {ta : TA} {es elts : List Expr} {k kk n : Nat} {pos p apos cpos tpos p1 p2 p3 : Pos}
theorem xTg {t : TGs} (hc : X.calm = true) (h : PGs X es t) (hK : X.K = K := by rfl) (hn : (assignEach es X.env).length = n := by rfl) (hst : (assignEach es X.env).findIdx? (·.1) = none := by rfl) : PG X (.Tuple es k pos) (gTup K n t) := by subst hK; exact pg_tup hc h hn hst
theorem xSeq (h : PE X e te) (hK : X.K = K := by rfl) : PI X tg e (iSeqU K te) := hK ▸ pi_seqU h
theorem xEnum (hg : Gl X "enumerate") (hm : X.mg "enumerate" = none) (ha : PA X [e] ta) (hK : X.K = K := by rfl) (hs : starEach [e] X.env = [(false, eval e X.env)] := by rfl) : PI X (.Tuple elts kk tpos) (.Call (.Name "enumerate" p) [e] [] pos) (iEnumU K ta) := by subst hK; exact pi_enumU hg hm ha hs
theorem xZip (hg : Gl X "zip") (hm : X.mg "zip" = none) (ha : PA X [e, e2] ta) (hK : X.K = K := by rfl) (hs : starEach [e, e2] X.env = (false, eval e X.env) :: starEach [e2] X.env := by rfl) (hpl : (backTo pos (starEach [e2] X.env)).any (·.1) = false := by rfl) :
    PI X (.Tuple elts kk tpos) (.Call (.Name "zip" p) [e, e2] [] pos) (iZipX K ta) := by subst hK; exact pi_zipX hg hm ha hs hpl
theorem xKeysD (h : PE X e te) (hP : X.prog = P := by rfl) (hw : X.w = w := by rfl) : PI X tg e (iKeysD P w te) := by subst hP hw; exact pi_keysD h
theorem xItemsD (h : PE X e te) (hP : X.prog = P := by rfl) (hw : X.w = w := by rfl) (hbase : attributeBase e "items" X.env (eval e X.env) = eval e X.env := by rfl) (hline : (apos.endLine == cpos.line) = true := by rfl) :
    PI X (.Tuple elts kk tpos) (.Call (.Attribute e "items" apos) [] [] cpos) (iItemsD P w te) := by subst hP hw; exact pi_itemsD h hbase hline
theorem xRev (h : PE X e te) (hK : X.K = K := by rfl) : PE X (.Subscript e (.Slice none none (some (.UnaryOp .USub (.Constant (.int 1) k p1) p2)) p3) pos) (tRevL K te) := by subst hK; exact pe_revL h
theorem xStep2 (h : PE X e te) (hK : X.K = K := by rfl) : PE X (.Subscript e (.Slice none none (some (.Constant (.int 2) k p1)) p3) pos) (tStepL K te) := by subst hK; exact pe_step2 h
theorem xNewD (hP : X.prog = P := by rfl) (hw : X.w = w := by rfl) (hK : X.K = K := by rfl) : PE X (.Dict [] [] pos) (tDNewD P w K) := by subst hP hw hK; exact pe_dnewD
theorem xDispD (hu : X.A.units + 64 < cLine) (h : PE X e te) (h2 : PE X e2 te2) (hP : X.prog = P := by rfl) (hw : X.w = w := by rfl) (hK : X.K = K := by rfl) : PE X (.Dict [some e] [e2] pos) (tDispD P w K te te2) := by subst hP hw hK; exact pe_dispD hu h h2
theorem xClearD (h : PE X e te) (hP : X.prog = P := by rfl) (hw : X.w = w := by rfl) (hK : X.K = K := by rfl) (hbase : attributeBase e "clear" X.env (eval e X.env) = eval e X.env := by rfl) (hline : (apos.endLine == cpos.line) = true := by rfl) :
    PE X (.Call (.Attribute e "clear" apos) [] [] cpos) (tClearD P w K te) := by subst hP hw hK; exact pe_clearD h hbase hline
theorem xSet2 (hcd : PySem.W.kdsCode X.K X.env.code = true) (h : PE X e te) (h2 : PE X e2 te2) (hp : [e, e2].all PySem.W.kdsPlain = true) (hw : X.w = w := by rfl) : PE X (.Set [e, e2] 0 pos) (tSet2 w te te2) := by subst hw; exact pe_set2 hcd h h2 hp
theorem xAppend (ho : PE X o to) (ha : PA X [e] ta) (hK : X.K = K := by rfl) (hbase : attributeBase o "append" X.env (eval o X.env) = eval o X.env := by rfl)
    (hfew : ((backTo cpos (starEach [e] X.env)).all (fun x => !x.1) && (backToKw cpos (keywordEach [] X.env)).all (fun x => x.1.isSome) && decide ([e].length + ([] : List Keyword).length + (if ([] : List Keyword).isEmpty then 0 else 1) < 30)) = true := by rfl)
    (hline : (apos.endLine == cpos.line) = true := by rfl) (hs : starEach [e] X.env = (false, eval e X.env) :: starEach [] X.env := by rfl) (hplain : (backTo cpos (starEach [] X.env)).any (·.1) = false := by rfl) :
    PE X (.Call (.Attribute o "append" apos) [e] [] cpos) (tBM K "list" rAppend to ta) := by
  subst hK; exact pe_bm PySem.F.plainAttrs_list PySem.F.slot_list_append PySem.F.type_list_append mt_append ho ha hbase hfew hline hs hplain
theorem xStrIx (ho : PE X o to) (ha : PA X [e] ta) (hK : X.K = K := by rfl) (hbase : attributeBase o "index" X.env (eval o X.env) = eval o X.env := by rfl)
    (hfew : ((backTo cpos (starEach [e] X.env)).all (fun x => !x.1) && (backToKw cpos (keywordEach [] X.env)).all (fun x => x.1.isSome) && decide ([e].length + ([] : List Keyword).length + (if ([] : List Keyword).isEmpty then 0 else 1) < 30)) = true := by rfl)
    (hline : (apos.endLine == cpos.line) = true := by rfl) (hs : starEach [e] X.env = (false, eval e X.env) :: starEach [] X.env := by rfl) (hplain : (backTo cpos (starEach [] X.env)).any (·.1) = false := by rfl) :
    PE X (.Call (.Attribute o "index" apos) [e] [] cpos) (tBM K "str" rStrIx to ta) := by
  subst hK; exact pe_bm PySem.F.plainAttrs_str PySem.F.slot_str_index PySem.F.type_str_index mt_strIx ho ha hbase hfew hline hs hplain
theorem xTupIx (ho : PE X o to) (ha : PA X [e] ta) (hK : X.K = K := by rfl) (hbase : attributeBase o "index" X.env (eval o X.env) = eval o X.env := by rfl)
    (hfew : ((backTo cpos (starEach [e] X.env)).all (fun x => !x.1) && (backToKw cpos (keywordEach [] X.env)).all (fun x => x.1.isSome) && decide ([e].length + ([] : List Keyword).length + (if ([] : List Keyword).isEmpty then 0 else 1) < 30)) = true := by rfl)
    (hline : (apos.endLine == cpos.line) = true := by rfl) (hs : starEach [e] X.env = (false, eval e X.env) :: starEach [] X.env := by rfl) (hplain : (backTo cpos (starEach [] X.env)).any (·.1) = false := by rfl) :
    PE X (.Call (.Attribute o "index" apos) [e] [] cpos) (tBM K "tuple" (rTupIx K) to ta) := by
  subst hK; exact pe_bm PySem.F.plainAttrs_tuple PySem.F.slot_tuple_index PySem.F.type_tuple_index mt_tupIx ho ha hbase hfew hline hs hplain
theorem xListIx (ho : PE X o to) (ha : PA X [e] ta) (hK : X.K = K := by rfl) (hbase : attributeBase o "index" X.env (eval o X.env) = eval o X.env := by rfl)
    (hfew : ((backTo cpos (starEach [e] X.env)).all (fun x => !x.1) && (backToKw cpos (keywordEach [] X.env)).all (fun x => x.1.isSome) && decide ([e].length + ([] : List Keyword).length + (if ([] : List Keyword).isEmpty then 0 else 1) < 30)) = true := by rfl)
    (hline : (apos.endLine == cpos.line) = true := by rfl) (hs : starEach [e] X.env = (false, eval e X.env) :: starEach [] X.env := by rfl) (hplain : (backTo cpos (starEach [] X.env)).any (·.1) = false := by rfl) :
    PE X (.Call (.Attribute o "index" apos) [e] [] cpos) (tBM K "list" (rIndex K) to ta) := by
  subst hK; exact pe_bm PySem.F.plainAttrs_list PySem.F.slot_list_index PySem.F.type_list_index mt_index ho ha hbase hfew hline hs hplain
end
section
variable {K : PySem.W.Frag} {P : Program} {w : World} {G G' : Gam} {σ : L2.St} {H : Hp} {te : TE} {ta : TA} {ds : List D} {EE : Ends} {tb : TS} {g : TG} {a : Addr} {xs : List V}
/-- what a turn wants behind it -/
abbrev turn (Pv : Nat → L2.St → Hp → Prop) (EE : Ends) (i : Nat) : Ends := { EE with nx := Pv (i + 1), ct := Pv (i + 1), bk := EE.nx }
theorem st_range1 {n : Nat} (h : EvA ta G H [aD K (.num n)]) (s : SOk G σ H) (hn : n < 2 ^ 62) (Pv : Nat → L2.St → Hp → Prop) (h0 : ∀ H1, Ex H H1 → Pv 0 σ H1)
    (hs : ∀ i σ H, i < n → Pv i σ H → g (.int (i : Nat)) σ H fun σ2 H2 => tb (turn Pv EE i) σ2 H2) (hd : ∀ σ H, Pv n σ H → EE.nx σ H) : tFor (iRng1 ta) g tb EE σ H :=
  h σ H s (Evl.Ex.refl H) _ fun vs H1 e1 hv => by
    obtain ⟨x, rfl, px⟩ := aall1 hv
    have ex := DIs.num_inv px
    subst ex
    refine ⟨(n : Int), rfl, by omega, by omega, ?_⟩
    rw [Int.toNat_natCast]
    refine for_range Pv (h0 H1 e1) (fun i σ' H' hi p => ?_) hd
    rw [Int.zero_add]
    exact hs i σ' H' hi p
theorem st_range2 {m n : Nat} (h : EvA ta G H [aD K (.num m), aD K (.num n)]) (s : SOk G σ H) (hm : m < 2 ^ 62) (hn : n < 2 ^ 62) (Pv : Nat → L2.St → Hp → Prop) (h0 : ∀ H1, Ex H H1 → Pv 0 σ H1)
    (hs : ∀ i σ H, i < n - m → Pv i σ H → g (.int ((m + i : Nat) : Int)) σ H fun σ2 H2 => tb (turn Pv EE i) σ2 H2) (hd : ∀ σ H, Pv (n - m) σ H → EE.nx σ H) : tFor (iRng2 ta) g tb EE σ H :=
  h σ H s (Evl.Ex.refl H) _ fun vs H1 e1 hv => by
    obtain ⟨x, y, rfl, px, py⟩ := aall2 hv
    have ex := DIs.num_inv px
    have ey := DIs.num_inv py
    subst ex ey
    refine ⟨(m : Int), (n : Int), rfl, ⟨by omega, by omega, by omega, by omega⟩, ?_⟩
    have z : ((n : Int) - (m : Int)).toNat = n - m := by omega
    rw [z]
    refine for_range Pv (h0 H1 e1) (fun i σ' H' hi p => ?_) hd
    have z2 : (m : Int) + (i : Nat) = ((m + i : Nat) : Int) := by omega
    rw [z2]
    exact hs i σ' H' hi p
/-- the turns give the data ds while the tuples stand -/
def EvIT (K : PySem.W.Frag) (wi : TI) (G : Gam) (H : Hp) (ds : List D) : Prop := ∀ σ H1, SOk G σ H1 → Ex H H1 → ∀ R : It → Hp → Prop,
  (∀ J H2 (GJ : Hp → Prop), Ex H1 H2 → Walk J ds.length GJ (fun i H x H' => Ex H H' ∧ ∃ d, ds[i]? = some d ∧ DIs K H' x d) → (∀ H3, TLe H2 H3 → GJ H3) → R J H2) → wi σ H1 R
theorem it_tup (h : EvG te G H (aD K (.tup ds))) : EvIT K (iSeqU K te) G H ds := fun σ H1 s x R q => .inr (h σ H1 s x _ fun v H2 e2 p => by
  obtain ⟨a, xs, hv, hs, hd⟩ := DIs.tup_inv p
  exact ⟨a, hv, ⟨xs, hs⟩, q _ H2 (fun H => SqT K H a xs ∧ DAll K H xs ds) e2 (by
    rw [← hd.length]
    exact walk_tup.mono (fun _ g => g.1) fun i H x H' hi g y => ⟨by rw [y.1]; exact Evl.Ex.refl _, by rw [y.1]; exact g.2.getV y.2⟩) fun H3 e3 => ⟨tle_sqT e3 hs, hd.to e3⟩⟩)
theorem it_enumT (h : EvG te G H (aD K (.tup ds))) : EvIT K (iEnumU K (tCons te tNil)) G H (enumD ds) := fun σ H1 s x R q => .inr (h σ H1 s x _ fun v H2 e2 p => by
  obtain ⟨a, xs, hv, hs, hd⟩ := DIs.tup_inv p
  exact ⟨a, xs, by rw [hv], hs, q _ H2 (fun H => SqT K H a xs ∧ DAll K H xs ds) e2
    (pair_walk (walk_enumT.mono (fun _ g => g.1) fun _ _ _ _ _ _ y => y) (by rw [enumD_length, hd.length]) fun i u v H g hu hv => by
      cases hu
      exact enumD_at g.2 hv) fun H3 e3 => ⟨tle_sqT e3 hs, hd.to e3⟩⟩)
theorem st_for {wi : TI} (h : EvIT K wi G H ds) (s : SOk G σ H) (q : ∀ H1, Ex H H1 → SOk G σ H1 → ∃ Pv : Nat → L2.St → Hp → Prop, Pv 0 σ H1 ∧ (∀ i σ' H', Pv i σ' H' → TLe H1 H') ∧
    (∀ i d x σ' H' H'', ds[i]? = some d → Pv i σ' H' → Ex H' H'' → DIs K H'' x d → g x σ' H'' fun σ2 H2 => tb (turn Pv EE i) σ2 H2) ∧ ∀ σ' H', Pv ds.length σ' H' → EE.nx σ' H') : tFor wi g tb EE σ H :=
  h σ H s (Evl.Ex.refl H) _ fun J H1 GJ e1 wk hGJ => by
    obtain ⟨Pv, h0, ht, hs, hd⟩ := q H1 e1 (s.ex e1)
    refine for_it wk Pv h0 (fun i σ' H' _ p => hGJ H' (ht i σ' H' p)) (fun i x σ' H' H'' hi p ⟨e, d, hd, hx⟩ => hs i d x σ' H' H'' hd p e hx) hd
/-- over a list of data that stands still -/
theorem st_forL (h : EvG te G H (aL K ds)) (s : SOk G σ H) (q : ∀ H1 a xs, Ex H H1 → SOk G σ H1 → SqL K H1 a xs → DAll K H1 xs ds → ∃ Pv : Nat → L2.St → Hp → Prop, Pv 0 σ H1 ∧ (∀ i σ' H', Pv i σ' H' → TLe H1 H' ∧ SqL K H' a xs) ∧
    (∀ i d x σ' H', ds[i]? = some d → Pv i σ' H' → DIs K H' x d → g x σ' H' fun σ2 H2 => tb (turn Pv EE i) σ2 H2) ∧ ∀ σ' H', Pv ds.length σ' H' → EE.nx σ' H') : tFor (iSeqU K te) g tb EE σ H :=
  .inl (h σ H s (Evl.Ex.refl H) _ fun v H1 e1 ⟨a, xs, hv, hsq, hda⟩ => by
    obtain ⟨Pv, h0, ht, hs, hd⟩ := q H1 a xs e1 (s.ex e1) hsq hda
    refine ⟨a, hv, ⟨xs, hsq⟩, ?_⟩
    refine for_list Pv h0 (fun i σ' H' _ p => (ht i σ' H' p).2) (fun i x σ' H' hx p => ?_) (fun σ' H' p => hd σ' H' (by rw [← hda.length]; exact p))
    obtain ⟨d, h1, h2⟩ := hda.getV hx
    exact hs i d x σ' H' h1 p (h2.to (ht i σ' H' p).1))
/-- over a list of whatever stands at a -/
theorem st_forA (h : EvG te G H (aV (.ref a))) (s : SOk G σ H) (hsq : SqL K H a xs) (q : ∀ H1, Ex H H1 → SOk G σ H1 → ∃ Pv : Nat → L2.St → Hp → Prop, Pv 0 σ H1 ∧ (∀ i σ' H', Pv i σ' H' → SqL K H' a xs) ∧
    (∀ i x σ' H', xs[i]? = some x → Pv i σ' H' → g x σ' H' fun σ2 H2 => tb (turn Pv EE i) σ2 H2) ∧ ∀ σ' H', Pv xs.length σ' H' → EE.nx σ' H') : tFor (iSeqU K te) g tb EE σ H :=
  .inl (h σ H s (Evl.Ex.refl H) _ fun v H1 e1 hv => by
    obtain ⟨Pv, h0, ht, hs, hd⟩ := q H1 e1 (s.ex e1)
    exact ⟨a, hv, ⟨xs, Evl.ex_l e1 hsq⟩, for_list Pv h0 (fun i σ' H' _ p => ht i σ' H' p) (fun i x σ' H' hx p => hs i x σ' H' hx p) hd⟩)
theorem SOk.unset {n : Nat} {A : Asr} (h : SOk (G.set n (some A)) σ H) (hn : G[n]? = some none) : SOk G σ H := by
  refine h.weak (by rw [List.length_set]) fun i B hi => ?_
  by_cases e : n = i
  · subst e; rw [hn] at hi; cases hi
  · rw [List.getElem?_set_ne e]; exact hi
/-- less is said -/
inductive GLe : Gam → Gam → Prop
  | nil : GLe [] []
  | non {x : Option Asr} {G' G : Gam} : GLe G' G → GLe (none :: G') (x :: G)
  | som {A : Asr} {G' G : Gam} : GLe G' G → GLe (some A :: G') (some A :: G)
theorem GLe.at_ : ∀ {G' G : Gam}, GLe G' G → G'.length = G.length ∧ ∀ (i : Nat) (A : Asr), G'[i]? = some (some A) → G[i]? = some (some A)
  | _, _, .nil => ⟨rfl, fun _ _ h => h⟩
  | _, _, .non l => ⟨by rw [List.length_cons, List.length_cons, l.at_.1], fun i A h => by
    cases i with
    | zero => simp at h
    | succ i => exact l.at_.2 i A h⟩
  | _, _, .som l => ⟨by rw [List.length_cons, List.length_cons, l.at_.1], fun i A h => by
    cases i with
    | zero => exact h
    | succ i => exact l.at_.2 i A h⟩
theorem SOk.gle (h : SOk G σ H) (l : GLe G' G) : SOk G' σ H := h.weak l.at_.1 l.at_.2
/-- x += e -/
theorem st_aug {n : Nat} {f : Int → Int → Int} {i j : Int} (h : EvG te G H (aD K (.num j))) (s : SOk G σ H) (hn : G[n]? = some (some (aD K (.num i)))) (q : ∀ σ' H', Ex H H' → SOk (G.set n (some (aD K (.num (f i j))))) σ' H' → EE.nx σ' H') (hl : n < G.length := by exact Nat.le_of_ble_eq_true rfl) : tAug n te (ipI f) EE σ H := by
  obtain ⟨x, hx, px⟩ := s.at_ n _ hn
  have ex := DIs.num_inv px
  subst ex
  exact ⟨_, hx, h σ H s (Evl.Ex.refl H) _ fun y H1 e1 p1 => ⟨i, j, rfl, DIs.num_inv p1, q _ _ e1 ((s.ex e1).set n (.int _) hl)⟩⟩
/-- xs, y = a new list, e -/
theorem st_parN {n m : Nat} {te te2 : TE} {B : Asr} (h : EvN K te G H ds) (h2 : EvG te2 G H B) (s : SOk G σ H) (q : ∀ p σ' H', H p = none → Ex H H' → SOk ((G.set n (some (aV (.ref p)))).set m (some B)) σ' H' → WL K H' p ds → EE.nx σ' H')
    (hn : n < G.length := by exact Nat.le_of_ble_eq_true rfl) (hm : m < G.length := by exact Nat.le_of_ble_eq_true rfl) : tPar n m (tCons te (tCons te2 tNil)) EE σ H :=
  h σ H s (Evl.Ex.refl H) _ fun p xs H1 np e1 h1 d1 => h2 σ H1 (s.ex e1) e1 _ fun v H2 e2 p2 =>
    ⟨.ref p, v, rfl, q p _ H2 np (e1.trans e2) (((s.ex (e1.trans e2)).set n (A := aV (.ref p)) rfl hn).set m p2 (by rw [List.length_set]; exact hm)) ⟨xs, e2 _ _ h1, d1.ex e2⟩⟩
theorem list_step {α : Type} (f : α → α) {xs : List α} {i : Nat} (h : i < xs.length) : ((xs.take i).map f ++ xs.drop i).set i (f xs[i]) = (xs.take (i + 1)).map f ++ xs.drop (i + 1) := by
  have l : ((xs.take i).map f).length = i := by rw [List.length_map, List.length_take]; omega
  rw [List.set_append_right _ _ (by omega), l, Nat.sub_self, List.drop_eq_getElem_cons h, List.set_cons_zero]
  rw [List.take_succ, List.getElem?_eq_getElem h, List.map_append, List.append_assoc]
  rfl
theorem list_at {α : Type} (f : α → α) {xs : List α} {i : Nat} (h : i < xs.length) : ((xs.take i).map f ++ xs.drop i)[i]? = some xs[i] := by
  have l : ((xs.take i).map f).length = i := by rw [List.length_map, List.length_take]; omega
  rw [List.getElem?_append_right (by omega), l, Nat.sub_self, List.getElem?_drop, Nat.add_zero, List.getElem?_eq_getElem h]
theorem list_len {α : Type} (f : α → α) {xs : List α} {i : Nat} (h : i ≤ xs.length) : ((xs.take i).map f ++ xs.drop i).length = xs.length := by
  rw [List.length_append, List.length_map, List.length_take, List.length_drop]; omega
end
/-- an instance of Program with that plain program -/
def aPrg (K : PySem.W.Frag) (ad : Ads) (p : Pln) : Asr := ⟨fun v H => ∃ a dx rv, v = .ref a ∧ H a = some (.ins ad.program dx [("wide", .int p.wide), ("count", .int p.many), ("rows", rv)]) ∧ DIs K H rv (.tup (p.steps.map encT)),
  fun e ⟨a, dx, rv, h1, h2, h3⟩ => ⟨a, dx, rv, h1, e _ _ h2, h3.ex e⟩⟩
section
variable {K : PySem.W.Frag} {ad : Ads} {p : Pln} {G : Gam} {H : Hp} {te : TE}
theorem aPrg_st : (aPrg K ad p).St := fun v H H' t ⟨a, dx, rv, h1, h2, h3⟩ => ⟨a, dx, rv, h1, t.i _ _ _ _ h2, h3.to t⟩
theorem aPrg_le : (aPrg K ad p).Le := fun v H H' t ⟨a, dx, rv, h1, h2, h3⟩ => ⟨a, dx, rv, h1, t.ins _ _ _ _ h2, h3.to t.t⟩
theorem ev_progSteps (h : EvG te G H (aPrg K ad p)) : EvG (tProp ad.program (getSp ad.program "rows") [] E0 te) G H (aD K (.tup (p.steps.map encT))) := fun σ H1 s x Q q => h σ H1 s x _ fun v H2 e2 ⟨a, dx, rv, h1, h2, h3⟩ =>
  ⟨a, dx, _, h1, h2, a, dx, _, rv, rfl, h2, rfl, q rv H2 e2 h3⟩
theorem ev_progWidth (h : EvG te G H (aPrg K ad p)) : EvG (tProp ad.program (getSp ad.program "wide") [] E0 te) G H (aD K (natD p.wide)) := fun σ H1 s x Q q => h σ H1 s x _ fun v H2 e2 ⟨a, dx, rv, h1, h2, h3⟩ =>
  ⟨a, dx, _, h1, h2, a, dx, _, .int p.wide, rfl, h2, rfl, q _ H2 e2 (.int _)⟩
theorem ev_progMany (h : EvG te G H (aPrg K ad p)) : EvG (tProp ad.program (getSp ad.program "count") [] E0 te) G H (aD K (natD p.many)) := fun σ H1 s x Q q => h σ H1 s x _ fun v H2 e2 ⟨a, dx, rv, h1, h2, h3⟩ =>
  ⟨a, dx, _, h1, h2, a, dx, _, .int p.many, rfl, h2, rfl, q _ H2 e2 (.int _)⟩
end
theorem scW : FnScope ["self"] ["self"] (defScope (methS 15 2)) := ⟨rfl, rfl, rfl, by decide +kernel, rfl, by decide +kernel, by decide +kernel⟩
theorem scM : FnScope ["self"] ["self"] (defScope (methS 15 3)) := ⟨rfl, rfl, rfl, by decide +kernel, rfl, by decide +kernel, by decide +kernel⟩
theorem scS : FnScope ["self"] ["self"] (defScope (methS 15 4)) := ⟨rfl, rfl, rfl, by decide +kernel, rfl, by decide +kernel, by decide +kernel⟩
section
variable {X : Cx} {e : Expr} {te : TE} {pos : Pos} {ad : Ads} {k : Nat}
theorem pe_prog_steps (fx : Fx X.K X.mg ad) (hr : Room 2 X.A) (he : PE X e te) (hab : attributeBase e "steps" X.env (eval e X.env) = eval e X.env := by rfl) : PE X (.Attribute e "steps" pos) (tProp ad.program (getSp ad.program "rows") [] E0 te) := by
  obtain ⟨p, g, fd, hp, F⟩ := fx.p_steps
  have b := F.bindsN (ps := ["self"]) fun _ _ _ _ _ _ us hl => match us, hl with | [_], _ => rfl
  obtain ⟨oc, od, dV, kV, doc, pm, an, cdv, ct, osl, rfl, lk, hcd, _, _⟩ := F.ex
  exact pe_prop he fx.c_program hp (fn_getter (CX := CX0) (k := 0) lk hcd scS rfl rfl fx.c_program fx.n_program.2.2) hr b .nil (pass0 (X := X.nox)) hab
theorem pe_prog_width (fx : Fx X.K X.mg ad) (hr : Room 2 X.A) (he : PE X e te) (hab : attributeBase e "width" X.env (eval e X.env) = eval e X.env := by rfl) : PE X (.Attribute e "width" pos) (tProp ad.program (getSp ad.program "wide") [] E0 te) := by
  obtain ⟨p, g, fd, hp, F⟩ := fx.p_width
  have b := F.bindsN (ps := ["self"]) fun _ _ _ _ _ _ us hl => match us, hl with | [_], _ => rfl
  obtain ⟨oc, od, dV, kV, doc, pm, an, cdv, ct, osl, rfl, lk, hcd, _, _⟩ := F.ex
  exact pe_prop he fx.c_program hp (fn_getter (CX := CX0) (k := 0) lk hcd scW rfl rfl fx.c_program fx.n_program.1) hr b .nil (pass0 (X := X.nox)) hab
theorem pe_prog_many (fx : Fx X.K X.mg ad) (hr : Room 2 X.A) (he : PE X e te) (hab : attributeBase e "many" X.env (eval e X.env) = eval e X.env := by rfl) : PE X (.Attribute e "many" pos) (tProp ad.program (getSp ad.program "count") [] E0 te) := by
  obtain ⟨p, g, fd, hp, F⟩ := fx.p_many
  have b := F.bindsN (ps := ["self"]) fun _ _ _ _ _ _ us hl => match us, hl with | [_], _ => rfl
  obtain ⟨oc, od, dV, kV, doc, pm, an, cdv, ct, osl, rfl, lk, hcd, _, _⟩ := F.ex
  exact pe_prop he fx.c_program hp (fn_getter (CX := CX0) (k := 0) lk hcd scM rfl rfl fx.c_program fx.n_program.2.1) hr b .nil (pass0 (X := X.nox)) hab
end
section
variable {K : PySem.W.Frag} {P : Program} {w : World} {G : Gam} {σ : L2.St} {H H1 : Hp} {nd : Addr} {kvs : List (Int × V)} {d : D} {te ti to ta tb : TE} {EE : Ends} {i : Int} {v : V} {n : Nat}
theorem dget_K (h : H nd = some (.dK (intK kvs))) : DGet H nd (.int i) (valV kvs i) := by
  have := DGet.k (k := Sum.inl i) h
  rw [valV_intK] at this
  exact this
theorem ev_inK (h : H nd = some (.dK (intK kvs))) (ha : EvG ta G H (aD K (.num i))) (hb : EvG tb G H (aV (.ref nd))) : EvG (tOp (rInU P w K) ta tb) G H (aB (valV kvs i).isSome) := ev_op ha hb (rg_or2 (rg_or1 fun H1 ex x y hx hy Q q => by
  have e := DIs.num_inv hx
  subst e
  exact ⟨nd, _, hy, dget_K (ex _ _ h), q _ H1 (Evl.Ex.refl H1) rfl⟩))
theorem ev_notInK (h : H nd = some (.dK (intK kvs))) (ha : EvG ta G H (aD K (.num i))) (hb : EvG tb G H (aV (.ref nd))) : EvG (tOp (rNotInU P w K) ta tb) G H (aB (!(valV kvs i).isSome)) := ev_op ha hb (rg_or2 (rg_or1 fun H1 ex x y hx hy Q q => by
  have e := DIs.num_inv hx
  subst e
  exact ⟨nd, _, hy, dget_K (ex _ _ h), q _ H1 (Evl.Ex.refl H1) rfl⟩))
theorem ev_getK (h : H nd = some (.dK (intK kvs))) (ha : EvG ta G H (aV (.ref nd))) (hb : EvG tb G H (aD K (.num i))) (hv : valV kvs i = some v) : EvG (tOp (rIxU P w K) ta tb) G H (aV v) := ev_op ha hb (rg_or2 (rg_or1 fun H1 ex x y hx hy Q q => by
  have e := DIs.num_inv hy
  subst e
  have g := dget_K (i := i) (ex _ _ h)
  rw [hv] at g
  exact ⟨nd, v, hx, g, q _ H1 (Evl.Ex.refl H1) rfl⟩))
theorem ev_lenK (h : H nd = some (.dK (intK kvs))) (ha : EvG ta G H (aV (.ref nd))) : EvG (tCB (rLenU P w K) (tCons ta tNil)) G H (aD K (.num kvs.length)) := ev_cb (ea_one ha) (rc_or2 (rc_or2 (rc_or1 fun H1 ex vs hv Q q => by
  obtain ⟨x, rfl, hx⟩ := aall1 hv
  have e : x = .ref nd := hx
  subst e
  refine ⟨nd, _, rfl, ex _ _ h, q _ H1 (Evl.Ex.refl H1) ?_⟩
  unfold intK
  rw [List.length_map]
  exact .int _)))
/-- d[i] = e, an int -/
theorem st_setK {j : Int} (hd : H nd = some (.dK (intK kvs))) (h : EvG te G H (aD K (.num j))) (ho : EvG to G H (aV (.ref nd))) (hi : EvG ti G H (aD K (.num i))) (s : SOk G σ H) (hl : kvs.length < 100000)
    (q : ∀ H', Frs [nd] H H' → SOk G σ H' → H' nd = some (.dK (intK (putK kvs i (.int j)))) → EE.nx σ H') (hs : ∀ A, some A ∈ G → A.St) : tAsg te (gSub to ti (rSetU P w K)) EE σ H :=
  h σ H s (Evl.Ex.refl H) _ fun y H1 e1 p1 => ho σ H1 (s.ex e1) e1 _ fun u H2 e2 p2 => hi σ H2 (s.ex (e1.trans e2)) (e1.trans e2) _ fun z H3 e3 p3 => by
    have eu : u = .ref nd := p2
    have ez := DIs.num_inv p3
    have ey := DIs.num_inv p1
    subst eu ez ey
    have e13 := (e1.trans e2).trans e3
    have h3 := e13 _ _ hd
    have hlen : (intK kvs).length < sizeLine := Evl.sz_lt (by unfold intK; rw [List.length_map]; exact hl)
    have pt := DPut.k (k := Sum.inl i) (v := V.int j) h3 hlen
    rw [putK_intK] at pt
    have f : Frs [nd] H (L2.upd H3 nd (.dK (intK (putK kvs i (.int j))))) := (Frs.ex e13).upd (by simp) h3 rfl
    exact .inr (.inl ⟨nd, _, rfl, pt, q _ f (s.frs f hs) upd_same⟩)
theorem st_newK (s : SOk G σ H) (q : ∀ p σ' H', H p = none → Ex H H' → SOk (G.set n (some (aV (.ref p)))) σ' H' → H' p = some (.dK (intK [])) → EE.nx σ' H') (hn : n < G.length := by exact Nat.le_of_ble_eq_true rfl) : tAsg tDNewK (gName n) EE σ H := fun p hp =>
  q p _ _ hp (Evl.Ex.new hp) ((s.ex (Evl.Ex.new hp)).set n rfl hn) upd_same
end
def ordK (o : List Nat) : List (Int × V) := o.zipIdx.map fun q => ((q.1 : Int), V.int (q.2 : Nat))
theorem ordK_snoc (o : List Nat) (n : Nat) : ordK (o ++ [n]) = ordK o ++ [((n : Int), V.int (o.length : Nat))] := by
  unfold ordK
  rw [List.zipIdx_append, List.map_append]
  simp
theorem ordK_length (o : List Nat) : (ordK o).length = o.length := by unfold ordK; simp
theorem valV_zip (n : Nat) : ∀ (o : List Nat) (k : Nat), valV ((o.zipIdx k).map fun q => ((q.1 : Int), V.int (q.2 : Nat))) (n : Int) = if n ∈ o then some (.int ((k + o.idxOf n : Nat) : Int)) else none
  | [], _ => by simp [valV]
  | m :: o, k => by
    rw [List.zipIdx_cons, List.map_cons]
    by_cases e : m = n
    · subst e
      rw [valV_pos rfl, if_pos List.mem_cons_self, List.idxOf_cons_self]
      rfl
    · rw [valV_neg (fun z => e (by have : (m : Int) = n := z; omega)), valV_zip n o (k + 1)]
      have e2 : ¬ n = m := fun z => e z.symm
      by_cases h : n ∈ o
      · rw [if_pos h, if_pos (List.mem_cons_of_mem _ h)]
        have z : (m :: o).idxOf n = o.idxOf n + 1 := by
          rw [List.idxOf_cons, show (m == n) = false from beq_eq_false_iff_ne.mpr e]; rfl
        rw [z]
        congr 2
        omega
      · rw [if_neg h, if_neg (by simp [h, e2])]
theorem valV_ord (n : Nat) (o : List Nat) : valV (ordK o) (n : Int) = if n ∈ o then some (.int ((o.idxOf n : Nat) : Int)) else none := by
  have := valV_zip n o 0
  rw [Nat.zero_add] at this
  exact this
theorem putK_new {kvs : List (Int × V)} {i : Int} {v : V} (h : valV kvs i = none) : putK kvs i v = kvs ++ [(i, v)] := by
  unfold putK
  rw [if_neg]
  rw [valV_any, h]
  simp
theorem orderOf_append : ∀ (a b : List (Option Pc)) (acc : List Nat), orderOf (a ++ b) acc = orderOf b (orderOf a acc)
  | [], _, _ => rfl
  | none :: a, b, acc => orderOf_append a b acc
  | some (n, f, l) :: a, b, acc => orderOf_append a b _
/-- the order so far -/
def ordTo (h : List (Option Pc)) (i : Nat) : List Nat := orderOf (h.take i) []
theorem ordTo_none {h : List (Option Pc)} {i : Nat} (e : h[i]? = some none) : ordTo h (i + 1) = ordTo h i := by
  unfold ordTo
  rw [List.take_succ, e, orderOf_append]; rfl
theorem ordTo_some {h : List (Option Pc)} {i n f l : Nat} (e : h[i]? = some (some (n, f, l))) : ordTo h (i + 1) = if n ∈ ordTo h i then ordTo h i else ordTo h i ++ [n] := by
  unfold ordTo
  rw [List.take_succ, e, orderOf_append]; rfl
theorem ordTo_all (h : List (Option Pc)) : ordTo h h.length = ordOf h := by unfold ordTo ordOf; rw [List.take_length]
theorem mem_order : ∀ (h : List (Option Pc)) (acc : List Nat) (n : Nat), n ∈ orderOf h acc ↔ n ∈ acc ∨ ∃ f l, some (n, f, l) ∈ h
  | [], acc, n => by simp [orderOf]
  | none :: h, acc, n => by
    show n ∈ orderOf h acc ↔ _
    rw [mem_order h acc n]
    simp
  | some (m, f, l) :: h, acc, n => by
    show n ∈ orderOf h (if m ∈ acc then acc else acc ++ [m]) ↔ _
    rw [mem_order h _ n]
    have z : n ∈ (if m ∈ acc then acc else acc ++ [m]) ↔ n ∈ acc ∨ n = m := by
      split
      · rename_i hm
        constructor
        · exact .inl
        · rintro (q | q)
          · exact q
          · exact q ▸ hm
      · simp
    rw [z]
    constructor
    · rintro ((q | q) | ⟨f', l', q⟩)
      · exact .inl q
      · exact .inr ⟨f, l, by rw [q]; exact List.mem_cons_self⟩
      · exact .inr ⟨f', l', List.mem_cons_of_mem _ q⟩
    · rintro (q | ⟨f', l', q⟩)
      · exact .inl (.inl q)
      · rcases List.mem_cons.mp q with q | q
        · have e : n = m := by injection q with q; exact congrArg Prod.fst q
          exact .inl (.inr e)
        · exact .inr ⟨f', l', q⟩
theorem mem_ordOf (h : List (Option Pc)) (n : Nat) : n ∈ ordOf h ↔ ∃ f l, some (n, f, l) ∈ h := by
  unfold ordOf
  rw [mem_order]
  simp
theorem order_nodup : ∀ (h : List (Option Pc)) (acc : List Nat), acc.Nodup → (orderOf h acc).Nodup
  | [], _, q => q
  | none :: h, acc, q => order_nodup h acc q
  | some (m, f, l) :: h, acc, q => by
    refine order_nodup h _ ?_
    split
    · exact q
    · rename_i hm
      rw [List.nodup_append]
      exact ⟨q, by simp, fun a ha b hb => by rw [List.mem_singleton.mp hb]; exact fun z => hm (z ▸ ha)⟩
theorem ordOf_nodup (h : List (Option Pc)) : (ordOf h).Nodup := order_nodup h [] List.nodup_nil
theorem order_len : ∀ (h : List (Option Pc)) (acc : List Nat), (orderOf h acc).length ≤ acc.length + h.length
  | [], _ => Nat.le_refl _
  | none :: h, acc => by
    have := order_len h acc
    show (orderOf h acc).length ≤ _
    rw [List.length_cons]; omega
  | some (m, f, l) :: h, acc => by
    have := order_len h (if m ∈ acc then acc else acc ++ [m])
    show (orderOf h (if m ∈ acc then acc else acc ++ [m])).length ≤ _
    rw [List.length_cons]
    have : (if m ∈ acc then acc else acc ++ [m]).length ≤ acc.length + 1 := by split <;> simp
    omega
theorem ordTo_len (h : List (Option Pc)) (i : Nat) : (ordTo h i).length ≤ i := by
  have := order_len (h.take i) []
  have := List.length_take_le i h
  unfold ordTo
  simp at *
  omega
theorem enumD_B (bs : List Blk) : enumD (bs.map encB) = (List.range bs.length).map fun i : Nat => .tup [.num i, encB (bs.getD i (0, []))] := by
  unfold enumD
  rw [List.length_map]
  refine List.map_congr_left fun i hi => ?_
  have hl := List.mem_range.mp hi
  simp [List.getD, hl]
theorem sum_cast {α : Type} (f : α → Nat) (g : α → Int) : ∀ xs : List α, (∀ x ∈ xs, g x = f x) → (xs.map g).sum = (((xs.map f).sum : Nat) : Int)
  | [], _ => rfl
  | x :: xs, h => by
    rw [List.map_cons, List.map_cons, List.sum_cons, List.sum_cons, sum_cast f g xs fun y hy => h y (List.mem_cons_of_mem _ hy), h x List.mem_cons_self]
    omega
theorem getB {bs : List Blk} {n : Nat} (h : n < bs.length) : bs.getD n (0, []) = bs[n] := by simp [List.getD, h]
theorem blkSize_at {bs : List Blk} {n : Nat} (h : n < bs.length) : blkSize bs n = bs[n].1 := by unfold blkSize; rw [getB h]
/-- pieces stand where sizes stay -/
theorem PcOk.to {bs bs' : List Blk} {q : Pc} (h : PcOk bs q) (hl : bs.length ≤ bs'.length) (hs : ∀ n, n < bs.length → blkSize bs' n = blkSize bs n) : PcOk bs' q :=
  ⟨Nat.lt_of_lt_of_le h.n hl, h.fl, by rw [hs _ h.n]; exact h.l⟩
theorem blkSize_app {bs : List Blk} {b : Blk} {n : Nat} (h : n < bs.length) : blkSize (bs ++ [b]) n = blkSize bs n := by
  unfold blkSize
  rw [List.getD_eq_getElem?_getD, List.getD_eq_getElem?_getD, List.getElem?_append_left h]
section
variable {w c : Nat} {h : List (Option Pc)} {bs : List Blk} {size a : Nat}
/-- a new piece and its blocks are good -/
structure Good (w : Nat) (bs : List Blk) (r : Option Pc × List Blk) : Prop where
  le : bs.length ≤ r.2.length
  le1 : r.2.length ≤ bs.length + 1
  same : ∀ n, n < bs.length → blkSize r.2 n = blkSize bs n
  bk : ∀ b ∈ r.2, BlkOk1 w b
  pc : ∀ q, r.1 = some q → PcOk r.2 q
theorem good_same {p : Option Pc} (hb : ∀ b ∈ bs, BlkOk1 w b) (hp : ∀ q, p = some q → PcOk bs q) : Good w bs (p, bs) := ⟨Nat.le_refl _, Nat.le_succ _, fun _ _ => rfl, hb, hp⟩
theorem good_fresh (hb : ∀ b ∈ bs, BlkOk1 w b) (h1 : 1 ≤ size) (hw : size ≤ w) : Good w bs (freshP size bs) := by
  have e : freshP size bs = (some (bs.length, 0, size), bs ++ [(size, [])]) := by unfold freshP; rw [if_neg (by omega)]
  rw [e]
  refine ⟨by simp, by simp, fun n hn => blkSize_app hn, fun b hm => ?_, fun q hq => ?_⟩
  · rcases List.mem_append.mp hm with z | z
    · exact hb b z
    · rw [List.mem_singleton.mp z]
      exact ⟨h1, hw, (fun x hx => by cases hx), .nil⟩
  · cases hq
    refine ⟨by simp, h1, ?_⟩
    unfold blkSize
    simp [List.getD]
theorem getP_mem {q : Pc} (e : getP h a = some q) : some q ∈ h := by
  unfold getP at e
  rw [List.getD_eq_getElem?_getD] at e
  cases z : h[a]? with
  | none => rw [z] at e; cases e
  | some p =>
    rw [z] at e
    have e2 : p = some q := e
    exact e2 ▸ List.mem_of_getElem? z
theorem part_ok {p : Option Pc} {b e : Nat} (hp : ∀ q, p = some q → PcOk bs q) : ∀ q, part p b e = some q → PcOk bs q := fun q hq => by
  cases p with
  | none => cases hq
  | some pc =>
    obtain ⟨n, f, l⟩ := pc
    have k := hp _ rfl
    have k1 : n < bs.length := k.n
    have k2 : f < l := k.fl
    have k3 : l ≤ blkSize bs n := k.l
    unfold part at hq
    dsimp only at hq
    split at hq
    · rename_i hc
      cases hq
      exact ⟨k1, hc, Nat.le_trans (by show min (f + e) l ≤ l; omega) k3⟩
    · cases hq
theorem good_join {p q : Option Pc} (hb : ∀ b ∈ bs, BlkOk1 w b) (hw : 1 ≤ w) (hp : ∀ x, p = some x → PcOk bs x) (hq : ∀ x, q = some x → PcOk bs x) : Good w bs (joinP p q w bs) := by
  match p, q with
  | none, q => exact good_same hb hq
  | some p, none => exact good_same hb hp
  | some (n, f, l), some (n', f', l') =>
    have k := hp _ rfl
    have k' := hq _ rfl
    have a1 : f < l := k.fl
    have a2 : f' < l' := k'.fl
    by_cases e : n = n' ∧ l = f'
    · have er : joinP (some (n, f, l)) (some (n', f', l')) w bs = (some (n, f, l'), bs) := if_pos e
      rw [er]
      refine good_same hb fun x hx => ?_
      cases hx
      obtain ⟨rfl, rfl⟩ := e
      exact ⟨k.n, by show f < l'; omega, k'.l⟩
    · have er : joinP (some (n, f, l)) (some (n', f', l')) w bs = freshP (min w ((l - f) + (l' - f'))) bs := if_neg e
      rw [er]
      exact good_fresh hb (by omega) (by omega)
theorem good_made {t : Stp} (hm : t.makes = true) (hok : t.Ok w c 12) (k : HBOk w c h bs) (hw : 1 ≤ w) : Good w bs (madeP t w h bs) := by
  have hp : ∀ a q, getP h a = some q → PcOk bs q := fun a q e => k.pc q (getP_mem e)
  cases t with
  | read a n => exact good_fresh k.bk hok.2.1 hok.2.2
  | drop a => exact good_same k.bk fun q e => by cases e
  | cut a b i j => exact good_same k.bk (part_ok (hp b))
  | join a b d => exact good_join k.bk hw (hp b) (hp d)
  | tight a b =>
    unfold madeP
    dsimp only
    split
    · exact good_same k.bk (hp b)
    · rename_i hc
      cases e : getP h b with
      | none => rw [e] at hc; exact absurd rfl hc
      | some q =>
        obtain ⟨n, f, l⟩ := q
        have q1 := hp b _ e
        have a1 : f < l := q1.fl
        have a2 : l ≤ blkSize bs n := q1.l
        have a3 : n < bs.length := q1.n
        have := (k.bk _ (List.getElem_mem a3)).sw
        rw [blkSize_at a3] at a2
        exact good_fresh k.bk (by show 1 ≤ l - f; omega) (by show l - f ≤ w; omega)
  | move a b => exact good_same k.bk (hp b)
  | _ => cases hm
theorem put_ok {r : Option Pc × List Blk} (k : HBOk w c h bs) (g : Good w bs r) : HBOk w c (putP h a r).1 (putP h a r).2 := by
  refine ⟨by unfold putP; rw [List.length_set]; exact k.len, fun q hq => ?_, g.bk⟩
  rcases List.mem_or_eq_of_mem_set hq with z | z
  · exact (k.pc q z).to g.le g.same
  · exact g.pc q z.symm
theorem shelve_ok {q : Pc} (k : HBOk w c h bs) (hq : PcOk bs q) : HBOk w c h (shelve bs q) ∧ (shelve bs q).length = bs.length := by
  obtain ⟨n, f, l⟩ := q
  have hn : n < bs.length := hq.n
  have e : shelve bs (n, f, l) = bs.set n (blkSize bs n, (List.range (blkSize bs n)).filter fun x => decide (x ∈ (bs.getD n (0, [])).2) || (decide (f ≤ x) && decide (x < l))) := rfl
  rw [e]
  have sz : ∀ m, m < bs.length → blkSize (bs.set n (blkSize bs n, (List.range (blkSize bs n)).filter fun x => decide (x ∈ (bs.getD n (0, [])).2) || (decide (f ≤ x) && decide (x < l)))) m = blkSize bs m := fun m hm => by
    by_cases z : n = m
    · subst z
      unfold blkSize
      rw [List.getD_eq_getElem?_getD, List.getElem?_set_self hn]
      rfl
    · unfold blkSize
      rw [List.getD_eq_getElem?_getD, List.getElem?_set_ne z, ← List.getD_eq_getElem?_getD]
  refine ⟨⟨k.len, fun q hq => (k.pc q hq).to (by rw [List.length_set]; exact Nat.le_refl _) sz, fun b hb => ?_⟩, List.length_set⟩
  rcases List.mem_or_eq_of_mem_set hb with z | z
  · exact k.bk b z
  · subst z
    have kb := k.bk _ (List.getElem_mem hn)
    rw [blkSize_at hn]
    exact ⟨kb.s1, kb.sw, fun x hx => List.mem_range.mp (List.mem_filter.mp hx).1, List.Pairwise.filter _ List.pairwise_lt_range⟩
theorem act_ok {t : Stp} (hok : t.Ok w c 12) (k : HBOk w c h bs) (hw : 1 ≤ w) : HBOk w c (actP t w h bs).1 (actP t w h bs).2 ∧ (actP t w h bs).2.length ≤ bs.length + 1 := by
  cases t with
  | clear =>
    have sz : ∀ m, m < bs.length → blkSize (bs.map fun b => (b.1, ([] : List Nat))) m = blkSize bs m := fun m hm => by
      unfold blkSize
      rw [List.getD_eq_getElem?_getD, List.getElem?_map, List.getElem?_eq_getElem hm, getB hm]
      rfl
    refine ⟨⟨k.len, fun q hq => (k.pc q hq).to (by show bs.length ≤ (bs.map _).length; rw [List.length_map]; exact Nat.le_refl _) sz, fun b hb => ?_⟩, by show (bs.map _).length ≤ _; rw [List.length_map]; omega⟩
    obtain ⟨b', hb', rfl⟩ := List.mem_map.mp hb
    have kb := k.bk b' hb'
    exact ⟨kb.s1, kb.sw, (fun x hx => by cases hx), .nil⟩
  | tell a => exact ⟨k, Nat.le_succ _⟩
  | ask p => exact ⟨k, Nat.le_succ _⟩
  | void a p => exact ⟨k, Nat.le_succ _⟩
  | jump p => exact ⟨k, Nat.le_succ _⟩
  | keep a =>
    have e0 : actP (.keep a) w h bs = (match getP h a with
      | none => (h, bs)
      | some p => (h, shelve bs p)) := rfl
    rw [e0]
    cases e : getP h a with
    | none => exact ⟨k, Nat.le_succ _⟩
    | some q =>
      obtain ⟨z1, z2⟩ := shelve_ok k (k.pc q (getP_mem e))
      exact ⟨z1, by show (shelve bs q).length ≤ _; omega⟩
  | pack a =>
    have e0 : actP (.pack a) w h bs = (match getP h a with
      | none => (h, bs)
      | some p => if isWhole (some p) bs then (h, shelve bs p) else (h, bs)) := rfl
    rw [e0]
    cases e : getP h a with
    | none => exact ⟨k, Nat.le_succ _⟩
    | some q =>
      obtain ⟨z1, z2⟩ := shelve_ok k (k.pc q (getP_mem e))
      dsimp only
      split
      · exact ⟨z1, by show (shelve bs q).length ≤ _; omega⟩
      · exact ⟨k, Nat.le_succ _⟩
  | read a n =>
    have g := good_made (t := .read a n) rfl hok k hw
    exact ⟨put_ok k g, g.le1⟩
  | drop a =>
    have g := good_made (t := .drop a) rfl hok k hw
    exact ⟨put_ok k g, g.le1⟩
  | cut a b i j =>
    have g := good_made (t := .cut a b i j) rfl hok k hw
    exact ⟨put_ok k g, g.le1⟩
  | join a b d =>
    have g := good_made (t := .join a b d) rfl hok k hw
    exact ⟨put_ok k g, g.le1⟩
  | tight a b =>
    have g := good_made (t := .tight a b) rfl hok k hw
    exact ⟨put_ok k g, g.le1⟩
  | move a b =>
    have g := good_made (t := .move a b) rfl hok k hw
    exact ⟨put_ok k g, g.le1⟩
theorem asc_len {n : Nat} : ∀ {xs : List Nat}, xs.Pairwise (· < ·) → (∀ x ∈ xs, x < n) → xs.length ≤ n := by
  intro xs hp hn
  have hnd : xs.Nodup := hp.imp fun h => Nat.ne_of_lt h
  have hs : xs ⊆ List.range n := fun x hx => List.mem_range.mpr (hn x hx)
  have := hnd.length_le_of_subset hs
  rwa [List.length_range] at this
theorem BlkOk1.cl {b : Blk} (k : BlkOk1 w b) : b.2.length ≤ b.1 := asc_len k.asc k.lt
end
theorem settle_ok {p : Pln} {i : Nat} {h : List (Option Pc)} {bs : List Blk} (hi : i ≤ p.steps.length) (k : HBOk p.wide p.many h bs) : SOk1 p (settle i h bs).1 := by
  have hlen : (ordOf h).length ≤ p.many := by
    have := order_len h []
    rw [k.len] at this
    unfold ordOf
    simpa using this
  have hget : ∀ j (hj : j < (ordOf h).length), (ordOf h)[j] < bs.length := fun j hj => by
    obtain ⟨f, l, hm⟩ := (mem_ordOf h _).mp (List.getElem_mem hj)
    exact (k.pc _ hm).n
  refine ⟨hi, ⟨by show (h.map _).length = _; rw [List.length_map]; exact k.len, fun q hq => ?_, fun b hb => ?_⟩, by show ((ordOf h).map _).length ≤ _; rw [List.length_map]; exact hlen⟩
  · obtain ⟨q', hq', e⟩ := List.mem_map.mp hq
    cases q' with
    | none => cases e
    | some pc =>
      obtain ⟨n, f, l⟩ := pc
      have e2 : (n, f, l) = (n, f, l) := rfl
      have e3 : some ((ordOf h).idxOf n, f, l) = some q := e
      cases e3
      have kq := k.pc _ hq'
      have hm : n ∈ ordOf h := (mem_ordOf h n).mpr ⟨f, l, hq'⟩
      have hlt := List.idxOf_lt_length_of_mem hm
      refine ⟨by show (ordOf h).idxOf n < ((ordOf h).map _).length; rw [List.length_map]; exact hlt, kq.fl, ?_⟩
      have eb : blkSize ((ordOf h).map fun n => bs.getD n (0, [])) ((ordOf h).idxOf n) = blkSize bs n := by
        unfold blkSize
        rw [List.getD_eq_getElem?_getD, List.getElem?_map, List.getElem?_eq_getElem hlt]
        rw [List.getElem_idxOf hlt]
        rfl
      show l ≤ blkSize ((ordOf h).map fun n => bs.getD n (0, [])) ((ordOf h).idxOf n)
      rw [eb]
      exact kq.l
  · obtain ⟨n, hn, rfl⟩ := List.mem_map.mp hb
    obtain ⟨f, l, hm⟩ := (mem_ordOf h _).mp hn
    have hlt := (k.pc _ hm).n
    have hlt : n < bs.length := hlt
    rw [getB hlt]
    exact k.bk _ (List.getElem_mem hlt)
theorem turns_le {t : Stp} {i n w c : Nat} {h : List (Option Pc)} (hok : t.Ok w c n) (hi : i < n) : ∀ x ∈ turnsP t i h, x ≤ n := fun x hx => by
  cases t with
  | jump p =>
    have : x = p := by simpa [turnsP] using hx
    have : p ≤ n := hok
    omega
  | ask p =>
    have h2 : p ≤ n := hok
    unfold turnsP at hx
    dsimp only at hx
    split at hx
    · simp at hx; omega
    · split at hx <;> simp at hx <;> omega
  | void a p =>
    have h2 := hok.2
    unfold turnsP at hx
    dsimp only at hx
    split at hx <;> simp at hx <;> omega
  | _ =>
    have : x = i + 1 := by simpa [turnsP] using hx
    omega
theorem Stp.Ok.le {t : Stp} {w c n m : Nat} (h : t.Ok w c n) (hn : n ≤ m) : t.Ok w c m := by
  cases t with
  | ask p => exact Nat.le_trans h hn
  | jump p => exact Nat.le_trans h hn
  | void a p => exact ⟨h.1, Nat.le_trans h.2 hn⟩
  | _ => exact h
theorem after_ok {p : Pln} {s : Stand} (hp : p.Ok) (k : SOk1 p s) : ∀ q ∈ afterP p s, SOk1 p q.1 := fun q hq => by
  unfold afterP at hq
  cases e : p.steps[s.1]? with
  | none => rw [e] at hq; cases hq
  | some t =>
    rw [e] at hq
    obtain ⟨i, hi, rfl⟩ := List.mem_map.mp hq
    have ht := hp.ok t (List.mem_of_getElem? e)
    have hlt := (List.getElem?_eq_some_iff.mp e).1
    exact settle_ok (turns_le ht hlt i hi) (act_ok (ht.le hp.s12) k.hb hp.w1).1
theorem start_ok {p : Pln} (hp : p.Ok) : SOk1 p (startP p) := by
  refine ⟨Nat.zero_le _, ⟨by show (List.replicate _ _).length = _; rw [List.length_replicate], fun q hq => ?_, fun b hb => by cases hb⟩, Nat.zero_le _⟩
  have := List.eq_of_mem_replicate hq
  cases this
theorem lay_encP {n : Nat} (q : Option Pc) : Lay (n + 1) (encP q) := by
  cases q with
  | none => exact Lay.non
  | some pc =>
    obtain ⟨a, b, c⟩ := pc
    refine Lay.tup fun x hx => ?_
    simp only [List.mem_cons, List.not_mem_nil, or_false] at hx
    rcases hx with rfl | rfl | rfl <;> exact Lay.num
theorem lay_nats {n : Nat} (xs : List Nat) : ∀ x ∈ xs.map natD, Lay n x := fun x hx => by
  obtain ⟨y, _, rfl⟩ := List.mem_map.mp hx
  exact Lay.num
theorem lay_encB {n : Nat} (b : Blk) : Lay (n + 2) (encB b) := by
  refine Lay.tup fun x hx => ?_
  simp only [List.mem_cons, List.not_mem_nil, or_false] at hx
  rcases hx with rfl | rfl
  · exact Lay.num
  · exact Lay.tup (lay_nats _)
theorem lay_encS (s : Stand) : Lay 5 (encS s) := by
  refine Lay.mono (n := 4) (Lay.tup fun x hx => ?_) (by decide)
  simp only [List.mem_cons, List.not_mem_nil, or_false] at hx
  rcases hx with rfl | rfl | rfl
  · exact Lay.num
  · refine Lay.mono (n := 2) (Lay.tup fun y hy => ?_) (by decide)
    obtain ⟨z, _, rfl⟩ := List.mem_map.mp hy
    exact lay_encP z
  · refine Lay.tup fun y hy => ?_
    obtain ⟨z, _, rfl⟩ := List.mem_map.mp hy
    exact lay_encB z
theorem isTup_encS (s : Stand) : isTup (encS s) = true := rfl
theorem dep_encS (s : Stand) : (encS s).depth ≤ 8 := Nat.le_trans (lay_encS s).2 (by decide)
theorem natD_inj {a b : Nat} (h : natD a = natD b) : a = b := by
  have : (a : Int) = b := by simpa [natD] using h
  omega
theorem map_inj {α β : Type} {f : α → β} (hf : ∀ a b, f a = f b → a = b) : ∀ {xs ys : List α}, xs.map f = ys.map f → xs = ys
  | [], [], _ => rfl
  | [], _ :: _, h => by cases h
  | _ :: _, [], h => by cases h
  | x :: xs, y :: ys, h => by
    rw [List.map_cons, List.map_cons, List.cons.injEq] at h
    rw [hf _ _ h.1, map_inj hf h.2]
theorem encP_inj : ∀ a b : Option Pc, encP a = encP b → a = b
  | none, none, _ => rfl
  | none, some (_, _, _), h => by simp [encP] at h
  | some (_, _, _), none, h => by simp [encP] at h
  | some (n, f, l), some (n', f', l'), h => by
    simp only [encP, NestedKey.tup.injEq, List.cons.injEq, NestedKey.num.injEq, and_true] at h
    obtain ⟨h1, h2, h3⟩ := h
    have e1 : n = n' := by omega
    have e2 : f = f' := by omega
    have e3 : l = l' := by omega
    rw [e1, e2, e3]
theorem encB_inj (a b : Blk) (h : encB a = encB b) : a = b := by
  obtain ⟨x, xs⟩ := a
  obtain ⟨y, ys⟩ := b
  simp only [encB, NestedKey.tup.injEq, List.cons.injEq, NestedKey.num.injEq, and_true] at h
  obtain ⟨h1, h2⟩ := h
  have e : x = y := by omega
  rw [e, map_inj (fun _ _ => natD_inj) h2]
theorem encS_inj {a b : Stand} (h : encS a = encS b) : a = b := by
  obtain ⟨i, hs, bs⟩ := a
  obtain ⟨j, hs', bs'⟩ := b
  simp only [encS, NestedKey.tup.injEq, List.cons.injEq, NestedKey.num.injEq, and_true] at h
  obtain ⟨h1, h2, h3⟩ := h
  have e : i = j := by omega
  rw [e, map_inj encP_inj h2, map_inj encB_inj h3]
section
variable {X : Cx} {e : Expr} {es : List Expr} {ta : TA} {p1 p2 p pos : Pos} {ad : Ads}
/-- HoldError.__init__(self, ..) -/
theorem pe_heinit {pl : Sem Bool} (fx : Fx X.K X.mg ad) (hg : Gl X "HoldError") (ha : PA X (e :: es) ta)
    (hc : eval (.Call (.Attribute (.Name "HoldError" p1) "__init__" p2) (e :: es) [] pos) X.env = (do
      let ov ← eval (.Name "HoldError" p1) X.env
      standAt p2.atName
      let (f, first) ← holding [ov] (getMethod ov "__init__" pl)
      callWith pos f first (backTo pos (starEach (e :: es) X.env)) (backToKw pos (keywordEach [] X.env))) := by rfl)
    (he : starEach (e :: es) X.env = (false, eval e X.env) :: starEach es X.env := by rfl) (hpl : (backTo pos (starEach es X.env)).any (·.1) = false := by rfl) :
    PE X (.Call (.Attribute (.Name "HoldError" p1) "__init__" p2) (e :: es) [] pos) (tVeI X.K ta) := by
  refine ⟨fun pins s σ H Q I h => ?_⟩
  obtain ⟨mc, r1, r2, r3⟩ := fx.i_HoldError
  refine PySem.W.methodCall_KW (ld_glob I hg fx.g_HoldError ?_) hc
  refine PySem.W.method_cls I.kIn r2 (PySem.W.cls_value I.kIn r1 r3 (by decide +kernel) ?_)
  show wpAny _ _ (callWith pos (Value.builtin "ValueError.__init__") [] (backTo pos (starEach (e :: es) X.env)) []) _ _ _
  refine PyProof.Rows.callWith_method1 (thn (ha.run pos pins _ σ H _ (I.tok _) h) fun us s1 ⟨vs, H1, I1, r1, a, C, ws, ev, hl, T, ea, q⟩ => ?_) he hpl
  subst ev
  cases r1 with
  | @cons _ u0 _ ur ra rw' =>
    obtain rfl : u0 = Value.ref a := ra
    have hlen : ur.length ≤ sizeLine := by
      rw [← Paired.length rw', sizeLine_eq]
      omega
    exact oinit_ok T I1 ea hlen fun s' J => ⟨.non, H1, J, rfl, q⟩
end
/-- BadPath.__init__ -/
def sp_bpInit (ad : Ads) : Sp := fun vs H Q _ => ∃ a v, vs = [.ref a, v] ∧ H a = some (exo a ad.badPath none) ∧ ∀ d, H d = none → d ≠ a → Q .non (upd (upd H d (exd d [("index", v)])) a (exo a ad.badPath (some d)))
theorem sc_bpInit : FnScope ["self", "index"] ["self", "index"] (defScope (methS 4 0)) := ⟨rfl, rfl, rfl, by decide +kernel, rfl, by decide +kernel, by decide +kernel⟩
theorem ok_bpInit {P : Program} {w : World} {K : PySem.W.Frag} {mg : Str → Option Value} {base : Heap} {ad : Ads} {f : Addr} {fd : FuncData} (fx : Fx K mg ad) (F : MethD K "__init__" "BadPath.__init__" 4 0 f fd) : FnOk P w K mg base CX0 1 f fd ["self", "index"] (sp_bpInit ad) := by
  refine F.ok sc_bpInit (fun vs H Q E q => by obtain ⟨_, _, rfl, _⟩ := q; rfl) fun cdv A outer s H vs Q E hr h => ?_
  refine ⟨_, PSs.nox (pss_cons (ps_expr (pe_heinit fx (by rfl) (pa_cons (pv 0) (pa_cons pe_str pa_nil)))) (pss_one (ps_ost (pv 0) (pv 1)))), ?_⟩
  obtain ⟨a, v, rfl, ha, q⟩ := h
  refine ⟨.ref a, rfl, a, ad.badPath, [.str "not a path"], rfl, by show 1 ≤ 1000; decide, fx.o_BadPath, ha, ?_⟩
  exact ⟨v, rfl, .ref a, rfl, a, ad.badPath, rfl, fx.o_BadPath, fx.n_BadPath, .inl ⟨ha, fun d hd ne => q d hd ne⟩⟩
section
variable {X : Cx} {e : Expr} {ta : TA} {p pos : Pos} {ad : Ads}
theorem pmk_badPath (fx : Fx X.K X.mg ad) (hr : Room 2 X.A) (hg : Gl X "BadPath") (ha : PA X [e] ta) (he : starEach [e] X.env = (false, eval e X.env) :: starEach [] X.env := by rfl) (hpl : (backTo pos (starEach [] X.env)).any (·.1) = false := by rfl) :
    PMk X (.Call (.Name "BadPath" p) [e] [] pos) (tMkO ad.badPath (sp_bpInit ad) [] ta) := by
  obtain ⟨f, fd, h1, h2, F⟩ := fx.i_BadPath
  have b := F.bindsN (ps := ["self", "index"]) fun _ _ _ _ _ _ us hl => match us, hl with | [_, _], _ => rfl
  exact pmk_oex fx.o_BadPath h1 h2 (ok_bpInit fx F) hr b .nil (fun _ _ _ _ _ _ _ z => z.elim) hg fx.g_BadPath ha (by decide) he hpl
end
/-- raise -/
def tRz (t : L2.St → Hp → XK → Prop) (E : XK) : TS := fun _ σ H => t σ H fun cls d H' => E cls d H'
theorem ps_raiseN {X : Cx} {E : XK} {e : Expr} {t : L2.St → Hp → XK → Prop} {pos : Pos} (hc : X.calm = true) (tk : Takes X fun cls d _ H => E cls d H) (he : PMk X e t) : PS X (.Raise (some e) none pos) (tRz t E) := ps_raise hc tk he
section
variable {K : PySem.W.Frag} {G : Gam} {σ : L2.St} {H : Hp} {te : TE} {A : Asr} {ad : Ads} {E : XK}
/-- what raise BadPath(e) asks -/
theorem st_badPath {EE : Ends} (h : EvG te G H A) (s : SOk G σ H) (q : ∀ d H', Ex H H' → E (.ref ad.badPath) d H') : tRz (tMkO ad.badPath (sp_bpInit ad) [] (tCons te tNil)) E EE σ H :=
  h σ H s (Evl.Ex.refl H) _ fun v H1 e1 _ => by
    refine ⟨by show 1 ≤ 1000; decide, fun a ha => ⟨a, v, rfl, upd_same, fun d hd ne => ⟨rfl, d, [("index", v)], upd_same, ?_, ?_, q _ _ ?_⟩⟩⟩
    · rw [upd_ne ne]; exact upd_same
    · rw [upd_ne ne] at hd; exact hd
    · intro b o hb
      have hb1 := e1 b o hb
      have ba : b ≠ a := fun z => by rw [z, ha] at hb1; cases hb1
      have bd : b ≠ d := fun z => by
        rw [upd_ne ne] at hd
        rw [z, hd] at hb1; cases hb1
      rw [upd_ne bd, del_ne ba, upd_ne ba, upd_ne bd, upd_ne ba]
      exact hb1
end
section
variable {K : PySem.W.Frag} {P : Program} {w : World} {G G1 : Gam} {σ : L2.St} {H H1 : Hp} {te : TE} {A B : Asr} {As : List Asr} {kvs : List (D × V)} {xs : XE3} {a d : Addr} {o : Obj} {EE : Ends} {tb : TS} {g : TG}
/-- a dict that is written -/
def aDW (P : Program) (w : World) (K : PySem.W.Frag) (kvs : List (D × V)) : Asr := ⟨fun v H => ∃ a, v = .ref a ∧ DDw P w K H a kvs, fun e ⟨a, h1, h2⟩ => ⟨a, h1, h2.ex e⟩⟩
theorem SOk.to {n : Nat} (h : SOk G σ H) (hn : G[n]? = some (some A)) (hAB : ∀ v, A.p v H → B.p v H) : SOk (G.set n (some B)) σ H := by
  refine ⟨by rw [List.length_set]; exact h.len, fun i C hi => ?_⟩
  by_cases e : n = i
  · subst e
    have hl : n < G.length := (List.getElem?_eq_some_iff.mp hn).1
    rw [List.getElem?_set_self hl] at hi
    cases hi
    obtain ⟨v, h1, h2⟩ := h.at_ n A hn
    exact ⟨v, h1, hAB v h2⟩
  · rw [List.getElem?_set_ne e] at hi
    exact h.at_ i C hi
/-- slots whose assertions stand while things are locked -/
inductive GL : Gam → Prop
  | nil : GL []
  | non {G : Gam} : GL G → GL (none :: G)
  | som {A : Asr} {G : Gam} : A.Le → GL G → GL (some A :: G)
theorem GL.all : ∀ {G : Gam}, GL G → ∀ A, some A ∈ G → A.Le
  | _, .nil, _, h => by cases h
  | _, .non g, A, h => by
    rcases List.mem_cons.mp h with z | z
    · cases z
    · exact g.all A z
  | _, .som hA g, A, h => by
    rcases List.mem_cons.mp h with z | z
    · cases z; exact hA
    · exact g.all A z
theorem walk_itq (kd : KD K H kvs xs) : Walk (Itq P w d o xs) kvs.length (fun H' => H' d = some (.frz o (ddO P w d xs)) ∧ TLe H H') (fun i H x H' => Ex H H' ∧ ∃ e, (kvs.map (·.1))[i]? = some e ∧ DIs K H' x e) := by
  have hl := kd.length
  refine ⟨fun i H' hi q => ⟨q.1, by omega⟩, fun H' q => ⟨q.1, by omega⟩, fun i H' x H'' hi q y => ?_⟩
  obtain ⟨rfl, t, ht, rfl⟩ := y
  refine ⟨Evl.Ex.refl _, ?_⟩
  have all : ∀ {kvs : List (D × V)} {xs : XE3}, KD K H kvs xs → ∀ {i : Nat} {t : D × Addr × Value}, xs[i]? = some t → ∃ e, (kvs.map (·.1))[i]? = some e ∧ DIs K H (.ref t.2.1) e := by
    intro kvs xs kd
    induction kd with
    | nil => intro i t h; simp at h
    | cons h1 _ ih =>
      intro i t h
      cases i with
      | zero =>
        simp at h
        subst h
        exact ⟨_, rfl, h1.2.1.1⟩
      | succ i => exact ih h
  obtain ⟨e, h1, h2⟩ := all kd ht
  exact ⟨e, h1, h2.to q.2⟩
theorem walk_itp (kd : KD K H kvs xs) : Walk (Itp P w d o xs) kvs.length (fun H' => H' d = some (.frz o (ddO P w d xs)) ∧ TLe H H') (fun i H x H' => Ex H H' ∧ ∃ k v T b, kvs[i]? = some (k, v) ∧ x = .ref T ∧ H' T = some (.tup [.ref b, v]) ∧ DIs K H' (.ref b) k) := by
  have hl := kd.length
  have all : ∀ {kvs : List (D × V)} {xs : XE3}, KD K H kvs xs → ∀ {i : Nat} {t : D × Addr × Value}, xs[i]? = some t → ∃ k v, kvs[i]? = some (k, v) ∧ DIs K H (.ref t.2.1) k ∧ RelV v t.2.2 := by
    intro kvs xs kd
    induction kd with
    | nil => intro i t h; simp at h
    | @cons p q ps qs h1 _ ih =>
      intro i t h
      cases i with
      | zero =>
        simp at h
        subst h
        exact ⟨p.1, p.2, rfl, h1.2.1.1, h1.2.2⟩
      | succ i => exact ih h
  refine ⟨fun i H' hi q => ⟨q.1, by omega, fun t ht => ?_⟩, fun H' q => ⟨q.1, by omega⟩, fun i H' x H'' hi q y => ?_⟩
  · obtain ⟨k, v, _, _, r⟩ := all kd ht
    exact ⟨v, r⟩
  · obtain ⟨T, t, v, ht, rv, rfl, hT, rfl⟩ := y
    obtain ⟨k, v', h1, h2, r⟩ := all kd ht
    have ev : v = v' := rv.inj r
    subst ev
    have ex := Evl.Ex.new (o := .tup [.ref t.2.1, v]) hT
    exact ⟨ex, k, v, T, t.2.1, h1, rfl, upd_same, (h2.to q.2).ex ex⟩
theorem ei_keysD (h : EvG te G H (aV (.ref d))) (hd : H d = some (.frz o (ddO P w d xs))) (kd : KD K H kvs xs) : EvI K (iKeysD P w te) G H (kvs.map (·.1)) := fun σ H1 s x R q => h σ H1 s x _ fun v H2 e2 p => by
  have ev : v = .ref d := p
  subst ev
  have e02 := x.trans e2
  refine ⟨d, o, xs, rfl, e02 _ _ hd, q (Itq P w d o xs) H2 (fun H' => H' d = some (.frz o (ddO P w d xs)) ∧ TLe H2 H') e2 (by rw [List.length_map]; exact walk_itq (kd.to (tle_of_ex e02))) fun H3 e3 => ⟨e3 _ _ (e02 _ _ hd), tle_of_ex e3⟩⟩
/-- a new list made under a lock -/
theorem el_lock (dd : Addr) (u : HO) (hd : H dd = some u) (mu : Mut (some u)) (hl : lockable u = true) (hG : ∀ σ H1 od, SOk G σ H1 → Ex H H1 → SOk G1 σ (upd H1 dd (.frz od u))) (hA : ∀ B ∈ As, B.St) (h : ∀ od, EvL te G1 (upd H dd (.frz od u)) As) : EvL (tLockE te) G H As := fun σ H1 s x Q q => by
  have h1 := x _ _ hd
  refine ⟨dd, u, h1, mu, fun od => h od σ _ (hG σ H1 od s x) (ex_locked x) _ fun p xs H2 hp e2 hx ha => ?_⟩
  have h2 : H2 dd = some (.frz od u) := e2 _ _ upd_same
  have pd : p ≠ dd := fun z => by rw [z, upd_same] at hp; cases hp
  rw [upd_ne pd] at hp
  exact ⟨h2, q p xs _ hp (ex_unlock h1 e2) (by rw [upd_ne pd]; exact hx) (AAll.st (le_unlock h2).t hA ha)⟩
end
theorem ev_ddr {P : Program} {w : World} {K : PySem.W.Frag} {G : Gam} {H : Hp} {te : TE} {a : Addr} {kvs : List (D × V)} (h : EvG te G H (aV (.ref a))) (d : DDr P w K H a kvs) : EvG te G H (aDD P w K kvs) := fun σ H1 s x Q q => h σ H1 s x _ fun v H2 e2 p => q v H2 e2 ⟨a, p, d.ex (x.trans e2)⟩
theorem ddr_lock {P : Program} {w : World} {K : PySem.W.Frag} {H : Hp} {a : Addr} {xs : XE3} {kvs : List (D × V)} {od : Obj} (h : H a = some (ddO P w a xs)) (kd : KD K H kvs xs) : DDr P w K (upd H a (.frz od (ddO P w a xs))) a kvs :=
  ⟨xs, .inr ⟨od, upd_same⟩, kd.to (le_lock h ddO_lockable).t⟩
abbrev Hts := List (Stand × Int)
def hK (hs : Hts) : List (D × V) := hs.map fun q => (encS q.1, V.int q.2)
def hget (hs : Hts) (s : Stand) : Option Int := (hs.find? fun q => decide (q.1 = s)).map (·.2)
theorem valV_hK (s : Stand) : ∀ hs : Hts, valV (hK hs) (encS s) = (hget hs s).map V.int
  | [] => rfl
  | q :: hs => by
    show valV ((encS q.1, V.int q.2) :: hK hs) (encS s) = _
    unfold hget
    by_cases e : q.1 = s
    · rw [valV_pos (by show encS q.1 = encS s; rw [e]), List.find?_cons_of_pos (by simp [e])]
      rfl
    · rw [valV_neg (fun z => e (encS_inj z)), List.find?_cons_of_neg (by simp [e])]
      exact valV_hK s hs
def heightsB (p : Pln) (hs : Hts) (num : Int) : Bool := (hget hs (startP p)).isSome && (!(hs.any fun q => decide (q.2 < 0)) && hs.all fun q => decide (q.2 + wasteP q.1 ≤ num) && (afterP p q.1).all fun r => match hget hs r.1 with
  | none => false
  | some h => clearP p q.1 || decide (q.2 + r.2 ≤ h))
theorem hget_mem {hs : Hts} (hn : (hs.map (·.1)).Nodup) {q : Stand × Int} (h : q ∈ hs) : hget hs q.1 = some q.2 := by
  induction hs with
  | nil => cases h
  | cons r hs ih =>
    unfold hget
    rw [List.map_cons, List.nodup_cons] at hn
    rcases List.mem_cons.mp h with z | z
    · subst z
      rw [List.find?_cons_of_pos (by simp)]; rfl
    · have ne : ¬ r.1 = q.1 := fun e => hn.1 (by rw [e]; exact List.mem_map.mpr ⟨q, z, rfl⟩)
      rw [List.find?_cons_of_neg (by simp [ne])]
      exact ih hn.2 z
theorem hK_keys (hs : Hts) : (hK hs).map (·.1) = hs.map fun q => encS q.1 := by unfold hK; rw [List.map_map]; rfl
def rowB (p : Pln) (hs : Hts) (num : Int) (q : Stand × Int) : Bool := decide (q.2 + wasteP q.1 ≤ num) && (afterP p q.1).all fun r => match hget hs r.1 with
  | none => false
  | some h => clearP p q.1 || decide (q.2 + r.2 ≤ h)
def laterB (p : Pln) (hs : Hts) (q : Stand × Int) (r : Stand × Nat) : Bool := match hget hs r.1 with
  | none => false
  | some h => clearP p q.1 || decide (q.2 + r.2 ≤ h)
theorem rowB_eq (p : Pln) (hs : Hts) (num : Int) (q : Stand × Int) : rowB p hs num q = (decide (q.2 + wasteP q.1 ≤ num) && (afterP p q.1).all (laterB p hs q)) := rfl
theorem heightsB_eq (p : Pln) (hs : Hts) (num : Int) : heightsB p hs num = ((hget hs (startP p)).isSome && (!(hs.any fun q => decide (q.2 < 0)) && hs.all (rowB p hs num))) := rfl
local macro_rules | `(tactic| walk_at "gs") => `(tactic| (refine GS.all ?_; repeat (first | exact GS.nil | refine GS.non ?_ | refine GS.som (by first | exact aD_st | exact aV_st | exact aPrg_st) ?_)))
local macro_rules | `(tactic| walk_at "gl") => `(tactic| (refine GL.all ?_; repeat (first | exact GL.nil | refine GL.non ?_ | refine GL.som (by first | exact aD_le | exact aV_le | exact aDD_le | exact aPrg_le | exact aL_le | exact aI_le) ?_)))
local macro_rules | `(tactic| walk_at "gle") => `(tactic| (repeat (first | exact GLe.nil | refine GLe.som ?_ | refine GLe.non ?_)))
def cellD (n x : Nat) : D := .tup [.num n, .num x]
/-- a piece's cells -/
def cellsP : Option Pc → List (Nat × Nat)
  | none => []
  | some (n, f, l) => (List.range (l - f)).map fun i => (n, f + i)
def encC (c : Nat × Nat) : D := cellD c.1 c.2
def cellsD (p : Option Pc) : List D := (cellsP p).map encC
def boxK (hl sz sh : Addr) : List (Key × V) := [(Sum.inr "held", V.ref hl), (Sum.inr "sizes", V.ref sz), (Sum.inr "shelf", V.ref sh)]
def sizesK (bs : List Blk) : List (Int × V) := (List.range bs.length).map fun i : Nat => ((i : Int), V.int ((blkSize bs i : Nat) : Int))
/-- the shelf's dict, its cells as a list -/
def addC (ks : List (Nat × Nat)) (c : Nat × Nat) : List (Nat × Nat) := if c ∈ ks then ks else ks ++ [c]
theorem mem_addC {ks : List (Nat × Nat)} {c x : Nat × Nat} : x ∈ addC ks c ↔ x ∈ ks ∨ x = c := by
  unfold addC
  split
  · rename_i h
    exact ⟨.inl, fun z => z.elim id fun z => z ▸ h⟩
  · simp
theorem nodup_addC {ks : List (Nat × Nat)} {c : Nat × Nat} (h : ks.Nodup) : (addC ks c).Nodup := by
  unfold addC
  split
  · exact h
  · rename_i hc
    refine List.nodup_append.mpr ⟨h, (by simp), fun a ha b hb z => hc ?_⟩
    rw [List.mem_singleton] at hb
    rw [← hb, ← z]; exact ha
theorem encC_inj (a b : Nat × Nat) (h : encC a = encC b) : a = b := by
  obtain ⟨x, y⟩ := a
  obtain ⟨z, u⟩ := b
  simp only [encC, cellD, NestedKey.tup.injEq, List.cons.injEq, NestedKey.num.injEq, and_true] at h
  obtain ⟨h1, h2⟩ := h
  have e1 : x = z := by omega
  have e2 : y = u := by omega
  rw [e1, e2]
theorem lay_encC {n : Nat} (c : Nat × Nat) : Lay (n + 1) (encC c) := by
  refine Lay.tup fun x hx => ?_
  simp only [List.mem_cons, List.not_mem_nil, or_false] at hx
  rcases hx with rfl | rfl <;> exact Lay.num
theorem dep_encC (c : Nat × Nat) : (encC c).depth ≤ 8 := Nat.le_trans (lay_encC (n := 0) c).2 (by decide)
def Shf (P : Program) (w : World) (K : PySem.W.Frag) (H : Hp) (sh : Addr) (ks : List (Nat × Nat)) : Prop := ∃ kvs, DDw P w K H sh kvs ∧ kvs.map (·.1) = ks.map encC ∧ ks.Nodup
theorem valV_keys {kvs : List (D × V)} {d : D} : (valV kvs d).isSome = decide (d ∈ kvs.map (·.1)) := by
  cases h : valV kvs d with
  | none => simp [valV_not h]
  | some v => simp [valV_in h]
theorem putK_keys {kvs : List (D × V)} {d : D} {v : V} : (putK kvs d v).map (·.1) = if d ∈ kvs.map (·.1) then kvs.map (·.1) else kvs.map (·.1) ++ [d] := by
  have hk := valV_keys (kvs := kvs) (d := d)
  rw [← valV_any] at hk
  unfold putK
  rw [hk]
  by_cases hm : d ∈ kvs.map (·.1)
  · rw [decide_eq_true hm, if_pos rfl, if_pos hm, List.map_map]
    refine List.map_congr_left fun x _ => ?_
    show (if x.1 = d then _ else x).1 = x.1
    split <;> rfl
  · rw [decide_eq_false hm, if_neg (by decide), if_neg hm, List.map_append]
    rfl
theorem Shf.in_ {P : Program} {w : World} {K : PySem.W.Frag} {H : Hp} {sh : Addr} {ks : List (Nat × Nat)} {kvs : List (D × V)} (h : kvs.map (·.1) = ks.map encC) (c : Nat × Nat) : (valV kvs (encC c)).isSome = decide (c ∈ ks) := by
  rw [valV_keys, h, decide_eq_decide]
  constructor
  · intro z
    obtain ⟨c', h1, h2⟩ := List.mem_map.mp z
    exact encC_inj _ _ h2 ▸ h1
  · exact fun z => List.mem_map.mpr ⟨c, z, rfl⟩
theorem Shf.put {ks : List (Nat × Nat)} {kvs : List (D × V)} (h : kvs.map (·.1) = ks.map encC) (c : Nat × Nat) (v : V) : (putK kvs (encC c) v).map (·.1) = (addC ks c).map encC := by
  rw [putK_keys, h]
  unfold addC
  by_cases hc : c ∈ ks
  · rw [if_pos hc, if_pos (List.mem_map.mpr ⟨c, hc, rfl⟩)]
  · rw [if_neg hc, if_neg fun z => by
      obtain ⟨c', h1, h2⟩ := List.mem_map.mp z
      exact hc (encC_inj _ _ h2 ▸ h1), List.map_append]
    rfl
/-- the shelf holds the blocks' cells -/
def ShOf (ks : List (Nat × Nat)) (bs : List Blk) : Prop := ∀ n x, (n, x) ∈ ks ↔ x ∈ (bs.getD n (0, [])).2
theorem sizesK_at {bs : List Blk} {n : Nat} (h : n < bs.length) : valV (sizesK bs) (n : Int) = some (.int ((blkSize bs n : Nat) : Int)) := by
  unfold sizesK
  have all : ∀ (m k : Nat), n < k + m → k ≤ n → valV ((List.range' k m).map fun i : Nat => ((i : Int), V.int ((blkSize bs i : Nat) : Int))) (n : Int) = some (.int ((blkSize bs n : Nat) : Int)) := by
    intro m
    induction m with
    | zero => intro k h1 h2; omega
    | succ m ih =>
      intro k h1 h2
      rw [List.range'_succ, List.map_cons]
      by_cases e : k = n
      · subst e; rw [valV_pos rfl]
      · rw [valV_neg (fun z => e (by have : (k : Int) = n := z; omega))]
        exact ih (k + 1) (by omega) (by omega)
  rw [List.range_eq_range']
  exact all bs.length 0 (by omega) (Nat.zero_le _)
theorem sizesK_new {bs : List Blk} {n : Nat} (h : bs.length ≤ n) : valV (sizesK bs) (n : Int) = none := by
  unfold sizesK
  have all : ∀ (l : List Nat), (∀ x ∈ l, x < n) → valV (l.map fun i : Nat => ((i : Int), V.int ((blkSize bs i : Nat) : Int))) (n : Int) = none := by
    intro l
    induction l with
    | nil => intro _; rfl
    | cons a l ih =>
      intro hx
      have := hx a List.mem_cons_self
      rw [List.map_cons, valV_neg (fun z => by have : (a : Int) = n := z; omega)]
      exact ih fun x hm => hx x (List.mem_cons_of_mem _ hm)
  exact all _ fun x hx => by have := List.mem_range.mp hx; omega
theorem sizesK_len (bs : List Blk) : (sizesK bs).length = bs.length := by unfold sizesK; simp
theorem sizesK_snoc (bs : List Blk) (b : Blk) : sizesK (bs ++ [b]) = putK (sizesK bs) (bs.length : Nat) (.int ((b.1 : Nat) : Int)) := by
  rw [putK_new (sizesK_new (Nat.le_refl _))]
  unfold sizesK
  rw [List.length_append, List.length_singleton, List.range_succ, List.map_append]
  congr 1
  · refine List.map_congr_left fun i hi => ?_
    rw [blkSize_app (List.mem_range.mp hi)]
  · unfold blkSize
    simp [List.getD]
section
variable {K : PySem.W.Frag} {P : Program} {w : World} {G : Gam} {σ : L2.St} {H H1 : Hp} {bx hl sz sh : Addr} {te tb : TE} {v : V} {k : Str}
/-- box['..'] -/
theorem ev_box (h : H bx = some (.dK (boxK hl sz sh))) (ha : EvG te G H (aV (.ref bx))) (hb : EvG tb G H (aD K (.text k))) (hv : valV (boxK hl sz sh) (Sum.inr k) = some v) : EvG (tOp (rIxU P w K) te tb) G H (aV v) := ev_op ha hb (rg_or2 (rg_or1 fun H1 ex x y hx hy Q q => by
  have e := DIs.text_inv hy
  subst e
  have g := DGet.k (k := Sum.inr k) (ex _ _ h)
  rw [hv] at g
  exact ⟨bx, v, hx, g, q _ H1 (Evl.Ex.refl H1) rfl⟩))
theorem box_held : valV (boxK hl sz sh) (Sum.inr "held") = some (.ref hl) := valV_pos rfl
theorem box_sizes : valV (boxK hl sz sh) (Sum.inr "sizes") = some (.ref sz) := by
  unfold boxK
  rw [valV_neg (fun z => absurd (Sum.inr.inj z) (by decide)), valV_pos rfl]
theorem box_shelf : valV (boxK hl sz sh) (Sum.inr "shelf") = some (.ref sh) := by
  unfold boxK
  rw [valV_neg (fun z => absurd (Sum.inr.inj z) (by decide)), valV_neg (fun z => absurd (Sum.inr.inj z) (by decide)), valV_pos rfl]
theorem ev_boxH (h : H bx = some (.dK (boxK hl sz sh))) (ha : EvG te G H (aV (.ref bx))) : EvG (tOp (rIxU P w K) te (tC (.str "held"))) G H (aV (.ref hl)) := ev_box h ha ev_str box_held
theorem ev_boxZ (h : H bx = some (.dK (boxK hl sz sh))) (ha : EvG te G H (aV (.ref bx))) : EvG (tOp (rIxU P w K) te (tC (.str "sizes"))) G H (aV (.ref sz)) := ev_box h ha ev_str box_sizes
theorem ev_boxS (h : H bx = some (.dK (boxK hl sz sh))) (ha : EvG te G H (aV (.ref bx))) : EvG (tOp (rIxU P w K) te (tC (.str "shelf"))) G H (aV (.ref sh)) := ev_box h ha ev_str box_shelf
/-- the name of a list that is only read -/
theorem ev_ref {n : Nat} {a : Addr} {ds : List D} (h : EvG te G H (aV (.ref a))) (wl : WL K H a ds) : EvG te G H (aL K ds) := fun σ H1 s x Q q => h σ H1 s x _ fun v H2 e2 p => by
  have e : v = .ref a := p
  subst e
  exact q _ H2 e2 (wl.ex (x.trans e2)).aL
end
/-- the rows: a list of lists of cells -/
structure RowsIs (K : PySem.W.Frag) (H : Hp) (hl : Addr) (rows : List Addr) (h : List (Option Pc)) : Prop where
  at_ : H hl = some (.lst (rows.map V.ref))
  len : rows.length = h.length
  row : ∀ (i : Nat) (r : Addr) (p : Option Pc), rows[i]? = some r → h[i]? = some p → WL K H r (cellsD p) ∧ r ≠ hl
/-- the whole box -/
structure BoxIs (P : Program) (w : World) (K : PySem.W.Frag) (H : Hp) (bx hl sz sh : Addr) (rows : List Addr) (h : List (Option Pc)) (bs : List Blk) : Prop where
  box : H bx = some (.dK (boxK hl sz sh))
  sizes : H sz = some (.dK (intK (sizesK bs)))
  shelf : ∃ ks, Shf P w K H sh ks ∧ ShOf ks bs
  rws : RowsIs K H hl rows h
  dif : bx ≠ sz
section
variable {K : PySem.W.Frag} {P : Program} {w : World} {G : Gam} {σ : L2.St} {H H1 : Hp} {bx hl sz sh : Addr} {rows : List Addr} {h : List (Option Pc)} {bs : List Blk}
theorem Shf.ex {ks : List (Nat × Nat)} (h : Shf P w K H sh ks) (e : Ex H H1) : Shf P w K H1 sh ks := let ⟨kvs, h1, h2⟩ := h; ⟨kvs, h1.ex e, h2⟩
theorem Shf.frs {W : List Addr} {ks : List (Nat × Nat)} (h : Shf P w K H sh ks) (f : Frs W H H1) (hw : sh ∉ W) : Shf P w K H1 sh ks := let ⟨kvs, h1, h2⟩ := h; ⟨kvs, h1.keep f.t fun o ho => f.keep _ hw o ho, h2⟩
theorem Shf.new (h : DDw P w K H sh []) : Shf P w K H sh [] := ⟨[], h, rfl, List.nodup_nil⟩
theorem WL.exx {a : Addr} {ds : List D} (h : WL K H a ds) (e : Ex H H1) : WL K H1 a ds := WL.ex h e
theorem RowsIs.ex (r : RowsIs K H hl rows h) (e : Ex H H1) : RowsIs K H1 hl rows h := ⟨e _ _ r.at_, r.len, fun i a p h1 h2 => let ⟨z1, z2⟩ := r.row i a p h1 h2; ⟨WL.ex z1 e, z2⟩⟩
theorem BoxIs.ex (b : BoxIs P w K H bx hl sz sh rows h bs) (e : Ex H H1) : BoxIs P w K H1 bx hl sz sh rows h bs :=
  ⟨e _ _ b.box, e _ _ b.sizes, let ⟨ks, h1, h2⟩ := b.shelf; ⟨ks, h1.ex e, h2⟩, b.rws.ex e, b.dif⟩
theorem BoxIs.sh_sz (b : BoxIs P w K H bx hl sz sh rows h bs) : sh ≠ sz := fun z => by
  obtain ⟨ks, ⟨kvs, ⟨xs, h1, _⟩, _⟩, _⟩ := b.shelf
  rw [z, b.sizes] at h1; cases h1
theorem BoxIs.sh_bx (b : BoxIs P w K H bx hl sz sh rows h bs) : sh ≠ bx := fun z => by
  obtain ⟨ks, ⟨kvs, ⟨xs, h1, _⟩, _⟩, _⟩ := b.shelf
  rw [z, b.box] at h1; cases h1
theorem BoxIs.sh_hl (b : BoxIs P w K H bx hl sz sh rows h bs) : sh ≠ hl := fun z => by
  obtain ⟨ks, ⟨kvs, ⟨xs, h1, _⟩, _⟩, _⟩ := b.shelf
  rw [z, b.rws.at_] at h1; cases h1
theorem BoxIs.hl_sz (b : BoxIs P w K H bx hl sz sh rows h bs) : hl ≠ sz := fun z => by
  have h1 := b.rws.at_
  rw [z, b.sizes] at h1; cases h1
theorem BoxIs.hl_bx (b : BoxIs P w K H bx hl sz sh rows h bs) : hl ≠ bx := fun z => by
  have h1 := b.rws.at_
  rw [z, b.box] at h1; cases h1
theorem WL.ne_dK {a c : Addr} {ds : List D} {kvs : List (Key × V)} (wl : WL K H a ds) (hc : H c = Option.some (HO.dK kvs)) : a ≠ c := fun z => by
  obtain ⟨xs, h1, _⟩ := wl
  rw [z, hc] at h1; cases h1
theorem WL.ne_dd {a c : Addr} {ds : List D} {kvs : List (D × V)} (wl : WL K H a ds) (hc : DDw P w K H c kvs) : a ≠ c := fun z => by
  obtain ⟨xs, h1, _⟩ := wl
  obtain ⟨ys, h2, _⟩ := hc
  rw [z, h2] at h1; cases h1
theorem RowsIs.frs {W : List Addr} (r : RowsIs K H hl rows h) (f : Frs W H H1) (hw : hl ∉ W) (hr : ∀ (i : Nat) (a : Addr) (p : Option Pc), rows[i]? = some a → h[i]? = some p → a ∉ W) : RowsIs K H1 hl rows h :=
  ⟨f.keep _ hw _ r.at_, r.len, fun i a p h1 h2 => let ⟨z1, z2⟩ := r.row i a p h1 h2; ⟨z1.frs f (hr i a p h1 h2), z2⟩⟩
theorem BoxIs.sized {bs' : List Blk} (b : BoxIs P w K H bx hl sz sh rows h bs) (f : Frs [sz] H H1) (hs : H1 sz = some (.dK (intK (sizesK bs')))) (hc : ∀ n x, x ∈ (bs'.getD n (0, [])).2 ↔ x ∈ (bs.getD n (0, [])).2) : BoxIs P w K H1 bx hl sz sh rows h bs' := by
  obtain ⟨ks, h1, h2⟩ := b.shelf
  refine ⟨f.keep _ (by simp [b.dif]) _ b.box, hs, ⟨ks, h1.frs f (by simp [b.sh_sz]), fun n x => (h2 n x).trans (hc n x).symm⟩, b.rws.frs f (by simp [b.hl_sz]) fun i a p i1 i2 => ?_, b.dif⟩
  have := ((b.rws.row i a p i1 i2).1).ne_dK b.sizes
  simp [this]
theorem Shf.ne_wl {a : Addr} {ds : List D} {ks : List (Nat × Nat)} (h : Shf P w K H sh ks) (wl : WL K H a ds) : a ≠ sh := by
  obtain ⟨kvs, h1, _⟩ := h
  exact wl.ne_dd h1
/-- the shelf alone changed -/
theorem BoxIs.shelved {bs' : List Blk} {ks : List (Nat × Nat)} (b : BoxIs P w K H bx hl sz sh rows h bs) (f : Frs [sh] H H1) (hs : Shf P w K H1 sh ks) (ho : ShOf ks bs') (hz : sizesK bs' = sizesK bs) : BoxIs P w K H1 bx hl sz sh rows h bs' := by
  obtain ⟨ks0, h1, h2⟩ := b.shelf
  refine ⟨f.keep _ (by simp [Ne.symm b.sh_bx]) _ b.box, by rw [hz]; exact f.keep _ (by simp [Ne.symm b.sh_sz]) _ b.sizes, ⟨ks, hs, ho⟩, b.rws.frs f (by simp [Ne.symm b.sh_hl]) fun i a p i1 i2 => ?_, b.dif⟩
  have := h1.ne_wl (b.rws.row i a p i1 i2).1
  simp [this]
theorem RowsIs.get {a : Nat} (r : RowsIs K H hl rows h) (ha : a < h.length) : ∃ x, rows[a]? = some x ∧ WL K H x (cellsD (getP h a)) ∧ x ≠ hl := by
  have hr : a < rows.length := by rw [r.len]; exact ha
  refine ⟨rows[a], List.getElem?_eq_getElem hr, ?_⟩
  refine r.row a _ _ (List.getElem?_eq_getElem hr) ?_
  unfold getP
  rw [List.getD_eq_getElem?_getD, List.getElem?_eq_getElem ha]
  rfl
/-- a row is put -/
theorem BoxIs.put {a : Nat} {p : Addr} {q : Option Pc} (b : BoxIs P w K H bx hl sz sh rows h bs) (wl : WL K H p (cellsD q)) (hp : p ≠ hl) : BoxIs P w K (upd H hl (.lst ((rows.map V.ref).set a (.ref p)))) bx hl sz sh (rows.set a p) (h.set a q) bs := by
  obtain ⟨ks0, h1, h2⟩ := b.shelf
  have f : Frs [hl] H (upd H hl (.lst ((rows.map V.ref).set a (.ref p)))) := Frs.refl.upd (by simp) b.rws.at_ rfl
  refine ⟨f.keep _ (by simp [Ne.symm b.hl_bx]) _ b.box, f.keep _ (by simp [Ne.symm b.hl_sz]) _ b.sizes, ⟨ks0, h1.frs f (by simp [b.sh_hl]), h2⟩, ⟨?_, by rw [List.length_set, List.length_set]; exact b.rws.len, fun i x y i1 i2 => ?_⟩, b.dif⟩
  · rw [upd_same, List.map_set]
  · rw [List.getElem?_set] at i1 i2
    by_cases e : a = i
    · subst e
      rw [if_pos rfl] at i1 i2
      split at i1
      · rw [if_pos (by rw [← b.rws.len]; assumption)] at i2
        cases i1; cases i2
        exact ⟨wl.frs f (by simp [hp]), hp⟩
      · cases i1
    · rw [if_neg e] at i1 i2
      obtain ⟨z1, z2⟩ := b.rws.row i x y i1 i2
      exact ⟨z1.frs f (by simp [z2]), z2⟩
theorem Frs.back {W : List Addr} {p : Addr} (f : Frs W H H1) (hp : H1 p = none) (hW : p ∉ W) : H p = none := by
  cases z : H p with
  | none => rfl
  | some o => rw [f.keep p hW o z] at hp; cases hp
/-- held[a] = row -/
theorem g_row {to ti : TE} {R : L2.St → Hp → Prop} {a : Nat} {p : Addr} {q : Option Pc} (ho : EvG to G H (aV (.ref hl))) (hi : EvG ti G H (aD K (.num a))) (s : SOk G σ H) (b : BoxIs P w K H bx hl sz sh rows h bs) (ha : a < h.length) (wl : WL K H p (cellsD q)) (hp : p ≠ hl)
    (k : ∀ H', Frs [hl] H H' → SOk G σ H' → BoxIs P w K H' bx hl sz sh (rows.set a p) (h.set a q) bs → R σ H') (hs : ∀ A, some A ∈ G → A.St) : gSub to ti (rSetU P w K) (.ref p) σ H R :=
  ho σ H s (Evl.Ex.refl H) _ fun vo H1 e1 p1 => hi σ H1 (s.ex e1) e1 _ fun vi H2 e2 p2 => by
    have eo : vo = .ref hl := p1
    have ei := DIs.num_inv p2
    subst eo ei
    have e02 := e1.trans e2
    have b2 := b.ex e02
    refine .inl ⟨hl, _, a, a, rfl, rfl, b2.rws.at_, ixN_nat (by rw [List.length_map, b2.rws.len]; exact ha), ?_⟩
    have f : Frs [hl] H (upd H2 hl (.lst ((rows.map V.ref).set a (.ref p)))) := (Frs.ex e02).upd (by simp) b2.rws.at_ rfl
    exact k _ f (s.frs f hs) (b2.put (WL.ex wl e02) hp)
/-- shelf[cell] = True -/
theorem st_shelf {tb tk : TE} {EE : Ends} {ks : List (Nat × Nat)} {c : Nat × Nat} (hb : EvG tb G H (aV (.ref sh))) (hk : EvG tk G H (aD K (encC c))) (s : SOk G σ H) (h : Shf P w K H sh ks) (hl' : ks.length < 100000)
    (k : ∀ H', Frs [sh] H H' → SOk G σ H' → Shf P w K H' sh (addC ks c) → EE.nx σ H') (hs : ∀ A, some A ∈ G → A.St) : tAsg (tC (.bl true)) (gSub tb tk (rSetU P w K)) EE σ H :=
  hb σ H s (Evl.Ex.refl H) _ fun vo H1 e1 p1 => hk σ H1 (s.ex e1) e1 _ fun vi H2 e2 p2 => by
    have eo : vo = .ref sh := p1
    subst eo
    have e02 := e1.trans e2
    obtain ⟨kvs, h1, h2, h3⟩ := h.ex e02
    obtain ⟨b, hb⟩ : ∃ b, vi = .ref b := by cases p2 with
      | tup _ _ => exact ⟨_, rfl⟩
    subst hb
    have hlen : kvs.length = ks.length := by
      have := congrArg List.length h2
      rwa [List.length_map, List.length_map] at this
    have h1' := h1
    obtain ⟨xs, hx, _⟩ := h1'
    refine .inr (.inr ⟨sh, kvs, encC c, b, rfl, rfl, h1, p2, rfl, dep_encC c, Evl.sz_lt (by omega), fun H' ⟨u, hu, hn⟩ hd => ?_⟩)
    have f : Frs [sh] H H' := by rw [hu]; exact (Frs.ex e02).upd (by simp) hx rfl
    exact k H' f (s.frs f hs) ⟨_, hd, Shf.put h2 c _, nodup_addC h3⟩
/-- box of lists joined -/
theorem ev_catL {ta tb : TE} {a c : Addr} {ds es : List D} (ha : EvG ta G H (aV (.ref a))) (hb : EvG tb G H (aV (.ref c))) (wa : WL K H a ds) (wc : WL K H c es) (hl' : ds.length + es.length ≤ 100000) : EvN K (tOp (rAddU K) ta tb) G H (ds ++ es) := fun σ H1 s e Q q =>
  ha σ H1 s e _ fun va H2 e2 p2 => hb σ H2 (s.ex e2) (e.trans e2) _ fun vb H3 e3 p3 => by
    have ea : va = .ref a := p2
    have eb : vb = .ref c := p3
    subst ea eb
    obtain ⟨xs, hx, dx⟩ := WL.ex wa ((e.trans e2).trans e3)
    obtain ⟨ys, hy, dy⟩ := WL.ex wc ((e.trans e2).trans e3)
    refine .inr (.inr ⟨a, c, xs, ys, rfl, rfl, hx, hy, by rw [dx.length, dy.length]; exact Nat.le_trans hl' (by decide), fun p hp => ?_⟩)
    have en := Evl.Ex.new (o := .lst (xs ++ ys)) hp
    exact q p (xs ++ ys) _ (Evl.fresh_back (e2.trans e3) hp) ((e2.trans e3).trans en) upd_same ((dx.ex en).append (dy.ex en))
end
theorem atEnd {ds : List D} {d : D} (h : ds.getLast? = some d) : atI ds (-1) = some d := by
  cases z : ds.reverse with
  | nil => rw [List.reverse_eq_nil_iff.mp z] at h; cases h
  | cons a t =>
    have e : ds = t.reverse ++ [a] := by rw [← List.reverse_reverse ds, z, List.reverse_cons]
    rw [e] at h ⊢
    rw [List.getLast?_append] at h
    simp at h
    subst h
    exact atI_last _ _
theorem cellsD_some (n f l : Nat) : cellsD (some (n, f, l)) = (List.range (l - f)).map fun i => cellD n (f + i) := by
  unfold cellsD cellsP
  rw [List.map_map]
  rfl
theorem cellsD_len (p : Option Pc) : (cellsD p).length = sizeOf p := by
  match p with
  | none => rfl
  | some (n, f, l) => rw [cellsD_some, List.length_map, List.length_range]; rfl
theorem cellsD_first {n f l : Nat} (h : f < l) : atI (cellsD (some (n, f, l))) 0 = some (cellD n f) := by
  refine atD (n := 0) ?_
  rw [cellsD_some, List.getElem?_map, List.getElem?_eq_getElem (by rw [List.length_range]; omega)]
  simp
theorem cellsD_last {n f l : Nat} (h : f < l) : atI (cellsD (some (n, f, l))) (-1) = some (cellD n (l - 1)) := by
  refine atEnd ?_
  rw [cellsD_some, List.getLast?_map]
  have : l - f = (l - f - 1) + 1 := by omega
  rw [this, List.range_succ, List.getLast?_append]
  simp only [List.getLast?_singleton, Option.some_or, Option.map_some]
  have e : f + (l - f - 1) = l - 1 := by omega
  rw [e]
theorem cellsD_lay (p : Option Pc) : ∀ x ∈ cellsD p, Lay 8 x := fun x hx => by
  obtain ⟨c, _, rfl⟩ := List.mem_map.mp hx
  exact (lay_encC (n := 7) c)
theorem cellsD_empty {bs : List Blk} {p : Option Pc} (h : ∀ q, p = some q → PcOk bs q) : (cellsD p).isEmpty = decide (p = none) := by
  match p with
  | none => rfl
  | some (n, f, l) =>
    have := (h _ rfl).fl
    have : f < l := this
    rw [decide_eq_false (by simp)]
    cases z : cellsD (some (n, f, l)) with
    | nil =>
      have := cellsD_len (some (n, f, l))
      rw [z] at this
      have : 0 = l - f := this
      omega
    | cons _ _ => rfl
theorem cells_adj {n f l l' : Nat} (h1 : f ≤ l) (h2 : l ≤ l') : cellsD (some (n, f, l)) ++ cellsD (some (n, l, l')) = cellsD (some (n, f, l')) := by
  rw [cellsD_some, cellsD_some, cellsD_some]
  have e : l' - f = (l - f) + (l' - l) := by omega
  rw [e, List.range_add, List.map_append, List.map_map]
  congr 1
  refine List.map_congr_left fun i _ => ?_
  show cellD n (l + i) = cellD n (f + (l - f + i))
  congr 1
  omega
/-- who reads the sizes -/
def aBoxZ (bs : List Blk) : Asr := ⟨fun v H => ∃ bx hl sz sh, v = .ref bx ∧ H bx = some (.dK (boxK hl sz sh)) ∧ H sz = some (.dK (intK (sizesK bs))), fun e ⟨bx, hl, sz, sh, h1, h2, h3⟩ => ⟨bx, hl, sz, sh, h1, e _ _ h2, e _ _ h3⟩⟩
section
variable {K : PySem.W.Frag} {P : Program} {w : World} {G : Gam} {H : Hp} {bx hl sz sh : Addr} {rows : List Addr} {h : List (Option Pc)} {bs : List Blk} {te : TE}
theorem ev_boxzs (b : BoxIs P w K H bx hl sz sh rows h bs) (ha : EvG te G H (aV (.ref bx))) : EvG te G H (aBoxZ bs) := fun σ H1 s e Q q => ha σ H1 s e _ fun v H2 e2 p2 => by
  have ev : v = .ref bx := p2
  have b2 := b.ex (e.trans e2)
  exact q v H2 e2 ⟨bx, hl, sz, sh, ev, b2.box, b2.sizes⟩
end
theorem sum_const (m : Nat) : ∀ l : List Nat, (l.map fun _ => m).sum = l.length * m
  | [] => by simp
  | a :: l => by rw [List.map_cons, List.sum_cons, sum_const m l, List.length_cons, Nat.succ_mul, Nat.add_comm]
theorem nodup_few {ks : List (Nat × Nat)} (h : ks.Nodup) (n m : Nat) (hb : ∀ c ∈ ks, c.1 < n ∧ c.2 < m) : ks.length ≤ n * m := by
  have hs : ks ⊆ (List.range n).flatMap fun i => (List.range m).map fun j => (i, j) := fun c hc => by
    obtain ⟨h1, h2⟩ := hb c hc
    exact List.mem_flatMap.mpr ⟨c.1, List.mem_range.mpr h1, List.mem_map.mpr ⟨c.2, List.mem_range.mpr h2, rfl⟩⟩
  have := h.length_le_of_subset hs
  rw [List.length_flatMap] at this
  simp only [List.length_map, List.length_range] at this
  rwa [sum_const, List.length_range] at this
section
variable {K : PySem.W.Frag} {P : Program} {w : World} {G : Gam} {σ : L2.St} {H H1 : Hp} {bx hl sz sh : Addr} {rows : List Addr} {h : List (Option Pc)} {bs : List Blk} {EE : Ends}
theorem BoxIs.few {ks : List (Nat × Nat)} (b : ShOf ks bs) (hn : ks.Nodup) (h4 : bs.length ≤ 4) (h6 : ∀ b ∈ bs, ∀ x ∈ b.2, x < 6) : ks.length ≤ 24 := by
  refine nodup_few hn 4 6 fun c hc => ?_
  obtain ⟨n, x⟩ := c
  have := (b n x).mp hc
  rw [List.getD_eq_getElem?_getD] at this
  cases z : bs[n]? with
  | none => rw [z] at this; cases this
  | some y =>
    rw [z] at this
    have hlt := (List.getElem?_eq_some_iff.mp z).1
    exact ⟨by show n < 4; omega, h6 y (List.mem_of_getElem? z) x this⟩
theorem st_newBox {n : Nat} (s : SOk G σ H) (q : ∀ bx hl sz sh σ' H', H bx = none → H hl = none → H sz = none → H sh = none → Ex H H' → SOk (G.set n (some (aV (.ref bx)))) σ' H' → BoxIs P w K H' bx hl sz sh [] [] [] → EE.nx σ' H')
    (hn : n < G.length := by exact Nat.le_of_ble_eq_true rfl) : tAsg (tDisp [(tC (.str "held"), tLst tNil), (tC (.str "sizes"), tDNewK), (tC (.str "shelf"), tDNewD P w K)]) (gName n) EE σ H := fun bx h1 => by
  refine ⟨by show (0 : Nat) ≤ sizeLine; decide, fun hl h2 sz h3 sh H' h4 hu hd => ?_⟩
  obtain ⟨u, hu, hnt⟩ := hu
  have n2 : hl ≠ bx := fun z => by rw [z, upd_same] at h2; cases h2
  have n3 : sz ≠ hl := fun z => by rw [z, upd_same] at h3; cases h3
  have h3' := h3
  rw [upd_ne n3] at h3
  have n4 : sz ≠ bx := fun z => by rw [z, upd_same] at h3; cases h3
  have n5 : sh ≠ sz := fun z => by rw [z, upd_same] at h4; cases h4
  have h4' := h4
  rw [upd_ne n5] at h4
  have n6 : sh ≠ hl := fun z => by rw [z, upd_same] at h4; cases h4
  rw [upd_ne n6] at h4
  have n7 : sh ≠ bx := fun z => by rw [z, upd_same] at h4; cases h4
  have g2 := h2
  rw [upd_ne n2] at g2
  have g3 := h3
  rw [upd_ne n4] at g3
  have g4 := h4
  rw [upd_ne n7] at g4
  have e1 : Ex H (upd H bx (.dK [])) := Evl.Ex.new h1
  have e2 : Ex (upd H bx (.dK [])) (upd (upd H bx (.dK [])) hl (.lst [])) := Evl.Ex.new h2
  have e3 := Evl.Ex.new (o := HO.dK []) h3'
  have e4 : Ex (upd (upd (upd H bx (.dK [])) hl (.lst [])) sz (.dK [])) H' := by rw [hu]; exact Evl.Ex.new (o := u) h4'
  have b0 : H' bx = some (.dK []) := (e2.trans (e3.trans e4)) _ _ upd_same
  have fr : Frs [bx] (upd H bx (.dK [])) (upd H' bx (.dK (boxK hl sz sh))) := (Frs.ex (e2.trans (e3.trans e4))).upd (by simp) b0 rfl
  have e5 : Ex H (upd H' bx (.dK (boxK hl sz sh))) := Frs.ofNew (W := [bx]) (H1 := H') ((Frs.refl).upd (by simp) b0 rfl) (e1.trans (e2.trans (e3.trans e4))) (fun a ha => by rw [List.mem_singleton.mp ha]; exact h1)
  refine ⟨b0, [(Sum.inr "held", V.ref hl), (Sum.inr "sizes", V.ref sz), (Sum.inr "shelf", V.ref sh)], rfl, by show 3 ≤ 15; decide, ?_⟩
  have em : mergeK [] [(Sum.inr "held", V.ref hl), (Sum.inr "sizes", V.ref sz), (Sum.inr "shelf", V.ref sh)] = boxK hl sz sh := rfl
  rw [em]
  refine q bx hl sz sh _ _ h1 g2 g3 g4 e5 ((s.ex e5).set n rfl hn) ?_
  refine ⟨upd_same, ?_, ⟨[], Shf.new ?_, fun n x => by simp⟩, ⟨?_, rfl, fun i a p z => by cases z⟩, Ne.symm n4⟩
  · rw [upd_ne n4]
    exact e4 _ _ upd_same
  · exact hd.keep (tle_upd b0 rfl) fun o ho => by rw [upd_ne n7]; exact ho
  · rw [upd_ne n2]
    exact (e3.trans e4) _ _ upd_same
/-- a row is appended -/
theorem st_rowApp {tb te : TE} {p : Addr} {q : Option Pc} (hb : EvG tb G H (aV (.ref hl))) (ht : EvG te G H (aV (.ref p))) (s : SOk G σ H) (b : BoxIs P w K H bx hl sz sh rows h bs) (wl : WL K H p (cellsD q)) (hp : p ≠ hl) (hlen : h.length ≤ 100)
    (k : ∀ H', Frs [hl] H H' → SOk G σ H' → BoxIs P w K H' bx hl sz sh (rows ++ [p]) (h ++ [q]) bs → EE.nx σ H') (hs : ∀ A, some A ∈ G → A.St) : tDrop (tBM K "list" rAppend tb (tCons te tNil)) EE σ H :=
  hb σ H s (Evl.Ex.refl H) _ fun v H1 e1 p1 => by
    have ev : v = .ref hl := p1
    subst ev
    refine ⟨.inl ⟨rfl, _, Evl.sq_of (e1 _ _ b.rws.at_)⟩, ht σ H1 (s.ex e1) e1 _ fun y H2 e2 p2 => ?_⟩
    have ey : y = .ref p := p2
    subst ey
    have b2 := b.ex (e1.trans e2)
    have h3 := b2.rws.at_
    have f : Frs [hl] H (L2.upd H2 hl (.lst (rows.map V.ref ++ [.ref p]))) := (Frs.ex (e1.trans e2)).upd (by simp) h3 rfl
    have f2 : Frs [hl] H2 (L2.upd H2 hl (.lst (rows.map V.ref ++ [.ref p]))) := Frs.refl.upd (by simp) h3 rfl
    refine ⟨hl, _, .ref p, rfl, rfl, h3, Evl.sz_lt (by rw [List.length_map, b.rws.len]; omega), k _ f (s.frs f hs) ?_⟩
    obtain ⟨ks0, s1, s2⟩ := b2.shelf
    refine ⟨f2.keep _ (by simp [Ne.symm b.hl_bx]) _ b2.box, f2.keep _ (by simp [Ne.symm b.hl_sz]) _ b2.sizes, ⟨ks0, s1.frs f2 (by simp [b.sh_hl]), s2⟩, ⟨?_, by rw [List.length_append, List.length_append, b.rws.len]; rfl, fun i x z i1 i2 => ?_⟩, b.dif⟩
    · rw [upd_same, List.map_append]; rfl
    · have hlr := b.rws.len
      rcases Nat.lt_trichotomy i h.length with hi | hi | hi
      · rw [List.getElem?_append_left (by omega)] at i1
        rw [List.getElem?_append_left hi] at i2
        obtain ⟨z1, z2⟩ := b2.rws.row i x z i1 i2
        exact ⟨z1.frs f2 (by simp [z2]), z2⟩
      · subst hi
        rw [List.getElem?_append_right (by omega), hlr] at i1
        rw [List.getElem?_append_right (by omega)] at i2
        simp at i1 i2
        subst i1 i2
        exact ⟨(WL.ex wl (e1.trans e2)).frs f2 (by simp [hp]), hp⟩
      · rw [List.getElem?_eq_none (by simp; omega)] at i1
        cases i1
end
section
variable {K : PySem.W.Frag} {P : Program} {w : World} {G : Gam} {σ : L2.St} {H H1 : Hp} {bx hl sz sh r : Addr} {rows : List Addr} {h : List (Option Pc)} {bs : List Blk} {EE : Ends} {ta tb te : TE} {tt : TT} {A : Asr} {b : Bool} {ds : List D}
/-- an element that is no data -/
theorem ev_ixV {a : Addr} {xs : List V} {n : Nat} {v : V} (hx : H a = some (.lst xs)) (ha : EvG ta G H (aV (.ref a))) (hb : EvG tb G H (aD K (.num n))) (h : xs[n]? = some v) : EvG (tOp (rIxU P w K) ta tb) G H (aV v) := ev_op ha hb (rg_or1 (rg_or1 fun H1 ex x y hx' hy Q q =>
  ⟨a, xs, n, v, hx', DIs.num_inv hy, Evl.sq_of (ex _ _ hx), atI_nat h, q _ H1 (Evl.Ex.refl H1) rfl⟩))
theorem ev_row {n : Nat} {x : Addr} (bq : BoxIs P w K H bx hl sz sh rows h bs) (ha : EvG ta G H (aV (.ref hl))) (hb : EvG tb G H (aD K (.num n))) (hr : rows[n]? = some x) : EvG (tOp (rIxU P w K) ta tb) G H (aV (.ref x)) :=
  ev_ixV bq.rws.at_ ha hb (by rw [List.getElem?_map, hr]; rfl)
theorem en_ifF (h1 : EvT tt G H b) (e : b = false) (h2 : EvN K tb G H ds) : EvN K (tIf tt ta tb) G H ds := fun σ H1 s x Q q => h1 σ H1 s x _ fun H2 e2 => by
  subst e
  show tb σ H2 Q
  exact h2 σ H2 (s.ex e2) (x.trans e2) Q fun p xs H3 hp e3 hx hd => q p xs H3 (Evl.fresh_back e2 hp) (e2.trans e3) hx hd
/-- an `if` of another word -/
theorem st_skip {n : Nat} {x word : Str} {t u : TS} (s : SOk G σ H) (hg : G[n]? = some (some (aD K (.text word)))) (hne : decide (word = x) = false) (q : ∀ H', Ex H H' → SOk G σ H' → u EE σ H') : tIfS (tTest (tOp (rEqU K) (tVar n) (tC (.str x)))) t u EE σ H :=
  st_if (et_test (ev_eqS (ev_var hg) ev_str)) s (fun z => by rw [hne] at z; cases z) fun _ H' e s' => q H' e s'
/-- .. of this word -/
theorem st_this {n : Nat} {x word : Str} {t u : TS} (s : SOk G σ H) (hg : G[n]? = some (some (aD K (.text word)))) (he : decide (word = x) = true) (q : ∀ H', Ex H H' → SOk G σ H' → t EE σ H') : tIfS (tTest (tOp (rEqU K) (tVar n) (tC (.str x)))) t u EE σ H :=
  st_if (et_test (ev_eqS (ev_var hg) ev_str)) s (fun _ H' e s' => q H' e s') fun z => by rw [he] at z; cases z
/-- .. of two words -/
theorem st_skip2 {n : Nat} {x y word : Str} {t u : TS} {tw : TT} (s : SOk G σ H) (hg : G[n]? = some (some (aD K (.text word)))) (hne : decide (word = x) = false) (hne2 : decide (word = y) = false) (q : ∀ H', Ex H H' → SOk G σ H' → u EE σ H') : tIfS (tOr (tTest (tOp (rEqU K) (tVar n) (tC (.str x)))) (tAnd (tTest (tOp (rEqU K) (tVar n) (tC (.str y)))) tw)) t u EE σ H :=
  st_if (b := false) (et_is (et_or (c := false) (et_test (ev_eqS (ev_var hg) ev_str)) fun _ => et_is (et_and (c := false) (et_test (ev_eqS (ev_var hg) ev_str)) fun z => by rw [hne2] at z; cases z) (by rw [hne2]; rfl)) (by rw [hne]; rfl)) s (fun z => by cases z) fun _ H' e s' => q H' e s'
theorem st_this1 {n : Nat} {x y word : Str} {t u : TS} {tw : TT} (s : SOk G σ H) (hg : G[n]? = some (some (aD K (.text word)))) (he : decide (word = x) = true) (q : ∀ H', Ex H H' → SOk G σ H' → t EE σ H') : tIfS (tOr (tTest (tOp (rEqU K) (tVar n) (tC (.str x)))) (tAnd (tTest (tOp (rEqU K) (tVar n) (tC (.str y)))) tw)) t u EE σ H :=
  st_if (b := true) (et_is (et_or (c := true) (et_test (ev_eqS (ev_var hg) ev_str)) fun z => by rw [he] at z; cases z) (by rw [he]; rfl)) s (fun _ H' e s' => q H' e s') fun z => by cases z
theorem st_this2 {n : Nat} {x y word : Str} {t u : TS} {tw : TT} (s : SOk G σ H) (hg : G[n]? = some (some (aD K (.text word)))) (hne : decide (word = x) = false) (he : decide (word = y) = true) (hw : EvT tw G H b) (q1 : b = true → ∀ H', Ex H H' → SOk G σ H' → t EE σ H') (q2 : b = false → ∀ H', Ex H H' → SOk G σ H' → u EE σ H') : tIfS (tOr (tTest (tOp (rEqU K) (tVar n) (tC (.str x)))) (tAnd (tTest (tOp (rEqU K) (tVar n) (tC (.str y)))) tw)) t u EE σ H :=
  st_if (b := b) (et_is (et_or (c := b) (et_test (ev_eqS (ev_var hg) ev_str)) fun _ => et_is (et_and (c := b) (et_test (ev_eqS (ev_var hg) ev_str)) fun _ => hw) (by rw [he]; cases b <;> rfl)) (by rw [hne]; cases b <;> rfl)) s q1 q2
/-- a row's cells go onto the shelf -/
theorem for_shelve {nB nR nC : Nat} {cs ks : List (Nat × Nat)} (s : SOk G σ H) (gB : G[nB]? = some (some (aV (.ref bx)))) (gR : G[nR]? = some (some (aV (.ref r)))) (gC : G[nC]? = some none) (hs : ∀ A, some A ∈ G → A.St) (box : H bx = some (.dK (boxK hl sz sh))) (bsz : bx ≠ sh)
    (wl : WL K H r (cs.map encC)) (shf : Shf P w K H sh ks) (few : ks.length + cs.length ≤ 1000)
    (q : ∀ σ' H' ks', Frs [sh] H H' → SOk G σ' H' → Shf P w K H' sh ks' → (∀ c, c ∈ ks' ↔ c ∈ ks ∨ c ∈ cs) → EE.nx σ' H') :
    tFor (iSeqU K (tVar nR)) (gName nC) (tAsg (tC (.bl true)) (gSub (tOp (rIxU P w K) (tVar nB) (tC (.str "shelf"))) (tVar nC) (rSetU P w K))) EE σ H := by
  have rsh : r ≠ sh := shf.ne_wl wl
  obtain ⟨xs, hx, hd⟩ := wl
  have hln : nC < G.length := (List.getElem?_eq_some_iff.mp gC).1
  refine st_forA (ev_var gR) s (Evl.sq_of hx) fun H1 e1 s1 => ⟨fun i σ' H' => SOk G σ' H' ∧ Frs [sh] H1 H' ∧ ∃ ks', Shf P w K H' sh ks' ∧ (∀ c, c ∈ ks' ↔ c ∈ ks ∨ c ∈ cs.take i) ∧ ks'.length ≤ ks.length + i, ⟨s1, .refl, ks, shf.ex e1, fun c => by simp, Nat.le_refl _⟩, ?_, ?_, ?_⟩
  · rintro i σ' H' ⟨_, f', _⟩
    exact Evl.sq_of (f'.keep _ (by simp [rsh]) _ (e1 _ _ hx))
  · rintro i x σ' H' hi ⟨s', f', ks', k1, k2, k3⟩
    obtain ⟨d, hd1, hd2⟩ := hd.getV hi
    rw [List.getElem?_map] at hd1
    cases hc : cs[i]? with
    | none => rw [hc] at hd1; cases hd1
    | some c =>
      rw [hc] at hd1
      have ed := Option.some.inj hd1
      subst ed
      have hil := (List.getElem?_eq_some_iff.mp hc).1
      have dx := (hd2.ex e1).to f'.t
      have s2 := s'.set nC (A := aD K (encC c)) dx hln
      have gB2 : (G.set nC (some (aD K (encC c))))[nB]? = some (some (aV (.ref bx))) := by
        rw [List.getElem?_set_ne (fun z => by rw [z, gB] at gC; cases gC)]; exact gB
      have box2 := f'.keep _ (by simp [bsz]) _ (e1 _ _ box)
      refine st_shelf (K := K) (ev_boxS box2 (ev_var gB2)) (ev_var (by rw [List.getElem?_set_self hln])) s2 k1 (by omega) (fun H3 f3 s3 h3 => ?_) (fun A hA => ?_)
      · refine ⟨s3.unset gC, f'.trans f3, _, h3, fun c' => ?_, ?_⟩
        · have tk : cs.take (i + 1) = cs.take i ++ [c] := by rw [List.take_succ, hc]; rfl
          rw [mem_addC, k2, tk, List.mem_append, List.mem_singleton, or_assoc]
        · unfold addC
          split
          · omega
          · rw [List.length_append]; simp; omega
      · rcases List.mem_or_eq_of_mem_set hA with z | z
        · exact hs A z
        · cases z; exact aD_st
  · rintro σ' H' ⟨s', f', ks', k1, k2, _⟩
    have hl' : xs.length = cs.length := by rw [hd.length, List.length_map]
    rw [hl', List.take_length] at k2
    exact q σ' H' ks' ((Frs.ex e1).trans f') s' k1 k2
/-- the shelf is emptied -/
theorem st_clear {tq : TE} (s : SOk G σ H) (hq : EvG tq G H (aV (.ref sh))) {ks : List (Nat × Nat)} (shf : Shf P w K H sh ks) (q : ∀ H', Frs [sh] H H' → SOk G σ H' → Shf P w K H' sh [] → EE.nx σ H') (hs : ∀ A, some A ∈ G → A.St) : tDrop (tClearD P w K tq) EE σ H :=
  hq σ H s (Evl.Ex.refl H) _ fun v H1 e1 p1 => by
    have ev : v = .ref sh := p1
    subst ev
    obtain ⟨kvs, h1, h2⟩ := shf.ex e1
    have h1' := h1
    obtain ⟨xs, hx, _⟩ := h1'
    refine ⟨sh, kvs, rfl, h1, fun H2 ⟨u, hu, hn⟩ hd => ?_⟩
    have f : Frs [sh] H H2 := by rw [hu]; exact (Frs.ex e1).upd (by simp) hx rfl
    exact q H2 f (s.frs f hs) (Shf.new hd)
end
/-- a cut of a row -/
theorem cut_cells {i j : Nat} (p : Option Pc) (h : ∀ n f l, p = some (n, f, l) → f < l) (hij : i ≤ j) : cutD (cellsD p) (some (i : Int)) (some (j : Int)) = cellsD (part p i j) := by
  unfold cutD
  rw [HT.sIx_nat, HT.sIx_nat]
  match p with
  | none => simp [part, cellsD, cellsP]
  | some (n, f, l) =>
    have hfl := h n f l rfl
    rw [cellsD_some, List.length_map, List.length_range, ← List.map_drop, ← List.map_take]
    unfold part
    dsimp only
    split
    · rename_i hc
      rw [cellsD_some]
      have e1 : (List.range (l - f)).drop (min i (l - f)) = (List.range (l - f - min i (l - f))).map (min i (l - f) + ·) := by
        rw [List.range_eq_range', List.drop_range', List.range'_eq_map_range]
        simp
      rw [e1, ← List.map_take, List.take_range, List.map_map]
      have e2 : min (min j (l - f) - min i (l - f)) (l - f - min i (l - f)) = min (f + j) l - min (f + i) l := by omega
      rw [e2]
      refine List.map_congr_left fun x _ => ?_
      show cellD n (f + (min i (l - f) + x)) = cellD n (min (f + i) l + x)
      congr 1
      omega
    · rename_i hc
      have e2 : min j (l - f) - min i (l - f) = 0 := by omega
      rw [e2, List.take_zero]
      rfl
def wordT : Stp → Str
  | .read _ _ => "read" | .cut _ _ _ _ => "cut" | .tight _ _ => "tight" | .join _ _ _ => "join" | .move _ _ => "move" | .drop _ => "drop" | .keep _ => "keep" | .pack _ => "pack" | .clear => "clear" | .tell _ => "tell" | .ask _ => "ask" | .void _ _ => "void" | .jump _ => "jump"
def argsT : Stp → List (Nat ⊕ Nat)
  | .read a n => [.inl a, .inr n] | .cut a b i j => [.inl a, .inl b, .inr i, .inr j] | .tight a b => [.inl a, .inl b] | .join a b c => [.inl a, .inl b, .inl c] | .move a b => [.inl a, .inl b] | .drop a => [.inl a] | .keep a => [.inl a] | .pack a => [.inl a] | .clear => [] | .tell a => [.inl a] | .ask p => [.inr p] | .void a p => [.inl a, .inr p] | .jump p => [.inr p]
def spotsT : Stp → List Nat
  | .read a _ => [a] | .cut a b _ _ => [a, b] | .tight a b => [a, b] | .join a b c => [a, b, c] | .move a b => [a, b] | .drop a => [a] | .keep a => [a] | .pack a => [a] | .clear => [] | .tell a => [a] | .ask _ => [] | .void a _ => [a] | .jump _ => []
def encA : Nat ⊕ Nat → D
  | .inl a => nmD a
  | .inr n => .num n
def nameA : Nat ⊕ Nat → Bool
  | .inl _ => true
  | .inr _ => false
def numA : Nat ⊕ Nat → Nat
  | .inl a => a
  | .inr n => n
theorem encT_eq (t : Stp) : encT t = .tup (.text (wordT t) :: (argsT t).map encA) := by cases t <;> rfl
theorem spots_eq (t : Stp) : ((argsT t).filter nameA).map (fun a => natD (numA a)) = (spotsT t).map natD := by cases t <;> rfl
theorem args_few (t : Stp) : (argsT t).length ≤ 4 := by cases t <;> simp [argsT]
theorem names_lt {t : Stp} {wd c : Nat} (h : t.Ok wd c 12) : ∀ a, Sum.inl a ∈ argsT t → a < c := fun a ha => by
  cases t <;> simp only [argsT, List.mem_cons, List.not_mem_nil, or_false, Sum.inl.injEq, reduceCtorEq, Stp.Ok] at ha h <;> omega
theorem spots_lt {t : Stp} {wd c : Nat} (h : t.Ok wd c 12) : ∀ a ∈ spotsT t, a < c := fun a ha => by
  refine names_lt h a ?_
  cases t <;> simp only [argsT, spotsT, List.mem_cons, List.not_mem_nil, or_false, Sum.inl.injEq, reduceCtorEq] at ha ⊢ <;> exact ha
theorem mem_cellsP {n f l : Nat} {c : Nat × Nat} : c ∈ cellsP (some (n, f, l)) ↔ c.1 = n ∧ f ≤ c.2 ∧ c.2 < l := by
  obtain ⟨m, x⟩ := c
  unfold cellsP
  rw [List.mem_map]
  constructor
  · rintro ⟨i, hi, e⟩
    have := List.mem_range.mp hi
    obtain ⟨rfl, rfl⟩ := Prod.mk.inj e
    refine ⟨rfl, ?_, ?_⟩
    · show f ≤ f + i; omega
    · show f + i < l; omega
  · rintro ⟨h1, h2, h3⟩
    have h2 : f ≤ x := h2
    have h3 : x < l := h3
    refine ⟨x - f, List.mem_range.mpr (by omega), ?_⟩
    have : f + (x - f) = x := by omega
    show (n, f + (x - f)) = (m, x)
    rw [this]
    have : m = n := h1
    rw [this]
theorem sizesK_congr {bs bs' : List Blk} (hl : bs'.length = bs.length) (h : ∀ n, n < bs.length → blkSize bs' n = blkSize bs n) : sizesK bs' = sizesK bs := by
  unfold sizesK
  rw [hl]
  refine List.map_congr_left fun i hi => ?_
  rw [h i (List.mem_range.mp hi)]
def shelveO (bs : List Blk) : Option Pc → List Blk
  | none => bs
  | some q => shelve bs q
theorem shelve_sizes {bs : List Blk} {q : Pc} (hq : PcOk bs q) : sizesK (shelve bs q) = sizesK bs := by
  obtain ⟨n, f, l⟩ := q
  have hn : n < bs.length := hq.n
  refine sizesK_congr (by unfold shelve; rw [List.length_set]) fun m hm => ?_
  unfold shelve
  by_cases z : n = m
  · subst z
    unfold blkSize
    rw [List.getD_eq_getElem?_getD, List.getElem?_set_self hn]
    rfl
  · unfold blkSize
    rw [List.getD_eq_getElem?_getD, List.getElem?_set_ne z, ← List.getD_eq_getElem?_getD]
theorem shelve_of {bs : List Blk} {ks ks' : List (Nat × Nat)} {w : Nat} (ho : ShOf ks bs) (hb : ∀ b ∈ bs, BlkOk1 w b) {p : Option Pc} (hp : ∀ q, p = some q → PcOk bs q) (h : ∀ c, c ∈ ks' ↔ c ∈ ks ∨ c ∈ cellsP p) : ShOf ks' (shelveO bs p) := by
  match p with
  | none =>
    intro n x
    rw [h]
    show (_ ∨ _ ∈ []) ↔ _
    simp only [List.not_mem_nil, or_false]
    exact ho n x
  | some (n, f, l) =>
    have k := hp _ rfl
    have hn : n < bs.length := k.n
    have hl : l ≤ blkSize bs n := k.l
    intro m x
    rw [h, mem_cellsP, ho m x]
    show _ ↔ x ∈ ((shelve bs (n, f, l)).getD m (0, [])).2
    unfold shelve
    rw [List.getD_eq_getElem?_getD (l := bs.set _ _)]
    by_cases z : n = m
    · subst z
      rw [List.getElem?_set_self hn]
      show _ ↔ x ∈ List.filter _ _
      rw [List.mem_filter, List.mem_range]
      constructor
      · rintro (hx | ⟨_, h1, h2⟩)
        · rw [getB hn] at hx
          have := (hb _ (List.getElem_mem hn)).lt x hx
          rw [← blkSize_at hn] at this
          exact ⟨this, by rw [getB hn]; simp [hx]⟩
        · have h1 : f ≤ x := h1
          have h2 : x < l := h2
          exact ⟨by omega, by simp [h1, h2]⟩
      · rintro ⟨h1, h2⟩
        simp only [Bool.or_eq_true, Bool.and_eq_true, decide_eq_true_eq] at h2
        rcases h2 with h2 | h2
        · exact .inl h2
        · exact .inr ⟨rfl, h2⟩
    · rw [List.getElem?_set_ne z, ← List.getD_eq_getElem?_getD]
      constructor
      · rintro (hx | ⟨h1, _⟩)
        · exact hx
        · exact absurd (by have : m = n := h1; rw [this]) z
      · exact .inl
theorem clear_of (bs : List Blk) : ShOf [] (bs.map fun b => (b.1, ([] : List Nat))) := fun n x => by
  rw [List.getD_eq_getElem?_getD, List.getElem?_map]
  cases bs[n]? <;> simp
theorem clear_sizes (bs : List Blk) : sizesK (bs.map fun b => (b.1, ([] : List Nat))) = sizesK bs := by
  refine sizesK_congr (by rw [List.length_map]) fun n hn => ?_
  unfold blkSize
  rw [List.getD_eq_getElem?_getD, List.getElem?_map, List.getElem?_eq_getElem hn, getB hn]
  rfl
/-- the row that a step reads -/
def rowP (t : Stp) (h : List (Option Pc)) : Option Pc := match (spotsT t).getLast? with
  | none => none
  | some a => getP h a
section
variable {K : PySem.W.Frag} {P : Program} {w : World} {G : Gam} {σ : L2.St} {H H1 : Hp} {bx hl sz sh r : Addr} {rows : List Addr} {h : List (Option Pc)} {bs : List Blk} {EE : Ends}
theorem st_lrow {t : Stp} {sp : Addr} (s : SOk G σ H) (g4 : G[4]? = some (some (aV (.ref hl)))) (g5 : G[5]? = some (some (aV (.ref sp)))) (wsp : WL K H sp ((spotsT t).map natD)) (b : BoxIs P w K H bx hl sz sh rows h bs) (hlt : ∀ a ∈ spotsT t, a < h.length)
    (q : ∀ r σ' H', Ex H H' → SOk (G.set 6 (some (aV (.ref r)))) σ' H' → WL K H' r (cellsD (rowP t h)) → r ≠ hl → EE.nx σ' H') (hn : 6 < G.length) :
    tAsg (tIf (tTest (tOp (rNeU K) (tVar 5) (tLst tNil))) (tOp (rIxU P w K) (tVar 4) (tOp (rIxU P w K) (tVar 5) (tUn (rU fun i => .int (-i)) (tC (.int 1))))) (tLst tNil)) (gName 6) EE σ H := by
  have test : EvT (tTest (tOp (rNeU K) (tVar 5) (tLst tNil))) G H (!(spotsT t).isEmpty) := et_is (et_test (ev_neN (ev_wl g5 wsp) (lay_nats _))) (by rw [List.isEmpty_map])
  cases z : (spotsT t).getLast? with
  | none =>
    have e : spotsT t = [] := by simpa using z
    refine EvN.st (n := 6) (en_ifF test (by rw [e]; rfl) (ev_lst (K := K) ed_nil (Nat.zero_le _))) s (fun p σ' H' hp e' s' w' => q p σ' H' e' s' ?_ fun y => ?_) hn
    · unfold rowP; rw [z]; exact w'
    · rw [y, b.rws.at_] at hp; cases hp
  | some a =>
    have hm : a ∈ spotsT t := List.mem_of_getLast? z
    obtain ⟨x, hx, wx, nx⟩ := b.rws.get (hlt a hm)
    have ne : (!(spotsT t).isEmpty) = true := by
      cases y : spotsT t with
      | nil => rw [y] at hm; cases hm
      | cons _ _ => rfl
    have hat : atI ((spotsT t).map natD) (-1) = some (natD a) := atEnd (by rw [List.getLast?_map, z]; rfl)
    refine st_set (A := aV (.ref x)) (ev_ifT test ne (ev_row b (ev_var g4) (ev_ixL (ev_wl g5 wsp) (ev_neg ev_int) hat) hx)) s (fun σ' H' e' s' => q x σ' H' e' s' ?_ nx) hn
    unfold rowP; rw [z]; exact WL.ex wx e'
end
/-- a value, then a target -/
theorem st_refv {G : Gam} {σ : L2.St} {H : Hp} {EE : Ends} {A : Asr} {te : TE} {g : TG} (h : EvG te G H A) (s : SOk G σ H) (q : ∀ v H', Ex H H' → SOk G σ H' → A.p v H' → g v σ H' EE.nx) : tAsg te g EE σ H := h σ H s (Evl.Ex.refl H) _ fun v H' e p => q v H' e (s.ex e) p
theorem cut_tail (d : D) (ds : List D) : cutD (d :: ds) (some (1 : Int)) none = ds := by
  unfold cutD
  have e : HT.sIx (d :: ds).length 0 (some (1 : Int)) = min 1 (d :: ds).length := HT.sIx_nat _ _ 1
  rw [e, HT.sIx_none]
  have e2 : min 1 (d :: ds).length = 1 := by rw [List.length_cons]; omega
  rw [e2]
  show ds.take _ = ds
  exact List.take_of_length_le (by rw [List.length_cons]; omega)
section
variable {K : PySem.W.Frag} {P : Program} {w : World} {G G1 : Gam} {σ : L2.St} {H H1 : Hp} {EE : Ends} {ta tb te te2 : TE} {A C : Asr} {ds es : List D} {a : Addr} {g : TG} {ts : TS}
theorem ev_callSp {sp : Sp} {E : XK} {tt : TA} {As : List Asr} (ha : EvA tt G H As) (h : ∀ vs H1, Ex H H1 → AAll As vs H1 → ∀ Q : VK, (∀ v H2, Ex H1 H2 → C.p v H2 → Q v H2) → sp vs H1 Q E) : EvG (tCall sp [] E tt) G H C := fun σ H1 s x Q q =>
  ha σ H1 s x _ fun vs H2 e2 p => by
    show sp (vs ++ []) H2 Q E
    rw [List.append_nil]
    exact h vs H2 (x.trans e2) p Q fun v H3 e3 pv => q v H3 (e2.trans e3) pv
theorem st_asgVN {n m : Nat} (h : EvG ta G H (aV (.ref a))) (h2 : EvN K tb G H ds) (s : SOk G σ H) (q : ∀ p σ' H', H p = none → Ex H H' → SOk ((G.set n (some (aV (.ref a)))).set m (some (aV (.ref p)))) σ' H' → WL K H' p ds → EE.nx σ' H')
    (hn : n < G.length := by exact Nat.le_of_ble_eq_true rfl) (hm : m < G.length := by exact Nat.le_of_ble_eq_true rfl) : tAsg (tTup (tCons ta (tCons tb tNil))) (gTup K 2 (gCons (gName n) (gCons (gName m) gNil))) EE σ H :=
  h σ H s (Evl.Ex.refl H) _ fun v H1 e1 p1 => h2 σ H1 (s.ex e1) e1 _ fun p xs H2 hp e2 hx hd => by
    have ev : v = .ref a := p1
    subst ev
    refine ⟨by show 2 ≤ sizeLine; decide, fun T hT => ?_⟩
    have e3 := Evl.Ex.new (o := .tup [.ref a, .ref p]) hT
    refine ⟨T, [.ref a, .ref p], rfl, .inl (.inl upd_same), rfl, .ref a, [.ref p], rfl, .ref p, [], rfl, rfl, ?_⟩
    have e13 := (e1.trans e2).trans e3
    exact q p _ _ (Evl.fresh_back e1 hp) e13 (((s.ex e13).set n (A := aV (.ref a)) rfl hn).set m (A := aV (.ref p)) rfl (by rw [List.length_set]; exact hm)) ⟨xs, e3 _ _ hx, hd.ex e3⟩
/-- over a list that was just made -/
theorem st_forN (h : EvN K te G H ds) (s : SOk G σ H) (q : ∀ H1 a, H a = none → Ex H H1 → SOk G σ H1 → WL K H1 a ds → ∃ Pv : Nat → L2.St → Hp → Prop, Pv 0 σ H1 ∧ (∀ i σ' H', Pv i σ' H' → ∃ W, a ∉ W ∧ Frs W H1 H') ∧
    (∀ i d x σ' H', ds[i]? = some d → Pv i σ' H' → DIs K H' x d → g x σ' H' fun σ2 H2 => ts (turn Pv EE i) σ2 H2) ∧ ∀ σ' H', Pv ds.length σ' H' → EE.nx σ' H') : tFor (iSeqU K te) g ts EE σ H :=
  .inl (h σ H s (Evl.Ex.refl H) _ fun a xs H1 ha e1 hx hda => by
    obtain ⟨Pv, h0, ht, hs, hd⟩ := q H1 a ha e1 (s.ex e1) ⟨xs, hx, hda⟩
    refine ⟨a, rfl, ⟨xs, Evl.sq_of hx⟩, ?_⟩
    refine for_list Pv h0 (fun i σ' H' _ p => let ⟨W, h1, h2⟩ := ht i σ' H' p; Evl.sq_of (h2.keep _ h1 _ hx)) (fun i x σ' H' hx p => ?_) (fun σ' H' p => hd σ' H' (by rw [← hda.length]; exact p))
    obtain ⟨d, h1, h2⟩ := hda.getV hx
    obtain ⟨W, _, h4⟩ := ht i σ' H' p
    exact hs i d x σ' H' h1 p (h2.to h4.t))
theorem ev_catN (ha : EvG ta G H (aV (.ref a))) (hb : EvN K tb G H es) (wa : WL K H a ds) (hl' : ds.length + es.length ≤ 100000) : EvN K (tOp (rAddU K) ta tb) G H (ds ++ es) := fun σ H1 s e Q q =>
  ha σ H1 s e _ fun va H2 e2 p2 => hb σ H2 (s.ex e2) (e.trans e2) _ fun c ys H3 hc e3 hy dy => by
    have ea : va = .ref a := p2
    subst ea
    obtain ⟨xs, hx, dx⟩ := WL.ex wa ((e.trans e2).trans e3)
    refine .inr (.inr ⟨a, c, xs, ys, rfl, rfl, hx, hy, by rw [dx.length, dy.length]; exact Nat.le_trans hl' (by decide), fun p hp => ?_⟩)
    have en := Evl.Ex.new (o := .lst (xs ++ ys)) hp
    exact q p (xs ++ ys) _ (Evl.fresh_back (e2.trans e3) hp) ((e2.trans e3).trans en) upd_same ((dx.ex en).append (dy.ex en))
/-- the keys of a dict of ints -/
theorem ei_keysK {d : Addr} {o : Obj} {kvs : List (Int × V)} (h : EvG te G H (aV (.ref d))) (hd : H d = some (.frz o (.dK (intK kvs)))) : EvI K (iKeys te) G H (kvs.map fun kv => .num kv.1) := fun σ H1 s x R q => h σ H1 s x _ fun v H2 e2 p => by
  have ev : v = .ref d := p
  subst ev
  have e02 := x.trans e2
  refine ⟨d, o, rfl, .inl ⟨intK kvs, e02 _ _ hd, q (Itk d o (intK kvs)) H2 (fun H' => H' d = some (.frz o (.dK (intK kvs)))) e2 ?_ fun H3 e3 => e3 _ _ (e02 _ _ hd)⟩⟩
  have hl : (intK kvs).length = kvs.length := by unfold intK; rw [List.length_map]
  rw [List.length_map]
  refine ⟨fun i H' hi q => ⟨q, by omega⟩, fun H' q => ⟨q, by omega⟩, fun i H' x H'' hi q y => ?_⟩
  obtain ⟨rfl, k, v, hk, rfl⟩ := y
  refine ⟨Evl.Ex.refl _, ?_⟩
  unfold intK at hk
  rw [List.getElem?_map] at hk
  cases z : kvs[i]? with
  | none => rw [z] at hk; cases hk
  | some kv =>
    rw [z] at hk
    have e := Option.some.inj hk
    have e1 : Sum.inl kv.1 = k := congrArg Prod.fst e
    subst e1
    exact ⟨_, by rw [List.getElem?_map, z]; rfl, DIs.int _⟩
/-- a new list of data made under a lock -/
theorem en_lock (dd : Addr) (u : HO) (hd : H dd = some u) (mu : Mut (some u)) (hl : lockable u = true) (hG : ∀ σ H1 od, SOk G σ H1 → Ex H H1 → SOk G1 σ (upd H1 dd (.frz od u))) (h : ∀ od, EvN K te G1 (upd H dd (.frz od u)) ds) : EvN K (tLockE te) G H ds := fun σ H1 s x Q q => by
  have h1 := x _ _ hd
  refine ⟨dd, u, h1, mu, fun od => h od σ _ (hG σ H1 od s x) (ex_locked x) _ fun p xs H2 hp e2 hx ha => ?_⟩
  have h2 : H2 dd = some (.frz od u) := e2 _ _ upd_same
  have pd : p ≠ dd := fun z => by rw [z, upd_same] at hp; cases hp
  rw [upd_ne pd] at hp
  exact ⟨h2, q p xs _ hp (ex_unlock h1 e2) (by rw [upd_ne pd]; exact hx) (ha.to (le_unlock h2).t)⟩
/-- list.index of a number -/
theorem ev_listIx {n : Nat} {os : List Nat} (ho : EvG ta G H (aV (.ref a))) (wl : WL K H a (os.map natD)) (hb : EvG tb G H (aD K (natD n))) (hn : n ∈ os) : EvG (tBM K "list" (rIndex K) ta (tCons tb tNil)) G H (aD K (natD (os.idxOf n))) := fun σ H1 s e Q q =>
  ho σ H1 s e _ fun v H2 e2 p2 => by
    have ev : v = .ref a := p2
    subst ev
    obtain ⟨xs, hx, hd⟩ := WL.ex wl (e.trans e2)
    refine ⟨.inl ⟨rfl, xs, Evl.sq_of hx⟩, hb σ H2 (s.ex e2) (e.trans e2) _ fun y H3 e3 p3 => ?_⟩
    have hx3 := e3 _ _ hx
    have hd3 := hd.ex e3
    have hlt := List.idxOf_lt_length_of_mem hn
    have hget : (os.map natD)[os.idxOf n]? = some (natD n) := by
      rw [List.getElem?_map, List.getElem?_eq_getElem hlt, List.getElem_idxOf hlt]; rfl
    obtain ⟨z, hz, hzd⟩ := hd3.get hget
    refine ⟨a, xs, y, os.idxOf n, z, rfl, rfl, Evl.sq_of hx3, flat_V p3 rfl, flat_all hd3 flat_nats, hz, ?_, fun m z' hm hz' => ?_, q _ H3 (e2.trans e3) (.int _)⟩
    · rw [flat_eqV hzd p3 rfl rfl]; simp
    · obtain ⟨d', hd', hzd'⟩ := hd3.getV hz'
      rw [List.getElem?_map, List.getElem?_eq_getElem (by omega)] at hd'
      have ed := Option.some.inj hd'
      subst ed
      rw [flat_eqV hzd' p3 rfl rfl, decide_eq_false]
      intro y
      have hy := natD_inj y
      have hm2 : m < os.findIdx (· == n) := hm
      have hz2 := List.not_of_lt_findIdx hm2
      rw [beq_eq_false_iff_ne] at hz2
      exact hz2 hy
/-- (number, at) in the shelf -/
theorem ev_inShelf {sh : Addr} {ks : List (Nat × Nat)} {c : Nat × Nat} (ha : EvG ta G H (aD K (encC c))) (hb : EvG tb G H (aV (.ref sh))) (h : Shf P w K H sh ks) : EvG (tOp (rInU P w K) ta tb) G H (aB (decide (c ∈ ks))) := by
  obtain ⟨kvs, h1, h2, h3⟩ := h
  exact ev_isB (ev_inDD ha (ev_ddr hb h1.r) rfl (dep_encC c)) (Shf.in_ (P := P) (w := w) (K := K) (H := H) (sh := sh) h2 c)
theorem ev_lenShelf {sh : Addr} {ks : List (Nat × Nat)} (hb : EvG tb G H (aV (.ref sh))) (h : Shf P w K H sh ks) : EvG (tCB (rLenU P w K) (tCons tb tNil)) G H (aD K (.num ks.length)) := by
  obtain ⟨kvs, h1, h2, h3⟩ := h
  refine ev_is (ev_lenDD (ev_ddr hb h1.r)) ?_
  have := congrArg List.length h2
  rw [List.length_map, List.length_map] at this
  rw [this]
end
theorem filter_asc {n : Nat} {xs : List Nat} (ha : xs.Pairwise (· < ·)) (hl : ∀ x ∈ xs, x < n) : (List.range n).filter (fun x => decide (x ∈ xs)) = xs := by
  have h1 : ((List.range n).filter fun x => decide (x ∈ xs)).Pairwise (· < ·) := List.Pairwise.filter _ List.pairwise_lt_range
  refine List.Perm.eq_of_pairwise (le := (· < ·)) (fun a b _ _ h1 h2 => absurd h1 (Nat.lt_asymm h2)) h1 ha ((List.perm_ext_iff_of_nodup (h1.imp fun h => Nat.ne_of_lt h) (ha.imp fun h => Nat.ne_of_lt h)).mpr fun x => ?_)
  rw [List.mem_filter, List.mem_range]
  simp only [decide_eq_true_eq]
  exact ⟨fun z => z.2, fun z => ⟨hl x z, z⟩⟩
def plnD (p : Pln) : D := .tup [natD p.wide, natD p.many, .tup (p.steps.map encT)]
section
variable {K : PySem.W.Frag} {P : Program} {w : World} {G G1 : Gam} {σ : L2.St} {H H1 : Hp} {EE : Ends} {ta tb te te2 : TE} {A B C : Asr} {ds es : List D} {a : Addr} {i j : Int}
theorem en_sortL2 (ha : EvG ta G H (aL K [.num i, .num j])) (hne : i ≠ j) : EvN K (tCB (rSortU w K) (tCons ta tNil)) G H ((sort2 i j).map .num) := fun σ H1 s x Q q => ha σ H1 s x _ fun v H2 e2 ⟨a, xs, ev, hs, hd⟩ => by
  have e : xs = [i, j].map V.int := DAll.ints (ns := [i, j]) hd
  subst e ev
  refine .inl ⟨a, [i, j], rfl, hs, by simp, fun ns p hp hr hn => ?_⟩
  have e := perm2 hp hr hne
  subst e
  exact q _ _ _ (Evl.fresh_back e2 hn) (e2.trans (Evl.Ex.new hn)) upd_same (dall_ints _)
theorem st_parN2 {n m : Nat} (h : EvG te G H B) (h2 : EvN K te2 G H ds) (s : SOk G σ H) (q : ∀ p σ' H', H p = none → Ex H H' → SOk ((G.set n (some B)).set m (some (aV (.ref p)))) σ' H' → WL K H' p ds → EE.nx σ' H')
    (hn : n < G.length := by exact Nat.le_of_ble_eq_true rfl) (hm : m < G.length := by exact Nat.le_of_ble_eq_true rfl) : tPar n m (tCons te (tCons te2 tNil)) EE σ H :=
  h σ H s (Evl.Ex.refl H) _ fun v H1 e1 p1 => h2 σ H1 (s.ex e1) e1 _ fun p xs H2 np e2 h2 d2 =>
    ⟨v, .ref p, rfl, q p _ H2 (Evl.fresh_back e1 np) (e1.trans e2) (((s.ex (e1.trans e2)).set n (B.mono e2 p1) hn).set m (A := aV (.ref p)) rfl (by rw [List.length_set]; exact hm)) ⟨xs, h2, d2⟩⟩
end
theorem walkFrom_len (p : Pln) : ∀ (r : List Int) (s : Stand) (g : Int) (l : List (Stand × Int)), walkFrom p s g r = some l → l.length = r.length
  | [], s, g, l, h => by
    unfold walkFrom at h
    cases h; rfl
  | i :: r, s, g, l, h => by
    unfold walkFrom at h
    split at h
    · cases h
    · rename_i q _
      dsimp only at h
      split at h
      · cases h
      · rename_i l' h'
        cases h
        rw [List.length_cons, walkFrom_len p r _ _ _ h', List.length_cons]
theorem walkP_len {p : Pln} {r : List Int} {l : List (Stand × Int)} (h : walkP p r = some l) : l.length = r.length ∧ r ≠ [] := by
  cases r with
  | nil => cases h
  | cons i r =>
    have e0 : walkP p (i :: r) = if i = 0 then (walkFrom p (startP p) 0 r).map (fun l => (startP p, 0) :: l) else none := rfl
    rw [e0] at h
    split at h
    · obtain ⟨l', h1, rfl⟩ := Option.map_eq_some_iff.mp h
      exact ⟨by rw [List.length_cons, walkFrom_len p r _ _ _ h1, List.length_cons], by simp⟩
    · cases h
theorem walkFrom_pre (p : Pln) : ∀ (r t : List Int) (s : Stand) (g : Int), walkFrom p s g r = none → walkFrom p s g (r ++ t) = none
  | [], t, s, g, h => by unfold walkFrom at h; cases h
  | i :: r, t, s, g, h => by
    show walkFrom p s g (i :: (r ++ t)) = none
    unfold walkFrom at h ⊢
    cases hf : (afterP p s).find? fun q => decide ((q.1.1 : Int) = i) with
    | none => rfl
    | some q =>
      rw [hf] at h
      dsimp only at h ⊢
      cases hw : walkFrom p q.1 (if clearP p s then 0 else g + q.2) r with
      | none => rw [walkFrom_pre p r t _ _ hw]
      | some l => rw [hw] at h; cases h
theorem walkP_pre {p : Pln} {r t : List Int} (h : walkP p r = none) (hr : r ≠ []) : walkP p (r ++ t) = none := by
  cases r with
  | nil => exact absurd rfl hr
  | cons i r =>
    show (if i = 0 then (walkFrom p (startP p) 0 (r ++ t)).map (fun l => (startP p, 0) :: l) else none) = none
    have e0 : walkP p (i :: r) = if i = 0 then (walkFrom p (startP p) 0 r).map (fun l => (startP p, 0) :: l) else none := rfl
    rw [e0] at h
    split
    · rename_i hi
      rw [if_pos hi] at h
      cases hw : walkFrom p (startP p) 0 r with
      | none => rw [walkFrom_pre p r t _ _ hw]; rfl
      | some l => rw [hw] at h; cases h
    · rfl
abbrev SG := Stand × Int
def lastW (l : List SG) : SG := l.getLastD ((0, [], []), 0)
def atW (l : List SG) (i : Nat) : SG := l.getD i ((0, [], []), 0)
theorem lastW_at {l : List SG} (h : l ≠ []) {f : SG → D} : atI (l.map f) (-1) = some (f (lastW l)) := by
  obtain ⟨a, t, rfl⟩ : ∃ a t, l = t ++ [a] := ⟨l.getLast h, l.dropLast, (List.dropLast_concat_getLast h).symm⟩
  unfold lastW
  rw [List.map_append]
  have : (t ++ [a]).getLastD ((0, [], []), 0) = a := by simp [List.getLastD_eq_getLast?]
  rw [this]
  exact atI_last _ _
theorem atW_at {l : List SG} {i : Nat} (h : i < l.length) {f : SG → D} : (l.map f)[i]? = some (f (atW l i)) := by
  unfold atW
  rw [List.getElem?_map, List.getElem?_eq_getElem h]
  simp [h]
/-- what a most asks -/
def mostB (p : Pln) (num : Int) (path : List Int) (hs : Hts) : Bool := match walkP p path with
  | none => false
  | some l => decide ((lastW l).2 = num) && heightsB p hs num
/-- what a ring asks -/
def ringB (p : Pln) (path ring : List Int) : Bool := !path.isEmpty && !ring.isEmpty && match walkP p (path ++ ring) with
  | none => false
  | some l => decide ((lastW l).1 = (atW l (path.length - 1)).1) && !((l.drop (path.length - 1)).dropLast.any fun q => clearP p q.1) && decide ((lastW l).2 > (atW l (path.length - 1)).2)
theorem cut_to_last {ds : List D} {n : Nat} (h : n < ds.length) : cutD ds (some (n : Int)) (some (-1)) = (ds.drop n).dropLast := by
  unfold cutD
  rw [HT.sIx_nat]
  have e : HT.sIx ds.length ds.length (some (-1 : Int)) = ds.length - 1 := by
    show (if (-1 : Int) < 0 then ((-1 : Int) + (ds.length : Int)).toNat else min (-1 : Int).toNat ds.length) = _
    rw [if_pos (by decide)]
    omega
  rw [e, List.dropLast_eq_take, List.length_drop]
  congr 1
  · omega
  · rw [Nat.min_eq_left (by omega)]
/-- one of several -/
def aX {ι : Type} (B : ι → Asr) : Asr := ⟨fun v H => ∃ i, (B i).p v H, fun e ⟨i, h⟩ => ⟨i, (B i).mono e h⟩⟩
theorem aX_st {ι : Type} {B : ι → Asr} (h : ∀ i, (B i).St) : (aX B).St := fun v H H' t ⟨i, q⟩ => ⟨i, h i v H H' t q⟩
theorem aX_le {ι : Type} {B : ι → Asr} (h : ∀ i, (B i).Le) : (aX B).Le := fun v H H' t ⟨i, q⟩ => ⟨i, h i v H H' t q⟩
section
variable {K : PySem.W.Frag} {P : Program} {w : World} {G : Gam} {σ : L2.St} {H H1 : Hp} {EE : Ends} {ta tb te te2 te3 : TE} {A B C : Asr} {ds es : List D} {a : Addr} {i j : Int} {u : TS} {ι : Type}
theorem ev_X {B : ι → Asr} (x : ι) (h : EvG te G H (B x)) : EvG te G H (aX B) := ev_to h fun v H p => ⟨x, p⟩
theorem sr_setX {n : Nat} {B : ι → Asr} (h : EvG te G H (aX B)) (h1 : ∀ x, SR u (G.set n (some (B x))) H A) (hn : n < G.length := by exact Nat.le_of_ble_eq_true rfl) : SR (tSeq (tAsg te (gName n)) u) G H A := fun σ H1 s x D q => h σ H1 s x _ fun v H2 e ⟨k, p⟩ =>
  h1 k _ H2 ((s.ex e).set n p hn) (x.trans e) D fun v H3 e3 p => q v H3 (e.trans e3) p
theorem st_setX {n : Nat} {B : ι → Asr} (h : EvG te G H (aX B)) (s : SOk G σ H) (q : ∀ x σ' H', Ex H H' → SOk (G.set n (some (B x))) σ' H' → EE.nx σ' H') (hn : n < G.length := by exact Nat.le_of_ble_eq_true rfl) : tAsg te (gName n) EE σ H :=
  h σ H s (Evl.Ex.refl H) _ fun v H2 e ⟨k, p⟩ => q k _ H2 e ((s.ex e).set n p hn)
theorem sr_gle {G' : Gam} (h : SR u G' H A) (l : GLe G' G) : SR u G H A := fun σ H1 s x D q => h σ H1 (s.gle l) x D q
theorem sr_retX {B : ι → Asr} (x : ι) (h : EvG te G H (B x)) : SR (tRet te) G H (aX B) := sr_ret (ev_X x h)
theorem sr_if1' {tt : TT} {b : Bool} {t : TS} (h : EvT tt G H b) (h1 : b = true → SR t G H A) (h2 : b = false → SR u G H A) : SR (tIfS tt t u) G H A := sr_if1 h h1 h2
theorem emodN_lt (i : Int) {n : Nat} (hn : 0 < n) : (i % (n : Int)).toNat < n := by
  have h1 := Int.emod_nonneg i (by omega : (n : Int) ≠ 0)
  have h2 := Int.emod_lt_of_pos i (by omega : (0 : Int) < n)
  omega
theorem emodN_eq (i : Int) {n : Nat} (hn : 0 < n) : i % (n : Int) = (((i % (n : Int)).toNat : Nat) : Int) := by
  have h1 := Int.emod_nonneg i (by omega : (n : Int) ≠ 0)
  omega
def modN (i : Int) (n : Nat) : Nat := (i % (n : Int)).toNat
theorem modN_lt (i : Int) {n : Nat} (hn : 0 < n) : modN i n < n := emodN_lt i hn
theorem ev_modN {n : Nat} (ha : EvG ta G H (aD K (.num i))) (hb : EvG tb G H (aD K (.num n))) (hn : 0 < n) : EvG (tOp (rI (fun _ j => 0 < j) fun i j => .int (i % j)) ta tb) G H (aD K (natD (modN i n))) := ev_numIs (ev_mod ha hb (by omega)) (emodN_eq i hn)
theorem ev_modL {n : Nat} (ha : EvG ta G H (aD K (.num i))) (hb : EvG tb G H (aD K (.num j))) (hj : j = (n : Nat)) (hn : 0 < n) : EvG (tOp (rI (fun _ j => 0 < j) fun i j => .int (i % j)) ta tb) G H (aD K (natD (modN i n))) := ev_modN ha (ev_numIs hb hj) hn
theorem ev_natAdd {m n : Nat} (ha : EvG ta G H (aD K (natD m))) (hb : EvG tb G H (aD K (natD n))) : EvG (tOp (rAddU K) ta tb) G H (aD K (natD (m + n))) := ev_numIs (ev_add ha hb) (by omega)
/-- x, y, xs = e, e, a new list -/
theorem st_par3N {n m l : Nat} (h1 : EvG te G H A) (h2 : EvG te2 G H B) (h3 : EvN K te3 G H ds) (s : SOk G σ H) (q : ∀ p σ' H', H p = none → Ex H H' → SOk (((G.set n (some A)).set m (some B)).set l (some (aV (.ref p)))) σ' H' → WL K H' p ds → EE.nx σ' H')
    (hn : n < G.length := by exact Nat.le_of_ble_eq_true rfl) (hm : m < G.length := by exact Nat.le_of_ble_eq_true rfl) (hl : l < G.length := by exact Nat.le_of_ble_eq_true rfl) : tPar3 n m l (tCons te (tCons te2 (tCons te3 tNil))) EE σ H :=
  h1 σ H s (Evl.Ex.refl H) _ fun v1 H1 e1 p1 => h2 σ H1 (s.ex e1) e1 _ fun v2 H2 e2 p2 => h3 σ H2 (s.ex (e1.trans e2)) (e1.trans e2) _ fun p xs H3 hp e3 hx hd =>
    ⟨v1, v2, .ref p, rfl, q p _ H3 (Evl.fresh_back (e1.trans e2) hp) ((e1.trans e2).trans e3) ((((s.ex ((e1.trans e2).trans e3)).set n (A.mono (e2.trans e3) p1) hn).set m (B.mono e3 p2) (by rw [List.length_set]; exact hm)).set l (A := aV (.ref p)) rfl (by rw [List.length_set, List.length_set]; exact hl)) ⟨xs, hx, hd⟩⟩
/-- an `if` whose ways meet again -/
theorem st_ifK {tt : TT} {b : Bool} {t : TS} (h : EvT tt G H b) (s : SOk G σ H) (Pt : L2.St → Hp → Prop) (q1 : b = true → (∀ σ' H', Pt σ' H' → EE.nx σ' H') → ∀ H', Ex H H' → SOk G σ H' → t EE σ H') (q2 : b = false → (∀ σ' H', Pt σ' H' → EE.nx σ' H') → ∀ H', Ex H H' → SOk G σ H' → u EE σ H')
    (k : ∀ σ' H', Pt σ' H' → EE.nx σ' H') : tIfS tt t u EE σ H := st_if h s (fun z => q1 z k) (fun z => q2 z k)
theorem ixN_last {n : Nat} (h : 0 < n) : ixN n (-1) = some (n - 1) := by
  unfold ixN
  rw [if_neg (by omega), if_pos (by omega)]
  congr 1
  omega
end
def aInt (K : PySem.W.Frag) : Asr := aX fun n : Int => aD K (.num n)
/-- some plain program -/
def aPln (K : PySem.W.Frag) : Asr := aX fun p : {p : Pln // p.Ok} => aD K (plnD p.1)
def isNumD : D → Bool
  | .num _ => true
  | _ => false
def isTxtD : D → Bool
  | .text _ => true
  | _ => false
theorem kit_int : ∀ d : D, kitB (tyD d) "int" = some (isNumD d)
  | .none => (by decide +kernel : kitB "NoneType" "int" = some false)
  | .num _ => (by decide +kernel : kitB "int" "int" = some true)
  | .text _ => (by decide +kernel : kitB "str" "int" = some false)
  | .tup _ => (by decide +kernel : kitB "tuple" "int" = some false)
theorem kit_bool : ∀ d : D, kitB (tyD d) "bool" = some false
  | .none => (by decide +kernel : kitB "NoneType" "bool" = some false)
  | .num _ => (by decide +kernel : kitB "int" "bool" = some false)
  | .text _ => (by decide +kernel : kitB "str" "bool" = some false)
  | .tup _ => (by decide +kernel : kitB "tuple" "bool" = some false)
theorem kit_str : ∀ d : D, kitB (tyD d) "str" = some (isTxtD d)
  | .none => (by decide +kernel : kitB "NoneType" "str" = some false)
  | .num _ => (by decide +kernel : kitB "int" "str" = some false)
  | .text _ => (by decide +kernel : kitB "str" "str" = some true)
  | .tup _ => (by decide +kernel : kitB "tuple" "str" = some false)
theorem kit_tup : ∀ d : D, kitB (tyD d) "tuple" = some (isTup d)
  | .none => (by decide +kernel : kitB "NoneType" "tuple" = some false)
  | .num _ => (by decide +kernel : kitB "int" "tuple" = some false)
  | .text _ => (by decide +kernel : kitB "str" "tuple" = some false)
  | .tup _ => (by decide +kernel : kitB "tuple" "tuple" = some true)
def spf_is_integer (K : PySem.W.Frag) : Spf D := ⟨fun d => [aD K d], fun _ => True, fun d => aB (isNumD d)⟩
abbrev sc_is_integer_N : List Str := ["value"]
theorem sc_is_integer : FnScope ["value"] ["value"] (defScope (topS 7)) := ⟨rfl, rfl, rfl, by decide +kernel, rfl, by decide +kernel, by decide +kernel⟩
theorem ok_is_integer {P : Program} {w : World} {K : PySem.W.Frag} {mg : Str → Option Value} {base : Heap} {ad : Ads} (fx : Fx K mg ad) : Ok P w K mg base CX0 1 "is_integer" ["value"] ((spf_is_integer K).sp) := by
  refine fx.d_is_integer.ok sc_is_integer (fun _ _ _ _ _ _ us hl => match us, hl with | [_], _ => rfl) (Spf.len fun _ => rfl) fun f cdv A outer s H vs Q E hr hcd h => ?_
  refine ⟨_, PSs.nox (pss_one (ps_ret (pe_and (pe_callB (xIsi K) (by rfl) fx.isinstance_ (by decide +kernel) (pa_cons (pv 0) (pa_cons (pe_bltn (v := .ty "int") (u := .type "int") (by rfl) fx.int_ (by decide +kernel) (by rfl)) pa_nil))) (pe_one (pe_not (pe_callB (xIsi K) (by rfl) fx.isinstance_ (by decide +kernel) (pa_cons (pv 0) (pa_cons (pe_bltn (v := .ty "bool") (u := .type "bool") (by rfl) fx.bool_ (by decide +kernel) (by rfl)) pa_nil)))))))), ?_⟩
  refine Spf.run h fun d _ => sr_ret ?_
  exact ev_isB (ev_andV (ev_isi (ev_var rfl) (kit_int d)) fun hb => ev_notV (ev_isi (ev_var rfl) (kit_bool d))) (by simp)
def spf_size_of (K : PySem.W.Frag) : Spf (Option Pc) := ⟨fun p => [aD K (encP p)], fun p => ∀ n f l, p = some (n, f, l) → f ≤ l, fun p => aD K (natD (sizeOf p))⟩
abbrev sc_size_of_N : List Str := ["piece"]
theorem sc_size_of : FnScope ["piece"] ["piece"] (defScope (topS 18)) := ⟨rfl, rfl, rfl, by decide +kernel, rfl, by decide +kernel, by decide +kernel⟩
theorem ok_size_of {P : Program} {w : World} {K : PySem.W.Frag} {mg : Str → Option Value} {base : Heap} {ad : Ads} (fx : Fx K mg ad) : Ok P w K mg base CX0 1 "size_of" ["piece"] ((spf_size_of K).sp) := by
  refine fx.d_size_of.ok sc_size_of (fun _ _ _ _ _ _ us hl => match us, hl with | [_], _ => rfl) (Spf.len fun _ => rfl) fun f cdv A outer s H vs Q E hr hcd h => ?_
  refine ⟨_, PSs.nox (pss_one (ps_ret (pe_ifExp (pt_cmpR op_isNo (pv 0) pe_non (nomark _)) pe_int (pe_op op_sub (pe_ix (xIx P w K hr.units) (pv 0) pe_int (fun _ _ => rfl)) (pe_ix (xIx P w K hr.units) (pv 0) pe_int (fun _ _ => rfl)))))), ?_⟩
  refine Spf.run h fun p hp => sr_ret ?_
  match p with
  | none => exact ev_ifT (et_test (ev_isN (ev_var rfl))) rfl ev_int
  | some (n, f, l) =>
    refine ev_ifF (et_test (ev_isN (ev_var rfl))) rfl ?_
    refine ev_is (ev_sub (ev_ixT (ev_var rfl) ev_int rfl) (ev_ixT (ev_var rfl) ev_int rfl)) ?_
    have := hp n f l rfl
    show NestedKey.num ((l : Int) - f) = NestedKey.num ((l - f : Nat) : Int)
    congr 1
    omega
def spf_part (K : PySem.W.Frag) : Spf (Option Pc × Nat × Nat) := ⟨fun x => [aD K (encP x.1), aD K (natD x.2.1), aD K (natD x.2.2)], fun _ => True, fun x => aD K (encP (part x.1 x.2.1 x.2.2))⟩
abbrev sc_part_N : List Str := ["piece", "begin", "end", "number", "first", "last", "low", "high"]
theorem sc_part : FnScope ["piece", "begin", "end", "number", "first", "last", "low", "high"] ["piece", "begin", "end"] (defScope (topS 21)) := ⟨rfl, rfl, rfl, by decide +kernel, rfl, by decide +kernel, by decide +kernel⟩
theorem ok_part {P : Program} {w : World} {K : PySem.W.Frag} {mg : Str → Option Value} {base : Heap} {ad : Ads} (fx : Fx K mg ad) : Ok P w K mg base CX0 1 "part" ["piece", "begin", "end"] ((spf_part K).sp) := by
  refine fx.d_part.ok sc_part (fun _ _ _ _ _ _ us hl => match us, hl with | [_, _, _], _ => rfl) (Spf.len fun _ => rfl) fun f cdv A outer s H vs Q E hr hcd h => ?_
  refine ⟨_, PSs.nox (pss_cons (ps_if (pt_cmpR op_isNo (pv 0) pe_non (nomark _)) (pss_one (ps_ret pe_non)) (pss_nil)) (pss_cons (ps_asg (pv 0) (xTg K (n := 3) rfl (pgs_cons (pg_name (i := 3) sc_part.nd rfl (by first | exact .inl rfl | exact .inr rfl)) (pgs_cons (pg_name (i := 4) sc_part.nd rfl (by first | exact .inl rfl | exact .inr rfl)) (pgs_cons (pg_name (i := 5) sc_part.nd rfl (by first | exact .inl rfl | exact .inr rfl)) pgs_nil))))) (pss_cons (ps_par (i := 6) (j := 7) (by rfl) sc_part.nd rfl rfl (by decide) rfl rfl (pa_cons (pe_callB (call_minU rfl) (by rfl) fx.min_ (by decide +kernel) (pa_cons (pe_op (xAdd K) (pv 4) (pv 1)) (pa_cons (pv 5) pa_nil))) (pa_cons (pe_callB (call_minU rfl) (by rfl) fx.min_ (by decide +kernel) (pa_cons (pe_op (xAdd K) (pv 4) (pv 2)) (pa_cons (pv 5) pa_nil))) pa_nil)) (by rfl)) (pss_one (ps_ret (pe_ifExp (pt_cmpR op_lt (pv 6) (pv 7) (nomark _)) (pe_tup (pa_cons (pv 3) (pa_cons (pv 6) (pa_cons (pv 7) pa_nil)))) pe_non)))))), ?_⟩
  refine Spf.run h fun x _ => ?_
  obtain ⟨p, b, e⟩ := x
  match p with
  | none => exact sr_ifT (et_test (ev_isN (ev_var rfl))) rfl (sr_retS ev_non)
  | some (n, f, l) =>
    refine sr_ifF (et_test (ev_isN (ev_var rfl))) rfl (sr_next ?_)
    refine sr_asg (ev_var rfl) (tg_tup (tgs_cons tg_name (tgs_cons tg_name (tgs_cons tg_name tgs_nil))) rfl) ?_
    refine sr_par (ea_cons (ev_min2 (ev_add (ev_var rfl) (ev_var rfl)) (ev_var rfl)) (ea_one (ev_min2 (ev_add (ev_var rfl) (ev_var rfl)) (ev_var rfl)))) ?_
    have e1 : min ((f : Int) + b) l = ((min (f + b) l : Nat) : Int) := by omega
    have e2 : min ((f : Int) + e) l = ((min (f + e) l : Nat) : Int) := by omega
    rw [e1, e2]
    refine sr_ret ?_
    by_cases q : min (f + b) l < min (f + e) l
    · refine ev_is (ev_ifT (et_test (ev_cmpI (ev_var rfl) (ev_var rfl))) (decide_eq_true (by omega)) (ev_tup (ed_cons (ev_var rfl) (ed_cons (ev_var rfl) (ed_cons (ev_var rfl) ed_nil))) (by show 3 ≤ 100000; decide))) ?_
      show _ = encP (if _ then _ else _)
      rw [if_pos q]; rfl
    · refine ev_is (ev_ifF (et_test (ev_cmpI (ev_var rfl) (ev_var rfl))) (decide_eq_false (by omega)) ev_non) ?_
      show _ = encP (if _ then _ else _)
      rw [if_neg q]; rfl
def spf_is_whole (K : PySem.W.Frag) : Spf (Option Pc × List Blk) := ⟨fun x => [aD K (encP x.1), aL K (x.2.map encB)], fun x => ∀ n f l, x.1 = some (n, f, l) → f ≤ l ∧ n < x.2.length, fun x => aB (isWhole x.1 x.2)⟩
abbrev sc_is_whole_N : List Str := ["piece", "blocks"]
theorem sc_is_whole : FnScope ["piece", "blocks"] ["piece", "blocks"] (defScope (topS 19)) := ⟨rfl, rfl, rfl, by decide +kernel, rfl, by decide +kernel, by decide +kernel⟩
theorem ok_is_whole {P : Program} {w : World} {K : PySem.W.Frag} {mg : Str → Option Value} {base : Heap} {ad : Ads} (fx : Fx K mg ad) : Ok P w K mg base CX0 2 "is_whole" ["piece", "blocks"] ((spf_is_whole K).sp) := by
  refine fx.d_is_whole.ok sc_is_whole (fun _ _ _ _ _ _ us hl => match us, hl with | [_, _], _ => rfl) (Spf.len fun _ => rfl) fun f cdv A outer s H vs Q E hr hcd h => ?_
  refine ⟨_, PSs.nox (pss_one (ps_ret (pe_or (pe_cmpR op_isNo (pv 0) pe_non (nomark _)) (pe_one (pe_cmpR (xEq K hr.units) (pe_callD (ok_size_of (P := P) (w := w) (base := base) fx) (hr.mono (by decide)) (by rfl) (pa_cons (pv 0) pa_nil)) (pe_ix (xIx P w K hr.units) (pe_ix (xIx P w K hr.units) (pv 1) (pe_ix (xIx P w K hr.units) (pv 0) pe_int (fun _ _ => rfl)) (fun _ _ => rfl)) pe_int (fun _ _ => rfl)) (nomark _)))))), ?_⟩
  refine Spf.run h fun x hp => sr_ret ?_
  obtain ⟨p, bs⟩ := x
  refine ev_isB (c := isWhole p bs) (ev_orV (c := isWhole p bs) (ev_isN (ev_var rfl)) fun hb => ?_) (by cases p <;> simp [isWhole, encP, isNoD])
  match p with
  | none => cases hb
  | some (n, f, l) =>
    obtain ⟨h1, h2⟩ := hp n f l rfl
    have ha : atI (bs.map encB) (n : Int) = some (encB bs[n]) := atD (by simp [h2])
    refine ev_isB (ev_eqI (ev_call (f := spf_size_of K) (some (n, f, l)) (ea_one (ev_var rfl)) fun _ _ _ z => by cases z; exact h1) (ev_ixT (ev_ixL (ev_var rfl) (ev_ixT (ev_var rfl) ev_int rfl) ha) ev_int rfl)) ?_
    show decide (((l - f : Nat) : Int) = ((bs[n].1 : Nat) : Int)) = decide (l - f = blkSize bs n)
    have e : blkSize bs n = bs[n].1 := by unfold blkSize; simp [List.getD, h2]
    rw [e]
    exact decide_eq_decide.mpr (by omega)
/-- a piece and the blocks behind a def -/
def HBq (K : PySem.W.Frag) (b : Addr) (r : Option Pc × List Blk) (H : Hp) (Q : VK) : Prop := ∀ v H', Frs [b] H H' → DIs K H' v (encP r.1) → WL K H' b (r.2.map encB) → Q v H'
def sp_fresh (K : PySem.W.Frag) : Sp := fun vs H Q _ => ∃ (size : Nat) (b : Addr) (bs : List Blk), vs = [.int size, .ref b] ∧ WL K H b (bs.map encB) ∧ bs.length < 1000 ∧ HBq K b (freshP size bs) H Q
abbrev sc_fresh_N : List Str := ["size", "blocks"]
theorem sc_fresh : FnScope ["size", "blocks"] ["size", "blocks"] (defScope (topS 20)) := ⟨rfl, rfl, rfl, by decide +kernel, rfl, by decide +kernel, by decide +kernel⟩
theorem ok_fresh {P : Program} {w : World} {K : PySem.W.Frag} {mg : Str → Option Value} {base : Heap} {ad : Ads} (fx : Fx K mg ad) : Ok P w K mg base CX0 1 "fresh" ["size", "blocks"] (sp_fresh K) := by
  refine fx.d_fresh.ok sc_fresh (fun _ _ _ _ _ _ us hl => match us, hl with | [_, _], _ => rfl) (fun vs H Q E q => by obtain ⟨_, _, _, rfl, _⟩ := q; rfl) fun f cdv A outer s H vs Q E hr hcd h => ?_
  refine ⟨_, PSs.nox (pss_cons (ps_if (pt_cmpR (xEq K hr.units) (pv 0) pe_int (nomark _)) (pss_one (ps_ret pe_non)) (pss_nil)) (pss_cons (ps_expr (xAppend K (pv 1) (pa_cons (pe_tup (pa_cons (pv 0) (pa_cons (pe_tup (pa_nil)) pa_nil))) pa_nil))) (pss_one (ps_ret (pe_tup (pa_cons (pe_op op_sub (pe_callB (xLen P w K) (by rfl) fx.len_ (by decide +kernel) (pa_cons (pv 1) pa_nil)) pe_int) (pa_cons pe_int (pa_cons (pv 0) pa_nil)))))))), ?_⟩
  obtain ⟨size, b, bs, rfl, w, hl, q⟩ := h
  have s0 : SOk _ _ H := SOk.entry (N := ["size", "blocks"]) (As := [aD K (natD size), aV (.ref b)]) (.cons (.int _) (.cons rfl .nil))
  refine st_if (et_test (ev_eqI (ev_var rfl) ev_int)) s0 (fun hb H1 e1 s1 => ?_) fun hb H1 e1 s1 => ?_
  · have e : size = 0 := by have := of_decide_eq_true hb; omega
    subst e
    exact st_ret ev_non s1 fun v H2 e2 p => q v H2 (.ex (e1.trans e2)) p (w.ex (e1.trans e2))
  · have ne : size ≠ 0 := by have := of_decide_eq_false hb; omega
    refine st_append (ev_var rfl) (d := encB (size, [])) (ev_tup (ed_cons (ev_var rfl) (ed_cons ev_t0 ed_nil)) (by show 2 ≤ 100000; decide)) s1 (w.ex e1) (by simp; omega) (fun H2 f2 s2 w2 => ?_) (GS.all (.som aD_st (.som aV_st .nil)))
    refine st_ret (A := aD K (encP (some (bs.length, 0, size)))) (ev_tup (ed_cons (ev_is (ev_sub (ev_lenL (ev_wl rfl w2)) ev_int) ?_) (ed_cons ev_int (ed_cons (ev_var rfl) ed_nil))) (by show 3 ≤ 100000; decide)) s2 fun v H3 e3 p => ?_
    · simp
    · have er : freshP size bs = (some (bs.length, 0, size), bs ++ [(size, [])]) := by unfold freshP; rw [if_neg ne]
      rw [er] at q
      refine q v H3 ((Frs.ex e1).trans (f2.trans (.ex e3))) p ?_
      have z : WL K H3 b (bs.map encB ++ [encB (size, [])]) := w2.ex e3
      simpa using z
def PcLe (p : Option Pc) : Prop := ∀ n f l, p = some (n, f, l) → f ≤ l
def sp_joined (K : PySem.W.Frag) : Sp := fun vs H Q _ => ∃ (v1 v2 : V) (p q : Option Pc) (wd : Nat) (b : Addr) (bs : List Blk), vs = [v1, v2, .int wd, .ref b] ∧ DIs K H v1 (encP p) ∧ DIs K H v2 (encP q) ∧ PcLe p ∧ PcLe q ∧ WL K H b (bs.map encB) ∧ bs.length < 1000 ∧ HBq K b (joinP p q wd bs) H Q
abbrev sc_joined_N : List Str := ["one", "other", "width", "blocks"]
theorem sc_joined : FnScope ["one", "other", "width", "blocks"] ["one", "other", "width", "blocks"] (defScope (topS 22)) := ⟨rfl, rfl, rfl, by decide +kernel, rfl, by decide +kernel, by decide +kernel⟩
theorem ok_joined {P : Program} {w : World} {K : PySem.W.Frag} {mg : Str → Option Value} {base : Heap} {ad : Ads} (fx : Fx K mg ad) : Ok P w K mg base CX0 2 "joined" ["one", "other", "width", "blocks"] (sp_joined K) := by
  refine fx.d_joined.ok sc_joined (fun _ _ _ _ _ _ us hl => match us, hl with | [_, _, _, _], _ => rfl) (fun vs H Q E q => by obtain ⟨_, _, _, _, _, _, _, rfl, _⟩ := q; rfl) fun f cdv A outer s H vs Q E hr hcd h => ?_
  refine ⟨_, PSs.nox (pss_cons (ps_if (PW.pt (pw_or (pt_cmpR op_isNo (pv 0) pe_non (nomark _)) (pw_or1 (pt_cmpR op_isNo (pv 1) pe_non (nomark _))))) (pss_one (ps_ret (pe_ifExp (pt_cmpR op_isNo (pv 0) pe_non (nomark _)) (pv 1) (pv 0)))) (pss_nil)) (pss_cons (ps_if (PW.pt (pw_and (pt_cmpR (xEq K hr.units) (pe_ix (xIx P w K hr.units) (pv 0) pe_int (fun _ _ => rfl)) (pe_ix (xIx P w K hr.units) (pv 1) pe_int (fun _ _ => rfl)) (nomark _)) (pw_and1 (pt_cmpR (xEq K hr.units) (pe_ix (xIx P w K hr.units) (pv 0) pe_int (fun _ _ => rfl)) (pe_ix (xIx P w K hr.units) (pv 1) pe_int (fun _ _ => rfl)) (nomark _))))) (pss_one (ps_ret (pe_tup (pa_cons (pe_ix (xIx P w K hr.units) (pv 0) pe_int (fun _ _ => rfl)) (pa_cons (pe_ix (xIx P w K hr.units) (pv 0) pe_int (fun _ _ => rfl)) (pa_cons (pe_ix (xIx P w K hr.units) (pv 1) pe_int (fun _ _ => rfl)) pa_nil)))))) (pss_nil)) (pss_one (ps_ret (pe_callD (ok_fresh (P := P) (w := w) (base := base) fx) (hr.mono (by decide)) (by rfl) (pa_cons (pe_callB (call_minU rfl) (by rfl) fx.min_ (by decide +kernel) (pa_cons (pv 2) (pa_cons (pe_op (xAdd K) (pe_callD (ok_size_of (P := P) (w := w) (base := base) fx) (hr.mono (by decide)) (by rfl) (pa_cons (pv 0) pa_nil)) (pe_callD (ok_size_of (P := P) (w := w) (base := base) fx) (hr.mono (by decide)) (by rfl) (pa_cons (pv 1) pa_nil))) pa_nil))) (pa_cons (pv 3) pa_nil))))))), ?_⟩
  obtain ⟨v1, v2, p, r, wd, b, bs, rfl, h1, h2, l1, l2, w, hl, q⟩ := h
  have s0 : SOk _ _ H := SOk.entry (N := ["one", "other", "width", "blocks"]) (As := [aD K (encP p), aD K (encP r), aD K (natD wd), aV (.ref b)]) (.cons h1 (.cons h2 (.cons (.int _) (.cons rfl .nil))))
  refine st_if (et_or (et_test (ev_isN (ev_var rfl))) fun _ => et_test (ev_isN (ev_var rfl))) s0 (fun hb H1 e1 s1 => ?_) fun hb H1 e1 s1 => ?_
  · refine st_ret (A := aD K (encP (if p = none then r else p))) ?_ s1 fun v H2 e2 pv => ?_
    · cases p with
      | none => exact ev_ifT (et_test (ev_isN (ev_var rfl))) rfl (ev_var rfl)
      | some _ => exact ev_ifF (et_test (ev_isN (ev_var rfl))) rfl (ev_var rfl)
    · have er : joinP p r wd bs = (if p = none then r else p, bs) := by
        match p, r with
        | none, _ => rfl
        | some _, none => rfl
        | some _, some _ => cases hb
      rw [er] at q
      exact q v H2 (.ex (e1.trans e2)) pv (w.ex (e1.trans e2))
  · match p, r with
    | none, _ => cases hb
    | some (n, f, l), none => cases hb
    | some (n, f, l), some (n', f', l') =>
      have a1 := l1 n f l rfl
      have a2 := l2 n' f' l' rfl
      refine st_if (et_and (et_test (ev_eqI (ev_ixT (ev_var rfl) ev_int rfl) (ev_ixT (ev_var rfl) ev_int rfl))) fun _ => et_test (ev_eqI (ev_ixT (ev_var rfl) ev_int rfl) (ev_ixT (ev_var rfl) ev_int rfl))) s1 (fun hc H2 e2 s2 => ?_) fun hc H2 e2 s2 => ?_
      · have hn : n = n' ∧ l = f' := by
          rw [Bool.and_eq_true] at hc
          have := of_decide_eq_true hc.1
          have := of_decide_eq_true hc.2
          omega
        refine st_ret (A := aD K (encP (some (n, f, l')))) (ev_tup (ed_cons (ev_ixT (ev_var rfl) ev_int rfl) (ed_cons (ev_ixT (ev_var rfl) ev_int rfl) (ed_cons (ev_ixT (ev_var rfl) ev_int rfl) ed_nil))) (by show 3 ≤ 100000; decide)) s2 fun v H3 e3 pv => ?_
        have er : joinP (some (n, f, l)) (some (n', f', l')) wd bs = (some (n, f, l'), bs) := if_pos hn
        rw [er] at q
        exact q v H3 (.ex ((e1.trans e2).trans e3)) pv (w.ex ((e1.trans e2).trans e3))
      · have hn : ¬ (n = n' ∧ l = f') := fun z => by
          rw [Bool.and_eq_false_iff] at hc
          rcases hc with hc | hc
          · have := of_decide_eq_false hc; omega
          · have := of_decide_eq_false hc; omega
        have er : joinP (some (n, f, l)) (some (n', f', l')) wd bs = freshP (min wd ((l - f) + (l' - f'))) bs := if_neg hn
        rw [er] at q
        refine call_of (ea_cons (ev_min2 (ev_var rfl) (ev_add (ev_call (f := spf_size_of K) (some (n, f, l)) (ea_one (ev_var rfl)) l1) (ev_call (f := spf_size_of K) (some (n', f', l')) (ea_one (ev_var rfl)) l2))) (ea_one (ev_var rfl))) s2 fun vs H3 e3 s3 hv => ?_
        obtain ⟨x, y, rfl, px, py⟩ := aall2 hv
        have ex := DIs.num_inv px
        have ey : y = .ref b := py
        subst ex ey
        have e13 := (e1.trans e2).trans e3
        refine ⟨min wd ((l - f) + (l' - f')), b, bs, ?_, w.ex e13, hl, fun x H5 f5 px w5 => q x H5 ((Frs.ex e13).trans f5) px w5⟩
        have z : min (wd : Int) (((l - f : Nat) : Int) + ((l' - f' : Nat) : Int)) = ((min wd ((l - f) + (l' - f')) : Nat) : Int) := by omega
        exact congrArg (fun t => [V.int t, V.ref b]) z
def sp_shelved (K : PySem.W.Frag) : Sp := fun vs H Q _ => ∃ (v : V) (p : Pc) (b : Addr) (bs : List Blk), vs = [v, .ref b] ∧ DIs K H v (encP (some p)) ∧ p.1 < bs.length ∧ (∀ x ∈ bs, x.1 ≤ 6) ∧ WL K H b (bs.map encB) ∧ ∀ H', Frs [b] H H' → WL K H' b ((shelve bs p).map encB) → Q .non H'
abbrev sc_shelved_N : List Str := ["piece", "blocks", "number", "first", "last", "size", "cells", "at"]
theorem sc_shelved : FnScope ["piece", "blocks", "number", "first", "last", "size", "cells", "at"] ["piece", "blocks"] (defScope (topS 23)) := ⟨rfl, rfl, rfl, by decide +kernel, rfl, by decide +kernel, by decide +kernel⟩
theorem ok_shelved {P : Program} {w : World} {K : PySem.W.Frag} {mg : Str → Option Value} {base : Heap} {ad : Ads} (fx : Fx K mg ad) : Ok P w K mg base CX0 1 "shelved" ["piece", "blocks"] (sp_shelved K) := by
  refine fx.d_shelved.ok sc_shelved (fun _ _ _ _ _ _ us hl => match us, hl with | [_, _], _ => rfl) (fun vs H Q E q => by obtain ⟨_, _, _, _, rfl, _⟩ := q; rfl) fun f cdv A outer s H vs Q E hr hcd h => ?_
  refine ⟨_, PSs.nox (pss_cons (ps_asg (pv 0) (xTg K (n := 3) rfl (pgs_cons (pg_name (i := 2) sc_shelved.nd rfl (by first | exact .inl rfl | exact .inr rfl)) (pgs_cons (pg_name (i := 3) sc_shelved.nd rfl (by first | exact .inl rfl | exact .inr rfl)) (pgs_cons (pg_name (i := 4) sc_shelved.nd rfl (by first | exact .inl rfl | exact .inr rfl)) pgs_nil))))) (pss_cons (ps_asg (pe_ix (xIx P w K hr.units) (pv 1) (pv 2) (fun _ _ => rfl)) (xTg K (n := 2) rfl (pgs_cons (pg_name (i := 5) sc_shelved.nd rfl (by first | exact .inl rfl | exact .inr rfl)) (pgs_cons (pg_name (i := 6) sc_shelved.nd rfl (by first | exact .inl rfl | exact .inr rfl)) pgs_nil)))) (pss_one (ps_asg (pe_tup (pa_cons (pv 5) (pa_cons (pe_callTy (xTuple K) (by rfl) fx.tuple_ (by decide +kernel) (pa_cons (pe_lc (own := [("at", 7)]) rfl sc_shelved.nd (pi_range1 (by rfl) fx.range_ (pa_cons (pv 5) pa_nil)) (blkOk_by (own := [("at", 7)]) (N := ["piece", "blocks", "number", "first", "last", "size", "cells", "at"]) (sc := defScope (topS 23)) (by decide +kernel)) (fun _ _ _ _ _ => (pg_name (i := 7) sc_shelved.nd rfl (by first | exact .inl rfl | exact .inr rfl))) (fun _ _ _ _ _ => (pts_one (PW.pt (pw_or (pt_cmpR (xIn P w K hr.units) (pv 7) (pv 6) (by rfl)) (pw_or1 (pt_chain op_le op_lt (pv 3) (pv 7) (pv 4))))))) (fun _ _ _ _ _ => pv 7)) pa_nil)) pa_nil))) (pg_sub (pv 1) (pv 2) (xSet P w K hr.units)))))), ?_⟩
  obtain ⟨v, ⟨n, f, l⟩, b, bs, rfl, hv, hn, h6, w, q⟩ := h
  have s0 : SOk _ _ H := SOk.entry (N := sc_shelved_N) (As := [aD K (encP (some (n, f, l))), aV (.ref b)]) (.cons hv (.cons rfl .nil))
  have hn' : n < bs.length := hn
  refine st_asg (ev_var rfl) s0 (tg_tup (tgs_cons tg_name (tgs_cons tg_name (tgs_cons tg_name tgs_nil))) rfl) fun σ1 H1 e1 s1 => ?_
  have w1 := w.ex e1
  have hat : (bs.map encB)[n]? = some (encB bs[n]) := by simp [hn']
  refine st_asg (ev_ixL (ev_wl rfl w1) (ev_var rfl) (atD hat)) s1 (tg_tup (tgs_cons tg_name (tgs_cons tg_name tgs_nil)) rfl) fun σ2 H2 e2 s2 => ?_
  have w2 := w1.ex e2
  have h6n := h6 _ (List.getElem_mem hn')
  refine st_setL (K := K) (i := n) (j := n) (ds := bs.map encB) (ev_tup (ed_cons (ev_var rfl) (ed_cons (ev_tupleL (EvN.l (en_lc (List.range bs[n].1) natD _ _ natD (ei_range1 (ea_one (ev_var rfl)) (by omega)) rfl (by rw [List.length_range]; omega) (fun x _ => tg_name)
    (fun x _ => et_orL (et_test (ev_inT (ev_var rfl) (ev_var rfl) rfl flat_nats)) (et_test (ev_chain (ev_var rfl) (ev_var rfl) (ev_var rfl)))) (fun x _ _ => ev_var rfl)))) ed_nil)) (by show 2 ≤ 100000; decide))
    (ev_var rfl) (ev_var rfl) s2 w2 (ixN_nat (by simpa using hn')) (fun H3 f3 s3 w3 => ?_) (by walk_at "gs")
  refine q H3 ((Frs.ex (e1.trans e2)).trans f3) ?_
  have e : shelve bs (n, f, l) = bs.set n (bs[n].1, (List.range bs[n].1).filter fun x => decide (x ∈ bs[n].2) || (decide (f ≤ x) && decide (x < l))) := by
    have z : bs.getD n (0, []) = bs[n] := by simp [List.getD, hn']
    unfold shelve blkSize
    dsimp only
    rw [z]
  rw [e, List.map_set]
  simp only [mem_nats] at w3
  have c1 : ∀ x : Nat, (decide ((f : Int) ≤ x) && decide ((x : Int) < l)) = (decide (f ≤ x) && decide (x < l)) := fun x => by
    rw [decide_eq_decide.mpr (by omega : (f : Int) ≤ x ↔ f ≤ x), decide_eq_decide.mpr (by omega : (x : Int) < l ↔ x < l)]
  simp only [c1] at w3
  exact w3
/-- lists of pieces and blocks within which all goes well -/
structure HBin (h : List (Option Pc)) (bs : List Blk) : Prop where
  len : h.length ≤ 3
  few : bs.length ≤ 8
  le : ∀ n f l, some (n, f, l) ∈ h → f ≤ l ∧ n < bs.length
  b6 : ∀ x ∈ bs, x.1 ≤ 6
theorem HBin.get {h : List (Option Pc)} {bs : List Blk} (k : HBin h bs) {a : Nat} {n f l : Nat} (e : getP h a = some (n, f, l)) : f ≤ l ∧ n < bs.length := by
  unfold getP at e
  rw [List.getD_eq_getElem?_getD] at e
  cases z : h[a]? with
  | none => rw [z] at e; cases e
  | some p =>
    rw [z] at e
    have e2 : p = some (n, f, l) := e
    exact k.le n f l (e2 ▸ List.mem_of_getElem? z)
theorem HBin.pcle {h : List (Option Pc)} {bs : List Blk} (k : HBin h bs) (a : Nat) : PcLe (getP h a) := fun n f l e => (k.get e).1
theorem getP_at {h : List (Option Pc)} {a : Nat} (ha : a < h.length) : (h.map encP)[a]? = some (encP (getP h a)) := by
  unfold getP
  rw [List.getElem?_map, List.getD_eq_getElem?_getD, List.getElem?_eq_getElem ha]
  rfl
def sp_made (K : PySem.W.Frag) : Sp := fun vs H Q _ => ∃ (v : V) (t : Stp) (wd c : Nat) (ha b : Addr) (h : List (Option Pc)) (bs : List Blk), vs = [v, .int wd, .ref ha, .ref b] ∧ DIs K H v (encT t) ∧ t.makes = true ∧ t.Ok wd c 12 ∧ c = h.length ∧ HBin h bs ∧ WL K H ha (h.map encP) ∧ WL K H b (bs.map encB) ∧ HBq K b (madeP t wd h bs) H Q
abbrev sc_made_N : List Str := ["step", "width", "held", "blocks", "word", "one"]
theorem sc_made : FnScope ["step", "width", "held", "blocks", "word", "one"] ["step", "width", "held", "blocks"] (defScope (topS 24)) := ⟨rfl, rfl, rfl, by decide +kernel, rfl, by decide +kernel, by decide +kernel⟩
theorem ok_made {P : Program} {w : World} {K : PySem.W.Frag} {mg : Str → Option Value} {base : Heap} {ad : Ads} (fx : Fx K mg ad) : Ok P w K mg base CX0 3 "made" ["step", "width", "held", "blocks"] (sp_made K) := by
  refine fx.d_made.ok sc_made (fun _ _ _ _ _ _ us hl => match us, hl with | [_, _, _, _], _ => rfl) (fun vs H Q E q => by obtain ⟨_, _, _, _, _, _, _, _, rfl, _⟩ := q; rfl) fun f cdv A outer s H vs Q E hr hcd h => ?_
  refine ⟨_, PSs.nox (pss_cons (ps_set (i := 4) sc_made.nd rfl (by first | exact .inl rfl | exact .inr rfl) (pe_ix (xIx P w K hr.units) (pv 0) pe_int (fun _ _ => rfl))) (pss_cons (ps_if (pt_cmpR (xEq K hr.units) (pv 4) pe_str (nomark _)) (pss_one (ps_ret (pe_callD (ok_fresh (P := P) (w := w) (base := base) fx) (hr.mono (by decide)) (by rfl) (pa_cons (pe_ix (xIx P w K hr.units) (pv 0) pe_int (fun _ _ => rfl)) (pa_cons (pv 3) pa_nil))))) (pss_nil)) (pss_cons (ps_if (pt_cmpR (xEq K hr.units) (pv 4) pe_str (nomark _)) (pss_one (ps_ret pe_non)) (pss_nil)) (pss_cons (ps_set (i := 5) sc_made.nd rfl (by first | exact .inl rfl | exact .inr rfl) (pe_ix (xIx P w K hr.units) (pv 2) (xTupIx K (pe_glob (v := .ref ad.names) (by rfl) fx.NAMES.1 (by rfl)) (pa_cons (pe_ix (xIx P w K hr.units) (pv 0) pe_int (fun _ _ => rfl)) pa_nil)) (fun _ _ => rfl))) (pss_cons (ps_if (pt_cmpR (xEq K hr.units) (pv 4) pe_str (nomark _)) (pss_one (ps_ret (pe_callD (ok_part (P := P) (w := w) (base := base) fx) (hr.mono (by decide)) (by rfl) (pa_cons (pv 5) (pa_cons (pe_ix (xIx P w K hr.units) (pv 0) pe_int (fun _ _ => rfl)) (pa_cons (pe_ix (xIx P w K hr.units) (pv 0) pe_int (fun _ _ => rfl)) pa_nil)))))) (pss_nil)) (pss_cons (ps_if (pt_cmpR (xEq K hr.units) (pv 4) pe_str (nomark _)) (pss_one (ps_ret (pe_callD (ok_joined (P := P) (w := w) (base := base) fx) (hr.mono (by decide)) (by rfl) (pa_cons (pv 5) (pa_cons (pe_ix (xIx P w K hr.units) (pv 2) (xTupIx K (pe_glob (v := .ref ad.names) (by rfl) fx.NAMES.1 (by rfl)) (pa_cons (pe_ix (xIx P w K hr.units) (pv 0) pe_int (fun _ _ => rfl)) pa_nil)) (fun _ _ => rfl)) (pa_cons (pv 1) (pa_cons (pv 3) pa_nil))))))) (pss_nil)) (pss_cons (ps_if (PW.pt (pw_and (pt_cmpR (xEq K hr.units) (pv 4) pe_str (nomark _)) (pw_and1 (pt_not (pt_val (pe_callD (ok_is_whole (P := P) (w := w) (base := base) fx) (hr.mono (by decide)) (by rfl) (pa_cons (pv 5) (pa_cons (pv 3) pa_nil)))))))) (pss_one (ps_ret (pe_callD (ok_fresh (P := P) (w := w) (base := base) fx) (hr.mono (by decide)) (by rfl) (pa_cons (pe_callD (ok_size_of (P := P) (w := w) (base := base) fx) (hr.mono (by decide)) (by rfl) (pa_cons (pv 5) pa_nil)) (pa_cons (pv 3) pa_nil))))) (pss_nil)) (pss_one (ps_ret (pv 5)))))))))), ?_⟩
  obtain ⟨v, t, wd, c, ha, b, h, bs, rfl, hv, hm, hok, rfl, hb, wh, wb, q⟩ := h
  have s0 : SOk _ _ H := SOk.entry (N := sc_made_N) (As := [aD K (encT t), aD K (natD wd), aV (.ref ha), aV (.ref b)]) (.cons hv (.cons (.int _) (.cons rfl (.cons rfl .nil))))
  have hl := hb.len
  cases t with
  | read a n =>
    refine st_set (ev_ixT (ev_var rfl) ev_int rfl) s0 fun σ1 H1 e1 s1 => ?_
    refine st_if (et_test (ev_eqS (ev_var rfl) ev_str)) s1 (fun _ H2 e2 s2 => ?_) (fun z => by cases z)
    refine call_of (ea_cons (ev_ixT (ev_var rfl) ev_int rfl) (ea_one (ev_var rfl))) s2 fun vs H3 e3 s3 hv => ?_
    obtain ⟨x, y, rfl, px, py⟩ := aall2 hv
    have ex := DIs.num_inv px
    have ey : y = .ref b := py
    subst ex ey
    have e13 := (e1.trans e2).trans e3
    exact ⟨n, b, bs, rfl, wb.ex e13, by have := hb.few; omega, fun x H5 f5 px w5 => q x H5 ((Frs.ex e13).trans f5) px w5⟩
  | drop a =>
    refine st_set (ev_ixT (ev_var rfl) ev_int rfl) s0 fun σ1 H1 e1 s1 => ?_
    refine st_if (et_test (ev_eqS (ev_var rfl) ev_str)) s1 (fun z => by cases z) (fun _ H2 e2 s2 => ?_)
    refine st_if (et_test (ev_eqS (ev_var rfl) ev_str)) s2 (fun _ H3 e3 s3 => ?_) (fun z => by cases z)
    exact st_ret ev_non s3 fun v H4 e4 p => q v H4 (.ex (((e1.trans e2).trans e3).trans e4)) p (wb.ex (((e1.trans e2).trans e3).trans e4))
  | cut a a2 i j =>
    obtain ⟨o1, o2, _⟩ := hok
    refine st_set (ev_ixT (ev_var rfl) ev_int rfl) s0 fun σ1 H1 e1 s1 => ?_
    refine st_if (et_test (ev_eqS (ev_var rfl) ev_str)) s1 (fun z => by cases z) (fun _ H2 e2 s2 => ?_)
    refine st_if (et_test (ev_eqS (ev_var rfl) ev_str)) s2 (fun z => by cases z) (fun _ H3 e3 s3 => ?_)
    have e13 := (e1.trans e2).trans e3
    refine st_set (ev_ixL (ev_wl rfl (wh.ex e13)) (ev_namesIx fx.NAMES.2 (ev_ixT (ev_var rfl) ev_int rfl) (by omega)) (atD (getP_at o2))) s3 fun σ4 H4 e4 s4 => ?_
    refine st_if (et_test (ev_eqS (ev_var rfl) ev_str)) s4 (fun _ H5 e5 s5 => ?_) (fun z => by cases z)
    exact st_ret (ev_call (f := spf_part K) (getP h a2, i, j) (ea_cons (ev_var rfl) (ea_cons (ev_ixT (ev_var rfl) ev_int rfl) (ea_one (ev_ixT (ev_var rfl) ev_int rfl)))) trivial) s5 fun v H6 e6 p => q v H6 (.ex (((e13.trans e4).trans e5).trans e6)) p (wb.ex (((e13.trans e4).trans e5).trans e6))
  | join a a2 a3 =>
    obtain ⟨o1, o2, o3⟩ := hok
    refine st_set (ev_ixT (ev_var rfl) ev_int rfl) s0 fun σ1 H1 e1 s1 => ?_
    refine st_if (et_test (ev_eqS (ev_var rfl) ev_str)) s1 (fun z => by cases z) (fun _ H2 e2 s2 => ?_)
    refine st_if (et_test (ev_eqS (ev_var rfl) ev_str)) s2 (fun z => by cases z) (fun _ H3 e3 s3 => ?_)
    have e13 := (e1.trans e2).trans e3
    refine st_set (ev_ixL (ev_wl rfl (wh.ex e13)) (ev_namesIx fx.NAMES.2 (ev_ixT (ev_var rfl) ev_int rfl) (by omega)) (atD (getP_at o2))) s3 fun σ4 H4 e4 s4 => ?_
    refine st_if (et_test (ev_eqS (ev_var rfl) ev_str)) s4 (fun z => by cases z) (fun _ H5 e5 s5 => ?_)
    refine st_if (et_test (ev_eqS (ev_var rfl) ev_str)) s5 (fun _ H6 e6 s6 => ?_) (fun z => by cases z)
    have e16 := ((e13.trans e4).trans e5).trans e6
    refine call_of (ea_cons (ev_var rfl) (ea_cons (ev_ixL (ev_wl rfl (wh.ex e16)) (ev_namesIx fx.NAMES.2 (ev_ixT (ev_var rfl) ev_int rfl) (by omega)) (atD (getP_at o3))) (ea_cons (ev_var rfl) (ea_one (ev_var rfl))))) s6 fun vs H7 e7 s7 hv => ?_
    obtain ⟨x, y, z, u, rfl, px, py, pz, pu⟩ := aall4 hv
    have ez := DIs.num_inv pz
    have eu : u = .ref b := pu
    subst ez eu
    have e17 := e16.trans e7
    exact ⟨x, y, getP h a2, getP h a3, wd, b, bs, rfl, px, py, hb.pcle a2, hb.pcle a3, wb.ex e17, by have := hb.few; omega, fun x H5 f5 px w5 => q x H5 ((Frs.ex e17).trans f5) px w5⟩
  | tight a a2 =>
    obtain ⟨o1, o2⟩ := hok
    refine st_set (ev_ixT (ev_var rfl) ev_int rfl) s0 fun σ1 H1 e1 s1 => ?_
    refine st_if (et_test (ev_eqS (ev_var rfl) ev_str)) s1 (fun z => by cases z) (fun _ H2 e2 s2 => ?_)
    refine st_if (et_test (ev_eqS (ev_var rfl) ev_str)) s2 (fun z => by cases z) (fun _ H3 e3 s3 => ?_)
    have e13 := (e1.trans e2).trans e3
    refine st_set (ev_ixL (ev_wl rfl (wh.ex e13)) (ev_namesIx fx.NAMES.2 (ev_ixT (ev_var rfl) ev_int rfl) (by omega)) (atD (getP_at o2))) s3 fun σ4 H4 e4 s4 => ?_
    refine st_if (et_test (ev_eqS (ev_var rfl) ev_str)) s4 (fun z => by cases z) (fun _ H5 e5 s5 => ?_)
    refine st_if (et_test (ev_eqS (ev_var rfl) ev_str)) s5 (fun z => by cases z) (fun _ H6 e6 s6 => ?_)
    have e16 := ((e13.trans e4).trans e5).trans e6
    refine st_if (et_andL (et_test (ev_eqS (ev_var rfl) ev_str)) (et_not (et_B (ev_call (f := spf_is_whole K) (getP h a2, bs) (ea_cons (ev_var rfl) (ea_one (ev_wl rfl (wb.ex e16)))) fun n f l e => hb.get e)))) s6 (fun hc H7 e7 s7 => ?_) (fun hc H7 e7 s7 => ?_)
    · have hw : isWhole (getP h a2) bs = false := by
        have : (!isWhole (getP h a2) bs) = true := hc
        simpa using this
      have em : madeP (.tight a a2) wd h bs = freshP (sizeOf (getP h a2)) bs := by
        show (if _ then _ else _) = _
        rw [hw]; rfl
      rw [em] at q
      refine call_of (ea_cons (ev_call (f := spf_size_of K) (getP h a2) (ea_one (ev_var rfl)) (hb.pcle a2)) (ea_one (ev_var rfl))) s7 fun vs H8 e8 s8 hv => ?_
      obtain ⟨x, y, rfl, px, py⟩ := aall2 hv
      have ex := DIs.num_inv px
      have ey : y = .ref b := py
      subst ex ey
      have e18 := (e16.trans e7).trans e8
      exact ⟨sizeOf (getP h a2), b, bs, rfl, wb.ex e18, by have := hb.few; omega, fun x H5 f5 px w5 => q x H5 ((Frs.ex e18).trans f5) px w5⟩
    · have hw : isWhole (getP h a2) bs = true := by
        have : (!isWhole (getP h a2) bs) = false := hc
        simpa using this
      have em : madeP (.tight a a2) wd h bs = (getP h a2, bs) := by
        show (if _ then _ else _) = _
        rw [hw]; rfl
      rw [em] at q
      exact st_ret (ev_var rfl) s7 fun v H8 e8 p => q v H8 (.ex ((e16.trans e7).trans e8)) p (wb.ex ((e16.trans e7).trans e8))
  | move a a2 =>
    obtain ⟨o1, o2⟩ := hok
    refine st_set (ev_ixT (ev_var rfl) ev_int rfl) s0 fun σ1 H1 e1 s1 => ?_
    refine st_if (et_test (ev_eqS (ev_var rfl) ev_str)) s1 (fun z => by cases z) (fun _ H2 e2 s2 => ?_)
    refine st_if (et_test (ev_eqS (ev_var rfl) ev_str)) s2 (fun z => by cases z) (fun _ H3 e3 s3 => ?_)
    have e13 := (e1.trans e2).trans e3
    refine st_set (ev_ixL (ev_wl rfl (wh.ex e13)) (ev_namesIx fx.NAMES.2 (ev_ixT (ev_var rfl) ev_int rfl) (by omega)) (atD (getP_at o2))) s3 fun σ4 H4 e4 s4 => ?_
    refine st_if (et_test (ev_eqS (ev_var rfl) ev_str)) s4 (fun z => by cases z) (fun _ H5 e5 s5 => ?_)
    refine st_if (et_test (ev_eqS (ev_var rfl) ev_str)) s5 (fun z => by cases z) (fun _ H6 e6 s6 => ?_)
    refine st_if (et_and (c := false) (et_test (ev_eqS (ev_var rfl) ev_str)) fun z => by cases z) s6 (fun z => by cases z) (fun hc H7 e7 s7 => ?_)
    have e17 := ((e13.trans e4).trans e5).trans (e6.trans e7)
    exact st_ret (ev_var rfl) s7 fun v H8 e8 p => q v H8 (.ex (e17.trans e8)) p (wb.ex (e17.trans e8))
  | keep _ => cases hm
  | pack _ => cases hm
  | clear => cases hm
  | tell _ => cases hm
  | ask _ => cases hm
  | void _ _ => cases hm
  | jump _ => cases hm
def clrB (b : Blk) : Blk := (b.1, [])
def HBq2 (K : PySem.W.Frag) (ha b : Addr) (r : HB) (H : Hp) (Q : VK) : Prop := ∀ H', Frs [ha, b] H H' → WL K H' ha (r.1.map encP) → WL K H' b (r.2.map encB) → Q .non H'
def sp_act (K : PySem.W.Frag) : Sp := fun vs H Q _ => ∃ (v : V) (t : Stp) (wd c : Nat) (ha b : Addr) (h : List (Option Pc)) (bs : List Blk), vs = [v, .int wd, .ref ha, .ref b] ∧ DIs K H v (encT t) ∧ t.Ok wd c 12 ∧ c = h.length ∧ HBin h bs ∧ ha ≠ b ∧ WL K H ha (h.map encP) ∧ WL K H b (bs.map encB) ∧ HBq2 K ha b (actP t wd h bs) H Q
theorem shelve_none {a : Nat} {h : List (Option Pc)} (e : getP h a = none) : encP (getP h a) = .none := by rw [e]; rfl
abbrev sc_act_N : List Str := ["step", "width", "held", "blocks", "word", "at"]
theorem sc_act : FnScope ["step", "width", "held", "blocks", "word", "at"] ["step", "width", "held", "blocks"] (defScope (topS 25)) := ⟨rfl, rfl, rfl, by decide +kernel, rfl, by decide +kernel, by decide +kernel⟩
theorem ok_act {P : Program} {w : World} {K : PySem.W.Frag} {mg : Str → Option Value} {base : Heap} {ad : Ads} (fx : Fx K mg ad) : Ok P w K mg base CX0 4 "act" ["step", "width", "held", "blocks"] (sp_act K) := by
  refine fx.d_act.ok sc_act (fun _ _ _ _ _ _ us hl => match us, hl with | [_, _, _, _], _ => rfl) (fun vs H Q E q => by obtain ⟨_, _, _, _, _, _, _, _, rfl, _⟩ := q; rfl) fun f cdv A outer s H vs Q E hr hcd h => ?_
  refine ⟨_, PSs.nox (pss_cons (ps_set (i := 4) sc_act.nd rfl (by first | exact .inl rfl | exact .inr rfl) (pe_ix (xIx P w K hr.units) (pv 0) pe_int (fun _ _ => rfl))) (pss_one (ps_if (pt_cmpR (xEq K hr.units) (pv 4) pe_str (nomark _)) (pss_one (ps_for PassesOwn.never rfl (pi_range1 (by rfl) fx.range_ (pa_cons (pe_callB (xLen P w K) (by rfl) fx.len_ (by decide +kernel) (pa_cons (pv 3) pa_nil)) pa_nil)) (pg_name (i := 5) sc_act.nd rfl (by first | exact .inl rfl | exact .inr rfl)) (pss_one (ps_asg (pe_tup (pa_cons (pe_ix (xIx P w K hr.units) (pe_ix (xIx P w K hr.units) (pv 3) (pv 5) (fun _ _ => rfl)) pe_int (fun _ _ => rfl)) (pa_cons (pe_tup (pa_nil)) pa_nil))) (pg_sub (pv 3) (pv 5) (xSet P w K hr.units)))))) (pss_one (ps_if (pt_cmpR (xNotIn P w K hr.units) (pv 4) (pe_tup (pa_cons pe_str (pa_cons pe_str (pa_cons pe_str (pa_cons pe_str pa_nil))))) (by rfl)) (pss_cons (ps_set (i := 5) sc_act.nd rfl (by first | exact .inl rfl | exact .inr rfl) (xTupIx K (pe_glob (v := .ref ad.names) (by rfl) fx.NAMES.1 (by rfl)) (pa_cons (pe_ix (xIx P w K hr.units) (pv 0) pe_int (fun _ _ => rfl)) pa_nil))) (pss_one (ps_if (pt_cmpR (xNotIn P w K hr.units) (pv 4) (pe_tup (pa_cons pe_str (pa_cons pe_str pa_nil))) (by rfl)) (pss_one (ps_asg (pe_callD (ok_made (P := P) (w := w) (base := base) fx) (hr.mono (by decide)) (by rfl) (pa_cons (pv 0) (pa_cons (pv 1) (pa_cons (pv 2) (pa_cons (pv 3) pa_nil))))) (pg_sub (pv 2) (pv 5) (xSet P w K hr.units)))) (pss_one (ps_if (PW.pt (pw_and (pt_cmpR op_notNo (pe_ix (xIx P w K hr.units) (pv 2) (pv 5) (fun _ _ => rfl)) pe_non (nomark _)) (pw_and1 (PW.pt (pw_or (pt_cmpR (xEq K hr.units) (pv 4) pe_str (nomark _)) (pw_or1 (pt_val (pe_callD (ok_is_whole (P := P) (w := w) (base := base) fx) (hr.mono (by decide)) (by rfl) (pa_cons (pe_ix (xIx P w K hr.units) (pv 2) (pv 5) (fun _ _ => rfl)) (pa_cons (pv 3) pa_nil)))))))))) (pss_one (ps_expr (pe_callD (ok_shelved (P := P) (w := w) (base := base) fx) (hr.mono (by decide)) (by rfl) (pa_cons (pe_ix (xIx P w K hr.units) (pv 2) (pv 5) (fun _ _ => rfl)) (pa_cons (pv 3) pa_nil))))) (pss_nil)))))) (pss_nil)))))), ?_⟩
  obtain ⟨v, t, wd, c, ha, b, h, bs, rfl, hv, hok, rfl, hb, hne, wh, wb, q⟩ := h
  have s0 : SOk _ _ H := SOk.entry (N := sc_act_N) (As := [aD K (encT t), aD K (natD wd), aV (.ref ha), aV (.ref b)]) (.cons hv (.cons (.int _) (.cons rfl (.cons rfl .nil))))
  have hl := hb.len
  have puts : ∀ (wrd : Str) (a : Nat) (t' : Stp), t'.makes = true → t'.Ok wd h.length 12 → encT t' = encT t → actP t wd h bs = putP h a (madeP t' wd h bs) → a < h.length → ∀ (σ : L2.St) (H1 : Hp), Frs [ha, b] H H1 → Ex H H1 →
      SOk ((((entry sc_act_N [aD K (encT t), aD K (natD wd), aV (.ref ha), aV (.ref b)]).set 4 (some (aD K (.text wrd))))).set 5 (some (aD K (natD a)))) σ H1 → tAsg (tCall (sp_made K) [] E0 (tCons (tVar 0) (tCons (tVar 1) (tCons (tVar 2) (tCons (tVar 3) tNil))))) (gSub (tVar 2) (tVar 5) (rSetU P w K)) { nx := fun _ H' => Q .non H', rt := Q } σ H1 := by
    intro wrd a t' hm hok' et ea hal σ H1 f1 e1 s1
    refine call_of (ea_cons (ev_var rfl) (ea_cons (ev_var rfl) (ea_cons (ev_var rfl) (ea_one (ev_var rfl))))) s1 fun vs H2 e2 s2 hvs => ?_
    obtain ⟨x, y, z, u, rfl, px, py, pz, pu⟩ := aall4 hvs
    have ey := DIs.num_inv py
    have ez : z = .ref ha := pz
    have eu : u = .ref b := pu
    subst ey ez eu
    have e02 := e1.trans e2
    refine ⟨x, t', wd, h.length, ha, b, h, bs, rfl, by rw [et]; exact px, hm, hok', rfl, hb, wh.ex e02, wb.ex e02, fun vm H3 f3 hvm w3 => ?_⟩
    have s3 := s2.st f3.t (by walk_at "gs")
    have wh3 := (wh.ex e02).frs f3 (by simp [hne])
    refine ev_var (A := aV (.ref ha)) (n := 2) rfl σ H3 s3 (Evl.Ex.refl H3) _ fun vo H4 e4 p4 => ev_var (A := aD K (natD a)) (n := 5) rfl σ H4 (s3.ex e4) e4 _ fun vi H5 e5 p5 => ?_
    have eo : vo = .ref ha := p4
    have ei := DIs.num_inv p5
    subst eo ei
    have e35 := e4.trans e5
    obtain ⟨xs, hx1, hx2⟩ := wh3.ex e35
    have hlen : xs.length = h.length := by rw [hx2.length, List.length_map]
    refine .inl ⟨ha, xs, a, a, rfl, rfl, hx1, ixN_nat (by omega), ?_⟩
    have t5 := tle_upd (u := .lst (xs.set a vm)) hx1 rfl
    refine q _ ((((Frs.ex e02).trans (f3.mono (by simp))).trans (.ex e35)).upd (by simp) hx1 rfl) ?_ ?_
    · rw [ea]
      refine ⟨_, upd_same, ?_⟩
      show DAll K _ _ ((h.set a (madeP t' wd h bs).1).map encP)
      rw [List.map_set]
      exact DAll.set ((hvm.ex e35).to t5) a (hx2.to t5)
    · rw [ea]
      exact (w3.ex e35).upd hx1 rfl (Ne.symm hne)
  cases t with
  | clear =>
    refine st_set (ev_ixT (ev_var rfl) ev_int rfl) s0 fun σ1 H1 e1 s1 => ?_
    refine st_if (et_test (ev_eqS (ev_var rfl) ev_str)) s1 (fun _ H2 e2 s2 => ?_) (fun z => by cases z)
    have w2 := wb.ex (e1.trans e2)
    refine st_range1 (n := bs.length) (ea_one (ev_is (ev_lenL (ev_wl rfl w2)) (by simp))) s2 (by have := hb.few; omega) (fun i σ' H' => SOk ((entry sc_act_N [aD K (encT .clear), aD K (natD wd), aV (.ref ha), aV (.ref b)]).set 4 (some (aD K (.text "clear")))) σ' H' ∧ Frs [b] H2 H' ∧ WL K H' b (((bs.take i).map clrB ++ bs.drop i).map encB)) ?_ ?_ ?_
    · intro H3 e3
      exact ⟨s2.ex e3, .ex e3, w2.ex e3⟩
    · rintro i σ' H' hi ⟨s', f', w'⟩
      have s6 := s'.set 5 (A := aD K (natD i)) (v := .int i) (.int _) (Nat.le_of_ble_eq_true rfl)
      have hat := list_at clrB hi
      have ha6 : (((bs.take i).map clrB ++ bs.drop i).map encB)[i]? = some (encB bs[i]) := by rw [List.getElem?_map, hat]; rfl
      refine st_setL (K := K) (i := i) (j := i) (d := encB (clrB bs[i])) (ev_tup (ed_cons (ev_ixT (ev_ixL (ev_wl rfl w') (ev_var rfl) (atD ha6)) ev_int rfl) (ed_cons ev_t0 ed_nil)) (by show 2 ≤ 100000; decide)) (ev_var rfl) (ev_var rfl) s6 w' (ixN_nat (by rw [List.length_map, list_len clrB (by omega)]; exact hi)) (fun H7 f7 s7 w7 => ?_) (by walk_at "gs")
      refine ⟨s7.unset rfl, f'.trans f7, ?_⟩
      rw [← List.map_set, list_step clrB hi] at w7
      exact w7
    · rintro σ' H' ⟨s', f', w'⟩
      refine q H' ((Frs.ex (e1.trans e2)).trans (f'.mono (by simp))) ((wh.ex (e1.trans e2)).frs f' (by simp [hne])) ?_
      rw [List.take_length, List.drop_length, List.append_nil] at w'
      exact w'
  | tell a =>
    refine st_set (ev_ixT (ev_var rfl) ev_int rfl) s0 fun σ1 H1 e1 s1 => ?_
    refine st_if (et_test (ev_eqS (ev_var rfl) ev_str)) s1 (fun z => by cases z) (fun _ H2 e2 s2 => ?_)
    refine st_if (et_is (et_test (ev_notInT (ev_var rfl) (ev_tup (ed_cons ev_str (ed_cons ev_str (ed_cons ev_str (ed_cons ev_str ed_nil)))) (by show 4 ≤ 100000; decide)) rfl rfl)) (c := false) (by decide)) s2 (fun z => by cases z) (fun _ H3 e3 s3 => ?_)
    exact q H3 (.ex ((e1.trans e2).trans e3)) (wh.ex ((e1.trans e2).trans e3)) (wb.ex ((e1.trans e2).trans e3))
  | ask a =>
    refine st_set (ev_ixT (ev_var rfl) ev_int rfl) s0 fun σ1 H1 e1 s1 => ?_
    refine st_if (et_test (ev_eqS (ev_var rfl) ev_str)) s1 (fun z => by cases z) (fun _ H2 e2 s2 => ?_)
    refine st_if (et_is (et_test (ev_notInT (ev_var rfl) (ev_tup (ed_cons ev_str (ed_cons ev_str (ed_cons ev_str (ed_cons ev_str ed_nil)))) (by show 4 ≤ 100000; decide)) rfl rfl)) (c := false) (by decide)) s2 (fun z => by cases z) (fun _ H3 e3 s3 => ?_)
    exact q H3 (.ex ((e1.trans e2).trans e3)) (wh.ex ((e1.trans e2).trans e3)) (wb.ex ((e1.trans e2).trans e3))
  | void a p =>
    refine st_set (ev_ixT (ev_var rfl) ev_int rfl) s0 fun σ1 H1 e1 s1 => ?_
    refine st_if (et_test (ev_eqS (ev_var rfl) ev_str)) s1 (fun z => by cases z) (fun _ H2 e2 s2 => ?_)
    refine st_if (et_is (et_test (ev_notInT (ev_var rfl) (ev_tup (ed_cons ev_str (ed_cons ev_str (ed_cons ev_str (ed_cons ev_str ed_nil)))) (by show 4 ≤ 100000; decide)) rfl rfl)) (c := false) (by decide)) s2 (fun z => by cases z) (fun _ H3 e3 s3 => ?_)
    exact q H3 (.ex ((e1.trans e2).trans e3)) (wh.ex ((e1.trans e2).trans e3)) (wb.ex ((e1.trans e2).trans e3))
  | jump p =>
    refine st_set (ev_ixT (ev_var rfl) ev_int rfl) s0 fun σ1 H1 e1 s1 => ?_
    refine st_if (et_test (ev_eqS (ev_var rfl) ev_str)) s1 (fun z => by cases z) (fun _ H2 e2 s2 => ?_)
    refine st_if (et_is (et_test (ev_notInT (ev_var rfl) (ev_tup (ed_cons ev_str (ed_cons ev_str (ed_cons ev_str (ed_cons ev_str ed_nil)))) (by show 4 ≤ 100000; decide)) rfl rfl)) (c := false) (by decide)) s2 (fun z => by cases z) (fun _ H3 e3 s3 => ?_)
    exact q H3 (.ex ((e1.trans e2).trans e3)) (wh.ex ((e1.trans e2).trans e3)) (wb.ex ((e1.trans e2).trans e3))
  | keep a =>
    have o1 : a < h.length := hok
    refine st_set (ev_ixT (ev_var rfl) ev_int rfl) s0 fun σ1 H1 e1 s1 => ?_
    refine st_if (et_test (ev_eqS (ev_var rfl) ev_str)) s1 (fun z => by cases z) (fun _ H2 e2 s2 => ?_)
    refine st_if (et_is (et_test (ev_notInT (ev_var rfl) (ev_tup (ed_cons ev_str (ed_cons ev_str (ed_cons ev_str (ed_cons ev_str ed_nil)))) (by show 4 ≤ 100000; decide)) rfl rfl)) (c := true) (by decide)) s2 (fun _ H3 e3 s3 => ?_) (fun z => by cases z)
    refine st_set (ev_namesIx fx.NAMES.2 (ev_ixT (ev_var rfl) ev_int rfl) (by omega)) s3 fun σ4 H4 e4 s4 => ?_
    refine st_if (et_is (et_test (ev_notInT (ev_var rfl) (ev_tup (ed_cons ev_str (ed_cons ev_str ed_nil)) (by show 2 ≤ 100000; decide)) rfl rfl)) (c := false) (by decide)) s4 (fun z => by cases z) (fun _ H5 e5 s5 => ?_)
    have e15 := (((e1.trans e2).trans e3).trans e4).trans e5
    have hat := atD (getP_at o1)
    refine st_if (et_and (c := true) (et_test (ev_notN (ev_ixL (ev_wl rfl (wh.ex e15)) (ev_var rfl) hat))) fun _ => et_is (et_or (c := true) (et_test (ev_eqS (ev_var rfl) ev_str)) fun z => absurd z (by decide)) (by decide)) s5 (fun hc H6 e6 s6 => ?_) (fun hc H6 e6 s6 => ?_)
    · cases hp : getP h a with
      | none => rw [hp] at hc; cases hc
      | some p =>
        have e16 := e15.trans e6
        refine call_of (ea_cons (ev_ixL (ev_wl rfl (wh.ex e16)) (ev_var rfl) hat) (ea_one (ev_var rfl))) s6 fun vs H7 e7 s7 hvs => ?_
        obtain ⟨x, y, rfl, px, py⟩ := aall2 hvs
        have ey : y = .ref b := py
        subst ey
        rw [hp] at px
        obtain ⟨pn, pf, pl⟩ := p
        have e17 := e16.trans e7
        refine ⟨x, (pn, pf, pl), b, bs, rfl, px, (hb.get hp).2, hb.b6, wb.ex e17, fun H8 f8 w8 => ?_⟩
        have ea : actP (.keep a) wd h bs = (h, shelve bs (pn, pf, pl)) := by unfold actP; simp only [hp]
        refine q H8 ((Frs.ex e17).trans (f8.mono (by simp))) ?_ ?_
        · rw [ea]; exact (wh.ex e17).frs f8 (by simp [hne])
        · rw [ea]; exact w8
    · cases hp : getP h a with
      | none =>
        have ea : actP (.keep a) wd h bs = (h, bs) := by unfold actP; simp only [hp]
        exact q H6 (.ex (e15.trans e6)) (by rw [ea]; exact wh.ex (e15.trans e6)) (by rw [ea]; exact wb.ex (e15.trans e6))
      | some p => rw [hp] at hc; cases hc
  | pack a =>
    have o1 : a < h.length := hok
    refine st_set (ev_ixT (ev_var rfl) ev_int rfl) s0 fun σ1 H1 e1 s1 => ?_
    refine st_if (et_test (ev_eqS (ev_var rfl) ev_str)) s1 (fun z => by cases z) (fun _ H2 e2 s2 => ?_)
    refine st_if (et_is (et_test (ev_notInT (ev_var rfl) (ev_tup (ed_cons ev_str (ed_cons ev_str (ed_cons ev_str (ed_cons ev_str ed_nil)))) (by show 4 ≤ 100000; decide)) rfl rfl)) (c := true) (by decide)) s2 (fun _ H3 e3 s3 => ?_) (fun z => by cases z)
    refine st_set (ev_namesIx fx.NAMES.2 (ev_ixT (ev_var rfl) ev_int rfl) (by omega)) s3 fun σ4 H4 e4 s4 => ?_
    refine st_if (et_is (et_test (ev_notInT (ev_var rfl) (ev_tup (ed_cons ev_str (ed_cons ev_str ed_nil)) (by show 2 ≤ 100000; decide)) rfl rfl)) (c := false) (by decide)) s4 (fun z => by cases z) (fun _ H5 e5 s5 => ?_)
    have e15 := (((e1.trans e2).trans e3).trans e4).trans e5
    have hat := atD (getP_at o1)
    refine st_if (et_and (c := isWhole (getP h a) bs) (et_test (ev_notN (ev_ixL (ev_wl rfl (wh.ex e15)) (ev_var rfl) hat))) fun _ => et_is (et_or (c := isWhole (getP h a) bs) (et_test (ev_eqS (ev_var rfl) ev_str)) fun _ => et_B (ev_call (f := spf_is_whole K) (getP h a, bs) (ea_cons (ev_ixL (ev_wl rfl (wh.ex e15)) (ev_var rfl) hat) (ea_one (ev_wl rfl (wb.ex e15)))) fun n f l e => hb.get e)) (by rfl)) s5 (fun hc H6 e6 s6 => ?_) (fun hc H6 e6 s6 => ?_)
    · cases hp : getP h a with
      | none => rw [hp] at hc; cases hc
      | some p =>
        have e16 := e15.trans e6
        refine call_of (ea_cons (ev_ixL (ev_wl rfl (wh.ex e16)) (ev_var rfl) hat) (ea_one (ev_var rfl))) s6 fun vs H7 e7 s7 hvs => ?_
        obtain ⟨x, y, rfl, px, py⟩ := aall2 hvs
        have ey : y = .ref b := py
        subst ey
        rw [hp] at px
        obtain ⟨pn, pf, pl⟩ := p
        have e17 := e16.trans e7
        refine ⟨x, (pn, pf, pl), b, bs, rfl, px, (hb.get hp).2, hb.b6, wb.ex e17, fun H8 f8 w8 => ?_⟩
        have hw : isWhole (some (pn, pf, pl)) bs = true := by
          rw [hp] at hc
          have : (true && isWhole (some (pn, pf, pl)) bs) = true := hc
          simpa using this
        have ea : actP (.pack a) wd h bs = (h, shelve bs (pn, pf, pl)) := by unfold actP; simp only [hp, hw, if_true]
        refine q H8 ((Frs.ex e17).trans (f8.mono (by simp))) ?_ ?_
        · rw [ea]; exact (wh.ex e17).frs f8 (by simp [hne])
        · rw [ea]; exact w8
    · cases hp : getP h a with
      | none =>
        have ea : actP (.pack a) wd h bs = (h, bs) := by unfold actP; simp only [hp]
        exact q H6 (.ex (e15.trans e6)) (by rw [ea]; exact wh.ex (e15.trans e6)) (by rw [ea]; exact wb.ex (e15.trans e6))
      | some p =>
        have hw : isWhole (some p) bs = false := by
          rw [hp] at hc
          have z : isNoD (encP (some p)) = false := rfl
          have : (!isNoD (encP (some p)) && isWhole (some p) bs) = false := hc
          rw [z] at this
          simpa using this
        have ea : actP (.pack a) wd h bs = (h, bs) := by unfold actP; simp only [hp, hw]; rfl
        exact q H6 (.ex (e15.trans e6)) (by rw [ea]; exact wh.ex (e15.trans e6)) (by rw [ea]; exact wb.ex (e15.trans e6))
  | read a n =>
    have hok1 := hok
    obtain ⟨o1, o2⟩ := hok
    refine st_set (ev_ixT (ev_var rfl) ev_int rfl) s0 fun σ1 H1 e1 s1 => ?_
    refine st_if (et_test (ev_eqS (ev_var rfl) ev_str)) s1 (fun z => by cases z) (fun _ H2 e2 s2 => ?_)
    refine st_if (et_is (et_test (ev_notInT (ev_var rfl) (ev_tup (ed_cons ev_str (ed_cons ev_str (ed_cons ev_str (ed_cons ev_str ed_nil)))) (by show 4 ≤ 100000; decide)) rfl rfl)) (c := true) (by decide)) s2 (fun _ H3 e3 s3 => ?_) (fun z => by cases z)
    refine st_set (ev_namesIx fx.NAMES.2 (ev_ixT (ev_var rfl) ev_int rfl) (by omega)) s3 fun σ4 H4 e4 s4 => ?_
    refine st_if (et_is (et_test (ev_notInT (ev_var rfl) (ev_tup (ed_cons ev_str (ed_cons ev_str ed_nil)) (by show 2 ≤ 100000; decide)) rfl rfl)) (c := true) (by decide)) s4 (fun _ H5 e5 s5 => ?_) (fun z => by cases z)
    have e15 := (((e1.trans e2).trans e3).trans e4).trans e5
    exact puts "read" a (.read a n) rfl hok1 rfl rfl o1 _ H5 (.ex e15) e15 s5
  | drop a =>
    have hok1 := hok
    have o1 : a < h.length := hok
    refine st_set (ev_ixT (ev_var rfl) ev_int rfl) s0 fun σ1 H1 e1 s1 => ?_
    refine st_if (et_test (ev_eqS (ev_var rfl) ev_str)) s1 (fun z => by cases z) (fun _ H2 e2 s2 => ?_)
    refine st_if (et_is (et_test (ev_notInT (ev_var rfl) (ev_tup (ed_cons ev_str (ed_cons ev_str (ed_cons ev_str (ed_cons ev_str ed_nil)))) (by show 4 ≤ 100000; decide)) rfl rfl)) (c := true) (by decide)) s2 (fun _ H3 e3 s3 => ?_) (fun z => by cases z)
    refine st_set (ev_namesIx fx.NAMES.2 (ev_ixT (ev_var rfl) ev_int rfl) (by omega)) s3 fun σ4 H4 e4 s4 => ?_
    refine st_if (et_is (et_test (ev_notInT (ev_var rfl) (ev_tup (ed_cons ev_str (ed_cons ev_str ed_nil)) (by show 2 ≤ 100000; decide)) rfl rfl)) (c := true) (by decide)) s4 (fun _ H5 e5 s5 => ?_) (fun z => by cases z)
    have e15 := (((e1.trans e2).trans e3).trans e4).trans e5
    exact puts "drop" a (.drop a) rfl hok1 rfl rfl o1 _ H5 (.ex e15) e15 s5
  | cut a a2 i j =>
    have hok1 := hok
    obtain ⟨o1, o2, o3⟩ := hok
    refine st_set (ev_ixT (ev_var rfl) ev_int rfl) s0 fun σ1 H1 e1 s1 => ?_
    refine st_if (et_test (ev_eqS (ev_var rfl) ev_str)) s1 (fun z => by cases z) (fun _ H2 e2 s2 => ?_)
    refine st_if (et_is (et_test (ev_notInT (ev_var rfl) (ev_tup (ed_cons ev_str (ed_cons ev_str (ed_cons ev_str (ed_cons ev_str ed_nil)))) (by show 4 ≤ 100000; decide)) rfl rfl)) (c := true) (by decide)) s2 (fun _ H3 e3 s3 => ?_) (fun z => by cases z)
    refine st_set (ev_namesIx fx.NAMES.2 (ev_ixT (ev_var rfl) ev_int rfl) (by omega)) s3 fun σ4 H4 e4 s4 => ?_
    refine st_if (et_is (et_test (ev_notInT (ev_var rfl) (ev_tup (ed_cons ev_str (ed_cons ev_str ed_nil)) (by show 2 ≤ 100000; decide)) rfl rfl)) (c := true) (by decide)) s4 (fun _ H5 e5 s5 => ?_) (fun z => by cases z)
    have e15 := (((e1.trans e2).trans e3).trans e4).trans e5
    exact puts "cut" a (.cut a a2 i j) rfl hok1 rfl rfl o1 _ H5 (.ex e15) e15 s5
  | join a a2 a3 =>
    have hok1 := hok
    obtain ⟨o1, o2, o3⟩ := hok
    refine st_set (ev_ixT (ev_var rfl) ev_int rfl) s0 fun σ1 H1 e1 s1 => ?_
    refine st_if (et_test (ev_eqS (ev_var rfl) ev_str)) s1 (fun z => by cases z) (fun _ H2 e2 s2 => ?_)
    refine st_if (et_is (et_test (ev_notInT (ev_var rfl) (ev_tup (ed_cons ev_str (ed_cons ev_str (ed_cons ev_str (ed_cons ev_str ed_nil)))) (by show 4 ≤ 100000; decide)) rfl rfl)) (c := true) (by decide)) s2 (fun _ H3 e3 s3 => ?_) (fun z => by cases z)
    refine st_set (ev_namesIx fx.NAMES.2 (ev_ixT (ev_var rfl) ev_int rfl) (by omega)) s3 fun σ4 H4 e4 s4 => ?_
    refine st_if (et_is (et_test (ev_notInT (ev_var rfl) (ev_tup (ed_cons ev_str (ed_cons ev_str ed_nil)) (by show 2 ≤ 100000; decide)) rfl rfl)) (c := true) (by decide)) s4 (fun _ H5 e5 s5 => ?_) (fun z => by cases z)
    have e15 := (((e1.trans e2).trans e3).trans e4).trans e5
    exact puts "join" a (.join a a2 a3) rfl hok1 rfl rfl o1 _ H5 (.ex e15) e15 s5
  | tight a a2 =>
    have hok1 := hok
    obtain ⟨o1, o2⟩ := hok
    refine st_set (ev_ixT (ev_var rfl) ev_int rfl) s0 fun σ1 H1 e1 s1 => ?_
    refine st_if (et_test (ev_eqS (ev_var rfl) ev_str)) s1 (fun z => by cases z) (fun _ H2 e2 s2 => ?_)
    refine st_if (et_is (et_test (ev_notInT (ev_var rfl) (ev_tup (ed_cons ev_str (ed_cons ev_str (ed_cons ev_str (ed_cons ev_str ed_nil)))) (by show 4 ≤ 100000; decide)) rfl rfl)) (c := true) (by decide)) s2 (fun _ H3 e3 s3 => ?_) (fun z => by cases z)
    refine st_set (ev_namesIx fx.NAMES.2 (ev_ixT (ev_var rfl) ev_int rfl) (by omega)) s3 fun σ4 H4 e4 s4 => ?_
    refine st_if (et_is (et_test (ev_notInT (ev_var rfl) (ev_tup (ed_cons ev_str (ed_cons ev_str ed_nil)) (by show 2 ≤ 100000; decide)) rfl rfl)) (c := true) (by decide)) s4 (fun _ H5 e5 s5 => ?_) (fun z => by cases z)
    have e15 := (((e1.trans e2).trans e3).trans e4).trans e5
    exact puts "tight" a (.tight a a2) rfl hok1 rfl rfl o1 _ H5 (.ex e15) e15 s5
  | move a a2 =>
    have hok1 := hok
    obtain ⟨o1, o2⟩ := hok
    refine st_set (ev_ixT (ev_var rfl) ev_int rfl) s0 fun σ1 H1 e1 s1 => ?_
    refine st_if (et_test (ev_eqS (ev_var rfl) ev_str)) s1 (fun z => by cases z) (fun _ H2 e2 s2 => ?_)
    refine st_if (et_is (et_test (ev_notInT (ev_var rfl) (ev_tup (ed_cons ev_str (ed_cons ev_str (ed_cons ev_str (ed_cons ev_str ed_nil)))) (by show 4 ≤ 100000; decide)) rfl rfl)) (c := true) (by decide)) s2 (fun _ H3 e3 s3 => ?_) (fun z => by cases z)
    refine st_set (ev_namesIx fx.NAMES.2 (ev_ixT (ev_var rfl) ev_int rfl) (by omega)) s3 fun σ4 H4 e4 s4 => ?_
    refine st_if (et_is (et_test (ev_notInT (ev_var rfl) (ev_tup (ed_cons ev_str (ed_cons ev_str ed_nil)) (by show 2 ≤ 100000; decide)) rfl rfl)) (c := true) (by decide)) s4 (fun _ H5 e5 s5 => ?_) (fun z => by cases z)
    have e15 := (((e1.trans e2).trans e3).trans e4).trans e5
    exact puts "move" a (.move a a2) rfl hok1 rfl rfl o1 _ H5 (.ex e15) e15 s5
theorem strOk_nm {a : Nat} (h : a < 1000) : PyData.strOk (nm a) = true := by
  have e : PyData.strOk (nm a) = decide (97 + a < 1114112) := by simp [PyData.strOk, nm]
  rw [e]
  exact decide_eq_true (by omega)
theorem lay_nm {n a : Nat} (h : a < 1000) : Lay n (nmD a) := Lay.text (strOk_nm h)
theorem lay_encT {t : Stp} {w c n : Nat} (h : t.Ok w c n) (hc : c ≤ 3) : Lay 2 (encT t) := by
  refine Lay.mono (n := 1) ?_ (by decide)
  cases t <;> simp only [encT, Stp.Ok] at h ⊢ <;> refine Lay.tup fun x hx => ?_ <;> simp only [List.mem_cons, List.not_mem_nil, or_false] at hx
  all_goals (first
    | (rcases hx with rfl | rfl | rfl | rfl | rfl <;> first | exact Lay.num | exact lay_nm (by omega) | exact Lay.text (by decide +kernel))
    | (rcases hx with rfl | rfl | rfl | rfl <;> first | exact Lay.num | exact lay_nm (by omega) | exact Lay.text (by decide +kernel))
    | (rcases hx with rfl | rfl | rfl <;> first | exact Lay.num | exact lay_nm (by omega) | exact Lay.text (by decide +kernel))
    | (rcases hx with rfl | rfl <;> first | exact Lay.num | exact lay_nm (by omega) | exact Lay.text (by decide +kernel))
    | (subst hx; first | exact Lay.num | exact lay_nm (by omega) | exact Lay.text (by decide +kernel)))
theorem encT_clear : ∀ t : Stp, decide (encT t = .tup [.text "clear"]) = (match t with
  | .clear => true
  | _ => false) := by
  intro t
  cases t <;> simp [encT]
def spf_is_clear (K : PySem.W.Frag) (ad : Ads) : Spf (Pln × Stand) := ⟨fun x => [aPrg K ad x.1, aD K (encS x.2)], fun x => x.1.Ok, fun x => aB (clearP x.1 x.2)⟩
abbrev sc_is_clear_N : List Str := ["program", "stand"]
theorem sc_is_clear : FnScope ["program", "stand"] ["program", "stand"] (defScope (topS 31)) := ⟨rfl, rfl, rfl, by decide +kernel, rfl, by decide +kernel, by decide +kernel⟩
theorem ok_is_clear {P : Program} {w : World} {K : PySem.W.Frag} {mg : Str → Option Value} {base : Heap} {ad : Ads} (fx : Fx K mg ad) : Ok P w K mg base CX0 3 "is_clear" ["program", "stand"] ((spf_is_clear K ad).sp) := by
  refine fx.d_is_clear.ok sc_is_clear (fun _ _ _ _ _ _ us hl => match us, hl with | [_, _], _ => rfl) (Spf.len fun _ => rfl) fun f cdv A outer s H vs Q E hr hcd h => ?_
  refine ⟨_, PSs.nox (pss_one (ps_ret (pe_and (pe_cmpR op_lt (pe_ix (xIx P w K hr.units) (pv 1) pe_int (fun _ _ => rfl)) (pe_callB (xLen P w K) (by rfl) fx.len_ (by decide +kernel) (pa_cons (pe_prog_steps fx (hr.mono (by decide)) (pv 0)) pa_nil)) (nomark _)) (pe_one (pe_cmpR (xEq K hr.units) (pe_ix (xIx P w K hr.units) (pe_prog_steps fx (hr.mono (by decide)) (pv 0)) (pe_ix (xIx P w K hr.units) (pv 1) pe_int (fun _ _ => rfl)) (fun _ _ => rfl)) (pe_tup (pa_cons pe_str pa_nil)) (nomark _)))))), ?_⟩
  refine Spf.run h fun x hp => sr_ret ?_
  obtain ⟨p, s⟩ := x
  have hp : p.Ok := hp
  refine ev_isB (ev_andV (c := clearP p s) (ev_cmpI (ev_ixT (ev_var rfl) ev_int rfl) (ev_lenT (ev_progSteps (ev_var rfl)))) fun hb => ?_) ?_
  · have hi : s.1 < p.steps.length := by
      have : decide ((s.1 : Int) < ((p.steps.map encT).length : Nat)) = true := hb
      have := of_decide_eq_true this
      rw [List.length_map] at this
      omega
    have hat : (p.steps.map encT)[s.1]? = some (encT p.steps[s.1]) := by simp [hi]
    refine ev_isB (ev_eq (ev_ixT (ev_progSteps (ev_var rfl)) (ev_ixT (ev_var rfl) ev_int rfl) (atD hat)) (ev_tup (ed_cons ev_str ed_nil) (by show 1 ≤ 100000; decide)) ((lay_encT (hp.ok _ (List.getElem_mem hi)) hp.m3).mono (by decide)) (Lay.mono (n := 1) (Lay.tup fun x hx => by rw [List.mem_singleton.mp hx]; exact Lay.text (by decide +kernel)) (by decide))) ?_
    rw [encT_clear]
    unfold clearP
    rw [List.getElem?_eq_getElem hi]
    cases p.steps[s.1] <;> rfl
  · show (decide ((s.1 : Int) < ((p.steps.map encT).length : Nat)) && clearP p s) = clearP p s
    by_cases hi : s.1 < p.steps.length
    · rw [decide_eq_true (by rw [List.length_map]; omega), Bool.true_and]
    · rw [decide_eq_false (by rw [List.length_map]; omega), Bool.false_and]
      unfold clearP
      rw [List.getElem?_eq_none (by omega)]
def spf_start_of (K : PySem.W.Frag) (ad : Ads) : Spf Pln := ⟨fun p => [aPrg K ad p], fun p => p.Ok, fun p => aD K (encS (startP p))⟩
abbrev sc_start_of_N : List Str := ["program"]
theorem sc_start_of : FnScope ["program"] ["program"] (defScope (topS 28)) := ⟨rfl, rfl, rfl, by decide +kernel, rfl, by decide +kernel, by decide +kernel⟩
theorem ok_start_of {P : Program} {w : World} {K : PySem.W.Frag} {mg : Str → Option Value} {base : Heap} {ad : Ads} (fx : Fx K mg ad) : Ok P w K mg base CX0 3 "start_of" ["program"] ((spf_start_of K ad).sp) := by
  refine fx.d_start_of.ok sc_start_of (fun _ _ _ _ _ _ us hl => match us, hl with | [_], _ => rfl) (Spf.len fun _ => rfl) fun f cdv A outer s H vs Q E hr hcd h => ?_
  refine ⟨_, PSs.nox (pss_one (ps_ret (pe_tup (pa_cons pe_int (pa_cons (pe_op (xMul K) (pe_tup (pa_cons pe_non pa_nil)) (pe_prog_many fx (hr.mono (by decide)) (pv 0))) (pa_cons (pe_tup (pa_nil)) pa_nil)))))), ?_⟩
  refine Spf.run h fun p hp => sr_ret ?_
  have hp : p.Ok := hp
  refine ev_is (ev_tup (ed_cons ev_int (ed_cons (ev_rep (n := p.many) (ev_tup (ed_cons ev_non ed_nil) (by show 1 ≤ 100000; decide)) (ev_progMany (ev_var rfl)) hp.m1 (by have := hp.m3; omega)) (ed_cons ev_t0 ed_nil))) (by show 3 ≤ 100000; decide)) ?_
  unfold encS startP
  simp [encP]
def spf_turns (K : PySem.W.Frag) : Spf (Stp × Nat × List (Option Pc)) := ⟨fun x => [aD K (encT x.1), aD K (natD x.2.1), aD K (.tup (x.2.2.map encP))], fun x => x.1.Ok 6 x.2.2.length 12 ∧ x.2.2.length ≤ 3, fun x => aL K ((turnsP x.1 x.2.1 x.2.2).map natD)⟩
theorem isNo_encP (q : Option Pc) : isNoD (encP q) = decide (q = none) := by cases q <;> simp [encP, isNoD]
abbrev sc_turns_N : List Str := ["step", "index", "held"]
theorem sc_turns : FnScope ["step", "index", "held"] ["step", "index", "held"] (defScope (topS 27)) := ⟨rfl, rfl, rfl, by decide +kernel, rfl, by decide +kernel, by decide +kernel⟩
theorem ok_turns {P : Program} {w : World} {K : PySem.W.Frag} {mg : Str → Option Value} {base : Heap} {ad : Ads} (fx : Fx K mg ad) : Ok P w K mg base CX0 1 "turns" ["step", "index", "held"] ((spf_turns K).sp) := by
  refine fx.d_turns.ok sc_turns (fun _ _ _ _ _ _ us hl => match us, hl with | [_, _, _], _ => rfl) (Spf.len fun _ => rfl) fun f cdv A outer s H vs Q E hr hcd h => ?_
  refine ⟨_, PSs.nox (pss_cons (ps_if (pt_cmpR (xEq K hr.units) (pe_ix (xIx P w K hr.units) (pv 0) pe_int (fun _ _ => rfl)) pe_str (nomark _)) (pss_one (ps_ret (pe_lst (pa_cons (pe_ix (xIx P w K hr.units) (pv 0) pe_int (fun _ _ => rfl)) pa_nil)))) (pss_nil)) (pss_cons (ps_if (pt_cmpR (xEq K hr.units) (pe_ix (xIx P w K hr.units) (pv 0) pe_int (fun _ _ => rfl)) pe_str (nomark _)) (pss_one (ps_ret (pe_callB (xSort w K rfl) (by rfl) fx.sorted_ (by decide +kernel) (pa_cons (xSet2 w (kdsCode_of hcd) (pe_ix (xIx P w K hr.units) (pv 0) pe_int (fun _ _ => rfl)) (pe_op (xAdd K) (pv 1) pe_int) (by rfl)) pa_nil)))) (pss_nil)) (pss_cons (ps_if (PW.pt (pw_and (pt_cmpR (xEq K hr.units) (pe_ix (xIx P w K hr.units) (pv 0) pe_int (fun _ _ => rfl)) pe_str (nomark _)) (pw_and1 (pt_cmpR op_isNo (pe_ix (xIx P w K hr.units) (pv 2) (xTupIx K (pe_glob (v := .ref ad.names) (by rfl) fx.NAMES.1 (by rfl)) (pa_cons (pe_ix (xIx P w K hr.units) (pv 0) pe_int (fun _ _ => rfl)) pa_nil)) (fun _ _ => rfl)) pe_non (nomark _))))) (pss_one (ps_ret (pe_lst (pa_cons (pe_ix (xIx P w K hr.units) (pv 0) pe_int (fun _ _ => rfl)) pa_nil)))) (pss_nil)) (pss_one (ps_ret (pe_lst (pa_cons (pe_op (xAdd K) (pv 1) pe_int) pa_nil))))))), ?_⟩
  refine Spf.run h fun x hp => ?_
  obtain ⟨t, i, hd⟩ := x
  obtain ⟨hok, h3⟩ := hp
  have one : ∀ {G : Gam} {te : TE} {n : Int} {m : Nat}, EvG te G H (aD K (.num n)) → n = m → EvG (tLst (tCons te tNil)) G H (aL K ([m].map natD)) := fun {G te n m} z e => by
    subst e
    exact (ev_lst (K := K) (ed_cons z ed_nil) (by show 1 ≤ 100000; decide)).l
  cases t with
  | jump p =>
    exact sr_ifT (et_test (ev_eqS (ev_ixT (ev_var rfl) ev_int rfl) ev_str)) (by decide) (sr_retS (one (ev_ixT (ev_var rfl) ev_int rfl) rfl))
  | ask p =>
    refine sr_ifF (et_test (ev_eqS (ev_ixT (ev_var rfl) ev_int rfl) ev_str)) (by decide) (sr_next ?_)
    refine sr_ifT (et_test (ev_eqS (ev_ixT (ev_var rfl) ev_int rfl) ev_str)) (by decide) (sr_retS ?_)
    refine ev_isL (ev_sortSet (ev_ixT (ev_var rfl) ev_int rfl) (ev_add (ev_var rfl) ev_int)) ?_
    show (sort2 (p : Int) ((i : Int) + 1)).map NestedKey.num = (if p = i + 1 then [p] else if p < i + 1 then [p, i + 1] else [i + 1, p]).map natD
    unfold sort2
    by_cases e1 : p = i + 1
    · rw [if_pos (by omega), if_pos e1]; rfl
    · rw [if_neg (by omega), if_neg e1]
      by_cases e2 : p < i + 1
      · rw [if_pos (by omega), if_pos e2]; rfl
      · rw [if_neg (by omega), if_neg e2]; rfl
  | void a p =>
    obtain ⟨o1, o2⟩ := hok
    refine sr_ifF (et_test (ev_eqS (ev_ixT (ev_var rfl) ev_int rfl) ev_str)) (by decide) (sr_next ?_)
    refine sr_ifF (et_test (ev_eqS (ev_ixT (ev_var rfl) ev_int rfl) ev_str)) (by decide) (sr_next ?_)
    have hat : (hd.map encP)[a]? = some (encP (getP hd a)) := getP_at o1
    refine sr_if (et_and (c := isNoD (encP (getP hd a))) (et_test (ev_eqS (ev_ixT (ev_var rfl) ev_int rfl) ev_str)) fun _ => et_test (ev_isN (ev_ixT (ev_var rfl) (ev_namesIx fx.NAMES.2 (ev_ixT (ev_var rfl) ev_int rfl) (Nat.lt_of_lt_of_le o1 h3)) (atD hat)))) (fun hb => ?_) (fun hb => ?_)
    · have e : getP hd a = none := by
        have : isNoD (encP (getP hd a)) = true := hb
        rw [isNo_encP] at this
        exact of_decide_eq_true this
      have et : turnsP (.void a p) i hd = [p] := if_pos e
      show SR _ _ _ (aL K ((turnsP (.void a p) i hd).map natD))
      rw [et]
      exact sr_retS (one (ev_ixT (ev_var rfl) ev_int rfl) rfl)
    · have e : ¬ getP hd a = none := by
        have : isNoD (encP (getP hd a)) = false := hb
        rw [isNo_encP] at this
        exact of_decide_eq_false this
      have et : turnsP (.void a p) i hd = [i + 1] := if_neg e
      show SR _ _ _ (aL K ((turnsP (.void a p) i hd).map natD))
      rw [et]
      exact sr_next (sr_ret (one (ev_add (ev_var rfl) ev_int) rfl))
  | _ =>
    refine sr_ifF (et_test (ev_eqS (ev_ixT (ev_var rfl) ev_int rfl) ev_str)) (by decide) (sr_next ?_)
    refine sr_ifF (et_test (ev_eqS (ev_ixT (ev_var rfl) ev_int rfl) ev_str)) (by decide) (sr_next ?_)
    exact sr_ifF (et_and (c := false) (et_test (ev_eqS (ev_ixT (ev_var rfl) ev_int rfl) ev_str)) fun z => absurd z (by decide)) (by decide) (sr_next (sr_ret (one (ev_add (ev_var rfl) ev_int) rfl)))
def sp_settled (K : PySem.W.Frag) : Sp := fun vs H Q _ => ∃ (i : Nat) (ha b : Addr) (h : List (Option Pc)) (bs : List Blk), vs = [.int i, .ref ha, .ref b] ∧ WL K H ha (h.map encP) ∧ WL K H b (bs.map encB) ∧ h.length ≤ 3 ∧ bs.length ≤ 10 ∧ (∀ n f l, some (n, f, l) ∈ h → n < bs.length) ∧ (∀ x ∈ bs, x.2.length ≤ x.1) ∧
  ∀ v H', Ex H H' → DIs K H' v (.tup [encS (settle i h bs).1, natD (settle i h bs).2]) → Q v H'
theorem blk_at {bs : List Blk} {n : Nat} (h : n < bs.length) : (bs.map encB)[n]? = some (encB (bs.getD n (0, []))) := by simp [List.getD, h]
abbrev sc_settled_N : List Str := ["index", "held", "blocks", "numbers", "rows", "piece", "some", "gone", "at", "size", "cells"]
theorem sc_settled : FnScope ["index", "held", "blocks", "numbers", "rows", "piece", "some", "gone", "at", "size", "cells"] ["index", "held", "blocks"] (defScope (topS 26)) := ⟨rfl, rfl, rfl, by decide +kernel, rfl, by decide +kernel, by decide +kernel⟩
theorem ok_settled {P : Program} {w : World} {K : PySem.W.Frag} {mg : Str → Option Value} {base : Heap} {ad : Ads} (fx : Fx K mg ad) : Ok P w K mg base CX0 1 "settled" ["index", "held", "blocks"] (sp_settled K) := by
  refine fx.d_settled.ok sc_settled (fun _ _ _ _ _ _ us hl => match us, hl with | [_, _, _], _ => rfl) (fun vs H Q E q => by obtain ⟨_, _, _, _, _, rfl, _⟩ := q; rfl) fun f cdv A outer s H vs Q E hr hcd h => ?_
  refine ⟨_, PSs.nox (pss_cons (ps_asg (pe_tup (pa_cons (pe_dnewK) (pa_cons (pe_lst (pa_nil)) pa_nil))) (xTg K (n := 2) rfl (pgs_cons (pg_name (i := 3) sc_settled.nd rfl (by first | exact .inl rfl | exact .inr rfl)) (pgs_cons (pg_name (i := 4) sc_settled.nd rfl (by first | exact .inl rfl | exact .inr rfl)) pgs_nil)))) (pss_cons (ps_for PassesOwn.never rfl (xSeq K (pv 1)) (pg_name (i := 5) sc_settled.nd rfl (by first | exact .inl rfl | exact .inr rfl)) (pss_one (ps_if (PW.pt (pw_and (pt_cmpR op_notNo (pv 5) pe_non (nomark _)) (pw_and1 (pt_cmpR (xNotIn P w K hr.units) (pe_ix (xIx P w K hr.units) (pv 5) pe_int (fun _ _ => rfl)) (pv 3) (by rfl))))) (pss_cons (ps_asg (pe_callB (xLen P w K) (by rfl) fx.len_ (by decide +kernel) (pa_cons (pv 4) pa_nil)) (pg_sub (pv 3) (pe_ix (xIx P w K hr.units) (pv 5) pe_int (fun _ _ => rfl)) (xSet P w K hr.units))) (pss_one (ps_expr (xAppend K (pv 4) (pa_cons (pe_ix (xIx P w K hr.units) (pv 2) (pe_ix (xIx P w K hr.units) (pv 5) pe_int (fun _ _ => rfl)) (fun _ _ => rfl)) pa_nil))))) (pss_nil)))) (pss_cons (ps_set (i := 6) sc_settled.nd rfl (by first | exact .inl rfl | exact .inr rfl) (pe_callTy (xTuple K) (by rfl) fx.tuple_ (by decide +kernel) (pa_cons (pe_lc (own := [("piece", 5)]) rfl sc_settled.nd (xSeq K (pv 1)) (blkOk_by (own := [("piece", 5)]) (N := ["index", "held", "blocks", "numbers", "rows", "piece", "some", "gone", "at", "size", "cells"]) (sc := defScope (topS 26)) (by decide +kernel)) (fun _ _ _ _ _ => (pg_name (i := 5) sc_settled.nd rfl (by first | exact .inl rfl | exact .inr rfl))) (fun _ _ _ _ _ => pts_nil) (fun _ _ _ _ _ => pe_ifExp (pt_cmpR op_isNo (pv 5) pe_non (nomark _)) pe_non (pe_tup (pa_cons (pe_ix (xIx P w K hr.units) (pv 3) (pe_ix (xIx P w K hr.units) (pv 5) pe_int (fun _ _ => rfl)) (fun _ _ => rfl)) (pa_cons (pe_ix (xIx P w K hr.units) (pv 5) pe_int (fun _ _ => rfl)) (pa_cons (pe_ix (xIx P w K hr.units) (pv 5) pe_int (fun _ _ => rfl)) pa_nil)))))) pa_nil))) (pss_cons (ps_setLc (i := 7) (own := [("at", 8), ("size", 9), ("cells", 10)]) rfl sc_settled.nd rfl rfl (sw_true rfl rfl rfl (by decide +kernel)) (xEnum K (by rfl) fx.enumerate_ (pa_cons (pv 2) pa_nil)) (blkOk_by (own := [("at", 8), ("size", 9), ("cells", 10)]) (N := ["index", "held", "blocks", "numbers", "rows", "piece", "some", "gone", "at", "size", "cells"]) (sc := defScope (topS 26)) (by decide +kernel)) (fun _ _ _ _ _ => (xTg K (n := 2) rfl (pgs_cons (pg_name (i := 8) sc_settled.nd rfl (by first | exact .inl rfl | exact .inr rfl)) (pgs_cons (xTg K (n := 2) rfl (pgs_cons (pg_name (i := 9) sc_settled.nd rfl (by first | exact .inl rfl | exact .inr rfl)) (pgs_cons (pg_name (i := 10) sc_settled.nd rfl (by first | exact .inl rfl | exact .inr rfl)) pgs_nil))) pgs_nil)))) (fun _ _ _ _ _ => (pts_one (PW.pt (pw_and (pt_cmpR (xNotIn P w K hr.units) (pv 8) (pv 3) (by rfl)) (pw_and1 (pt_cmpR (xNe K hr.units) (pv 10) (pe_tup (pa_nil)) (nomark _))))))) (fun _ _ _ _ _ => pe_op op_sub (pv 9) (pe_callB (xLen P w K) (by rfl) fx.len_ (by decide +kernel) (pa_cons (pv 10) pa_nil)))) (pss_one (ps_ret (pe_tup (pa_cons (pe_tup (pa_cons (pv 0) (pa_cons (pv 6) (pa_cons (pe_callTy (xTuple K) (by rfl) fx.tuple_ (by decide +kernel) (pa_cons (pv 4) pa_nil)) pa_nil)))) (pa_cons (pe_callB (xSum K rfl) (by rfl) fx.sum_ (by decide +kernel) (pa_cons (pv 7) pa_nil)) pa_nil))))))))), ?_⟩
  obtain ⟨ix, ha, b, h, bs, rfl, wh, wb, hl, hbl, hin, hcl, q⟩ := h
  have s0 : SOk _ _ H := SOk.entry (N := sc_settled_N) (As := [aD K (natD ix), aV (.ref ha), aV (.ref b)]) (.cons (.int _) (.cons rfl (.cons rfl .nil)))
  -- numbers, rows = {}, []
  refine fun nd hnd => ⟨by show 0 ≤ sizeLine; exact Nat.zero_le _, fun rl hrl => ?_⟩
  have e1 := Evl.Ex.new (o := .dK []) hnd
  have e2 := Evl.Ex.new (o := .lst []) hrl
  have hnd2 := e2 _ _ (upd_same (H := H) (a := nd) (o := .dK []))
  refine ⟨by show 2 ≤ sizeLine; decide, fun T hT => ?_⟩
  have e3 := Evl.Ex.new (o := .tup [.ref nd, .ref rl]) hT
  have e13 := (e1.trans e2).trans e3
  have hnr : nd ≠ rl := ne_of_none upd_same hrl
  refine ⟨T, [.ref nd, .ref rl], rfl, .inl (.inl upd_same), rfl, .ref nd, [.ref rl], rfl, .ref rl, [], rfl, rfl, ?_⟩
  have s1 : SOk (((entry sc_settled_N [aD K (natD ix), aV (.ref ha), aV (.ref b)]).set 3 (some (aV (.ref nd)))).set 4 (some (aV (.ref rl)))) _ _ := ((s0.ex e13).set 3 (A := aV (.ref nd)) rfl (Nat.le_of_ble_eq_true rfl)).set 4 (A := aV (.ref rl)) rfl (Nat.le_of_ble_eq_true rfl)
  have wh1 := wh.ex e13
  have wb1 := wb.ex e13
  have hnd3 := e3 _ _ hnd2
  have hrl3 := e3 _ _ (upd_same (H := upd H nd (.dK [])) (a := rl) (o := .lst []))
  generalize upd (upd (upd H nd (.dK [])) rl (.lst [])) T (.tup [.ref nd, .ref rl]) = H1 at *
  have hane : ∀ a, H nd = none → (∃ o, H a = some o) → a ≠ nd := fun a z ⟨o, e⟩ => ne_of_none e z
  have fresh_rl : H rl = none := Evl.fresh_back e1 hrl
  obtain ⟨xh, hxh1, hxh2⟩ := wh
  obtain ⟨xb, hxb1, _⟩ := wb
  have ha_nd : ha ≠ nd := ne_of_none hxh1 hnd
  have ha_rl : ha ≠ rl := ne_of_none hxh1 fresh_rl
  have b_nd : b ≠ nd := ne_of_none hxb1 hnd
  have b_rl : b ≠ rl := ne_of_none hxb1 fresh_rl
  have sq1 : SqL K H1 ha xh := Evl.sq_of (e13 _ _ hxh1)
  refine st_forA (K := K) (ev_var rfl) s1 sq1 fun H2 e4 s2 => ⟨fun i σ' H' => SOk (((entry sc_settled_N [aD K (natD ix), aV (.ref ha), aV (.ref b)]).set 3 (some (aV (.ref nd)))).set 4 (some (aV (.ref rl)))) σ' H' ∧ Frs [nd, rl] H1 H' ∧ H' nd = some (.dK (intK (ordK (ordTo h i)))) ∧ WL K H' rl ((ordTo h i).map fun n => encB (bs.getD n (0, []))), ?_, ?_, ?_, ?_⟩
  · exact ⟨s2, .ex e4, e4 _ _ hnd3, ⟨[], e4 _ _ hrl3, .nil⟩⟩
  · rintro i σ' H' ⟨s', f', _, _⟩
    exact Evl.sq_of (f'.keep ha (by simp [ha_nd, ha_rl]) _ (e13 _ _ hxh1))
  · rintro i x σ' H' hx ⟨s', f', hk, wr⟩
    obtain ⟨d, hd, hxd⟩ := (hxh2.ex e13).getV hx
    have hxd := hxd.to f'.t
    rw [List.getElem?_map] at hd
    obtain ⟨pp, hpp, rfl⟩ := Option.map_eq_some_iff.mp hd
    have s5 := s'.set 5 (A := aD K (encP pp)) hxd (Nat.le_of_ble_eq_true rfl)
    have hil : i < h.length := (List.getElem?_eq_some_iff.mp hpp).1
    cases pp with
    | none =>
      refine st_if (et_and (c := false) (et_test (ev_notN (ev_var rfl))) fun z => by cases z) s5 (fun z => by cases z) fun _ H6 e6 s6 => ?_
      have hk6 := e6 _ _ hk
      have wr6 := wr.ex e6
      rw [← ordTo_none hpp] at hk6 wr6
      exact ⟨s6.unset rfl, f'.trans (.ex e6), hk6, wr6⟩
    | some pc =>
      obtain ⟨n, f, l⟩ := pc
      have hn : n < bs.length := hin n f l (List.mem_of_getElem? hpp)
      have hv := valV_ord n (ordTo h i)
      have ho := ordTo_some hpp
      have len3 := ordTo_len h i
      refine st_if (et_and (et_test (ev_notN (ev_var rfl))) fun _ => et_test (ev_notInK hk (ev_ixT (ev_var rfl) ev_int rfl) (ev_var rfl))) s5 (fun hb H6 e6 s6 => ?_) fun hb H6 e6 s6 => ?_
      · have hno : n ∉ ordTo h i := fun z => by
          rw [hv, if_pos z] at hb
          cases hb
        rw [if_neg hno] at hv ho
        refine st_setK (K := K) (e6 _ _ hk) (ev_lenL (ev_wl rfl (wr.ex e6))) (ev_var rfl) (ev_ixT (ev_var rfl) ev_int rfl) s6 (by rw [ordK_length]; omega) (fun H7 f7 s7 h7 => ?_) (by walk_at "gs")
        have hb7 := (wb1.frs (f'.trans (.ex e6)) (by simp [b_nd, b_rl])).frs f7 (by simp [b_nd])
        have wr7 := (wr.ex e6).frs f7 (by simp [Ne.symm hnr])
        refine st_append (K := K) (ev_var rfl) (ev_ixL (ev_wl rfl hb7) (ev_ixT (ev_var rfl) ev_int rfl) (atD (blk_at hn))) s7 wr7 (by rw [List.length_map]; omega) (fun H8 f8 s8 w8 => ?_) (by walk_at "gs")
        refine ⟨s8.unset rfl, ((f'.trans (.ex e6)).trans (f7.mono (by simp))).trans (f8.mono (by simp)), ?_, ?_⟩
        · have h8 := f8.keep nd (by simp [hnr]) _ h7
          rw [putK_new hv] at h8
          rw [ho, ordK_snoc]
          rw [List.length_map] at h8
          exact h8
        · rw [ho, List.map_append]
          exact w8
      · have hyes : n ∈ ordTo h i := Classical.byContradiction fun z => by
          rw [hv, if_neg z] at hb
          cases hb
        rw [if_pos hyes] at ho
        exact ⟨s6.unset rfl, f'.trans (.ex e6), by rw [ho]; exact e6 _ _ hk, by rw [ho]; exact wr.ex e6⟩
  · rintro σ' H' ⟨s', f', hk, wr⟩
    have elen : xh.length = h.length := by rw [hxh2.length, List.length_map]
    rw [elen, ordTo_all] at hk wr
    have wh' : WL K H' ha (h.map encP) := ⟨xh, f'.keep ha (by simp [ha_nd, ha_rl]) _ (e13 _ _ hxh1), (hxh2.ex e13).to f'.t⟩
    have wb' := wb1.frs f' (by simp [b_nd, b_rl])
    refine st_set (A := aD K (.tup ((h.map (renum (ordOf h))).map encP))) (ev_is (ev_tupleL (EvN.l (en_map (K := K) h encP _ (fun pp => encP (renum (ordOf h) pp)) (ei_L (ev_wl rfl wh')) rfl (by omega) (fun pp _ => tg_name) fun pp hpp => ?_))) (by rw [List.map_map]; rfl)) s' fun σ6 H6 e6 s6 => ?_
    · cases pp with
      | none => exact ev_ifT (et_test (ev_isN (ev_var rfl))) rfl ev_non
      | some pc =>
        obtain ⟨n, f, l⟩ := pc
        have hv := valV_ord n (ordOf h)
        rw [if_pos ((mem_ordOf h n).mpr ⟨f, l, hpp⟩)] at hv
        exact ev_ifF (et_test (ev_isN (ev_var rfl))) rfl (ev_tup (ed_cons (ev_to (ev_getK hk (ev_var rfl) (ev_ixT (ev_var rfl) ev_int rfl) hv) fun _ _ z => num_of z) (ed_cons (ev_ixT (ev_var rfl) ev_int rfl) (ed_cons (ev_ixT (ev_var rfl) ev_int rfl) ed_nil))) (by show 3 ≤ 100000; decide))
    refine EvN.st (K := K) (en_lc (K := K) (List.range bs.length) (fun i : Nat => .tup [.num i, encB (bs.getD i (0, []))]) _ (fun i => !decide (i ∈ ordOf h) && !(bs.getD i (0, [])).2.isEmpty) (fun i => .num (((bs.getD i (0, [])).1 : Int) - ((bs.getD i (0, [])).2.length : Nat))) (ei_enumL (ev_wl rfl (wb'.ex e6))) (enumD_B bs) (by rw [List.length_range]; omega)
      (fun i _ => tg_tup (tgs_cons tg_name (tgs_cons (tg_tup (tgs_cons tg_name (tgs_cons tg_name tgs_nil)) rfl) tgs_nil)) rfl) (fun i hi => ?_) (fun i hi _ => ?_)) s6 fun gl σ7 H7 hgl e7 s7 wg => ?_
    · have hv := valV_ord i (ordOf h)
      refine et_is (et_andL (et_test (ev_notInK (e6 _ _ hk) (ev_var rfl) (ev_var rfl))) (et_test (ev_neT0 (ev_var rfl) fun x hx => ?_))) ?_
      · obtain ⟨y, _, rfl⟩ := List.mem_map.mp hx
        exact Lay.num
      · rw [hv, List.isEmpty_map]
        by_cases z : i ∈ ordOf h <;> simp [z]
    · exact ev_is (ev_sub (ev_var rfl) (ev_lenT (ev_var rfl))) (by rw [List.length_map])
    have e67 := e6.trans e7
    have gs : ∀ i ∈ (List.range bs.length).filter (fun i => !decide (i ∈ ordOf h) && !(bs.getD i (0, [])).2.isEmpty), (((bs.getD i (0, [])).1 : Int) - ((bs.getD i (0, [])).2.length : Nat)) = (((bs.getD i (0, [])).1 - (bs.getD i (0, [])).2.length : Nat) : Int) := fun i hi => by
      have hil := List.mem_range.mp (List.mem_filter.mp hi).1
      have hm : bs.getD i (0, []) ∈ bs := by
        rw [List.getD_eq_getElem?_getD, List.getElem?_eq_getElem hil]
        exact List.getElem_mem hil
      have := hcl _ hm
      omega
    refine st_ret (A := aD K (.tup [encS (settle ix h bs).1, natD (settle ix h bs).2])) (ev_is (ev_tup (ed_cons (ev_tup (ed_cons (ev_var rfl) (ed_cons (ev_var rfl) (ed_cons (ev_tupleL (ev_wl rfl (wr.ex e67))) ed_nil))) (by show 3 ≤ 100000; decide)) (ed_cons (ev_sum (ns := ((List.range bs.length).filter (fun i => !decide (i ∈ ordOf h) && !(bs.getD i (0, [])).2.isEmpty)).map fun i => (((bs.getD i (0, [])).1 : Int) - ((bs.getD i (0, [])).2.length : Nat))) (ev_isL (ev_wl rfl wg) (by rw [List.map_map]; rfl))) ed_nil)) (by show 2 ≤ 100000; decide)) ?_) s7 fun v H8 e8 p8 => ?_
    · rw [sum_cast _ _ _ gs]
      unfold settle encS goneOf
      simp [natD]
    · have eb : Ex H H' := fun a o ha' => f'.keep a (fun z => by
        rcases List.mem_cons.mp z with z | z
        · subst z; rw [hnd] at ha'; cases ha'
        · have z := List.mem_singleton.mp z
          subst z; rw [fresh_rl] at ha'; cases ha') o (e13 a o ha')
      exact q v H8 (eb.trans (e67.trans e8)) p8
def encSG (q : Stand × Nat) : D := .tup [encS q.1, natD q.2]
def spf_after (K : PySem.W.Frag) (ad : Ads) : Spf (Pln × Stand) := ⟨fun x => [aPrg K ad x.1, aD K (encS x.2)], fun x => x.1.Ok ∧ SOk1 x.1 x.2, fun x => aL K ((afterP x.1 x.2).map encSG)⟩
theorem HBOk.bin {w c : Nat} {h : List (Option Pc)} {bs : List Blk} (k : HBOk w c h bs) (hw : w ≤ 6) (hc : c ≤ 3) (hb : bs.length ≤ 8) : HBin h bs :=
  ⟨by rw [k.len]; exact hc, hb, fun n f l hm => ⟨Nat.le_of_lt (k.pc _ hm).fl, (k.pc _ hm).n⟩, fun x hx => Nat.le_trans (k.bk x hx).sw hw⟩
/-- a call as a value, whatever the promise's form -/
theorem ev_callS {sp : Sp} {G : Gam} {H : Hp} {E : XK} {ta : TA} {As : List Asr} {A : Asr} (h : EvA ta G H As) (hsp : ∀ vs H1, Ex H H1 → AAll As vs H1 → ∀ Q : VK, (∀ v H2, Ex H1 H2 → A.p v H2 → Q v H2) → sp vs H1 Q E) : EvG (tCall sp [] E ta) G H A := fun σ H1 s x Q q =>
  h σ H1 s x _ fun vs H2 e2 hv => by rw [List.append_nil]; exact hsp vs H2 (x.trans e2) hv Q fun v H3 e3 p => q v H3 (e2.trans e3) p
abbrev sc_after_N : List Str := ["program", "stand", "index", "held", "blocks", "step", "pieces", "rows", "turn"]
theorem sc_after : FnScope ["program", "stand", "index", "held", "blocks", "step", "pieces", "rows", "turn"] ["program", "stand"] (defScope (topS 29)) := ⟨rfl, rfl, rfl, by decide +kernel, rfl, by decide +kernel, by decide +kernel⟩
theorem ok_after {P : Program} {w : World} {K : PySem.W.Frag} {mg : Str → Option Value} {base : Heap} {ad : Ads} (fx : Fx K mg ad) : Ok P w K mg base CX0 5 "after" ["program", "stand"] ((spf_after K ad).sp) := by
  refine fx.d_after.ok sc_after (fun _ _ _ _ _ _ us hl => match us, hl with | [_, _], _ => rfl) (Spf.len fun _ => rfl) fun f cdv A outer s H vs Q E hr hcd h => ?_
  refine ⟨_, PSs.nox (pss_cons (ps_asg (pv 1) (xTg K (n := 3) rfl (pgs_cons (pg_name (i := 2) sc_after.nd rfl (by first | exact .inl rfl | exact .inr rfl)) (pgs_cons (pg_name (i := 3) sc_after.nd rfl (by first | exact .inl rfl | exact .inr rfl)) (pgs_cons (pg_name (i := 4) sc_after.nd rfl (by first | exact .inl rfl | exact .inr rfl)) pgs_nil))))) (pss_cons (ps_if (pt_cmpR (xEq K hr.units) (pv 2) (pe_callB (xLen P w K) (by rfl) fx.len_ (by decide +kernel) (pa_cons (pe_prog_steps fx (hr.mono (by decide)) (pv 0)) pa_nil)) (nomark _)) (pss_one (ps_ret (pe_lst (pa_nil)))) (pss_nil)) (pss_cons (ps_asg (pe_tup (pa_cons (pe_ix (xIx P w K hr.units) (pe_prog_steps fx (hr.mono (by decide)) (pv 0)) (pv 2) (fun _ _ => rfl)) (pa_cons (pe_callTy (xList P w K rfl) (by rfl) fx.list_ (by decide +kernel) (pa_cons (pv 3) pa_nil)) (pa_cons (pe_callTy (xList P w K rfl) (by rfl) fx.list_ (by decide +kernel) (pa_cons (pv 4) pa_nil)) pa_nil)))) (xTg K (n := 3) rfl (pgs_cons (pg_name (i := 5) sc_after.nd rfl (by first | exact .inl rfl | exact .inr rfl)) (pgs_cons (pg_name (i := 6) sc_after.nd rfl (by first | exact .inl rfl | exact .inr rfl)) (pgs_cons (pg_name (i := 7) sc_after.nd rfl (by first | exact .inl rfl | exact .inr rfl)) pgs_nil))))) (pss_cons (ps_expr (pe_callD (ok_act (P := P) (w := w) (base := base) fx) (hr.mono (by decide)) (by rfl) (pa_cons (pv 5) (pa_cons (pe_prog_width fx (hr.mono (by decide)) (pv 0)) (pa_cons (pv 6) (pa_cons (pv 7) pa_nil)))))) (pss_one (ps_ret (pe_lc (own := [("turn", 8)]) rfl sc_after.nd (xSeq K (pe_callD (ok_turns (P := P) (w := w) (base := base) fx) (hr.mono (by decide)) (by rfl) (pa_cons (pv 5) (pa_cons (pv 2) (pa_cons (pv 3) pa_nil))))) (blkOk_by (own := [("turn", 8)]) (N := ["program", "stand", "index", "held", "blocks", "step", "pieces", "rows", "turn"]) (sc := defScope (topS 29)) (by decide +kernel)) (fun _ _ _ _ _ => (pg_name (i := 8) sc_after.nd rfl (by first | exact .inl rfl | exact .inr rfl))) (fun _ _ _ _ _ => pts_nil) (fun _ _ _ _ _ => pe_callD (ok_settled (P := P) (w := w) (base := base) fx) (hr.mono (by decide)) (by rfl) (pa_cons (pv 8) (pa_cons (pv 6) (pa_cons (pv 7) pa_nil))))))))))), ?_⟩
  obtain ⟨⟨p, i, hd, bk⟩, ⟨hp, hs⟩, hAll, q⟩ := h
  have hp : p.Ok := hp
  have hs : SOk1 p (i, hd, bk) := hs
  have s0 : SOk _ _ H := SOk.entry (N := sc_after_N) hAll
  refine st_asg (ev_var rfl) s0 (tg_tup (tgs_cons tg_name (tgs_cons tg_name (tgs_cons tg_name tgs_nil))) rfl) fun σ1 H1 e1 s1 => ?_
  have hk : HBOk p.wide p.many hd bk := hs.hb
  have hlen : hd.length = p.many := hk.len
  have hfew : bk.length ≤ p.many := hs.few
  have h3 := hp.m3
  have h6 := hp.w6
  have h12 := hp.s12
  refine st_if (et_test (ev_eqI (ev_var rfl) (ev_lenT (ev_progSteps (ev_var rfl))))) s1 (fun hb H2 e2 s2 => ?_) fun hb H2 e2 s2 => ?_
  · have ei : i = p.steps.length := by
      have : (i : Int) = ((p.steps.map encT).length : Nat) := of_decide_eq_true hb
      rw [List.length_map] at this
      omega
    have ea : afterP p (i, hd, bk) = [] := by
      unfold afterP
      rw [List.getElem?_eq_none (by show p.steps.length ≤ i; omega)]
    have ea2 : (afterP (p, i, hd, bk).1 (p, i, hd, bk).2).map encSG = [] := by rw [show afterP (p, i, hd, bk).1 (p, i, hd, bk).2 = [] from ea]; rfl
    refine st_ret (A := aL K []) ev_nil s2 fun v H3 e3 pv => q v H3 ((e1.trans e2).trans e3) ?_
    show (aL K ((afterP (p, i, hd, bk).1 (p, i, hd, bk).2).map encSG)).p v H3
    rw [ea2]
    exact pv
  · have hi : i < p.steps.length := by
      have : ¬ (i : Int) = ((p.steps.map encT).length : Nat) := of_decide_eq_false hb
      rw [List.length_map] at this
      have := hs.ix
      have : i ≤ p.steps.length := this
      omega
    have hat : (p.steps.map encT)[i]? = some (encT p.steps[i]) := by simp [hi]
    have hok := hp.ok _ (List.getElem_mem hi)
    have ea : afterP p (i, hd, bk) = (turnsP p.steps[i] i hd).map fun j => settle j (actP p.steps[i] p.wide hd bk).1 (actP p.steps[i] p.wide hd bk).2 := by
      unfold afterP
      rw [List.getElem?_eq_getElem hi]
    -- step, pieces, rows
    refine (ev_ixT (ev_progSteps (ev_var rfl)) (ev_var rfl) (atD hat)) σ1 H2 s2 (Evl.Ex.refl H2) _ fun vs3 H3 e3 p3 => ?_
    refine (ev_listT (K := K) (ds := hd.map encP) (ev_var rfl)) σ1 H3 (s2.ex e3) e3 _ fun la xa H4 n4 e4 ha4 da4 => ?_
    refine (ev_listT (K := K) (ds := bk.map encB) (ev_var rfl)) σ1 H4 (s2.ex (e3.trans e4)) (e3.trans e4) _ fun lb xb H5 n5 e5 hb5 db5 => ?_
    have wl4 : WL K H4 la (hd.map encP) := ⟨xa, ha4, da4⟩
    have wl5 : WL K H5 lb (bk.map encB) := ⟨xb, hb5, db5⟩
    have hab : la ≠ lb := wl4.ne_none n5
    refine ⟨by show 3 ≤ sizeLine; decide, fun T hT => ?_⟩
    have eT := Evl.Ex.new (o := .tup [vs3, .ref la, .ref lb]) hT
    refine ⟨T, [vs3, .ref la, .ref lb], rfl, .inl (.inl upd_same), rfl, vs3, [.ref la, .ref lb], rfl, .ref la, [.ref lb], rfl, .ref lb, [], rfl, rfl, ?_⟩
    have e26 := ((e3.trans e4).trans e5).trans eT
    have e36 := (e4.trans e5).trans eT
    have e06 : Ex H _ := (e1.trans e2).trans e26
    have dstep := DIs.ex p3 e36
    have wa := (wl4.ex e5).ex eT
    have wb := wl5.ex eT
    have fa : H la = none := Evl.fresh_back ((e1.trans e2).trans e3) n4
    have fb : H lb = none := Evl.fresh_back (((e1.trans e2).trans e3).trans e4) n5
    generalize upd H5 T (.tup [vs3, .ref la, .ref lb]) = H6 at *
    have s6 := (((s2.ex e26).set 5 (A := aD K (encT p.steps[i])) (v := vs3) dstep (Nat.le_of_ble_eq_true rfl)).set 6 (A := aV (.ref la)) (v := .ref la) rfl (Nat.le_of_ble_eq_true rfl)).set 7 (A := aV (.ref lb)) (v := .ref lb) rfl (Nat.le_of_ble_eq_true rfl)
    -- act
    refine call_of (ea_cons (ev_var rfl) (ea_cons (ev_progWidth (ev_var rfl)) (ea_cons (ev_var rfl) (ea_one (ev_var rfl))))) s6 fun vs H7 e7 s7 hv => ?_
    obtain ⟨x, y, z, u, rfl, px, py, pz, pu⟩ := aall4 hv
    have ey := DIs.num_inv py
    have ez : z = .ref la := pz
    have eu : u = .ref lb := pu
    subst ey ez eu
    refine ⟨x, p.steps[i], p.wide, p.many, la, lb, hd, bk, rfl, px, hok.le h12, hlen.symm, hk.bin h6 h3 (by omega), hab, wa.ex e7, wb.ex e7, fun H8 f8 wa8 wb8 => ?_⟩
    obtain ⟨k8, l8⟩ := act_ok (hok.le h12) hk hp.w1
    have s8 := s7.st f8.t (by walk_at "gs")
    have e08 : Ex H H8 := f8.ofNew (e06.trans e7) fun a ha => by
      rcases List.mem_cons.mp ha with z | z
      · rw [z]; exact fa
      · rw [List.mem_singleton.mp z]; exact fb
    refine st_ret (A := aL K ((afterP p (i, hd, bk)).map encSG)) (ev_isL (EvN.l (en_map (K := K) (turnsP p.steps[i] i hd) natD _ (fun j => encSG (settle j (actP p.steps[i] p.wide hd bk).1 (actP p.steps[i] p.wide hd bk).2)) (ei_L (ev_call (f := spf_turns K) (p.steps[i], i, hd) (ea_cons (ev_var rfl) (ea_cons (ev_var rfl) (ea_one (ev_var rfl)))) ⟨?_, by show hd.length ≤ 3; omega⟩)) rfl ?_ (fun j _ => tg_name) fun j _ => ?_)) ?_) s8 fun v H9 e9 p9 => q v H9 (e08.trans e9) p9
    · show p.steps[i].Ok 6 hd.length 12
      rw [hlen]
      have z := hok.le h12
      cases hst : p.steps[i] with
      | read a n => rw [hst] at z; exact ⟨z.1, z.2.1, by have := z.2.2; omega⟩
      | cut a b i j => rw [hst] at z; exact ⟨z.1, z.2.1, z.2.2.1, by have := z.2.2.2; omega⟩
      | _ => rw [hst] at z; exact z
    · have : (turnsP p.steps[i] i hd).length ≤ 2 := by
        unfold turnsP
        split <;> (try split) <;> (try split) <;> simp
      omega
    · refine ev_callS (ea_cons (ev_var rfl) (ea_cons (ev_var rfl) (ea_one (ev_var rfl)))) fun vs H9 e9 hv Q' q' => ?_
      obtain ⟨x, y, z, rfl, px, py, pz⟩ := aall3 hv
      have ex := DIs.num_inv px
      have ey : y = .ref la := py
      have ez : z = .ref lb := pz
      subst ex ey ez
      refine ⟨j, la, lb, _, _, rfl, wa8.ex e9, wb8.ex e9, ?_, ?_, fun n f l hm => (k8.pc _ hm).n, fun b hb => (k8.bk b hb).cl, fun v H10 e10 p10 => q' v H10 e10 p10⟩
      · rw [k8.len]; exact h3
      · omega
    · rw [ea, List.map_map]; rfl
def spf_waste_of (K : PySem.W.Frag) : Spf Stand := ⟨fun s => [aD K (encS s)], fun s => s.2.1.length ≤ 3 ∧ s.2.2.length ≤ 3 ∧ ∀ b ∈ s.2.2, b.1 ≤ 6, fun s => aD K (natD (wasteP s))⟩
/-- one block's piece -/
def ofBlk (n : Nat) : Option Pc → Bool
  | some (m, _, _) => decide (m = n)
  | none => false
def encSp : Option Pc → D
  | some (_, f, l) => .tup [.num f, .num l]
  | none => .none
def spansOf (n : Nat) : List (Option Pc) → List (Nat × Nat)
  | [] => []
  | some (m, f, l) :: h => if m = n then (f, l) :: spansOf n h else spansOf n h
  | none :: h => spansOf n h
def encFL (q : Nat × Nat) : D := .tup [.num q.1, .num q.2]
theorem spans_map (n : Nat) : ∀ h : List (Option Pc), (h.filter (ofBlk n)).map encSp = (spansOf n h).map encFL
  | [] => rfl
  | none :: h => by
    show (h.filter (ofBlk n)).map encSp = _
    exact spans_map n h
  | some (m, f, l) :: h => by
    by_cases e : m = n
    · have e1 : ofBlk n (some (m, f, l)) = true := decide_eq_true e
      have e2 : spansOf n (some (m, f, l) :: h) = (f, l) :: spansOf n h := if_pos e
      rw [List.filter_cons, if_pos e1, e2, List.map_cons, List.map_cons, spans_map n h]; rfl
    · have e1 : ¬ ofBlk n (some (m, f, l)) = true := fun z => e (of_decide_eq_true z)
      have e2 : spansOf n (some (m, f, l) :: h) = spansOf n h := if_neg e
      rw [List.filter_cons, if_neg e1, e2, spans_map n h]
theorem any_spans (n x : Nat) : ∀ h : List (Option Pc), ((spansOf n h).map fun q => decide (q.1 ≤ x) && decide (x < q.2)).any id = h.any fun p => match p with
    | some (m, f, l) => decide (m = n) && (decide (f ≤ x) && decide (x < l))
    | none => false
  | [] => rfl
  | none :: h => by
    show ((spansOf n h).map _).any id = (false || _)
    rw [any_spans n x h, Bool.false_or]
  | some (m, f, l) :: h => by
    rw [List.any_cons, ← any_spans n x h]
    by_cases e : m = n
    · have e2 : spansOf n (some (m, f, l) :: h) = (f, l) :: spansOf n h := if_pos e
      rw [e2, List.map_cons, List.any_cons]
      simp [e]
    · have e2 : spansOf n (some (m, f, l) :: h) = spansOf n h := if_neg e
      rw [e2]
      simp [e]
theorem spans_len (n : Nat) : ∀ h : List (Option Pc), (spansOf n h).length ≤ h.length
  | [] => Nat.le_refl _
  | none :: h => Nat.le_succ_of_le (spans_len n h)
  | some (m, f, l) :: h => by
    have := spans_len n h
    show (if m = n then (f, l) :: spansOf n h else spansOf n h).length ≤ h.length + 1
    split
    · rw [List.length_cons]; omega
    · omega
/-- counted so far -/
def wasteTo (h : List (Option Pc)) (n : Nat) (b : Blk) (j : Nat) : Nat := ((List.range j).filter fun x => !decide (x ∈ b.2) && !(h.any fun p => match p with
  | some (m, f, l) => decide (m = n) && (decide (f ≤ x) && decide (x < l))
  | none => false)).length
def wasteSum (s : Stand) (i : Nat) : Nat := ((List.range i).map fun n => wasteB s.2.1 n (s.2.2.getD n (0, []))).sum
theorem wasteSum_succ (s : Stand) (i : Nat) : wasteSum s (i + 1) = wasteSum s i + wasteB s.2.1 i (s.2.2.getD i (0, [])) := by
  unfold wasteSum
  rw [List.range_succ, List.map_append, List.sum_append]
  simp
abbrev sc_waste_of_N : List Str := ["stand", "total", "number", "size", "cells", "spans", "at", "piece", "first", "last"]
theorem sc_waste_of : FnScope ["stand", "total", "number", "size", "cells", "spans", "at", "piece", "first", "last"] ["stand"] (defScope (topS 30)) := ⟨rfl, rfl, rfl, by decide +kernel, rfl, by decide +kernel, by decide +kernel⟩
theorem ok_waste_of {P : Program} {w : World} {K : PySem.W.Frag} {mg : Str → Option Value} {base : Heap} {ad : Ads} (fx : Fx K mg ad) : Ok P w K mg base CX0 1 "waste_of" ["stand"] ((spf_waste_of K).sp) := by
  refine fx.d_waste_of.ok sc_waste_of (fun _ _ _ _ _ _ us hl => match us, hl with | [_], _ => rfl) (Spf.len fun _ => rfl) fun f cdv A outer s H vs Q E hr hcd h => ?_
  refine ⟨_, PSs.nox (pss_cons (ps_set (i := 1) sc_waste_of.nd rfl (by first | exact .inl rfl | exact .inr rfl) pe_int) (pss_cons (ps_for PassesOwn.never rfl (xEnum K (by rfl) fx.enumerate_ (pa_cons (pe_ix (xIx P w K hr.units) (pv 0) pe_int (fun _ _ => rfl)) pa_nil)) (xTg K (n := 2) rfl (pgs_cons (pg_name (i := 2) sc_waste_of.nd rfl (by first | exact .inl rfl | exact .inr rfl)) (pgs_cons (xTg K (n := 2) rfl (pgs_cons (pg_name (i := 3) sc_waste_of.nd rfl (by first | exact .inl rfl | exact .inr rfl)) (pgs_cons (pg_name (i := 4) sc_waste_of.nd rfl (by first | exact .inl rfl | exact .inr rfl)) pgs_nil))) pgs_nil))) (pss_cons (ps_setLc (i := 5) (own := [("piece", 7)]) rfl sc_waste_of.nd rfl rfl (sw_true rfl rfl rfl (by decide +kernel)) (xSeq K (pe_ix (xIx P w K hr.units) (pv 0) pe_int (fun _ _ => rfl))) (blkOk_by (own := [("piece", 7)]) (N := ["stand", "total", "number", "size", "cells", "spans", "at", "piece", "first", "last"]) (sc := defScope (topS 30)) (by decide +kernel)) (fun _ _ _ _ _ => (pg_name (i := 7) sc_waste_of.nd rfl (by first | exact .inl rfl | exact .inr rfl))) (fun _ _ _ _ _ => (pts_one (PW.pt (pw_and (pt_cmpR op_notNo (pv 7) pe_non (nomark _)) (pw_and1 (pt_cmpR (xEq K hr.units) (pe_ix (xIx P w K hr.units) (pv 7) pe_int (fun _ _ => rfl)) (pv 2) (nomark _))))))) (fun _ _ _ _ _ => pe_tup (pa_cons (pe_ix (xIx P w K hr.units) (pv 7) pe_int (fun _ _ => rfl)) (pa_cons (pe_ix (xIx P w K hr.units) (pv 7) pe_int (fun _ _ => rfl)) pa_nil)))) (pss_one (ps_for PassesOwn.never rfl (pi_range1 (by rfl) fx.range_ (pa_cons (pv 3) pa_nil)) (pg_name (i := 6) sc_waste_of.nd rfl (by first | exact .inl rfl | exact .inr rfl)) (pss_one (ps_if (PW.pt (pw_and (pt_cmpR (xNotIn P w K hr.units) (pv 6) (pv 4) (by rfl)) (pw_and1 (pt_not (pt_val (pe_callB (xAny K rfl) (by rfl) fx.any_ (by decide +kernel) (pa_cons (pe_lc (own := [("first", 8), ("last", 9)]) rfl sc_waste_of.nd (xSeq K (pv 5)) (blkOk_by (own := [("first", 8), ("last", 9)]) (N := ["stand", "total", "number", "size", "cells", "spans", "at", "piece", "first", "last"]) (sc := defScope (topS 30)) (by decide +kernel)) (fun _ _ _ _ _ => (xTg K (n := 2) rfl (pgs_cons (pg_name (i := 8) sc_waste_of.nd rfl (by first | exact .inl rfl | exact .inr rfl)) (pgs_cons (pg_name (i := 9) sc_waste_of.nd rfl (by first | exact .inl rfl | exact .inr rfl)) pgs_nil)))) (fun _ _ _ _ _ => pts_nil) (fun _ _ _ _ _ => pe_chain op_le op_lt (pv 8) (pv 6) (pv 9))) pa_nil))))))) (pss_one (ps_aug (i := 1) sc_waste_of.nd rfl (by first | exact .inl rfl | exact .inr rfl) pe_int ip_add)) (pss_nil))))))) (pss_one (ps_ret (pv 1))))), ?_⟩
  obtain ⟨s, ⟨h3, hb3, h6⟩, hAll, q⟩ := h
  obtain ⟨ix, hd, bk⟩ := s
  have h3 : hd.length ≤ 3 := h3
  have hb3 : bk.length ≤ 3 := hb3
  have s0 : SOk _ _ H := SOk.entry (N := sc_waste_of_N) hAll
  refine st_set (A := aD K (natD 0)) ev_int s0 fun σ1 H1 e1 s1 => ?_
  refine st_for (K := K) (it_enumT (ev_ixT (ev_var rfl) ev_int rfl)) s1 fun H2 e2 s2 => ⟨fun i σ' H' => SOk ((entry sc_waste_of_N [aD K (encS (ix, hd, bk))]).set 1 (some (aD K (natD (wasteSum (ix, hd, bk) i))))) σ' H' ∧ Ex H2 H', ⟨s2, Evl.Ex.refl _⟩, fun i σ' H' p => tle_of_ex p.2, ?_, ?_⟩
  · rintro i d x σ' H' H'' hd1 ⟨s', ex'⟩ eH hx
    rw [enumD_B] at hd1
    have hil : i < bk.length := by
      have := (List.getElem?_eq_some_iff.mp hd1).1
      simpa using this
    rw [List.getElem?_map, List.getElem?_range hil] at hd1
    have hd2 : NestedKey.tup [.num (i : Nat), encB (bk.getD i (0, []))] = d := Option.some.inj hd1
    subst hd2
    have hbm : bk.getD i (0, []) ∈ bk := by rw [getB hil]; exact List.getElem_mem hil
    have b6 := h6 _ hbm
    generalize hbb : bk.getD i (0, []) = bb at hx b6
    obtain ⟨bsz, bcl⟩ := bb
    have b6 : bsz ≤ 6 := b6
    refine (tg_tup (vs := sv) (tgs_cons tg_name (tgs_cons (tg_tup (tgs_cons tg_name (tgs_cons tg_name tgs_nil)) rfl) tgs_nil)) rfl) x σ' H'' (s'.ex eH) hx _ fun σ3 s3 _ => ?_
    refine st_set (A := aL K ((hd.filter (ofBlk i)).map encSp)) (EvN.l (en_lc (K := K) hd encP _ (ofBlk i) encSp (ei_T (ev_ixT (ev_var rfl) ev_int rfl)) rfl (by omega) (fun p _ => tg_name) (fun p _ => ?_) (fun p _ hp => ?_))) s3 fun σ4 H4 e4 s4 => ?_
    · cases p with
      | none => exact et_is (et_and (c := false) (et_test (ev_notN (ev_var rfl))) fun z => by cases z) rfl
      | some pc =>
        obtain ⟨m, f, l⟩ := pc
        refine et_is (et_andL (et_test (ev_notN (ev_var rfl))) (et_test (ev_eqI (ev_ixT (ev_var rfl) ev_int rfl) (ev_var rfl)))) ?_
        show (true && decide ((m : Int) = i)) = decide (m = i)
        rw [Bool.true_and]
        exact decide_eq_decide.mpr (by omega)
    · cases p with
      | none => cases hp
      | some pc =>
        obtain ⟨m, f, l⟩ := pc
        exact ev_tup (ed_cons (ev_ixT (ev_var rfl) ev_int rfl) (ed_cons (ev_ixT (ev_var rfl) ev_int rfl) ed_nil)) (by show 2 ≤ 100000; decide)
    refine st_range1 (n := bsz) (ea_one (ev_var rfl)) s4 (by omega) (fun j σ' H' => SOk ((((((entry sc_waste_of_N [aD K (encS (ix, hd, bk))]).set 1 (some (aD K (natD (wasteSum (ix, hd, bk) i + wasteTo hd i (bsz, bcl) j))))).set 2 (some (aD K (natD i)))).set 3 (some (aD K (natD bsz)))).set 4 (some (aD K (.tup (bcl.map natD))))).set 5 (some (aL K ((hd.filter (ofBlk i)).map encSp)))) σ' H' ∧ Ex H4 H') ?_ ?_ ?_
    · intro H5 e5
      exact ⟨s4.ex e5, e5⟩
    · rintro j σ' H' hj ⟨s', ex2⟩
      have s6 := s'.set 6 (A := aD K (natD j)) (v := .int j) (.int _) (Nat.le_of_ble_eq_true rfl)
      have ws : wasteTo hd i (bsz, bcl) (j + 1) = wasteTo hd i (bsz, bcl) j + (if (!decide (j ∈ bcl) && !(hd.any fun p => match p with | some (m, f, l) => decide (m = i) && (decide (f ≤ j) && decide (j < l)) | none => false)) = true then 1 else 0) := by
        unfold wasteTo
        rw [List.range_succ, List.filter_append, List.length_append, List.filter_cons]
        split <;> rfl
      refine st_if (b := !decide (j ∈ bcl) && !(hd.any fun p => match p with | some (m, f, l) => decide (m = i) && (decide (f ≤ j) && decide (j < l)) | none => false)) (et_is (et_andL (et_test (ev_notInT (ev_var rfl) (ev_var rfl) rfl flat_nats)) (et_not (et_B (ev_any (eb_map (K := K) (spansOf i hd) encFL _ (fun q => decide (q.1 ≤ j) && decide (j < q.2)) (ei_L (ev_var rfl)) (spans_map i hd) (by have := spans_len i hd; omega) (fun p _ => tg_tup (tgs_cons tg_name (tgs_cons tg_name tgs_nil)) rfl) (fun p _ => ev_isB (ev_chain (ev_var rfl) (ev_var rfl) (ev_var rfl)) ?_)))))) ?_) s6 (fun hb H7 e7 s7 => ?_) fun hb H7 e7 s7 => ?_
      · rw [decide_eq_decide.mpr (by omega : ((p.1 : Nat) : Int) ≤ (j : Nat) ↔ p.1 ≤ j), decide_eq_decide.mpr (by omega : ((j : Nat) : Int) < ((p.2 : Nat) : Int) ↔ j < p.2)]
      · rw [any_spans, ← mem_nats]
      · rw [hb, if_pos rfl] at ws
        refine st_aug (K := K) ev_int s7 rfl fun σ8 H8 e8 s8 => ?_
        refine ⟨?_, (ex2.trans e7).trans e8⟩
        rw [ws]
        have en : NestedKey.num (((wasteSum (ix, hd, bk) i + wasteTo hd i (bsz, bcl) j : Nat) : Int) + 1) = natD (wasteSum (ix, hd, bk) i + (wasteTo hd i (bsz, bcl) j + 1)) := by
          unfold natD
          congr 1
        rw [← en]
        exact s8.gle (by walk_at "gle")
      · rw [hb, if_neg (by decide)] at ws
        rw [Nat.add_zero] at ws
        refine ⟨?_, ex2.trans e7⟩
        rw [ws]
        exact s7.gle (by walk_at "gle")
    · rintro σ' H' ⟨s', ex2⟩
      refine ⟨?_, (ex'.trans eH).trans (e4.trans ex2)⟩
      rw [wasteSum_succ]
      have : wasteB (ix, hd, bk).2.1 i ((ix, hd, bk).2.2.getD i (0, [])) = wasteTo hd i (bsz, bcl) bsz := by
        show wasteB hd i (bk.getD i (0, [])) = _
        rw [hbb]; rfl
      rw [this]
      exact s'.gle (by walk_at "gle")
  · rintro σ' H' ⟨s', ex2⟩
    refine st_ret (ev_var rfl) s' fun v H5 e5 p5 => q v H5 (((e1.trans e2).trans ex2).trans e5) ?_
    have : (enumD (bk.map encB)).length = bk.length := by rw [enumD_length, List.length_map]
    rw [this] at p5
    exact p5
def optSG : Option (Stand × Nat) → D
  | none => .none
  | some q => encSG q
def laterP (p : Pln) (s : Stand) (i : Int) : Option (Stand × Nat) := (afterP p s).find? fun q : Stand × Nat => decide ((q.1.1 : Int) = i)
theorem lay_encSG (q : Stand × Nat) : Lay 8 (encSG q) := by
  refine Lay.mono (n := 6) (Lay.tup fun x hx => ?_) (by decide)
  simp only [List.mem_cons, List.not_mem_nil, or_false] at hx
  rcases hx with rfl | rfl
  · exact lay_encS _
  · exact Lay.num
theorem turns_len (t : Stp) (i : Nat) (h : List (Option Pc)) : (turnsP t i h).length ≤ 2 := by
  unfold turnsP
  split <;> (try split) <;> (try split) <;> simp
theorem after_len (p : Pln) (s : Stand) : (afterP p s).length ≤ 2 := by
  unfold afterP
  split
  · simp
  · rw [List.length_map]; exact turns_len _ _ _
def spf_later_of (K : PySem.W.Frag) (ad : Ads) : Spf (Pln × Stand × Int) := ⟨fun x => [aPrg K ad x.1, aD K (encS x.2.1), aD K (.num x.2.2)], fun x => x.1.Ok ∧ SOk1 x.1 x.2.1, fun x => aD K (optSG (laterP x.1 x.2.1 x.2.2))⟩
abbrev sc_later_of_N : List Str := ["program", "stand", "index", "some", "pair"]
theorem sc_later_of : FnScope ["program", "stand", "index", "some", "pair"] ["program", "stand", "index"] (defScope (topS 32)) := ⟨rfl, rfl, rfl, by decide +kernel, rfl, by decide +kernel, by decide +kernel⟩
theorem ok_later_of {P : Program} {w : World} {K : PySem.W.Frag} {mg : Str → Option Value} {base : Heap} {ad : Ads} (fx : Fx K mg ad) : Ok P w K mg base CX0 6 "later_of" ["program", "stand", "index"] ((spf_later_of K ad).sp) := by
  refine fx.d_later_of.ok sc_later_of (fun _ _ _ _ _ _ us hl => match us, hl with | [_, _, _], _ => rfl) (Spf.len fun _ => rfl) fun f cdv A outer s H vs Q E hr hcd h => ?_
  refine ⟨_, PSs.nox (pss_cons (ps_setLc (i := 3) (own := [("pair", 4)]) rfl sc_later_of.nd rfl rfl (sw_true rfl rfl rfl (by decide +kernel)) (xSeq K (pe_callD (ok_after (P := P) (w := w) (base := base) fx) (hr.mono (by decide)) (by rfl) (pa_cons (pv 0) (pa_cons (pv 1) pa_nil)))) (blkOk_by (own := [("pair", 4)]) (N := ["program", "stand", "index", "some", "pair"]) (sc := defScope (topS 32)) (by decide +kernel)) (fun _ _ _ _ _ => (pg_name (i := 4) sc_later_of.nd rfl (by first | exact .inl rfl | exact .inr rfl))) (fun _ _ _ _ _ => (pts_one (pt_cmpR (xEq K hr.units) (pe_ix (xIx P w K hr.units) (pe_ix (xIx P w K hr.units) (pv 4) pe_int (fun _ _ => rfl)) pe_int (fun _ _ => rfl)) (pv 2) (nomark _)))) (fun _ _ _ _ _ => pv 4)) (pss_one (ps_ret (pe_ifExp (pt_cmpR (xNe K hr.units) (pv 3) (pe_lst (pa_nil)) (nomark _)) (pe_ix (xIx P w K hr.units) (pv 3) pe_int (fun _ _ => rfl)) pe_non)))), ?_⟩
  refine Spf.run h fun x hx => ?_
  obtain ⟨p, s, i⟩ := x
  obtain ⟨hp, hs⟩ := hx
  refine sr_set (B := aL K (((afterP p s).filter fun q : Stand × Nat => decide ((q.1.1 : Int) = i)).map encSG)) (EvN.l (en_lc (K := K) (afterP p s) encSG _ (fun q : Stand × Nat => decide ((q.1.1 : Int) = i)) encSG (ei_L (ev_call (f := spf_after K ad) (p, s) (ea_cons (ev_var rfl) (ea_one (ev_var rfl))) ⟨hp, hs⟩)) rfl (by have := after_len p s; omega) (fun q _ => tg_name)
    (fun q _ => et_test (ev_eqI (ev_ixT (ev_ixT (ev_var rfl) ev_int rfl) ev_int rfl) (ev_var rfl))) (fun q _ _ => ev_var rfl))) (sr_ret ?_)
  have lay : ∀ x ∈ ((afterP p s).filter fun q : Stand × Nat => decide ((q.1.1 : Int) = i)).map encSG, Lay 8 x := fun x hx => by
    obtain ⟨q, _, rfl⟩ := List.mem_map.mp hx
    exact lay_encSG q
  have e : optSG (laterP p s i) = (match ((afterP p s).filter fun q : Stand × Nat => decide ((q.1.1 : Int) = i)) with
      | [] => .none
      | q :: _ => encSG q) := by
    unfold laterP
    rw [← List.head?_filter]
    cases (afterP p s).filter fun q : Stand × Nat => decide ((q.1.1 : Int) = i) <;> rfl
  show EvG _ _ _ (aD K (optSG (laterP p s i)))
  rw [e]
  generalize hL : ((afterP p s).filter fun q : Stand × Nat => decide ((q.1.1 : Int) = i)) = L at lay ⊢
  cases L with
  | nil => exact ev_ifF (et_test (ev_neN (ev_var rfl) lay)) rfl ev_non
  | cons q r => exact ev_ifT (et_test (ev_neN (ev_var rfl) lay)) rfl (ev_ixL (ev_var rfl) ev_int (atD (n := 0) rfl))
def encSGi (q : Stand × Int) : D := .tup [encS q.1, .num q.2]
def sp_followed (K : PySem.W.Frag) (ad : Ads) : Sp := fun vs H Q E => ∃ (pv av : V) (p : Pln) (path : List Int), vs = [pv, av] ∧ (aPrg K ad p).p pv H ∧ DIs K H av (.tup (path.map .num)) ∧ p.Ok ∧ path.length < 50000 ∧
  (∀ l, walkP p path = some l → ∀ v H', Ex H H' → (aL K (l.map encSGi)).p v H' → Q v H') ∧ (walkP p path = none → ∀ d H', Ex H H' → E (.ref ad.badPath) d H')
theorem path_at {path : List Int} {i : Nat} (h : i < path.length) : (path.map NestedKey.num)[i]? = some (.num path[i]) := by simp [h]
theorem last_at {α : Type} {f : α → D} {L : List α} {x : α} : atI ((L ++ [x]).map f) (-1) = some (f x) := by
  rw [List.map_append]
  exact atI_last _ _
abbrev sc_followed_N : List Str := ["program", "path", "found", "gone", "at", "stand", "pair"]
theorem sc_followed : FnScope ["program", "path", "found", "gone", "at", "stand", "pair"] ["program", "path"] (defScope (topS 33)) := ⟨rfl, rfl, rfl, by decide +kernel, rfl, by decide +kernel, by decide +kernel⟩
theorem ok_followed {P : Program} {w : World} {K : PySem.W.Frag} {mg : Str → Option Value} {base : Heap} {ad : Ads} (fx : Fx K mg ad) : Ok P w K mg base (L2.CX P w) 7 "followed" ["program", "path"] (sp_followed K ad) := by
  refine fx.d_followed.ok sc_followed (fun _ _ _ _ _ _ us hl => match us, hl with | [_, _], _ => rfl) (fun vs H Q E q => by obtain ⟨_, _, _, _, rfl, _⟩ := q; rfl) fun f cdv A outer s H vs Q E hr hcd h => ?_
  refine ⟨_, (pss_cons (ps_if (PW.pt (pw_or (pt_not (pt_val (pe_callB (xIsiT K) (by rfl) fx.isinstance_ (by decide +kernel) (pa_cons (pv 1) (pa_cons (pe_tup (pa_cons (pe_bltn (v := .ty "list") (u := .type "list") (by rfl) fx.list_ (by decide +kernel) (by rfl)) (pa_cons (pe_bltn (v := .ty "tuple") (u := .type "tuple") (by rfl) fx.tuple_ (by decide +kernel) (by rfl)) pa_nil))) pa_nil))))) (pw_or1 (pt_cmpR (xEq K hr.units) (pe_callB (xLen P w K) (by rfl) fx.len_ (by decide +kernel) (pa_cons (pv 1) pa_nil)) pe_int (nomark _))))) (pss_one (ps_raiseN rfl (takes_of rfl rfl rfl rfl) (pmk_badPath fx (hr.mono (by decide)) (by rfl) (pa_cons pe_non pa_nil)))) (pss_nil)) (pss_cons (ps_if (PW.pt (pw_or (pt_not (pt_val (pe_callD (ok_is_integer (P := P) (w := w) (base := base) fx) (hr.mono (by decide)) (by rfl) (pa_cons (pe_ix (xIx P w K hr.units) (pv 1) pe_int (fun _ _ => rfl)) pa_nil)))) (pw_or1 (pt_cmpR (xNe K hr.units) (pe_ix (xIx P w K hr.units) (pv 1) pe_int (fun _ _ => rfl)) pe_int (nomark _))))) (pss_one (ps_raiseN rfl (takes_of rfl rfl rfl rfl) (pmk_badPath fx (hr.mono (by decide)) (by rfl) (pa_cons pe_int pa_nil)))) (pss_nil)) (pss_cons (ps_par (i := 2) (j := 3) (by rfl) sc_followed.nd rfl rfl (by decide) rfl rfl (pa_cons (pe_lst (pa_cons (pe_tup (pa_cons (pe_callD (ok_start_of (P := P) (w := w) (base := base) fx) (hr.mono (by decide)) (by rfl) (pa_cons (pv 0) pa_nil)) (pa_cons pe_int pa_nil))) pa_nil)) (pa_cons pe_int pa_nil)) (by rfl)) (pss_cons (ps_for (passes_of rfl) rfl (pi_range2 (by rfl) fx.range_ (pa_cons pe_int (pa_cons (pe_callB (xLen P w K) (by rfl) fx.len_ (by decide +kernel) (pa_cons (pv 1) pa_nil)) pa_nil))) (pg_name (i := 4) sc_followed.nd rfl (by first | exact .inl rfl | exact .inr rfl)) (pss_cons (ps_set (i := 5) sc_followed.nd rfl (by first | exact .inl rfl | exact .inr rfl) (pe_ix (xIx P w K hr.units) (pe_ix (xIx P w K hr.units) (pv 2) (pe_un un_neg pe_int) (fun _ _ => rfl)) pe_int (fun _ _ => rfl))) (pss_cons (ps_set (i := 6) sc_followed.nd rfl (by first | exact .inl rfl | exact .inr rfl) (pe_ifExp (pt_val (pe_callD (ok_is_integer (P := P) (w := w) (base := base) fx) (hr.mono (by decide)) (by rfl) (pa_cons (pe_ix (xIx P w K hr.units) (pv 1) (pv 4) (fun _ _ => rfl)) pa_nil))) (pe_callD (ok_later_of (P := P) (w := w) (base := base) fx) (hr.mono (by decide)) (by rfl) (pa_cons (pv 0) (pa_cons (pv 5) (pa_cons (pe_ix (xIx P w K hr.units) (pv 1) (pv 4) (fun _ _ => rfl)) pa_nil)))) pe_non)) (pss_cons (ps_if (pt_cmpR op_isNo (pv 6) pe_non (nomark _)) (pss_one (ps_raiseN rfl (takes_of rfl rfl rfl rfl) (pmk_badPath fx (hr.mono (by decide)) (by rfl) (pa_cons (pv 4) pa_nil)))) (pss_nil)) (pss_cons (ps_set (i := 3) sc_followed.nd rfl (by first | exact .inl rfl | exact .inr rfl) (pe_ifExp (pt_val (pe_callD (ok_is_clear (P := P) (w := w) (base := base) fx) (hr.mono (by decide)) (by rfl) (pa_cons (pv 0) (pa_cons (pv 5) pa_nil)))) pe_int (pe_op (xAdd K) (pv 3) (pe_ix (xIx P w K hr.units) (pv 6) pe_int (fun _ _ => rfl))))) (pss_one (ps_expr (xAppend K (pv 2) (pa_cons (pe_tup (pa_cons (pe_ix (xIx P w K hr.units) (pv 6) pe_int (fun _ _ => rfl)) (pa_cons (pe_op (xAdd K) (pv 3) (pe_callD (ok_waste_of (P := P) (w := w) (base := base) fx) (hr.mono (by decide)) (by rfl) (pa_cons (pe_ix (xIx P w K hr.units) (pv 6) pe_int (fun _ _ => rfl)) pa_nil))) pa_nil))) pa_nil))))))))) (pss_one (ps_ret (pv 2))))))), ?_⟩
  obtain ⟨pv, av, p, path, rfl, hpv, hav, hp, hlen, qs, qn⟩ := h
  have s0 : SOk _ _ H := SOk.entry (N := sc_followed_N) (As := [aPrg K ad p, aD K (.tup (path.map .num))]) (.cons hpv (.cons hav .nil))
  refine st_if (et_or (c := path.isEmpty) (et_not (et_B (ev_isLT (ev_var rfl)))) fun _ => et_is (et_test (ev_eqI (ev_lenT (ev_var rfl)) ev_int)) ?_) s0 (fun hb H1 e1 s1 => ?_) fun hb H1 e1 s1 => ?_
  · cases path with
    | nil => rfl
    | cons i r => exact decide_eq_false (by simp; omega)
  · have e : path = [] := by cases path with
      | nil => rfl
      | cons _ _ => cases hb
    subst e
    exact st_badPath ev_nonV s1 fun d H2 e2 => qn rfl d H2 (e1.trans e2)
  obtain ⟨i0, r, rfl⟩ : ∃ i0 r, path = i0 :: r := by
    cases path with
    | nil => cases hb
    | cons i r => exact ⟨i, r, rfl⟩
  have at0 : atI ((i0 :: r).map NestedKey.num) 0 = some (.num i0) := atD (n := 0) rfl
  have px : EvG (tOp (rIxU P w K) (tVar 1) (tC (.int 0))) (entry sc_followed_N [aPrg K ad p, aD K (.tup ((i0 :: r).map .num))]) H1 (aD K (.num i0)) := ev_ixT (ev_var rfl) ev_int at0
  refine st_if (et_or (c := !decide (i0 = 0)) (et_not (et_B (ev_call (f := spf_is_integer K) (.num i0) (ea_one px) trivial))) fun _ => et_test (ev_neI px ev_int)) s1 (fun hc H2 e2 s2 => ?_) fun hc H2 e2 s2 => ?_
  · have hne : ¬ i0 = 0 := by
      have : (!decide (i0 = 0)) = true := hc
      simpa using this
    exact st_badPath (ev_int (K := K)) s2 fun d H3 e3 => qn (if_neg hne) d H3 ((e1.trans e2).trans e3)
  have h0 : i0 = 0 := by
    have : (!decide (i0 = 0)) = false := hc
    simpa using this
  subst h0
  -- found, gone
  refine st_parN (K := K) (ds := [encSGi (startP p, 0)]) (B := aD K (.num 0)) (ev_lst (ed_cons (ev_tup (ed_cons (ev_call (f := spf_start_of K ad) p (ea_one (ev_var rfl)) hp) (ed_cons ev_int ed_nil)) (by show 2 ≤ 100000; decide)) ed_nil) (by show 1 ≤ 100000; decide)) ev_int s2 fun fl σ3 H3 n3 e3 s3 w3 => ?_
  have e03 := (e1.trans e2).trans e3
  have nfl : H fl = none := Evl.fresh_back (e1.trans e2) n3
  have ww : walkP p (0 :: r) = (walkFrom p (startP p) 0 r).map fun l => [(startP p, 0)] ++ l := by
    show (if (0 : Int) = 0 then _ else none) = _
    rw [if_pos rfl]; rfl
  refine st_range2 (m := 1) (n := (0 :: r).length) (ea_cons ev_int (ea_one (ev_is (ev_lenT (ev_var rfl)) (by rw [List.length_map])))) s3 (by decide) (by have : (0 :: r).length < 50000 := hlen; omega)
    (fun i σ' H' => ∃ (L : List (Stand × Int)) (x : Stand × Int) (g : Int), SOk (((entry sc_followed_N [aPrg K ad p, aD K (.tup ((0 :: r).map .num))]).set 2 (some (aV (.ref fl)))).set 3 (some (aD K (.num g)))) σ' H' ∧ Ex H H' ∧ WL K H' fl ((L ++ [x]).map encSGi) ∧ SOk1 p x.1 ∧ L.length = i ∧
      walkP p (0 :: r) = (walkFrom p x.1 g (r.drop i)).map fun l => (L ++ [x]) ++ l) ?_ ?_ ?_
  · intro H4 e4
    exact ⟨[], (startP p, 0), 0, s3.ex e4, e03.trans e4, w3.ex e4, start_ok hp, rfl, ww⟩
  · rintro i σ' H' hi ⟨L, x, g, s', e', wf, hx, hL, hw⟩
    have hir : i < r.length := by
      have : i < (0 :: r).length - 1 := hi
      rw [List.length_cons] at this
      omega
    have s5 := s'.set 4 (A := aD K (natD (1 + i))) (v := .int ((1 + i : Nat) : Int)) (.int _) (Nat.le_of_ble_eq_true rfl)
    have hpa : ((0 :: r).map NestedKey.num)[1 + i]? = some (.num r[i]) := by
      rw [Nat.add_comm, List.map_cons, List.getElem?_cons_succ]
      exact path_at hir
    have hdr : r.drop i = r[i] :: r.drop (i + 1) := List.drop_eq_getElem_cons hir
    refine st_set (A := aD K (encS x.1)) (ev_ixT (ev_ixL (ev_wl rfl wf) (ev_neg ev_int) last_at) ev_int rfl) s5 fun σ6 H6 e6 s6 => ?_
    refine st_set (A := aD K (optSG (laterP p x.1 r[i]))) (ev_ifT (et_B (ev_call (f := spf_is_integer K) (.num r[i]) (ea_one (ev_ixT (ev_var rfl) (ev_var rfl) (atD hpa))) trivial)) rfl (ev_call (f := spf_later_of K ad) (p, x.1, r[i]) (ea_cons (ev_var rfl) (ea_cons (ev_var rfl) (ea_one (ev_ixT (ev_var rfl) (ev_var rfl) (atD hpa))))) ⟨hp, hx⟩)) s6 fun σ7 H7 e7 s7 => ?_
    have e07 := (e'.trans e6).trans e7
    cases hl : laterP p x.1 r[i] with
    | none =>
      rw [hl] at s7
      refine st_if (et_test (ev_isN (ev_var rfl))) s7 (fun _ H8 e8 s8 => ?_) (fun z => by cases z)
      have wn : walkP p (0 :: r) = none := by
        rw [hw, hdr]
        unfold walkFrom
        have : (afterP p x.1).find? (fun q => decide ((q.1.1 : Int) = r[i])) = none := hl
        rw [this]; rfl
      exact st_badPath (ev_var rfl) s8 fun d H9 e9 => qn wn d H9 ((e07.trans e8).trans e9)
    | some q =>
      obtain ⟨qs', qg⟩ := q
      rw [hl] at s7
      have hq : (qs', qg) ∈ afterP p x.1 := List.mem_of_find?_eq_some hl
      have hqk := after_ok hp hx _ hq
      refine st_if (et_test (ev_isN (ev_var rfl))) s7 (fun z => by cases z) (fun _ H8 e8 s8 => ?_)
      refine st_set (A := aD K (.num (if clearP p x.1 then 0 else g + qg))) (ev_if (et_B (ev_call (f := spf_is_clear K ad) (p, x.1) (ea_cons (ev_var rfl) (ea_one (ev_var rfl))) hp)) (fun z => ?_) (fun z => ?_)) s8 fun σ9 H9 e9 s9 => ?_
      · have z : clearP p x.1 = true := z
        rw [if_pos z]; exact ev_int
      · have z : clearP p x.1 = false := z
        rw [if_neg (by rw [z]; decide)]; exact ev_add (ev_var rfl) (ev_ixT (ev_var rfl) ev_int rfl)
      have e09 := (e07.trans e8).trans e9
      have wf9 : WL K H9 fl ((L ++ [x]).map encSGi) := wf.ex (((e6.trans e7).trans e8).trans e9)
      have hbq : qs'.2.1.length ≤ 3 ∧ qs'.2.2.length ≤ 3 ∧ ∀ b ∈ qs'.2.2, b.1 ≤ 6 := ⟨by rw [hqk.hb.len]; exact hp.m3, Nat.le_trans hqk.few hp.m3, fun b hb => Nat.le_trans (hqk.hb.bk b hb).sw hp.w6⟩
      refine st_append (K := K) (d := encSGi (qs', (if clearP p x.1 then 0 else g + qg) + wasteP qs')) (ev_var rfl) (ev_tup (ed_cons (ev_ixT (ev_var rfl) ev_int rfl) (ed_cons (ev_add (ev_var rfl) (ev_call (f := spf_waste_of K) qs' (ea_one (ev_ixT (ev_var rfl) ev_int rfl)) hbq)) ed_nil)) (by show 2 ≤ 100000; decide)) s9 wf9 (by rw [List.length_map, List.length_append, hL]; simp; have : (0 :: r).length < 50000 := hlen; rw [List.length_cons] at this; omega) (fun H10 f10 s10 w10 => ?_) (by walk_at "gs")
      have e10 : Ex H H10 := f10.ofNew e09 fun a ha => by rw [List.mem_singleton.mp ha]; exact nfl
      refine ⟨L ++ [x], (qs', (if clearP p x.1 then 0 else g + qg) + wasteP qs'), (if clearP p x.1 then 0 else g + qg), s10.gle (by walk_at "gle"), e10, ?_, hqk, by rw [List.length_append, hL]; rfl, ?_⟩
      · rw [List.map_append]
        exact w10
      · rw [hw, hdr]
        have hf : (afterP p x.1).find? (fun q => decide ((q.1.1 : Int) = r[i])) = some (qs', qg) := hl
        conv => lhs; unfold walkFrom
        simp only [hf]
        cases walkFrom p qs' (if clearP p x.1 then 0 else g + qg) (r.drop (i + 1)) with
        | none => rfl
        | some l => simp
  · rintro σ' H' ⟨L, x, g, s', e', wf, hx, hL, hw⟩
    have hd : r.drop ((0 :: r).length - 1) = [] := by rw [List.length_cons]; exact List.drop_of_length_le (by omega)
    rw [hd] at hw
    have hw2 : walkP p (0 :: r) = some (L ++ [x]) := by rw [hw]; simp [walkFrom]
    exact st_ret (ev_wl rfl wf) s' fun v H9 e9 pv => qs _ hw2 v H9 (e'.trans e9) pv
/-- None, or a list of data -/
def aOL (K : PySem.W.Frag) : Option (List D) → Asr
  | none => aV .non
  | some ds => aL K ds
def spf_walked (K : PySem.W.Frag) (ad : Ads) : Spf (Pln × List Int) := ⟨fun x => [aPrg K ad x.1, aD K (.tup (x.2.map .num))], fun x => x.1.Ok ∧ x.2.length < 50000, fun x => aOL K ((walkP x.1 x.2).map fun l => l.map encSGi)⟩
theorem pe_callDX {X : Cx} {k : Nat} {x : Str} {ps : List Str} {sp : Sp} {e : Expr} {es : List Expr} {t : TA} {p pos : Pos} {W : WX} (F : Ok X.prog X.w X.K X.mg X.base (L2.CX X.prog X.w) k x ps sp) (tk : Takes X W) (hr : Room k X.A) (hg : Gl X x) (ha : PA X (e :: es) t)
    (hdb : (x == ("__debug__" : Str)) = false := by decide) (he : starEach (e :: es) X.env = (false, eval e X.env) :: starEach es X.env := by rfl) (hpl : (backTo pos (starEach es X.env)).any (·.1) = false := by rfl) :
    PE X (.Call (.Name x p) (e :: es) [] pos) (tCallS sp (fun σ => WE W σ) t) := by
  obtain ⟨f, fd, F, g, kp, b⟩ := F
  exact pe_callS F hr hg g kp b (fun σ => passAt tk σ) ha hdb he hpl
theorem callS_of {sp : Sp} {G : Gam} {σ : L2.St} {H : Hp} {ta : TA} {As : List Asr} {E : L2.St → XK} {Q : VK} (h : EvA ta G H As) (s : SOk G σ H) (q : ∀ vs H', Ex H H' → AAll As vs H' → sp vs H' Q (E σ)) : tCallS sp E ta σ H Q :=
  h σ H s (Evl.Ex.refl H) _ fun vs H' e p => q vs H' e p
theorem st_retW {σ : L2.St} {H : Hp} {te : TE} {EE : Ends} (q : te σ H EE.rt) : tRet te EE σ H := q
abbrev sc_walked_N : List Str := ["program", "path"]
theorem sc_walked : FnScope ["program", "path"] ["program", "path"] (defScope (topS 37)) := ⟨rfl, rfl, rfl, by decide +kernel, rfl, by decide +kernel, by decide +kernel⟩
theorem ok_walked {P : Program} {w : World} {K : PySem.W.Frag} {mg : Str → Option Value} {base : Heap} {ad : Ads} (fx : Fx K mg ad) : Ok P w K mg base CX0 8 "walked" ["program", "path"] ((spf_walked K ad).sp) := by
  refine fx.d_walked.ok sc_walked (fun _ _ _ _ _ _ us hl => match us, hl with | [_, _], _ => rfl) (Spf.len fun _ => rfl) fun f cdv A outer s H vs Q E hr hcd h => ?_
  refine ⟨_, PSs.nox (pss_one (ps_try_only rfl rfl ⟨rfl, by decide, .inl fx.g_BadPath⟩ takes0 (fun W pn xe tk _ => pss_one (ps_ret (pe_callDX (ok_followed fx) tk (hr.mono (by decide)) (by rfl) (pa_cons (pv 0) (pa_cons (pv 1) pa_nil))))) (fun a oe cls d pn _ _ => pss_one (ps_ret pe_non)))), ?_⟩
  obtain ⟨⟨p, path⟩, ⟨hp, hl⟩, hAll, q⟩ := h
  have s0 : SOk _ _ H := SOk.entry (N := sc_walked_N) hAll
  refine st_retW (callS_of (ea_cons (ev_var rfl) (ea_one (ev_var rfl))) s0 fun vs' H1 e1 hv => ?_)
  obtain ⟨x, y, rfl, px, py⟩ := aall2 (A := aPrg K ad p) (B := aD K (.tup (path.map .num))) hv
  refine ⟨x, y, p, path, rfl, px, py, hp, hl, fun l hw v H2 e2 pv => q v H2 (e1.trans e2) ?_, fun hw d H2 e2 => ?_⟩
  · show (aOL K ((walkP p path).map fun l => l.map encSGi)).p v H2
    rw [hw]; exact pv
  · refine ⟨true, fx.x_BadPath, fun _ a ha => q .non H2 (e1.trans e2) ?_, fun z => by cases z⟩
    show (aOL K ((walkP p path).map fun l => l.map encSGi)).p .non H2
    rw [hw]; rfl
def spf_are_heights (P : Program) (w : World) (K : PySem.W.Frag) (ad : Ads) : Spf (Pln × Hts × Int) := ⟨fun x => [aPrg K ad x.1, aDW P w K (hK x.2.1), aD K (.num x.2.2)], fun x => x.1.Ok ∧ (∀ q ∈ x.2.1, SOk1 x.1 q.1) ∧ (x.2.1.map (·.1)).Nodup ∧ x.2.1.length ≤ 1000, fun x => aB (heightsB x.1 x.2.1 x.2.2)⟩
abbrev sc_are_heights_N : List Str := ["program", "heights", "number", "stand", "height", "later", "gone"]
theorem sc_are_heights : FnScope ["program", "heights", "number", "stand", "height", "later", "gone"] ["program", "heights", "number"] (defScope (topS 38)) := ⟨rfl, rfl, rfl, by decide +kernel, rfl, by decide +kernel, by decide +kernel⟩
theorem ok_are_heights {P : Program} {w : World} {K : PySem.W.Frag} {mg : Str → Option Value} {base : Heap} {ad : Ads} (fx : Fx K mg ad) : Ok P w K mg base CX0 6 "are_heights" ["program", "heights", "number"] ((spf_are_heights P w K ad).sp) := by
  refine fx.d_are_heights.ok sc_are_heights (fun _ _ _ _ _ _ us hl => match us, hl with | [_, _, _], _ => rfl) (Spf.len fun _ => rfl) fun f cdv A outer s H vs Q E hr hcd h => ?_
  refine ⟨_, PSs.nox (pss_cons (ps_if (PW.pt (pw_or (pt_cmpR (xNotIn P w K hr.units) (pe_callD (ok_start_of (P := P) (w := w) (base := base) fx) (hr.mono (by decide)) (by rfl) (pa_cons (pv 0) pa_nil)) (pv 1) (by rfl)) (pw_or1 (pt_val (pe_callB (xAny K rfl) (by rfl) fx.any_ (by decide +kernel) (pa_cons (pe_lock (pe_lc (own := [("stand", 3)]) rfl sc_are_heights.nd (xKeysD P w (pv 1)) (blkOk_by (own := [("stand", 3)]) (N := ["program", "heights", "number", "stand", "height", "later", "gone"]) (sc := defScope (topS 38)) (by decide +kernel)) (fun _ _ _ _ _ => (pg_name (i := 3) sc_are_heights.nd rfl (by first | exact .inl rfl | exact .inr rfl))) (fun _ _ _ _ _ => pts_nil) (fun _ _ _ _ _ => pe_cmpR op_lt (pe_ix (xIx P w K hr.units) (pv 1) (pv 3) (fun _ _ => rfl)) pe_int (nomark _)))) pa_nil)))))) (pss_one (ps_ret pe_bl)) (pss_nil)) (pss_cons (ps_lock (ps_for PassesOwn.never rfl (xItemsD P w (pv 1)) (xTg K (n := 2) rfl (pgs_cons (pg_name (i := 3) sc_are_heights.nd rfl (by first | exact .inl rfl | exact .inr rfl)) (pgs_cons (pg_name (i := 4) sc_are_heights.nd rfl (by first | exact .inl rfl | exact .inr rfl)) pgs_nil))) (pss_cons (ps_if (pt_cmpR op_gt (pe_op (xAdd K) (pv 4) (pe_callD (ok_waste_of (P := P) (w := w) (base := base) fx) (hr.mono (by decide)) (by rfl) (pa_cons (pv 3) pa_nil))) (pv 2) (nomark _)) (pss_one (ps_ret pe_bl)) (pss_nil)) (pss_one (ps_for PassesOwn.never rfl (xSeq K (pe_callD (ok_after (P := P) (w := w) (base := base) fx) (hr.mono (by decide)) (by rfl) (pa_cons (pv 0) (pa_cons (pv 3) pa_nil)))) (xTg K (n := 2) rfl (pgs_cons (pg_name (i := 5) sc_are_heights.nd rfl (by first | exact .inl rfl | exact .inr rfl)) (pgs_cons (pg_name (i := 6) sc_are_heights.nd rfl (by first | exact .inl rfl | exact .inr rfl)) pgs_nil))) (pss_one (ps_if (PW.pt (pw_or (pt_cmpR (xNotIn P w K hr.units) (pv 5) (pv 1) (by rfl)) (pw_or1 (PW.pt (pw_and (pt_not (pt_val (pe_callD (ok_is_clear (P := P) (w := w) (base := base) fx) (hr.mono (by decide)) (by rfl) (pa_cons (pv 0) (pa_cons (pv 3) pa_nil))))) (pw_and1 (pt_cmpR op_lt (pe_ix (xIx P w K hr.units) (pv 1) (pv 5) (fun _ _ => rfl)) (pe_op (xAdd K) (pv 4) (pv 6)) (nomark _)))))))) (pss_one (ps_ret pe_bl)) (pss_nil)))))))) (pss_one (ps_ret pe_bl)))), ?_⟩
  obtain ⟨⟨p, hs, num⟩, ⟨hp, hok, hnd, hlen⟩, hAll, q⟩ := h
  have hp : p.Ok := hp
  obtain ⟨x, y, z, rfl, px, py, pz⟩ := aall3 hAll
  obtain ⟨a, rfl, xs, hx, kd⟩ := py
  have hok : ∀ q ∈ hs, SOk1 p q.1 := hok
  have hnd : (hs.map (·.1)).Nodup := hnd
  have hlen : hs.length ≤ 1000 := hlen
  have hx : H a = some (ddO P w a xs) := hx
  have kd : KD K H (hK hs) xs := kd
  have q : ∀ (b : Bool), heightsB p hs num = b → ∀ H', Ex H H' → Q (.bl b) H' := fun b e H' e' => q (.bl b) H' e' (by show V.bl b = V.bl (heightsB p hs num); rw [e])
  have s0 : SOk _ _ H := SOk.entry (N := sc_are_heights_N) (As := [aPrg K ad p, aV (.ref a), aD K (.num num)]) (.cons px (.cons rfl (.cons pz .nil)))
  have hvs : ∀ r ∈ hs, valV (hK hs) (encS r.1) = some (.int r.2) := fun r hr => by rw [valV_hK, hget_mem hnd hr]; rfl
  have dr : DDr P w K H a (hK hs) := ⟨xs, .inl hx, kd⟩
  refine st_if (b := !(hget hs (startP p)).isSome || hs.any fun q => decide (q.2 < 0)) (et_or (et_is (et_test (ev_notInDD (ev_call (f := spf_start_of K ad) p (ea_one (ev_var rfl)) hp) (ev_ddr (ev_var rfl) dr) (isTup_encS _) (dep_encS _))) ?_) fun _ => et_B (ev_isB (ev_any (bs := hs.map fun q => decide (q.2 < 0)) (el_lock (G1 := entry sc_are_heights_N [aPrg K ad p, aV (.ref a), aD K (.num num)]) a _ hx ddO_mut ddO_lockable (fun σ H1 od s e => s.le (le_lock (e _ _ hx) ddO_lockable) (by walk_at "gl")) ?_ fun od => ?_)) ?_)) s0 (fun hb H1 e1 s1 => ?_) fun hb H1 e1 s1 => ?_
  · rw [valV_hK]; simp
  · intro B hB
    obtain ⟨b, _, rfl⟩ := List.mem_map.mp hB
    exact aV_st
  · refine eb_map (K := K) hs (fun q => encS q.1) _ (fun q => decide (q.2 < 0)) (ei_keysD (ev_var rfl) upd_same (kd.to (le_lock hx ddO_lockable).t)) (hK_keys hs) (by omega) (fun q _ => tg_name) fun r hr => ?_
    exact ev_cmpI (K := K) (ev_to (ev_getDD (ev_ddr (ev_var rfl) (ddr_lock hx kd)) (ev_var rfl) (isTup_encS _) (dep_encS _) (hvs r hr)) fun _ _ z => num_of z) ev_int
  · rw [List.any_map]; rfl
  · refine st_ret (A := aB false) ev_bl s1 fun v H2 e2 pv => ?_
    have ev : v = .bl false := pv
    subst ev
    refine q false ?_ H2 (e1.trans e2)
    rw [heightsB_eq]
    cases h1 : (hget hs (startP p)).isSome with
    | false => rfl
    | true =>
      rw [h1] at hb
      have : (hs.any fun q => decide (q.2 < 0)) = true := hb
      rw [this]; rfl
  have h1 : (hget hs (startP p)).isSome = true := by
    cases h1 : (hget hs (startP p)).isSome with
    | true => rfl
    | false => rw [h1] at hb; cases hb
  have h2 : (hs.any fun q => decide (q.2 < 0)) = false := by
    rw [h1] at hb
    exact hb
  have hx1 := e1 _ _ hx
  have kd1 := kd.to (tle_of_ex e1)
  refine ⟨a, _, hx1, ddO_mut, fun od => ?_⟩
  have sL := s1.le (le_lock (od := od) hx1 ddO_lockable) (by walk_at "gl")
  have drL := ddr_lock (od := od) hx1 kd1
  have kdL := kd1.to (le_lock (od := od) hx1 ddO_lockable).t
  obtain ⟨v1, hv1, pv1⟩ := sL.at_ 1 (aV (.ref a)) rfl
  have ev1 : v1 = .ref a := pv1
  subst ev1
  have exU : ∀ {H'}, Ex (upd H1 a (.frz od (ddO P w a xs))) H' → H' a = some (.frz od (ddO P w a xs)) ∧ Ex H (upd H' a (ddO P w a xs)) := fun {H'} e => ⟨e _ _ upd_same, e1.trans (ex_unlock hx1 e)⟩
  generalize hHL : upd H1 a (.frz od (ddO P w a xs)) = HL at *
  refine ⟨.ref a, hv1, a, od, xs, rfl, by rw [← hHL]; exact upd_same, for_it (walk_itp kdL) (fun i σ' H' => SOk (entry sc_are_heights_N [aPrg K ad p, aV (.ref a), aD K (.num num)]) σ' H' ∧ Ex HL H' ∧ ∀ r ∈ hs.take i, rowB p hs num r = true) ⟨sL, Evl.Ex.refl _, fun r hr => by simp at hr⟩ (fun i σ' H' _ p' => ⟨p'.2.1 _ _ (by rw [← hHL]; exact upd_same), tle_of_ex p'.2.1⟩) ?_ ?_⟩
  · rintro i x' σ' H' H'' hi ⟨s', e', hrows⟩ ⟨ex2, k, v, T, b, hkv, rfl, hT, hdk⟩
    have hi2 : i < hs.length := by unfold hK at hi; rwa [List.length_map] at hi
    have hkv2 : (encS hs[i].1, V.int hs[i].2) = (k, v) := by
      unfold hK at hkv
      rw [List.getElem?_map, List.getElem?_eq_getElem hi2] at hkv
      exact Option.some.inj hkv
    obtain ⟨rfl, rfl⟩ := Prod.mk.inj hkv2
    have hm : hs[i] ∈ hs := List.getElem_mem hi2
    have hoki := hok _ hm
    have tk : hs.take (i + 1) = hs.take i ++ [hs[i]] := by rw [List.take_succ, List.getElem?_eq_getElem hi2]; rfl
    generalize hr : hs[i] = row at *
    obtain ⟨s, ht⟩ := row
    have hoki : SOk1 p s := hoki
    have hbq : s.2.1.length ≤ 3 ∧ s.2.2.length ≤ 3 ∧ ∀ b ∈ s.2.2, b.1 ≤ 6 := ⟨by rw [hoki.hb.len]; exact hp.m3, Nat.le_trans hoki.few hp.m3, fun b hb => Nat.le_trans (hoki.hb.bk b hb).sw hp.w6⟩
    have dx : DIs K H'' (.ref T) (.tup [encS s, .num ht]) := .tup (SqT.of hT) (.cons hdk (.cons (.int _) .nil))
    have eL := e'.trans ex2
    refine (tg_tup (vs := sv) (tgs_cons tg_name (tgs_cons tg_name tgs_nil)) rfl) _ σ' H'' (s'.ex ex2) dx _ fun σ3 s3 _ => ?_
    refine st_if (b := !decide (ht + wasteP s ≤ num)) (et_is (et_test (ev_cmpI (ev_add (ev_var rfl) (ev_call (f := spf_waste_of K) s (ea_one (ev_var rfl)) hbq)) (ev_var rfl))) ?_) s3 (fun hb4 H4 e4 s4 => ?_) fun hb4 H4 e4 s4 => ?_
    · rw [← decide_not]
      exact decide_eq_decide.mpr (by omega)
    · obtain ⟨u1, u2⟩ := exU (eL.trans e4)
      refine ⟨u1, q false ?_ _ u2⟩
      rw [heightsB_eq, h1, h2]
      have : rowB p hs num (s, ht) = false := by
        rw [rowB_eq]
        have : decide (ht + wasteP s ≤ num) = false := by simpa using hb4
        show (decide (ht + wasteP s ≤ num) && _) = false
        rw [this]; rfl
      have : hs.all (rowB p hs num) = false := List.all_eq_false.mpr ⟨_, hm, by rw [this]; decide⟩
      rw [this]; rfl
    · have hw : decide (ht + wasteP s ≤ num) = true := by simpa using hb4
      refine st_forL (K := K) (ev_call (f := spf_after K ad) (p, s) (ea_cons (ev_var rfl) (ea_one (ev_var rfl))) ⟨hp, hoki⟩) s4 fun H5 la lx e5 s5 hsq hda => ⟨fun j σ' H' => SOk (((entry sc_are_heights_N [aPrg K ad p, aV (.ref a), aD K (.num num)]).set 3 (some (aD K (encS s)))).set 4 (some (aD K (.num ht)))) σ' H' ∧ Ex H5 H' ∧ ∀ r ∈ (afterP p s).take j, laterB p hs (s, ht) r = true, ⟨s5, Evl.Ex.refl _, fun r hr => by simp at hr⟩, fun j σ' H' p' => ⟨tle_of_ex p'.2.1, Evl.ex_l p'.2.1 hsq⟩, ?_, ?_⟩
      · rintro j d x5 σ5 H6 hd5 ⟨s6, e6, hl6⟩ hx5
        have hjl : j < (afterP p s).length := by
          have := (List.getElem?_eq_some_iff.mp hd5).1
          rw [List.length_map] at this
          exact this
        rw [List.getElem?_map, List.getElem?_eq_getElem hjl] at hd5
        have ed := Option.some.inj hd5
        subst ed
        have tk5 : (afterP p s).take (j + 1) = (afterP p s).take j ++ [(afterP p s)[j]] := by rw [List.take_succ, List.getElem?_eq_getElem hjl]; rfl
        have hm5 : (afterP p s)[j] ∈ afterP p s := List.getElem_mem hjl
        generalize hr5 : (afterP p s)[j] = rr at *
        obtain ⟨s', g'⟩ := rr
        refine (tg_tup (vs := sv) (tgs_cons tg_name (tgs_cons tg_name tgs_nil)) rfl) _ σ5 H6 s6 hx5 _ fun σ7 s7 _ => ?_
        have eL6 := ((eL.trans e4).trans e5).trans e6
        have dr6 := drL.ex eL6
        refine st_if (b := !laterB p hs (s, ht) (s', g')) (et_is (et_or (c := match hget hs s' with
          | none => false
          | some h' => !clearP p s && decide (h' < ht + g')) (et_is (et_test (ev_notInDD (ev_var rfl) (ev_ddr (ev_var rfl) dr6) (isTup_encS _) (dep_encS _))) (c := !(hget hs s').isSome) (by rw [valV_hK]; simp)) fun hin => ?_) ?_) s7 (fun hb8 H8 e8 s8 => ?_) fun hb8 H8 e8 s8 => ?_
        · cases hg : hget hs s' with
          | none => rw [hg] at hin; cases hin
          | some h' =>
            have hv : valV (hK hs) (encS s') = some (.int h') := by rw [valV_hK, hg]; rfl
            exact et_andL (et_not (et_B (ev_call (f := spf_is_clear K ad) (p, s) (ea_cons (ev_var rfl) (ea_one (ev_var rfl))) hp))) (et_test (ev_cmpI (K := K) (ev_to (ev_getDD (ev_ddr (ev_var rfl) dr6) (ev_var rfl) (isTup_encS _) (dep_encS _) hv) fun _ _ z => num_of z) (ev_add (ev_var rfl) (ev_var rfl))))
        · unfold laterB
          cases hg : hget hs s' with
          | none => rfl
          | some h' =>
            show (!true || (!clearP p s && decide (h' < ht + g'))) = !(clearP p s || decide (ht + (g' : Int) ≤ h'))
            rw [Bool.not_or, ← decide_not, decide_eq_decide.mpr (by omega : h' < ht + (g' : Int) ↔ ¬ (ht + (g' : Int) ≤ h'))]
            rfl
        · obtain ⟨u1, u2⟩ := exU (eL6.trans e8)
          refine ⟨u1, q false ?_ _ u2⟩
          have hl : laterB p hs (s, ht) (s', g') = false := by simpa using hb8
          have hrow : rowB p hs num (s, ht) = false := by
            rw [rowB_eq]
            have : (afterP p s).all (laterB p hs (s, ht)) = false := List.all_eq_false.mpr ⟨_, hm5, by rw [hl]; decide⟩
            show (_ && (afterP p s).all (laterB p hs (s, ht))) = false
            rw [this, Bool.and_false]
          rw [heightsB_eq, h1, h2]
          have : hs.all (rowB p hs num) = false := List.all_eq_false.mpr ⟨_, hm, by rw [hrow]; decide⟩
          rw [this]; rfl
        · have hl : laterB p hs (s, ht) (s', g') = true := by simpa using hb8
          refine ⟨s8.gle (by walk_at "gle"), e6.trans e8, fun r hr => ?_⟩
          rw [tk5] at hr
          rcases List.mem_append.mp hr with z | z
          · exact hl6 r z
          · rw [List.mem_singleton.mp z]; exact hl
      · rintro σ5 H6 ⟨s6, e6, hl6⟩
        rw [List.length_map, List.take_length] at hl6
        refine ⟨s6.gle (by walk_at "gle"), ((eL.trans e4).trans e5).trans e6, fun r hr => ?_⟩
        rw [tk] at hr
        rcases List.mem_append.mp hr with z | z
        · exact hrows r z
        · rw [List.mem_singleton.mp z, rowB_eq]
          show (decide (ht + wasteP s ≤ num) && (afterP p s).all (laterB p hs (s, ht))) = true
          rw [hw, Bool.true_and]
          exact List.all_eq_true.mpr hl6
  · rintro σ' H' ⟨s', e', hrows⟩
    obtain ⟨u1, u2⟩ := exU e'
    refine ⟨u1, q true ?_ _ u2⟩
    have hk : (hK hs).length = hs.length := by unfold hK; rw [List.length_map]
    rw [hk, List.take_length] at hrows
    rw [heightsB_eq, h1, h2, List.all_eq_true.mpr hrows]; rfl
def sp_lfresh (P : Program) (w : World) (K : PySem.W.Frag) : Sp := fun vs H Q _ => ∃ (bx hl sz sh : Addr) (rows : List Addr) (h : List (Option Pc)) (bs : List Blk) (size : Nat), vs = [.ref bx, .int size] ∧ BoxIs P w K H bx hl sz sh rows h bs ∧ bs.length ≤ 1000 ∧ size ≤ 100 ∧
  ∀ p H', H p = none → Frs [sz] H H' → WL K H' p (cellsD (some (bs.length, 0, size))) → BoxIs P w K H' bx hl sz sh rows h (bs ++ [(size, [])]) → Q (.ref p) H'
theorem snoc_cells {bs : List Blk} {s : Nat} (n x : Nat) : x ∈ ((bs ++ [(s, ([] : List Nat))]).getD n (0, [])).2 ↔ x ∈ (bs.getD n (0, [])).2 := by
  rw [List.getD_eq_getElem?_getD, List.getD_eq_getElem?_getD]
  rcases Nat.lt_trichotomy n bs.length with h | h | h
  · rw [List.getElem?_append_left h]
  · subst h; simp
  · rw [List.getElem?_eq_none (by simp; omega), List.getElem?_eq_none (by omega)]
theorem cellsD_new (n size : Nat) : cellsD (some (n, 0, size)) = (List.range size).map fun i => cellD n i := by
  unfold cellsD cellsP
  rw [List.map_map]
  simp [encC, Function.comp_def]
abbrev sc__law_fresh_N : List Str := ["_law_box_here", "_law_size", "_law_number_here", "_law_at"]
theorem sc__law_fresh : FnScope ["_law_box_here", "_law_size", "_law_number_here", "_law_at"] ["_law_box_here", "_law_size"] (defScope (topS 48)) := ⟨rfl, rfl, rfl, by decide +kernel, rfl, by decide +kernel, by decide +kernel⟩
theorem ok__law_fresh {P : Program} {w : World} {K : PySem.W.Frag} {mg : Str → Option Value} {base : Heap} {ad : Ads} (fx : Fx K mg ad) : Ok P w K mg base CX0 1 "_law_fresh" ["_law_box_here", "_law_size"] (sp_lfresh P w K) := by
  refine fx.d__law_fresh.ok sc__law_fresh (fun _ _ _ _ _ _ us hl => match us, hl with | [_, _], _ => rfl) (fun vs H Q E q => by obtain ⟨_, _, _, _, _, _, _, _, rfl, _⟩ := q; rfl) fun f cdv A outer s H vs Q E hr hcd h => ?_
  refine ⟨_, PSs.nox (pss_cons (ps_set (i := 2) sc__law_fresh.nd rfl (by first | exact .inl rfl | exact .inr rfl) (pe_callB (xLen P w K) (by rfl) fx.len_ (by decide +kernel) (pa_cons (pe_ix (xIx P w K hr.units) (pv 0) pe_str (fun _ _ => rfl)) pa_nil))) (pss_cons (ps_asg (pv 1) (pg_sub (pe_ix (xIx P w K hr.units) (pv 0) pe_str (fun _ _ => rfl)) (pv 2) (xSet P w K hr.units))) (pss_one (ps_ret (pe_lc (own := [("_law_at", 3)]) rfl sc__law_fresh.nd (pi_range1 (by rfl) fx.range_ (pa_cons (pv 1) pa_nil)) (blkOk_by (own := [("_law_at", 3)]) (N := ["_law_box_here", "_law_size", "_law_number_here", "_law_at"]) (sc := defScope (topS 48)) (by decide +kernel)) (fun _ _ _ _ _ => (pg_name (i := 3) sc__law_fresh.nd rfl (by first | exact .inl rfl | exact .inr rfl))) (fun _ _ _ _ _ => pts_nil) (fun _ _ _ _ _ => pe_tup (pa_cons (pv 2) (pa_cons (pv 3) pa_nil)))))))), ?_⟩
  obtain ⟨bx, hl, sz, sh, rows, h, bs, size, rfl, b, hn, hs, q⟩ := h
  have s0 : SOk _ _ H := SOk.entry (N := sc__law_fresh_N) (As := [aV (.ref bx), aD K (natD size)]) (.cons rfl (.cons (.int _) .nil))
  refine st_set (A := aD K (natD bs.length)) (ev_is (ev_lenK b.sizes (ev_boxZ b.box (ev_var rfl))) (by rw [sizesK_len]; rfl)) s0 fun σ1 H1 e1 s1 => ?_
  refine st_setK (K := K) (i := (bs.length : Nat)) (j := (size : Nat)) (e1 _ _ b.sizes) (ev_var rfl) (ev_boxZ (e1 _ _ b.box) (ev_var rfl)) (ev_var rfl) s1 (by rw [sizesK_len]; omega) (fun H2 f2 s2 d2 => ?_) (by walk_at "gs")
  have f02 := (Frs.ex e1).trans f2
  have b2 := b.sized f02 (bs' := bs ++ [(size, [])]) (by rw [sizesK_snoc]; exact d2) snoc_cells
  refine en_map (K := K) (List.range size) natD _ (fun i => cellD bs.length i) (ei_range1 (ea_one (ev_var rfl)) (by omega)) rfl (by rw [List.length_range]; omega) (fun x _ => tg_name) (fun x _ => ev_tup (ed_cons (ev_var rfl) (ed_cons (ev_var rfl) ed_nil)) (by show 2 ≤ 100000; decide)) σ1 H2 s2 (Evl.Ex.refl _) _ fun p xs H3 hp e3 hx hd => ?_
  refine q p H3 ?_ (f02.trans (.ex e3)) ⟨xs, hx, by rw [cellsD_new]; exact hd⟩ (b2.ex e3)
  refine f02.back hp fun z => ?_
  rw [List.mem_singleton.mp z, d2] at hp
  cases hp
def spf_lwhole (K : PySem.W.Frag) : Spf (Option Pc × List Blk) := ⟨fun x => [aBoxZ x.2, aL K (cellsD x.1)], fun x => ∀ q, x.1 = some q → PcOk x.2 q, fun x => aB (isWhole x.1 x.2)⟩
abbrev sc__law_is_whole_N : List Str := ["_law_box_here", "_law_row"]
theorem sc__law_is_whole : FnScope ["_law_box_here", "_law_row"] ["_law_box_here", "_law_row"] (defScope (topS 50)) := ⟨rfl, rfl, rfl, by decide +kernel, rfl, by decide +kernel, by decide +kernel⟩
theorem ok__law_is_whole {P : Program} {w : World} {K : PySem.W.Frag} {mg : Str → Option Value} {base : Heap} {ad : Ads} (fx : Fx K mg ad) : Ok P w K mg base CX0 1 "_law_is_whole" ["_law_box_here", "_law_row"] ((spf_lwhole K).sp) := by
  refine fx.d__law_is_whole.ok sc__law_is_whole (fun _ _ _ _ _ _ us hl => match us, hl with | [_, _], _ => rfl) (Spf.len fun _ => rfl) fun f cdv A outer s H vs Q E hr hcd h => ?_
  refine ⟨_, PSs.nox (pss_one (ps_ret (pe_or (pe_cmpR (xEq K hr.units) (pv 1) (pe_lst (pa_nil)) (nomark _)) (pe_one (pe_cmpR (xEq K hr.units) (pe_callB (xLen P w K) (by rfl) fx.len_ (by decide +kernel) (pa_cons (pv 1) pa_nil)) (pe_ix (xIx P w K hr.units) (pe_ix (xIx P w K hr.units) (pv 0) pe_str (fun _ _ => rfl)) (pe_ix (xIx P w K hr.units) (pe_ix (xIx P w K hr.units) (pv 1) pe_int (fun _ _ => rfl)) pe_int (fun _ _ => rfl)) (fun _ _ => rfl)) (nomark _)))))), ?_⟩
  obtain ⟨⟨p, bs⟩, hp, hAll, q⟩ := h
  have hp : ∀ q, p = some q → PcOk bs q := hp
  obtain ⟨x, y, rfl, px, py⟩ := aall2 hAll
  obtain ⟨bx, hl, sz, sh, rfl, hb, hs⟩ := px
  have s0 : SOk _ _ H := SOk.entry (N := sc__law_is_whole_N) (As := [aV (.ref bx), aL K (cellsD p)]) (.cons rfl (.cons py .nil))
  refine st_ret (A := aB (isWhole p bs)) (ev_isB (c := isWhole p bs) (ev_orV (c := isWhole p bs) (ev_eqN (ev_var rfl) (cellsD_lay p)) fun hn => ?_) ?_) s0 q
  · rw [cellsD_empty hp] at hn
    match p with
    | none => cases hn
    | some (n, f, l) =>
      have k := hp _ rfl
      have a1 : f < l := k.fl
      have a2 : n < bs.length := k.n
      refine ev_isB (ev_eqF (ev_lenL (ev_var rfl)) (ev_to (ev_getK (K := K) (i := (n : Nat)) hs (ev_boxZ hb (ev_var rfl)) (ev_ixT (ev_ixL (ev_var rfl) ev_int (cellsD_first a1)) ev_int rfl) (sizesK_at a2)) fun _ _ z => num_of z) rfl rfl) ?_
      rw [cellsD_len]
      refine decide_eq_decide.mpr ⟨fun z => ?_, fun z => ?_⟩
      · have z := NestedKey.num.inj z
        have z : ((l - f : Nat) : Int) = ((blkSize bs n : Nat) : Int) := z
        omega
      · have z : sizeOf (some (n, f, l)) = blkSize bs n := z
        rw [z]
  · rw [cellsD_empty hp]
    cases p <;> rfl
def sp_ljoined (P : Program) (w : World) (K : PySem.W.Frag) : Sp := fun vs H Q _ => ∃ (bx hl sz sh r1 r2 : Addr) (rows : List Addr) (h : List (Option Pc)) (bs : List Blk) (p1 p2 : Option Pc) (wd : Nat), vs = [.ref bx, .ref r1, .ref r2, .int wd] ∧ BoxIs P w K H bx hl sz sh rows h bs ∧ WL K H r1 (cellsD p1) ∧ WL K H r2 (cellsD p2) ∧ (∀ q, p1 = some q → PcOk bs q) ∧ (∀ q, p2 = some q → PcOk bs q) ∧ bs.length ≤ 1000 ∧ (∀ b ∈ bs, b.1 ≤ 6) ∧ 1 ≤ wd ∧ wd ≤ 6 ∧
  ∀ p H', H p = none → Frs [sz] H H' → WL K H' p (cellsD (joinP p1 p2 wd bs).1) → BoxIs P w K H' bx hl sz sh rows h (joinP p1 p2 wd bs).2 → Q (.ref p) H'
theorem PcOk.few {bs : List Blk} {p : Option Pc} (h : ∀ q, p = some q → PcOk bs q) (h6 : ∀ b ∈ bs, b.1 ≤ 6) : sizeOf p ≤ 6 := by
  match p with
  | none => exact Nat.zero_le _
  | some (n, f, l) =>
    have k := h _ rfl
    have a2 : n < bs.length := k.n
    have a3 : l ≤ blkSize bs n := k.l
    rw [blkSize_at a2] at a3
    have := h6 _ (List.getElem_mem a2)
    show l - f ≤ 6
    omega
abbrev sc__law_joined_N : List Str := ["_law_box_here", "_law_one", "_law_other", "_law_wide"]
theorem sc__law_joined : FnScope ["_law_box_here", "_law_one", "_law_other", "_law_wide"] ["_law_box_here", "_law_one", "_law_other", "_law_wide"] (defScope (topS 51)) := ⟨rfl, rfl, rfl, by decide +kernel, rfl, by decide +kernel, by decide +kernel⟩
theorem ok__law_joined {P : Program} {w : World} {K : PySem.W.Frag} {mg : Str → Option Value} {base : Heap} {ad : Ads} (fx : Fx K mg ad) : Ok P w K mg base CX0 2 "_law_joined" ["_law_box_here", "_law_one", "_law_other", "_law_wide"] (sp_ljoined P w K) := by
  refine fx.d__law_joined.ok sc__law_joined (fun _ _ _ _ _ _ us hl => match us, hl with | [_, _, _, _], _ => rfl) (fun vs H Q E q => by obtain ⟨_, _, _, _, _, _, _, _, _, _, _, _, rfl, _⟩ := q; rfl) fun f cdv A outer s H vs Q E hr hcd h => ?_
  refine ⟨_, PSs.nox (pss_cons (ps_if (PW.pt (pw_or (pt_cmpR (xEq K hr.units) (pv 1) (pe_lst (pa_nil)) (nomark _)) (pw_or1 (pt_cmpR (xEq K hr.units) (pv 2) (pe_lst (pa_nil)) (nomark _))))) (pss_one (ps_ret (pe_op (xAdd K) (pv 1) (pv 2)))) (pss_nil)) (pss_cons (ps_if (PW.pt (pw_and (pt_cmpR (xEq K hr.units) (pe_ix (xIx P w K hr.units) (pe_ix (xIx P w K hr.units) (pv 1) (pe_un un_neg pe_int) (fun _ _ => rfl)) pe_int (fun _ _ => rfl)) (pe_ix (xIx P w K hr.units) (pe_ix (xIx P w K hr.units) (pv 2) pe_int (fun _ _ => rfl)) pe_int (fun _ _ => rfl)) (nomark _)) (pw_and1 (pt_cmpR (xEq K hr.units) (pe_op (xAdd K) (pe_ix (xIx P w K hr.units) (pe_ix (xIx P w K hr.units) (pv 1) (pe_un un_neg pe_int) (fun _ _ => rfl)) pe_int (fun _ _ => rfl)) pe_int) (pe_ix (xIx P w K hr.units) (pe_ix (xIx P w K hr.units) (pv 2) pe_int (fun _ _ => rfl)) pe_int (fun _ _ => rfl)) (nomark _))))) (pss_one (ps_ret (pe_op (xAdd K) (pv 1) (pv 2)))) (pss_nil)) (pss_one (ps_ret (pe_callD (ok__law_fresh (P := P) (w := w) (base := base) fx) (hr.mono (by decide)) (by rfl) (pa_cons (pv 0) (pa_cons (pe_callB (call_minU rfl) (by rfl) fx.min_ (by decide +kernel) (pa_cons (pv 3) (pa_cons (pe_op (xAdd K) (pe_callB (xLen P w K) (by rfl) fx.len_ (by decide +kernel) (pa_cons (pv 1) pa_nil)) (pe_callB (xLen P w K) (by rfl) fx.len_ (by decide +kernel) (pa_cons (pv 2) pa_nil))) pa_nil))) pa_nil))))))), ?_⟩
  obtain ⟨bx, hl, sz, sh, r1, r2, rows, h, bs, p1, p2, wd, rfl, b, w1, w2, k1, k2, hn, h6, hw1, hwd, q⟩ := h
  have s0 : SOk _ _ H := SOk.entry (N := sc__law_joined_N) (As := [aV (.ref bx), aV (.ref r1), aV (.ref r2), aD K (natD wd)]) (.cons rfl (.cons rfl (.cons rfl (.cons (.int _) .nil))))
  have z1 := PcOk.few k1 h6
  have z2 := PcOk.few k2 h6
  have cat : ∀ (σ1 : L2.St) (H1 : Hp), Ex H H1 → SOk (entry sc__law_joined_N [aV (.ref bx), aV (.ref r1), aV (.ref r2), aD K (natD wd)]) σ1 H1 → cellsD p1 ++ cellsD p2 = cellsD (joinP p1 p2 wd bs).1 → (joinP p1 p2 wd bs).2 = bs → ∀ EE : Ends, EE.rt = Q → tRet (tOp (rAddU K) (tVar 1) (tVar 2)) EE σ1 H1 := fun σ1 H1 e1 s1 ec eb EE eq => by
    refine ev_catL (ev_var rfl) (ev_var rfl) (WL.ex w1 e1) (WL.ex w2 e1) (by rw [cellsD_len, cellsD_len]; omega) σ1 H1 s1 (Evl.Ex.refl _) _ fun p xs H2 hp e2 hx hd => ?_
    rw [eq]
    exact q p H2 (Evl.fresh_back e1 hp) (.ex (e1.trans e2)) ⟨xs, hx, ec ▸ hd⟩ (by rw [eb]; exact b.ex (e1.trans e2))
  refine st_if (et_or (et_test (ev_eqN (ev_wl rfl w1) (cellsD_lay p1))) fun _ => et_test (ev_eqN (ev_wl rfl w2) (cellsD_lay p2))) s0 (fun hb H1 e1 s1 => ?_) fun hb H1 e1 s1 => ?_
  · rw [cellsD_empty k1, cellsD_empty k2] at hb
    refine cat _ H1 e1 s1 ?_ ?_ _ rfl
    · match p1, p2 with
      | none, _ => rfl
      | some p, none => exact List.append_nil _
      | some p, some p' => cases hb
    · match p1, p2 with
      | none, _ => rfl
      | some p, none => rfl
      | some p, some p' => cases hb
  rw [cellsD_empty k1, cellsD_empty k2] at hb
  match p1, p2 with
  | none, _ => cases hb
  | some p, none => cases hb
  | some (n, f, l), some (n', f', l') =>
    have a1 : f < l := (k1 _ rfl).fl
    have a2 : f' < l' := (k2 _ rfl).fl
    have w11 := WL.ex w1 e1
    have w21 := WL.ex w2 e1
    refine st_if (b := decide (n = n' ∧ l = f')) (et_is (et_and (et_test (ev_eqI (ev_ixT (ev_ixL (ev_wl rfl w11) (ev_neg ev_int) (cellsD_last a1)) ev_int rfl) (ev_ixT (ev_ixL (ev_wl rfl w21) ev_int (cellsD_first a2)) ev_int rfl))) fun _ => et_test (ev_eqI (ev_add (ev_ixT (ev_ixL (ev_wl rfl w11) (ev_neg ev_int) (cellsD_last a1)) ev_int rfl) ev_int) (ev_ixT (ev_ixL (ev_wl rfl w21) ev_int (cellsD_first a2)) ev_int rfl))) ?_) s1 (fun hc H2 e2 s2 => ?_) fun hc H2 e2 s2 => ?_
    · rw [← Bool.decide_and, decide_eq_decide]
      constructor
      · rintro ⟨x, y⟩; omega
      · rintro ⟨x, y⟩; omega
    · have hn := of_decide_eq_true hc
      have er : joinP (some (n, f, l)) (some (n', f', l')) wd bs = (some (n, f, l'), bs) := if_pos hn
      refine cat _ H2 (e1.trans e2) s2 ?_ (by rw [er]) _ rfl
      rw [er]
      obtain ⟨rfl, rfl⟩ := hn
      exact cells_adj (by omega) (by omega)
    · have hn2 := of_decide_eq_false hc
      have er : joinP (some (n, f, l)) (some (n', f', l')) wd bs = freshP (min wd ((l - f) + (l' - f'))) bs := if_neg hn2
      refine st_retW (call_of (ea_cons (ev_var rfl) (ea_one (ev_min2 (ev_var rfl) (ev_add (ev_lenL (ev_wl rfl (WL.ex w11 e2))) (ev_lenL (ev_wl rfl (WL.ex w21 e2))))))) s2 fun vs H3 e3 s3 hv => ?_)
      obtain ⟨x, y, rfl, px, py⟩ := aall2 hv
      have ex : x = .ref bx := px
      have ey := DIs.num_inv py
      subst ex ey
      have e13 := (e1.trans e2).trans e3
      rw [cellsD_len, cellsD_len]
      have z : min (wd : Int) (((sizeOf (some (n, f, l)) : Nat) : Int) + ((sizeOf (some (n', f', l')) : Nat) : Int)) = ((min wd ((l - f) + (l' - f')) : Nat) : Int) := by
        show min (wd : Int) (((l - f : Nat) : Int) + ((l' - f' : Nat) : Int)) = _
        omega
      refine ⟨bx, hl, sz, sh, rows, h, bs, min wd ((l - f) + (l' - f')), congrArg (fun t => [V.ref bx, V.int t]) z, b.ex e13, hn, by omega, fun p H4 hp f4 w4 b4 => ?_⟩
      rw [er] at q
      by_cases hz : min wd ((l - f) + (l' - f')) = 0
      · omega
      · have ef : freshP (min wd ((l - f) + (l' - f'))) bs = (some (bs.length, 0, min wd ((l - f) + (l' - f'))), bs ++ [(min wd ((l - f) + (l' - f')), [])]) := by unfold freshP; rw [if_neg hz]
        rw [ef] at q
        exact q p H4 (Evl.fresh_back e13 hp) ((Frs.ex e13).trans f4) w4 b4
structure BxOk (s : Stand) : Prop where
  h3 : s.2.1.length ≤ 3
  b3 : s.2.2.length ≤ 3
  b6 : ∀ b ∈ s.2.2, b.1 ≤ 6 ∧ ∀ x ∈ b.2, x < b.1
  pc : ∀ q, some q ∈ s.2.1 → PcOk s.2.2 q
def sp_lbox (P : Program) (w : World) (K : PySem.W.Frag) : Sp := fun vs H Q _ => ∃ (v : V) (s : Stand), vs = [v] ∧ DIs K H v (encS s) ∧ BxOk s ∧
  ∀ bx hl sz sh rows H', H bx = none → H hl = none → H sz = none → H sh = none → Ex H H' → BoxIs P w K H' bx hl sz sh rows s.2.1 s.2.2 → Q (.ref bx) H'
theorem snoc_same {bs : List Blk} {s : Nat} {xs : List Nat} (n x : Nat) : x ∈ ((bs ++ [(s, xs)]).getD n (0, [])).2 ↔ x ∈ (bs.getD n (0, [])).2 ∨ (n = bs.length ∧ x ∈ xs) := by
  rw [List.getD_eq_getElem?_getD, List.getD_eq_getElem?_getD]
  rcases Nat.lt_trichotomy n bs.length with h | h | h
  · rw [List.getElem?_append_left h]
    constructor
    · exact .inl
    · rintro (z | ⟨z, _⟩)
      · exact z
      · omega
  · subst h; simp
  · rw [List.getElem?_eq_none (by simp; omega), List.getElem?_eq_none (by omega)]
    constructor
    · exact .inl
    · rintro (z | ⟨z, _⟩)
      · exact z
      · omega
theorem sizesK_snoc2 (bs : List Blk) (s : Nat) (xs ys : List Nat) : sizesK (bs ++ [(s, xs)]) = sizesK (bs ++ [(s, ys)]) := by
  rw [sizesK_snoc, sizesK_snoc]
abbrev sc__law_box_N : List Str := ["_law_stand_here", "_law_box_here", "_law_number_here", "_law_block", "_law_piece", "_law_at", "_law_row"]
theorem sc__law_box : FnScope ["_law_stand_here", "_law_box_here", "_law_number_here", "_law_block", "_law_piece", "_law_at", "_law_row"] ["_law_stand_here"] (defScope (topS 49)) := ⟨rfl, rfl, rfl, by decide +kernel, rfl, by decide +kernel, by decide +kernel⟩
theorem ok__law_box {P : Program} {w : World} {K : PySem.W.Frag} {mg : Str → Option Value} {base : Heap} {ad : Ads} (fx : Fx K mg ad) : Ok P w K mg base CX0 1 "_law_box" ["_law_stand_here"] (sp_lbox P w K) := by
  refine fx.d__law_box.ok sc__law_box (fun _ _ _ _ _ _ us hl => match us, hl with | [_], _ => rfl) (fun vs H Q E q => by obtain ⟨_, _, rfl, _⟩ := q; rfl) fun f cdv A outer s H vs Q E hr hcd h => ?_
  refine ⟨_, PSs.nox (pss_cons (ps_set (i := 1) sc__law_box.nd rfl (by first | exact .inl rfl | exact .inr rfl) (pe_disp (pps_cons pe_str (pe_lst (pa_nil)) (pps_cons pe_str (pe_dnewK) (pps_cons pe_str (xNewD P w K) pps_nil))) (by rfl) (by rfl) (fun z => by cases z) (by decide))) (pss_cons (ps_for PassesOwn.never rfl (xEnum K (by rfl) fx.enumerate_ (pa_cons (pe_ix (xIx P w K hr.units) (pv 0) pe_int (fun _ _ => rfl)) pa_nil)) (xTg K (n := 2) rfl (pgs_cons (pg_name (i := 2) sc__law_box.nd rfl (by first | exact .inl rfl | exact .inr rfl)) (pgs_cons (pg_name (i := 3) sc__law_box.nd rfl (by first | exact .inl rfl | exact .inr rfl)) pgs_nil))) (pss_cons (ps_asg (pe_ix (xIx P w K hr.units) (pv 3) pe_int (fun _ _ => rfl)) (pg_sub (pe_ix (xIx P w K hr.units) (pv 1) pe_str (fun _ _ => rfl)) (pv 2) (xSet P w K hr.units))) (pss_one (ps_for PassesOwn.never rfl (xSeq K (pe_ix (xIx P w K hr.units) (pv 3) pe_int (fun _ _ => rfl))) (pg_name (i := 5) sc__law_box.nd rfl (by first | exact .inl rfl | exact .inr rfl)) (pss_one (ps_asg pe_bl (pg_sub (pe_ix (xIx P w K hr.units) (pv 1) pe_str (fun _ _ => rfl)) (pe_tup (pa_cons (pv 2) (pa_cons (pv 5) pa_nil))) (xSet P w K hr.units)))))))) (pss_cons (ps_for PassesOwn.never rfl (xSeq K (pe_ix (xIx P w K hr.units) (pv 0) pe_int (fun _ _ => rfl))) (pg_name (i := 4) sc__law_box.nd rfl (by first | exact .inl rfl | exact .inr rfl)) (pss_cons (ps_set (i := 6) sc__law_box.nd rfl (by first | exact .inl rfl | exact .inr rfl) (pe_lst (pa_nil))) (pss_cons (ps_if (pt_cmpR op_notNo (pv 4) pe_non (nomark _)) (pss_one (ps_setLc (i := 6) (own := [("_law_at", 5)]) rfl sc__law_box.nd rfl rfl (sw_true rfl rfl rfl (by decide +kernel)) (pi_range2 (by rfl) fx.range_ (pa_cons (pe_ix (xIx P w K hr.units) (pv 4) pe_int (fun _ _ => rfl)) (pa_cons (pe_ix (xIx P w K hr.units) (pv 4) pe_int (fun _ _ => rfl)) pa_nil))) (blkOk_by (own := [("_law_at", 5)]) (N := ["_law_stand_here", "_law_box_here", "_law_number_here", "_law_block", "_law_piece", "_law_at", "_law_row"]) (sc := defScope (topS 49)) (by decide +kernel)) (fun _ _ _ _ _ => (pg_name (i := 5) sc__law_box.nd rfl (by first | exact .inl rfl | exact .inr rfl))) (fun _ _ _ _ _ => pts_nil) (fun _ _ _ _ _ => pe_tup (pa_cons (pe_ix (xIx P w K hr.units) (pv 4) pe_int (fun _ _ => rfl)) (pa_cons (pv 5) pa_nil))))) (pss_nil)) (pss_one (ps_expr (xAppend K (pe_ix (xIx P w K hr.units) (pv 1) pe_str (fun _ _ => rfl)) (pa_cons (pv 6) pa_nil))))))) (pss_one (ps_ret (pv 1)))))), ?_⟩
  obtain ⟨v, ⟨ix, hd, bk⟩, rfl, pv, ok, q⟩ := h
  have h3 : hd.length ≤ 3 := ok.h3
  have b3 : bk.length ≤ 3 := ok.b3
  have b6 : ∀ b ∈ bk, b.1 ≤ 6 ∧ ∀ x ∈ b.2, x < b.1 := ok.b6
  have pc : ∀ q, some q ∈ hd → PcOk bk q := ok.pc
  have q : ∀ bx hl sz sh rows H', H bx = none → H hl = none → H sz = none → H sh = none → Ex H H' → BoxIs P w K H' bx hl sz sh rows hd bk → Q (.ref bx) H' := q
  have s0 : SOk _ _ H := SOk.entry (N := sc__law_box_N) (As := [aD K (encS (ix, hd, bk))]) (.cons pv .nil)
  refine st_newBox (P := P) (w := w) (K := K) s0 fun bx hl sz sh σ1 H1 n1 n2 n3 n4 e1 s1 b1 => ?_
  have hlb : (bk.map encB).length = bk.length := List.length_map _
  refine st_for (K := K) (it_enumT (ev_ixT (ev_var rfl) ev_int rfl)) s1 fun H2 e2 s2 => ⟨fun i σ' H' => SOk ((entry sc__law_box_N [aD K (encS (ix, hd, bk))]).set 1 (some (aV (.ref bx)))) σ' H' ∧ Frs [sz, sh] H2 H' ∧ BoxIs P w K H' bx hl sz sh [] [] (bk.take i), ⟨s2, .refl, b1.ex e2⟩, fun i σ' H' p => p.2.1.t, ?_, ?_⟩
  · rintro i d x σ' H' H'' hi ⟨s', f', b'⟩ e' hx
    rw [enumD_B] at hi
    have hil : i < bk.length := by
      have := (List.getElem?_eq_some_iff.mp hi).1
      rw [List.length_map, List.length_range] at this
      exact this
    rw [List.getElem?_map, List.getElem?_eq_getElem (by rw [List.length_range]; exact hil)] at hi
    have ed := Option.some.inj hi
    rw [List.getElem_range] at ed
    have ed : (NestedKey.tup [NestedKey.num (i : Int), encB (bk.getD i (0, []))] : D) = d := ed
    rw [getB hil] at ed
    subst ed
    have hb := b6 _ (List.getElem_mem hil)
    have tk : bk.take (i + 1) = bk.take i ++ [bk[i]] := by rw [List.take_succ, List.getElem?_eq_getElem hil]; rfl
    generalize hbk : bk[i] = blk at *
    obtain ⟨bs, bc⟩ := blk
    have hb1 : bs ≤ 6 := hb.1
    have hb2 : ∀ x ∈ bc, x < bs := hb.2
    have htl : (bk.take i).length = i := by rw [List.length_take]; omega
    refine (tg_tup (vs := sv) (tgs_cons tg_name (tgs_cons tg_name tgs_nil)) rfl) _ σ' H'' (s'.ex e') hx _ fun σ3 s3 _ => ?_
    have b3' := b'.ex e'
    refine st_setK (K := K) (i := (i : Nat)) (j := (bs : Nat)) b3'.sizes (ev_ixT (ev_var rfl) ev_int rfl) (ev_boxZ b3'.box (ev_var rfl)) (ev_var rfl) s3 (by rw [sizesK_len]; omega) (fun H4 f4 s4 d4 => ?_) (by walk_at "gs")
    have b4 := b3'.sized f4 (bs' := bk.take i ++ [(bs, [])]) (by rw [sizesK_snoc, htl]; exact d4) snoc_cells
    have f04 : Frs [sz, sh] H2 H4 := (f'.trans (.ex e')).trans (f4.mono (by simp))
    refine st_for (K := K) (it_tup (ds := bc.map natD) (ev_ixT (ev_var rfl) ev_int rfl)) s4 fun H5 e5 s5 => ⟨fun j σ' H' => SOk ((((entry sc__law_box_N [aD K (encS (ix, hd, bk))]).set 1 (some (aV (.ref bx)))).set 2 (some (aD K (natD i)))).set 3 (some (aD K (encB (bs, bc))))) σ' H' ∧ Frs [sz, sh] H5 H' ∧ BoxIs P w K H' bx hl sz sh [] [] (bk.take i ++ [(bs, bc.take j)]), ⟨s5, .refl, b4.ex e5⟩, fun j σ' H' p => p.2.1.t, ?_, ?_⟩
    · rintro j d y σ5 H6 H7 hj ⟨s6, f6, b6'⟩ e7 hy
      have hjl : j < bc.length := by
        have := (List.getElem?_eq_some_iff.mp hj).1
        rw [List.length_map] at this
        exact this
      rw [List.getElem?_map, List.getElem?_eq_getElem hjl] at hj
      have ed := Option.some.inj hj
      subst ed
      have s7 := (s6.ex e7).set 5 (A := aD K (natD bc[j])) hy (Nat.le_of_ble_eq_true rfl)
      have b7 := b6'.ex e7
      obtain ⟨ks, k1, k2⟩ := b7.shelf
      have kn : ks.Nodup := k1.choose_spec.2.2
      have few := BoxIs.few k2 kn (by rw [List.length_append, htl]; simp; omega) (fun b hb x hx => by
        rcases List.mem_append.mp hb with z | z
        · have := b6 b (List.mem_of_mem_take z)
          have := this.2 x hx
          omega
        · rw [List.mem_singleton.mp z] at hx
          have := hb2 x (List.mem_of_mem_take hx)
          omega)
      refine st_shelf (K := K) (ev_boxS b7.box (ev_var rfl)) (c := (i, bc[j])) (ev_tup (ed_cons (ev_var rfl) (ed_cons (ev_var rfl) ed_nil)) (by show 2 ≤ 100000; decide)) s7 k1 (by omega) (fun H8 f8 s8 h8 => ?_) (by walk_at "gs")
      refine ⟨s8.unset rfl, (f6.trans (.ex e7)).trans (f8.mono (by simp)), b7.shelved f8 h8 (fun n x => ?_) (sizesK_snoc2 _ _ _ _)⟩
      rw [mem_addC, k2 n x, snoc_same, snoc_same, htl]
      have tk5 : bc.take (j + 1) = bc.take j ++ [bc[j]] := by rw [List.take_succ, List.getElem?_eq_getElem hjl]; rfl
      rw [tk5, List.mem_append, List.mem_singleton, Prod.mk.injEq]
      constructor
      · rintro ((z | ⟨z, z2⟩) | ⟨z, z2⟩)
        · exact .inl z
        · exact .inr ⟨z, .inl z2⟩
        · exact .inr ⟨z, .inr z2⟩
      · rintro (z | ⟨z, z2 | z2⟩)
        · exact .inl (.inl z)
        · exact .inl (.inr ⟨z, z2⟩)
        · exact .inr ⟨z, z2⟩
    · rintro σ5 H6 ⟨s6, f6, b6'⟩
      rw [List.length_map, List.take_length, ← tk] at b6'
      exact ⟨s6.gle (by walk_at "gle"), (f04.trans (.ex e5)).trans f6, b6'⟩
  · rintro σ' H' ⟨s', f', b'⟩
    rw [enumD_B, List.length_map, List.length_range, List.take_length] at b'
    refine st_for (K := K) (it_tup (ds := hd.map encP) (ev_ixT (ev_var rfl) ev_int rfl)) s' fun H5 e5 s5 => ⟨fun j σ' H' => SOk ((entry sc__law_box_N [aD K (encS (ix, hd, bk))]).set 1 (some (aV (.ref bx)))) σ' H' ∧ Frs [hl] H5 H' ∧ ∃ rows, BoxIs P w K H' bx hl sz sh rows (hd.take j) bk, ⟨s5, .refl, [], b'.ex e5⟩, fun j σ' H' p => p.2.1.t, ?_, ?_⟩
    · rintro j d y σ5 H6 H7 hj ⟨s6, f6, rows, b6'⟩ e7 hy
      have hjl : j < hd.length := by
        have := (List.getElem?_eq_some_iff.mp hj).1
        rw [List.length_map] at this
        exact this
      rw [List.getElem?_map, List.getElem?_eq_getElem hjl] at hj
      have ed := Option.some.inj hj
      subst ed
      have tk5 : hd.take (j + 1) = hd.take j ++ [hd[j]] := by rw [List.take_succ, List.getElem?_eq_getElem hjl]; rfl
      have hm : hd[j] ∈ hd := List.getElem_mem hjl
      generalize hr5 : hd[j] = pp at *
      have s7 := (s6.ex e7).set 4 (A := aD K (encP pp)) hy (Nat.le_of_ble_eq_true rfl)
      have b7 := b6'.ex e7
      have app : ∀ (r : Addr) (σ8 : L2.St) (H8 : Hp), H7 r = none → Ex H7 H8 → SOk ((((entry sc__law_box_N [aD K (encS (ix, hd, bk))]).set 1 (some (aV (.ref bx)))).set 4 (some (aD K (encP pp)))).set 6 (some (aV (.ref r)))) σ8 H8 → WL K H8 r (cellsD pp) → ∀ EE : Ends, EE.nx = (fun σ' H' => SOk ((entry sc__law_box_N [aD K (encS (ix, hd, bk))]).set 1 (some (aV (.ref bx)))) σ' H' ∧ Frs [hl] H5 H' ∧ ∃ rows, BoxIs P w K H' bx hl sz sh rows (hd.take (j + 1)) bk) → tDrop (tBM K "list" rAppend (tOp (rIxU P w K) (tVar 1) (tC (.str "held"))) (tCons (tVar 6) tNil)) EE σ8 H8 := fun r σ8 H8 hr e8 s8 w8 EE hE => by
        have b8 := b7.ex e8
        have ne : r ≠ hl := fun z => by rw [z, b7.rws.at_] at hr; cases hr
        refine st_rowApp (K := K) (ev_boxH b8.box (ev_var rfl)) (ev_var rfl) s8 b8 w8 ne (by rw [List.length_take]; omega) (fun H9 f9 s9 b9 => ?_) (by walk_at "gs")
        rw [hE]
        rw [← tk5] at b9
        exact ⟨s9.gle (by walk_at "gle"), ((f6.trans (.ex e7)).trans (.ex e8)).trans f9, _, b9⟩
      refine EvN.st (n := 6) (ev_lst (K := K) ed_nil (Nat.zero_le _)) s7 fun r σ8 H8 hr e8 s8 w8 => ?_
      refine st_if (et_test (ev_notN (ev_var rfl))) s8 (fun hb H9 e9 s9 => ?_) (fun hb H9 e9 s9 => ?_)
      · match pp with
        | none => cases hb
        | some (n, f, l) =>
          have k := pc _ hm
          have k2 : n < bk.length := k.n
          have k3 : l ≤ blkSize bk n := k.l
          have k4 : f < l := k.fl
          rw [blkSize_at k2] at k3
          have := (b6 _ (List.getElem_mem k2)).1
          refine EvN.st (n := 6) (en_map (K := K) (List.range (l - f)) (fun i : Nat => .num ((f + i : Nat) : Int)) _ (fun i => cellD n (f + i)) (ei_range2 (ea_cons (ev_ixT (ev_var rfl) ev_int rfl) (ea_one (ev_ixT (ev_var rfl) ev_int rfl))) (by omega) (by omega)) rfl (by rw [List.length_range]; omega) (fun x _ => tg_name) (fun x _ => ev_tup (ed_cons (ev_ixT (ev_var rfl) ev_int rfl) (ed_cons (ev_var rfl) ed_nil)) (by show 2 ≤ 100000; decide))) s9 fun r2 σ10 H10 hr2 e10 s10 w10 => ?_
          rw [← cellsD_some] at w10
          exact app r2 σ10 H10 (Evl.fresh_back (e8.trans e9) hr2) ((e8.trans e9).trans e10) s10 w10 _ rfl
      · match pp with
        | none => exact app r _ H9 hr (e8.trans e9) s9 (WL.ex w8 e9) _ rfl
        | some (n, f, l) => cases hb
    · rintro σ5 H6 ⟨s6, f6, rows, b6'⟩
      rw [List.length_map, List.take_length] at b6'
      refine st_ret (A := aV (.ref bx)) (ev_var rfl) s6 fun v H7 e7 pv => ?_
      have ev : v = .ref bx := pv
      subst ev
      have fa : Frs [hl, sz, sh] H1 H7 := (((Frs.ex e2).trans (f'.mono (by simp))).trans (.ex e5)).trans ((f6.mono (by simp)).trans (.ex e7))
      exact q bx hl sz sh rows H7 n1 n2 n3 n4 (fa.ofNew e1 fun a ha => by
        simp only [List.mem_cons, List.not_mem_nil, or_false] at ha
        rcases ha with rfl | rfl | rfl
        · exact n2
        · exact n3
        · exact n4) (b6'.ex e7)
def sp_ldo (P : Program) (w : World) (K : PySem.W.Frag) : Sp := fun vs H Q _ => ∃ (bx hl sz sh : Addr) (rows : List Addr) (v : V) (t : Stp) (wd : Nat) (h : List (Option Pc)) (bs : List Blk), vs = [.ref bx, v, .int wd] ∧ BoxIs P w K H bx hl sz sh rows h bs ∧ DIs K H v (encT t) ∧ t.Ok wd h.length 12 ∧ HBOk wd h.length h bs ∧ h.length ≤ 3 ∧ bs.length ≤ 3 ∧ 1 ≤ wd ∧ wd ≤ 6 ∧
  ∀ rows' H', Frs [hl, sz, sh] H H' → BoxIs P w K H' bx hl sz sh rows' (actP t wd h bs).1 (actP t wd h bs).2 → Q .non H'
theorem actP_keep {a wd : Nat} {h : List (Option Pc)} {bs : List Blk} : actP (.keep a) wd h bs = (h, shelveO bs (getP h a)) := by
  have e : actP (.keep a) wd h bs = (match getP h a with
    | none => (h, bs)
    | some p => (h, shelve bs p)) := rfl
  rw [e]
  cases getP h a <;> rfl
theorem actP_pack {a wd : Nat} {h : List (Option Pc)} {bs : List Blk} : actP (.pack a) wd h bs = if isWhole (getP h a) bs then (h, shelveO bs (getP h a)) else (h, bs) := by
  have e : actP (.pack a) wd h bs = (match getP h a with
    | none => (h, bs)
    | some p => if isWhole (some p) bs then (h, shelve bs p) else (h, bs)) := rfl
  rw [e]
  cases getP h a <;> rfl
abbrev sc__law_do_N : List Str := ["_law_box_here", "_law_step_here", "_law_wide", "_law_word", "_law_held", "_law_spots", "_law_row", "_law_cell", "_law_name"]
theorem sc__law_do : FnScope ["_law_box_here", "_law_step_here", "_law_wide", "_law_word", "_law_held", "_law_spots", "_law_row", "_law_cell", "_law_name"] ["_law_box_here", "_law_step_here", "_law_wide"] (defScope (topS 52)) := ⟨rfl, rfl, rfl, by decide +kernel, rfl, by decide +kernel, by decide +kernel⟩
theorem ok__law_do {P : Program} {w : World} {K : PySem.W.Frag} {mg : Str → Option Value} {base : Heap} {ad : Ads} (fx : Fx K mg ad) : Ok P w K mg base CX0 3 "_law_do" ["_law_box_here", "_law_step_here", "_law_wide"] (sp_ldo P w K) := by
  refine fx.d__law_do.ok sc__law_do (fun _ _ _ _ _ _ us hl => match us, hl with | [_, _, _], _ => rfl) (fun vs H Q E q => by obtain ⟨_, _, _, _, _, _, _, _, _, _, rfl, _⟩ := q; rfl) fun f cdv A outer s H vs Q E hr hcd h => ?_
  refine ⟨_, PSs.nox (pss_cons (ps_par (i := 3) (j := 4) (by rfl) sc__law_do.nd rfl rfl (by decide) rfl rfl (pa_cons (pe_ix (xIx P w K hr.units) (pv 1) pe_int (fun _ _ => rfl)) (pa_cons (pe_ix (xIx P w K hr.units) (pv 0) pe_str (fun _ _ => rfl)) pa_nil)) (by rfl)) (pss_cons (ps_setLc (i := 5) (own := [("_law_name", 8)]) rfl sc__law_do.nd rfl rfl (sw_true rfl rfl rfl (by decide +kernel)) (xSeq K (pe_slice (xSl K) (pv 1) (po_some pe_int) po_none)) (blkOk_by (own := [("_law_name", 8)]) (N := ["_law_box_here", "_law_step_here", "_law_wide", "_law_word", "_law_held", "_law_spots", "_law_row", "_law_cell", "_law_name"]) (sc := defScope (topS 52)) (by decide +kernel)) (fun _ _ _ _ _ => (pg_name (i := 8) sc__law_do.nd rfl (by first | exact .inl rfl | exact .inr rfl))) (fun _ _ _ _ _ => (pts_one (pt_val (pe_callB (xIsi K) (by rfl) fx.isinstance_ (by decide +kernel) (pa_cons (pv 8) (pa_cons (pe_bltn (v := .ty "str") (u := .type "str") (by rfl) fx.str_ (by decide +kernel) (by rfl)) pa_nil)))))) (fun _ _ _ _ _ => xStrIx K pe_str (pa_cons (pv 8) pa_nil))) (pss_cons (ps_set (i := 6) sc__law_do.nd rfl (by first | exact .inl rfl | exact .inr rfl) (pe_ifExp (pt_cmpR (xNe K hr.units) (pv 5) (pe_lst (pa_nil)) (nomark _)) (pe_ix (xIx P w K hr.units) (pv 4) (pe_ix (xIx P w K hr.units) (pv 5) (pe_un un_neg pe_int) (fun _ _ => rfl)) (fun _ _ => rfl)) (pe_lst (pa_nil)))) (pss_cons (ps_if (pt_cmpR (xEq K hr.units) (pv 3) pe_str (nomark _)) (pss_one (ps_expr (xClearD P w K (pe_ix (xIx P w K hr.units) (pv 0) pe_str (fun _ _ => rfl))))) (pss_nil)) (pss_cons (ps_if (PW.pt (pw_or (pt_cmpR (xEq K hr.units) (pv 3) pe_str (nomark _)) (pw_or1 (PW.pt (pw_and (pt_cmpR (xEq K hr.units) (pv 3) pe_str (nomark _)) (pw_and1 (pt_val (pe_callD (ok__law_is_whole (P := P) (w := w) (base := base) fx) (hr.mono (by decide)) (by rfl) (pa_cons (pv 0) (pa_cons (pv 6) pa_nil)))))))))) (pss_one (ps_for PassesOwn.never rfl (xSeq K (pv 6)) (pg_name (i := 7) sc__law_do.nd rfl (by first | exact .inl rfl | exact .inr rfl)) (pss_one (ps_asg pe_bl (pg_sub (pe_ix (xIx P w K hr.units) (pv 0) pe_str (fun _ _ => rfl)) (pv 7) (xSet P w K hr.units)))))) (pss_nil)) (pss_cons (ps_if (pt_cmpR (xEq K hr.units) (pv 3) pe_str (nomark _)) (pss_one (ps_asg (pe_callD (ok__law_fresh (P := P) (w := w) (base := base) fx) (hr.mono (by decide)) (by rfl) (pa_cons (pv 0) (pa_cons (pe_ix (xIx P w K hr.units) (pv 1) pe_int (fun _ _ => rfl)) pa_nil))) (pg_sub (pv 4) (pe_ix (xIx P w K hr.units) (pv 5) pe_int (fun _ _ => rfl)) (xSet P w K hr.units)))) (pss_nil)) (pss_cons (ps_if (pt_cmpR (xEq K hr.units) (pv 3) pe_str (nomark _)) (pss_one (ps_asg (pe_slice (xSl K) (pv 6) (po_some (pe_ix (xIx P w K hr.units) (pv 1) pe_int (fun _ _ => rfl))) (po_some (pe_ix (xIx P w K hr.units) (pv 1) pe_int (fun _ _ => rfl)))) (pg_sub (pv 4) (pe_ix (xIx P w K hr.units) (pv 5) pe_int (fun _ _ => rfl)) (xSet P w K hr.units)))) (pss_nil)) (pss_cons (ps_if (PW.pt (pw_or (pt_cmpR (xEq K hr.units) (pv 3) pe_str (nomark _)) (pw_or1 (PW.pt (pw_and (pt_cmpR (xEq K hr.units) (pv 3) pe_str (nomark _)) (pw_and1 (pt_val (pe_callD (ok__law_is_whole (P := P) (w := w) (base := base) fx) (hr.mono (by decide)) (by rfl) (pa_cons (pv 0) (pa_cons (pv 6) pa_nil)))))))))) (pss_one (ps_asg (pv 6) (pg_sub (pv 4) (pe_ix (xIx P w K hr.units) (pv 5) pe_int (fun _ _ => rfl)) (xSet P w K hr.units)))) (pss_one (ps_if (pt_cmpR (xEq K hr.units) (pv 3) pe_str (nomark _)) (pss_one (ps_asg (pe_callD (ok__law_fresh (P := P) (w := w) (base := base) fx) (hr.mono (by decide)) (by rfl) (pa_cons (pv 0) (pa_cons (pe_callB (xLen P w K) (by rfl) fx.len_ (by decide +kernel) (pa_cons (pv 6) pa_nil)) pa_nil))) (pg_sub (pv 4) (pe_ix (xIx P w K hr.units) (pv 5) pe_int (fun _ _ => rfl)) (xSet P w K hr.units)))) (pss_nil)))) (pss_cons (ps_if (pt_cmpR (xEq K hr.units) (pv 3) pe_str (nomark _)) (pss_one (ps_asg (pe_callD (ok__law_joined (P := P) (w := w) (base := base) fx) (hr.mono (by decide)) (by rfl) (pa_cons (pv 0) (pa_cons (pe_ix (xIx P w K hr.units) (pv 4) (pe_ix (xIx P w K hr.units) (pv 5) pe_int (fun _ _ => rfl)) (fun _ _ => rfl)) (pa_cons (pe_ix (xIx P w K hr.units) (pv 4) (pe_ix (xIx P w K hr.units) (pv 5) pe_int (fun _ _ => rfl)) (fun _ _ => rfl)) (pa_cons (pv 2) pa_nil))))) (pg_sub (pv 4) (pe_ix (xIx P w K hr.units) (pv 5) pe_int (fun _ _ => rfl)) (xSet P w K hr.units)))) (pss_nil)) (pss_one (ps_if (pt_cmpR (xEq K hr.units) (pv 3) pe_str (nomark _)) (pss_one (ps_asg (pe_lst (pa_nil)) (pg_sub (pv 4) (pe_ix (xIx P w K hr.units) (pv 5) pe_int (fun _ _ => rfl)) (xSet P w K hr.units)))) (pss_nil)))))))))))), ?_⟩
  obtain ⟨bx, hl, sz, sh, rows, v, t, wd, h, bs, rfl, b, hv, hok, kb, h3, b3, hw1, hw6, q⟩ := h
  have b6 : ∀ b ∈ bs, b.1 ≤ 6 := fun b hb => Nat.le_trans (kb.bk b hb).sw hw6
  have pcs : ∀ a q, getP h a = some q → PcOk bs q := fun a q e => kb.pc q (getP_mem e)
  have hv2 := hv
  rw [encT_eq] at hv2
  have s0 : SOk _ _ H := SOk.entry (N := sc__law_do_N) (As := [aV (.ref bx), aD K (.tup (.text (wordT t) :: (argsT t).map encA)), aD K (natD wd)]) (.cons rfl (.cons hv2 (.cons (.int _) .nil)))
  refine st_par (A := aD K (.text (wordT t))) (B := aV (.ref hl)) (ea_cons (ev_ixT (ev_var rfl) ev_int (atD (n := 0) rfl)) (ea_one (ev_boxH b.box (ev_var rfl)))) s0 fun σ1 H1 e1 s1 => ?_
  refine EvN.st (n := 5) (en_lc (K := K) (argsT t) encA _ nameA (fun a => natD (numA a)) (ei_T (ev_slT (ev_var rfl) (eo_some (K := K) ev_int) eo_none)) (cut_tail _ _) (by have := args_few t; omega) (fun x _ => tg_name) (fun x _ => et_B (ev_isB (ev_isi (ev_var rfl) (kit_str (encA x))) (by cases x <;> rfl))) fun x hx hb => ?_) s1 fun sp σ2 H2 hsp e2 s2 wsp => ?_
  · cases x with
    | inl a => exact ev_abcIx (ev_var rfl) (Nat.lt_of_lt_of_le (names_lt hok a hx) h3)
    | inr n => cases hb
  rw [spots_eq] at wsp
  have b1 := b.ex e1
  have nhl : sp ≠ hl := fun z => by rw [z, b1.rws.at_] at hsp; cases hsp
  have nsz : sp ≠ sz := fun z => by rw [z, b1.sizes] at hsp; cases hsp
  refine st_lrow (K := K) (t := t) s2 rfl rfl wsp (b.ex (e1.trans e2)) (spots_lt hok) (fun r σ3 H3 e3 s3 w3 n3 => ?_) (Nat.le_of_ble_eq_true rfl)
  have e03 := (e1.trans e2).trans e3
  have b3' := b.ex e03
  have wsp3 := WL.ex wsp e3
  have q3 : ∀ rows' H', Frs [hl, sz, sh] H3 H' → BoxIs P w K H' bx hl sz sh rows' (actP t wd h bs).1 (actP t wd h bs).2 → Q .non H' := fun rows' H' f => q rows' H' ((Frs.ex e03).trans f)
  clear q
  cases t with
  | read a n =>
    refine st_skip (word := "read") s3 rfl rfl fun H4 e4 s4 => ?_
    refine st_skip2 (word := "read") s4 rfl rfl rfl fun H5 e5 s5 => ?_
    refine st_this (word := "read") s5 rfl rfl fun H6 e6 s6 => ?_
    obtain ⟨o1, o2, o3⟩ := hok
    have eeA := ((e4.trans e5).trans e6)
    have bbA := b3'.ex eeA
    have wwA := WL.ex w3 eeA
    have spA := WL.ex wsp3 eeA
    refine call_of (ea_cons (ev_var rfl) (ea_one (ev_ixT (ev_var rfl) ev_int rfl))) s6 fun vs HB eB sB hvs => ?_
    obtain ⟨x, y, rfl, px, py⟩ := aall2 (A := aV (.ref bx)) (B := aD K (natD n)) hvs
    have ex : x = .ref bx := px
    have ey := DIs.num_inv py
    subst ex ey
    have bB := bbA.ex eB
    refine ⟨bx, hl, sz, sh, rows, h, bs, n, rfl, bB, by omega, by omega, fun p HC hp fC wC bC => ?_⟩
    have ne : p ≠ hl := fun z => by rw [z, bB.rws.at_] at hp; cases hp
    have ea : actP (.read a n) wd h bs = (h.set a (some (bs.length, 0, n)), bs ++ [(n, [])]) := by
      show putP h a (freshP n bs) = _
      unfold freshP putP
      rw [if_neg (by omega)]
    rw [ea] at q3
    refine g_row (K := K) (ev_var rfl) (ev_ixL (ev_wl rfl ((WL.ex spA eB).frs fC (by simp [nsz]))) ev_int (atD (n := 0) rfl)) (sB.st fC.t (by walk_at "gs")) bC o1 wC ne (fun H7 f7 s7 b7 => ?_) (by walk_at "gs")
    have ff := ((Frs.ex (W := [hl, sz, sh]) (eeA.trans eB)).trans (fC.mono (by simp))).trans (f7.mono (W := [hl]) (V := [hl, sz, sh]) (by simp))
    refine st_skip (word := "read") s7 rfl rfl fun H8 e8 s8 => ?_
    refine st_skip2 (word := "read") s8 rfl rfl rfl fun H9 e9 s9 => ?_
    refine st_skip (word := "read") s9 rfl rfl fun H10 e10 s10 => ?_
    refine st_skip (word := "read") s10 rfl rfl fun H11 e11 s11 => ?_
    refine st_skip (word := "read") s11 rfl rfl fun H12 e12 s12 => ?_
    exact q3 _ H12 (ff.trans (.ex ((((e8.trans e9).trans e10).trans e11).trans e12))) (b7.ex ((((e8.trans e9).trans e10).trans e11).trans e12))
  | cut a a2 i j =>
    refine st_skip (word := "cut") s3 rfl rfl fun H4 e4 s4 => ?_
    refine st_skip2 (word := "cut") s4 rfl rfl rfl fun H5 e5 s5 => ?_
    refine st_skip (word := "cut") s5 rfl rfl fun H6 e6 s6 => ?_
    refine st_this (word := "cut") s6 rfl rfl fun H7 e7 s7 => ?_
    obtain ⟨o1, o2, o3, o4⟩ := hok
    have eeA := (((e4.trans e5).trans e6).trans e7)
    have bbA := b3'.ex eeA
    have wwA := WL.ex w3 eeA
    have spA := WL.ex wsp3 eeA
    refine ev_slL (K := K) (ev_wl rfl wwA) (eo_some (ev_ixT (ev_var rfl) ev_int rfl)) (eo_some (ev_ixT (ev_var rfl) ev_int rfl)) _ H7 s7 (Evl.Ex.refl _) _ fun p xs HB hp eB hx hd => ?_
    have bB := bbA.ex eB
    have ne : p ≠ hl := fun z => by rw [z, bbA.rws.at_] at hp; cases hp
    have wC : WL K HB p (cellsD (part (getP h a2) i j)) := ⟨xs, hx, by rw [← cut_cells (getP h a2) (fun n f l e => (pcs a2 _ e).fl) o3]; exact hd⟩
    refine g_row (K := K) (ev_var rfl) (ev_ixL (ev_wl rfl (WL.ex spA eB)) ev_int (atD (n := 0) rfl)) (s7.ex eB) bB o1 wC ne (fun H8 f8 s8 b8 => ?_) (by walk_at "gs")
    have ff := (Frs.ex (W := [hl, sz, sh]) (eeA.trans eB)).trans (f8.mono (W := [hl]) (V := [hl, sz, sh]) (by simp))
    refine st_skip2 (word := "cut") s8 rfl rfl rfl fun H9 e9 s9 => ?_
    refine st_skip (word := "cut") s9 rfl rfl fun H10 e10 s10 => ?_
    refine st_skip (word := "cut") s10 rfl rfl fun H11 e11 s11 => ?_
    refine st_skip (word := "cut") s11 rfl rfl fun H12 e12 s12 => ?_
    exact q3 _ H12 (ff.trans (.ex (((e9.trans e10).trans e11).trans e12))) (b8.ex (((e9.trans e10).trans e11).trans e12))
  | tight a a2 =>
    refine st_skip (word := "tight") s3 rfl rfl fun H4 e4 s4 => ?_
    refine st_skip2 (word := "tight") s4 rfl rfl rfl fun H5 e5 s5 => ?_
    refine st_skip (word := "tight") s5 rfl rfl fun H6 e6 s6 => ?_
    refine st_skip (word := "tight") s6 rfl rfl fun H7 e7 s7 => ?_
    refine st_this2 (word := "tight") (b := isWhole (getP h a2) bs) s7 rfl rfl rfl (et_B (ev_call (f := spf_lwhole K) (getP h a2, bs) (ea_cons (ev_boxzs (b3'.ex (((e4.trans e5).trans e6).trans e7)) (ev_var rfl)) (ea_one (ev_wl rfl (WL.ex w3 (((e4.trans e5).trans e6).trans e7))))) (pcs a2))) (fun hb H8 e8 s8 => ?_) (fun hb H8 e8 s8 => ?_)
    · have ea : actP (.tight a a2) wd h bs = (h.set a (getP h a2), bs) := by
        show putP h a (if isWhole (getP h a2) bs then (getP h a2, bs) else freshP (sizeOf (getP h a2)) bs) = _
        rw [if_pos hb]; rfl
      rw [ea] at q3
      obtain ⟨o1, o2⟩ := hok
      have eeA := ((((e4.trans e5).trans e6).trans e7).trans e8)
      have bbA := b3'.ex eeA
      have wwA := WL.ex w3 eeA
      have spA := WL.ex wsp3 eeA
      refine st_refv (A := aV (.ref r)) (ev_var rfl) s8 fun vo HB eB sB pv => ?_
      have ev : vo = .ref r := pv
      subst ev
      refine g_row (K := K) (ev_var rfl) (ev_ixL (ev_wl rfl (WL.ex spA eB)) ev_int (atD (n := 0) rfl)) sB (bbA.ex eB) o1 (WL.ex wwA eB) n3 (fun H9 f9 s9 b9 => ?_) (by walk_at "gs")
      have ff := (Frs.ex (W := [hl, sz, sh]) (eeA.trans eB)).trans (f9.mono (W := [hl]) (V := [hl, sz, sh]) (by simp))
      refine st_skip (word := "tight") s9 rfl rfl fun H10 e10 s10 => ?_
      refine st_skip (word := "tight") s10 rfl rfl fun H11 e11 s11 => ?_
      exact q3 _ H11 (ff.trans (.ex (e10.trans e11))) (b9.ex (e10.trans e11))
    · obtain ⟨o1, o2⟩ := hok
      refine st_this (word := "tight") s8 rfl rfl fun H9 e9 s9 => ?_
      have z6 := PcOk.few (pcs a2) b6
      have z0 : sizeOf (getP h a2) ≠ 0 := by
        cases z : getP h a2 with
        | none => rw [z] at hb; cases hb
        | some pc => obtain ⟨n, f, l⟩ := pc; have : f < l := (pcs a2 _ z).fl; show l - f ≠ 0; omega
      have eeA := (((((e4.trans e5).trans e6).trans e7).trans e8).trans e9)
      have bbA := b3'.ex eeA
      have wwA := WL.ex w3 eeA
      have spA := WL.ex wsp3 eeA
      refine call_of (ea_cons (ev_var rfl) (ea_one (ev_is (ev_lenL (ev_wl rfl wwA)) (by rw [cellsD_len])))) s9 fun vs HB eB sB hvs => ?_
      obtain ⟨x, y, rfl, px, py⟩ := aall2 (A := aV (.ref bx)) (B := aD K (natD (sizeOf (getP h a2)))) hvs
      have ex : x = .ref bx := px
      have ey := DIs.num_inv py
      subst ex ey
      have bB := bbA.ex eB
      refine ⟨bx, hl, sz, sh, rows, h, bs, (sizeOf (getP h a2)), rfl, bB, by omega, by omega, fun p HC hp fC wC bC => ?_⟩
      have ne : p ≠ hl := fun z => by rw [z, bB.rws.at_] at hp; cases hp
      have ea : actP (.tight a a2) wd h bs = (h.set a (some (bs.length, 0, sizeOf (getP h a2))), bs ++ [(sizeOf (getP h a2), [])]) := by
        show putP h a (if isWhole (getP h a2) bs then (getP h a2, bs) else freshP (sizeOf (getP h a2)) bs) = _
        rw [if_neg (by rw [hb]; decide)]
        unfold freshP putP
        rw [if_neg z0]
      rw [ea] at q3
      refine g_row (K := K) (ev_var rfl) (ev_ixL (ev_wl rfl ((WL.ex spA eB).frs fC (by simp [nsz]))) ev_int (atD (n := 0) rfl)) (sB.st fC.t (by walk_at "gs")) bC o1 wC ne (fun H10 f10 s10 b10 => ?_) (by walk_at "gs")
      have ff := ((Frs.ex (W := [hl, sz, sh]) (eeA.trans eB)).trans (fC.mono (by simp))).trans (f10.mono (W := [hl]) (V := [hl, sz, sh]) (by simp))
      refine st_skip (word := "tight") s10 rfl rfl fun H11 e11 s11 => ?_
      refine st_skip (word := "tight") s11 rfl rfl fun H12 e12 s12 => ?_
      exact q3 _ H12 (ff.trans (.ex (e11.trans e12))) (b10.ex (e11.trans e12))
  | join a a2 a3 =>
    refine st_skip (word := "join") s3 rfl rfl fun H4 e4 s4 => ?_
    refine st_skip2 (word := "join") s4 rfl rfl rfl fun H5 e5 s5 => ?_
    refine st_skip (word := "join") s5 rfl rfl fun H6 e6 s6 => ?_
    refine st_skip (word := "join") s6 rfl rfl fun H7 e7 s7 => ?_
    refine st_skip2 (word := "join") s7 rfl rfl rfl fun H8 e8 s8 => ?_
    refine st_skip (word := "join") s8 rfl rfl fun H9 e9 s9 => ?_
    refine st_this (word := "join") s9 rfl rfl fun H10 e10 s10 => ?_
    obtain ⟨o1, o2, o3⟩ := hok
    have eeA := ((((((e4.trans e5).trans e6).trans e7).trans e8).trans e9).trans e10)
    have bbA := b3'.ex eeA
    have wwA := WL.ex w3 eeA
    have spA := WL.ex wsp3 eeA
    obtain ⟨r1, g1, wr1, m1⟩ := bbA.rws.get o2
    obtain ⟨r2, g2, wr2, m2⟩ := bbA.rws.get o3
    refine call_of (ea_cons (ev_var rfl) (ea_cons (ev_row bbA (ev_var rfl) (ev_ixL (ev_wl rfl spA) ev_int (atD (n := 1) rfl)) g1) (ea_cons (ev_row bbA (ev_var rfl) (ev_ixL (ev_wl rfl spA) ev_int (atD (n := 2) rfl)) g2) (ea_one (ev_var rfl))))) s10 fun vs HB eB sB hvs => ?_
    obtain ⟨x, y, z, u, rfl, px, py, pz, pu⟩ := aall4 (A := aV (.ref bx)) (B := aV (.ref r1)) (C := aV (.ref r2)) (A' := aD K (natD wd)) hvs
    have ex : x = .ref bx := px
    have ey : y = .ref r1 := py
    have ez : z = .ref r2 := pz
    have eu := DIs.num_inv pu
    subst ex ey ez eu
    have bB := bbA.ex eB
    refine ⟨bx, hl, sz, sh, r1, r2, rows, h, bs, getP h a2, getP h a3, wd, rfl, bB, WL.ex wr1 eB, WL.ex wr2 eB, pcs a2, pcs a3, by omega, b6, hw1, hw6, fun p HC hp fC wC bC => ?_⟩
    have ne : p ≠ hl := fun z => by rw [z, bB.rws.at_] at hp; cases hp
    refine g_row (K := K) (ev_var rfl) (ev_ixL (ev_wl rfl ((WL.ex spA eB).frs fC (by simp [nsz]))) ev_int (atD (n := 0) rfl)) (sB.st fC.t (by walk_at "gs")) bC o1 wC ne (fun H11 f11 s11 b11 => ?_) (by walk_at "gs")
    have ff := ((Frs.ex (W := [hl, sz, sh]) (eeA.trans eB)).trans (fC.mono (by simp))).trans (f11.mono (W := [hl]) (V := [hl, sz, sh]) (by simp))
    refine st_skip (word := "join") s11 rfl rfl fun H12 e12 s12 => ?_
    exact q3 _ H12 (ff.trans (.ex e12)) (b11.ex e12)
  | move a a2 =>
    refine st_skip (word := "move") s3 rfl rfl fun H4 e4 s4 => ?_
    refine st_skip2 (word := "move") s4 rfl rfl rfl fun H5 e5 s5 => ?_
    refine st_skip (word := "move") s5 rfl rfl fun H6 e6 s6 => ?_
    refine st_skip (word := "move") s6 rfl rfl fun H7 e7 s7 => ?_
    refine st_this1 (word := "move") s7 rfl rfl fun H8 e8 s8 => ?_
    obtain ⟨o1, o2⟩ := hok
    have eeA := ((((e4.trans e5).trans e6).trans e7).trans e8)
    have bbA := b3'.ex eeA
    have wwA := WL.ex w3 eeA
    have spA := WL.ex wsp3 eeA
    refine st_refv (A := aV (.ref r)) (ev_var rfl) s8 fun vo HB eB sB pv => ?_
    have ev : vo = .ref r := pv
    subst ev
    refine g_row (K := K) (ev_var rfl) (ev_ixL (ev_wl rfl (WL.ex spA eB)) ev_int (atD (n := 0) rfl)) sB (bbA.ex eB) o1 (WL.ex wwA eB) n3 (fun H9 f9 s9 b9 => ?_) (by walk_at "gs")
    have ff := (Frs.ex (W := [hl, sz, sh]) (eeA.trans eB)).trans (f9.mono (W := [hl]) (V := [hl, sz, sh]) (by simp))
    refine st_skip (word := "move") s9 rfl rfl fun H10 e10 s10 => ?_
    refine st_skip (word := "move") s10 rfl rfl fun H11 e11 s11 => ?_
    exact q3 _ H11 (ff.trans (.ex (e10.trans e11))) (b9.ex (e10.trans e11))
  | drop a =>
    refine st_skip (word := "drop") s3 rfl rfl fun H4 e4 s4 => ?_
    refine st_skip2 (word := "drop") s4 rfl rfl rfl fun H5 e5 s5 => ?_
    refine st_skip (word := "drop") s5 rfl rfl fun H6 e6 s6 => ?_
    refine st_skip (word := "drop") s6 rfl rfl fun H7 e7 s7 => ?_
    refine st_skip2 (word := "drop") s7 rfl rfl rfl fun H8 e8 s8 => ?_
    refine st_skip (word := "drop") s8 rfl rfl fun H9 e9 s9 => ?_
    refine st_skip (word := "drop") s9 rfl rfl fun H10 e10 s10 => ?_
    refine st_this (word := "drop") s10 rfl rfl fun H11 e11 s11 => ?_
    have o1 : a < h.length := hok
    have eeA := (((((((e4.trans e5).trans e6).trans e7).trans e8).trans e9).trans e10).trans e11)
    have bbA := b3'.ex eeA
    have wwA := WL.ex w3 eeA
    have spA := WL.ex wsp3 eeA
    refine ev_lst (K := K) ed_nil (Nat.zero_le _) _ H11 s11 (Evl.Ex.refl _) _ fun p xs HB hp eB hx hd => ?_
    have bB := bbA.ex eB
    have ne : p ≠ hl := fun z => by rw [z, bbA.rws.at_] at hp; cases hp
    have wC : WL K HB p (cellsD none) := ⟨xs, hx, hd⟩
    refine g_row (K := K) (ev_var rfl) (ev_ixL (ev_wl rfl (WL.ex spA eB)) ev_int (atD (n := 0) rfl)) (s11.ex eB) bB o1 wC ne (fun H12 f12 s12 b12 => ?_) (by walk_at "gs")
    have ff := (Frs.ex (W := [hl, sz, sh]) (eeA.trans eB)).trans (f12.mono (W := [hl]) (V := [hl, sz, sh]) (by simp))
    exact q3 _ H12 (ff.trans (.ex (Evl.Ex.refl _))) (b12.ex (Evl.Ex.refl _))
  | keep a =>
    refine st_skip (word := "keep") s3 rfl rfl fun H4 e4 s4 => ?_
    refine st_this1 (word := "keep") s4 rfl rfl fun H5 e5 s5 => ?_
    have eeA := (e4.trans e5)
    have bbA := b3'.ex eeA
    have wwA := WL.ex w3 eeA
    have spA := WL.ex wsp3 eeA
    have ha : a < h.length := hok
    obtain ⟨ks, k1, k2⟩ := bbA.shelf
    have few := BoxIs.few k2 k1.choose_spec.2.2 (by omega) fun b hb x hx => Nat.lt_of_lt_of_le ((kb.bk b hb).lt x hx) (b6 b hb)
    have zz : (cellsP (getP h a)).length ≤ 6 := by
      have := PcOk.few (pcs a) b6
      rwa [← cellsD_len, cellsD, List.length_map] at this
    refine for_shelve (K := K) (cs := cellsP (getP h a)) s5 rfl rfl rfl (by walk_at "gs") bbA.box (Ne.symm bbA.sh_bx) wwA k1 (by omega) fun σX HX ks' fX sX kX mX => ?_
    have b5 := bbA.shelved fX kX (bs' := shelveO bs (getP h a)) (shelve_of k2 kb.bk (pcs a) mX) (by cases z : getP h a with | none => rfl | some q => exact shelve_sizes (pcs a q z))
    have ff := (Frs.ex (W := [hl, sz, sh]) eeA).trans (fX.mono (by simp))
    have ea : actP (.keep a) wd h bs = (h, shelveO bs (getP h a)) := actP_keep
    rw [ea] at q3
    have s6 := sX
    refine st_skip (word := "keep") s6 rfl rfl fun H7 e7 s7 => ?_
    refine st_skip (word := "keep") s7 rfl rfl fun H8 e8 s8 => ?_
    refine st_skip2 (word := "keep") s8 rfl rfl rfl fun H9 e9 s9 => ?_
    refine st_skip (word := "keep") s9 rfl rfl fun H10 e10 s10 => ?_
    refine st_skip (word := "keep") s10 rfl rfl fun H11 e11 s11 => ?_
    refine st_skip (word := "keep") s11 rfl rfl fun H12 e12 s12 => ?_
    exact q3 _ H12 (ff.trans (.ex (((((e7.trans e8).trans e9).trans e10).trans e11).trans e12))) (b5.ex (((((e7.trans e8).trans e9).trans e10).trans e11).trans e12))
  | pack a =>
    refine st_skip (word := "pack") s3 rfl rfl fun H4 e4 s4 => ?_
    refine st_this2 (word := "pack") (b := isWhole (getP h a) bs) s4 rfl rfl rfl (et_B (ev_call (f := spf_lwhole K) (getP h a, bs) (ea_cons (ev_boxzs (b3'.ex e4) (ev_var rfl)) (ea_one (ev_wl rfl (WL.ex w3 e4)))) (pcs a))) (fun hb H5 e5 s5 => ?_) (fun hb H5 e5 s5 => ?_)
    · skip
      have eeA := (e4.trans e5)
      have bbA := b3'.ex eeA
      have wwA := WL.ex w3 eeA
      have spA := WL.ex wsp3 eeA
      have ha : a < h.length := hok
      obtain ⟨ks, k1, k2⟩ := bbA.shelf
      have few := BoxIs.few k2 k1.choose_spec.2.2 (by omega) fun b hb x hx => Nat.lt_of_lt_of_le ((kb.bk b hb).lt x hx) (b6 b hb)
      have zz : (cellsP (getP h a)).length ≤ 6 := by
        have := PcOk.few (pcs a) b6
        rwa [← cellsD_len, cellsD, List.length_map] at this
      refine for_shelve (K := K) (cs := cellsP (getP h a)) s5 rfl rfl rfl (by walk_at "gs") bbA.box (Ne.symm bbA.sh_bx) wwA k1 (by omega) fun σX HX ks' fX sX kX mX => ?_
      have b5 := bbA.shelved fX kX (bs' := shelveO bs (getP h a)) (shelve_of k2 kb.bk (pcs a) mX) (by cases z : getP h a with | none => rfl | some q => exact shelve_sizes (pcs a q z))
      have ff := (Frs.ex (W := [hl, sz, sh]) eeA).trans (fX.mono (by simp))
      have ea : actP (.pack a) wd h bs = (h, shelveO bs (getP h a)) := (by rw [actP_pack, if_pos hb])
      rw [ea] at q3
      have s6 := sX
      refine st_skip (word := "pack") s6 rfl rfl fun H7 e7 s7 => ?_
      refine st_skip (word := "pack") s7 rfl rfl fun H8 e8 s8 => ?_
      refine st_skip2 (word := "pack") s8 rfl rfl rfl fun H9 e9 s9 => ?_
      refine st_skip (word := "pack") s9 rfl rfl fun H10 e10 s10 => ?_
      refine st_skip (word := "pack") s10 rfl rfl fun H11 e11 s11 => ?_
      refine st_skip (word := "pack") s11 rfl rfl fun H12 e12 s12 => ?_
      exact q3 _ H12 (ff.trans (.ex (((((e7.trans e8).trans e9).trans e10).trans e11).trans e12))) (b5.ex (((((e7.trans e8).trans e9).trans e10).trans e11).trans e12))
    · have ea : actP (.pack a) wd h bs = (h, bs) := by rw [actP_pack, if_neg (by rw [hb]; decide)]
      rw [ea] at q3
      refine st_skip (word := "pack") s5 rfl rfl fun H6 e6 s6 => ?_
      refine st_skip (word := "pack") s6 rfl rfl fun H7 e7 s7 => ?_
      refine st_skip2 (word := "pack") s7 rfl rfl rfl fun H8 e8 s8 => ?_
      refine st_skip (word := "pack") s8 rfl rfl fun H9 e9 s9 => ?_
      refine st_skip (word := "pack") s9 rfl rfl fun H10 e10 s10 => ?_
      refine st_skip (word := "pack") s10 rfl rfl fun H11 e11 s11 => ?_
      exact q3 rows H11 (.ex (((((((e4.trans e5).trans e6).trans e7).trans e8).trans e9).trans e10).trans e11)) (b3'.ex (((((((e4.trans e5).trans e6).trans e7).trans e8).trans e9).trans e10).trans e11))
  | clear =>
    refine st_this (word := "clear") s3 rfl rfl fun H4 e4 s4 => ?_
    have eeA := e4
    have bbA := b3'.ex eeA
    have wwA := WL.ex w3 eeA
    have spA := WL.ex wsp3 eeA
    obtain ⟨ks, k1, k2⟩ := bbA.shelf
    refine st_clear (K := K) s4 (ev_boxS bbA.box (ev_var rfl)) k1 (fun H5 f5 s5 h5 => ?_) (by walk_at "gs")
    have b5 := bbA.shelved f5 h5 (clear_of bs) (clear_sizes bs)
    have ff := (Frs.ex (W := [hl, sz, sh]) e4).trans (f5.mono (by simp))
    refine st_skip2 (word := "clear") s5 rfl rfl rfl fun H6 e6 s6 => ?_
    refine st_skip (word := "clear") s6 rfl rfl fun H7 e7 s7 => ?_
    refine st_skip (word := "clear") s7 rfl rfl fun H8 e8 s8 => ?_
    refine st_skip2 (word := "clear") s8 rfl rfl rfl fun H9 e9 s9 => ?_
    refine st_skip (word := "clear") s9 rfl rfl fun H10 e10 s10 => ?_
    refine st_skip (word := "clear") s10 rfl rfl fun H11 e11 s11 => ?_
    refine st_skip (word := "clear") s11 rfl rfl fun H12 e12 s12 => ?_
    exact q3 _ H12 (ff.trans (.ex ((((((e6.trans e7).trans e8).trans e9).trans e10).trans e11).trans e12))) (b5.ex ((((((e6.trans e7).trans e8).trans e9).trans e10).trans e11).trans e12))
  | tell a =>
    refine st_skip (word := "tell") s3 rfl rfl fun H4 e4 s4 => ?_
    refine st_skip2 (word := "tell") s4 rfl rfl rfl fun H5 e5 s5 => ?_
    refine st_skip (word := "tell") s5 rfl rfl fun H6 e6 s6 => ?_
    refine st_skip (word := "tell") s6 rfl rfl fun H7 e7 s7 => ?_
    refine st_skip2 (word := "tell") s7 rfl rfl rfl fun H8 e8 s8 => ?_
    refine st_skip (word := "tell") s8 rfl rfl fun H9 e9 s9 => ?_
    refine st_skip (word := "tell") s9 rfl rfl fun H10 e10 s10 => ?_
    refine st_skip (word := "tell") s10 rfl rfl fun H11 e11 s11 => ?_
    exact q3 rows H11 (.ex (((((((e4.trans e5).trans e6).trans e7).trans e8).trans e9).trans e10).trans e11)) (b3'.ex (((((((e4.trans e5).trans e6).trans e7).trans e8).trans e9).trans e10).trans e11))
  | ask p =>
    refine st_skip (word := "ask") s3 rfl rfl fun H4 e4 s4 => ?_
    refine st_skip2 (word := "ask") s4 rfl rfl rfl fun H5 e5 s5 => ?_
    refine st_skip (word := "ask") s5 rfl rfl fun H6 e6 s6 => ?_
    refine st_skip (word := "ask") s6 rfl rfl fun H7 e7 s7 => ?_
    refine st_skip2 (word := "ask") s7 rfl rfl rfl fun H8 e8 s8 => ?_
    refine st_skip (word := "ask") s8 rfl rfl fun H9 e9 s9 => ?_
    refine st_skip (word := "ask") s9 rfl rfl fun H10 e10 s10 => ?_
    refine st_skip (word := "ask") s10 rfl rfl fun H11 e11 s11 => ?_
    exact q3 rows H11 (.ex (((((((e4.trans e5).trans e6).trans e7).trans e8).trans e9).trans e10).trans e11)) (b3'.ex (((((((e4.trans e5).trans e6).trans e7).trans e8).trans e9).trans e10).trans e11))
  | void a p =>
    refine st_skip (word := "void") s3 rfl rfl fun H4 e4 s4 => ?_
    refine st_skip2 (word := "void") s4 rfl rfl rfl fun H5 e5 s5 => ?_
    refine st_skip (word := "void") s5 rfl rfl fun H6 e6 s6 => ?_
    refine st_skip (word := "void") s6 rfl rfl fun H7 e7 s7 => ?_
    refine st_skip2 (word := "void") s7 rfl rfl rfl fun H8 e8 s8 => ?_
    refine st_skip (word := "void") s8 rfl rfl fun H9 e9 s9 => ?_
    refine st_skip (word := "void") s9 rfl rfl fun H10 e10 s10 => ?_
    refine st_skip (word := "void") s10 rfl rfl fun H11 e11 s11 => ?_
    exact q3 rows H11 (.ex (((((((e4.trans e5).trans e6).trans e7).trans e8).trans e9).trans e10).trans e11)) (b3'.ex (((((((e4.trans e5).trans e6).trans e7).trans e8).trans e9).trans e10).trans e11))
  | jump p =>
    refine st_skip (word := "jump") s3 rfl rfl fun H4 e4 s4 => ?_
    refine st_skip2 (word := "jump") s4 rfl rfl rfl fun H5 e5 s5 => ?_
    refine st_skip (word := "jump") s5 rfl rfl fun H6 e6 s6 => ?_
    refine st_skip (word := "jump") s6 rfl rfl fun H7 e7 s7 => ?_
    refine st_skip2 (word := "jump") s7 rfl rfl rfl fun H8 e8 s8 => ?_
    refine st_skip (word := "jump") s8 rfl rfl fun H9 e9 s9 => ?_
    refine st_skip (word := "jump") s9 rfl rfl fun H10 e10 s10 => ?_
    refine st_skip (word := "jump") s10 rfl rfl fun H11 e11 s11 => ?_
    exact q3 rows H11 (.ex (((((((e4.trans e5).trans e6).trans e7).trans e8).trans e9).trans e10).trans e11)) (b3'.ex (((((((e4.trans e5).trans e6).trans e7).trans e8).trans e9).trans e10).trans e11))
def sp_lstand (P : Program) (w : World) (K : PySem.W.Frag) : Sp := fun vs H Q _ => ∃ (i : Nat) (bx hl sz sh : Addr) (rows : List Addr) (h : List (Option Pc)) (bs : List Blk) (wd : Nat), vs = [.int i, .ref bx] ∧ BoxIs P w K H bx hl sz sh rows h bs ∧ HBOk wd h.length h bs ∧ wd ≤ 6 ∧ h.length ≤ 3 ∧ bs.length ≤ 8 ∧
  ∀ v H', Ex H H' → DIs K H' v (encSG (settle i h bs)) → Q v H'
def seenP (o : List Nat) (bs : List Blk) (L : List Nat) : List Blk := (L.filter fun n => decide (n ∈ o)).map fun n => bs.getD n (0, [])
def lostP (o : List Nat) (bs : List Blk) (L : List Nat) : Nat := ((L.filter fun n => !decide (n ∈ o) && !(bs.getD n (0, [])).2.isEmpty).map fun n => (bs.getD n (0, [])).1 - (bs.getD n (0, [])).2.length).sum
def othersP (o : List Nat) (bs : List Blk) : List Nat := (List.range bs.length).filter fun n => !decide (n ∈ o)
theorem seen_all {o : List Nat} {bs : List Blk} : seenP o bs (o ++ othersP o bs) = o.map fun n => bs.getD n (0, []) := by
  unfold seenP othersP
  rw [List.filter_append, List.filter_eq_self.mpr (fun x hx => decide_eq_true hx), List.filter_filter, List.filter_eq_nil_iff.mpr (fun x _ => by simp), List.append_nil]
theorem lost_all {o : List Nat} {bs : List Blk} : lostP o bs (o ++ othersP o bs) = goneOf o bs := by
  unfold lostP othersP goneOf
  rw [List.filter_append, List.filter_eq_nil_iff.mpr (fun x hx => by simp [hx]), List.nil_append, List.filter_filter]
  congr 2
  refine List.filter_congr fun x _ => ?_
  cases decide (x ∈ o) <;> simp
theorem seen_snoc {o : List Nat} {bs : List Blk} {L : List Nat} {n : Nat} : seenP o bs (L ++ [n]) = seenP o bs L ++ if n ∈ o then [bs.getD n (0, [])] else [] := by
  unfold seenP
  rw [List.filter_append, List.map_append]
  by_cases z : n ∈ o <;> simp [z]
theorem lost_snoc {o : List Nat} {bs : List Blk} {L : List Nat} {n : Nat} : lostP o bs (L ++ [n]) = lostP o bs L + if n ∈ o then 0 else if (bs.getD n (0, [])).2.isEmpty then 0 else (bs.getD n (0, [])).1 - (bs.getD n (0, [])).2.length := by
  unfold lostP
  rw [List.filter_append, List.map_append, List.sum_append]
  congr 1
  by_cases z : n ∈ o
  · simp [z]
  · cases y : (bs.getD n (0, [])).2.isEmpty with
    | true =>
      rw [if_neg z, if_pos rfl, List.filter_cons_of_neg (by rw [y]; simp)]
      rfl
    | false =>
      rw [if_neg z, if_neg (by decide), List.filter_cons_of_pos (by rw [y]; simp [z])]
      exact Nat.add_zero _
theorem cut_one (p : Option Pc) (h : ∀ n f l, p = some (n, f, l) → f < l) : cutD (cellsD p) none (some (1 : Int)) = match p with
    | none => []
    | some (n, f, l) => [cellD n f] := by
  unfold cutD
  have e : HT.sIx (cellsD p).length (cellsD p).length (some (1 : Int)) = min 1 (cellsD p).length := HT.sIx_nat _ _ 1
  rw [e, HT.sIx_none]
  match p with
  | none => rfl
  | some (n, f, l) =>
    have := h n f l rfl
    rw [cellsD_len, cellsD_some]
    have e1 : l - f = (l - f - 1) + 1 := by omega
    have e2 : min 1 (sizeOf (some (n, f, l))) - 0 = 1 := by show min 1 (l - f) - 0 = 1; omega
    rw [e2, e1, List.range_succ_eq_map]
    rfl
abbrev sc__law_stand_N : List Str := ["_law_index", "_law_box_here", "_law_sizes", "_law_order", "_law_row", "_law_held", "_law_rows", "_law_gone", "_law_number_here", "_law_cell", "_law_some", "_law_at"]
theorem sc__law_stand : FnScope ["_law_index", "_law_box_here", "_law_sizes", "_law_order", "_law_row", "_law_held", "_law_rows", "_law_gone", "_law_number_here", "_law_cell", "_law_some", "_law_at"] ["_law_index", "_law_box_here"] (defScope (topS 53)) := ⟨rfl, rfl, rfl, by decide +kernel, rfl, by decide +kernel, by decide +kernel⟩
theorem ok__law_stand {P : Program} {w : World} {K : PySem.W.Frag} {mg : Str → Option Value} {base : Heap} {ad : Ads} (fx : Fx K mg ad) : Ok P w K mg base CX0 1 "_law_stand" ["_law_index", "_law_box_here"] (sp_lstand P w K) := by
  refine fx.d__law_stand.ok sc__law_stand (fun _ _ _ _ _ _ us hl => match us, hl with | [_, _], _ => rfl) (fun vs H Q E q => by obtain ⟨_, _, _, _, _, _, _, _, _, rfl, _⟩ := q; rfl) fun f cdv A outer s H vs Q E hr hcd h => ?_
  refine ⟨_, PSs.nox (pss_cons (ps_asg (pe_tup (pa_cons (pe_ix (xIx P w K hr.units) (pv 1) pe_str (fun _ _ => rfl)) (pa_cons (pe_lst (pa_nil)) pa_nil))) (xTg K (n := 2) rfl (pgs_cons (pg_name (i := 2) sc__law_stand.nd rfl (by first | exact .inl rfl | exact .inr rfl)) (pgs_cons (pg_name (i := 3) sc__law_stand.nd rfl (by first | exact .inl rfl | exact .inr rfl)) pgs_nil)))) (pss_cons (ps_for PassesOwn.never rfl (xSeq K (pe_ix (xIx P w K hr.units) (pv 1) pe_str (fun _ _ => rfl))) (pg_name (i := 4) sc__law_stand.nd rfl (by first | exact .inl rfl | exact .inr rfl)) (pss_one (ps_for PassesOwn.never rfl (xSeq K (pe_slice (xSl K) (pv 4) po_none (po_some pe_int))) (pg_name (i := 9) sc__law_stand.nd rfl (by first | exact .inl rfl | exact .inr rfl)) (pss_one (ps_if (pt_cmpR (xNotIn P w K hr.units) (pe_ix (xIx P w K hr.units) (pv 9) pe_int (fun _ _ => rfl)) (pv 3) (by rfl)) (pss_one (ps_expr (xAppend K (pv 3) (pa_cons (pe_ix (xIx P w K hr.units) (pv 9) pe_int (fun _ _ => rfl)) pa_nil)))) (pss_nil)))))) (pss_cons (ps_set (i := 5) sc__law_stand.nd rfl (by first | exact .inl rfl | exact .inr rfl) (pe_lst (pa_nil))) (pss_cons (ps_for PassesOwn.never rfl (xSeq K (pe_ix (xIx P w K hr.units) (pv 1) pe_str (fun _ _ => rfl))) (pg_name (i := 4) sc__law_stand.nd rfl (by first | exact .inl rfl | exact .inr rfl)) (pss_one (ps_expr (xAppend K (pv 5) (pa_cons (pe_ifExp (pt_cmpR (xNe K hr.units) (pv 4) (pe_lst (pa_nil)) (nomark _)) (pe_tup (pa_cons (xListIx K (pv 3) (pa_cons (pe_ix (xIx P w K hr.units) (pe_ix (xIx P w K hr.units) (pv 4) pe_int (fun _ _ => rfl)) pe_int (fun _ _ => rfl)) pa_nil)) (pa_cons (pe_ix (xIx P w K hr.units) (pe_ix (xIx P w K hr.units) (pv 4) pe_int (fun _ _ => rfl)) pe_int (fun _ _ => rfl)) (pa_cons (pe_op (xAdd K) (pe_ix (xIx P w K hr.units) (pe_ix (xIx P w K hr.units) (pv 4) (pe_un un_neg pe_int) (fun _ _ => rfl)) pe_int (fun _ _ => rfl)) pe_int) pa_nil)))) pe_non) pa_nil))))) (pss_cons (ps_par (i := 6) (j := 7) (by rfl) sc__law_stand.nd rfl rfl (by decide) rfl rfl (pa_cons (pe_lst (pa_nil)) (pa_cons pe_int pa_nil)) (by rfl)) (pss_cons (ps_for PassesOwn.never rfl (xSeq K (pe_op (xAdd K) (pv 3) (pe_lock (pe_lc (own := [("_law_number_here", 8)]) rfl sc__law_stand.nd (pi_keys (pv 2)) (blkOk_by (own := [("_law_number_here", 8)]) (N := ["_law_index", "_law_box_here", "_law_sizes", "_law_order", "_law_row", "_law_held", "_law_rows", "_law_gone", "_law_number_here", "_law_cell", "_law_some", "_law_at"]) (sc := defScope (topS 53)) (by decide +kernel)) (fun _ _ _ _ _ => (pg_name (i := 8) sc__law_stand.nd rfl (by first | exact .inl rfl | exact .inr rfl))) (fun _ _ _ _ _ => (pts_one (pt_cmpR (xNotIn P w K hr.units) (pv 8) (pv 3) (by rfl)))) (fun _ _ _ _ _ => pv 8))))) (pg_name (i := 8) sc__law_stand.nd rfl (by first | exact .inl rfl | exact .inr rfl)) (pss_cons (ps_setLc (i := 10) (own := [("_law_at", 11)]) rfl sc__law_stand.nd rfl rfl (sw_true rfl rfl rfl (by decide +kernel)) (pi_range1 (by rfl) fx.range_ (pa_cons (pe_ix (xIx P w K hr.units) (pv 2) (pv 8) (fun _ _ => rfl)) pa_nil)) (blkOk_by (own := [("_law_at", 11)]) (N := ["_law_index", "_law_box_here", "_law_sizes", "_law_order", "_law_row", "_law_held", "_law_rows", "_law_gone", "_law_number_here", "_law_cell", "_law_some", "_law_at"]) (sc := defScope (topS 53)) (by decide +kernel)) (fun _ _ _ _ _ => (pg_name (i := 11) sc__law_stand.nd rfl (by first | exact .inl rfl | exact .inr rfl))) (fun _ _ _ _ _ => (pts_one (pt_cmpR (xIn P w K hr.units) (pe_tup (pa_cons (pv 8) (pa_cons (pv 11) pa_nil))) (pe_ix (xIx P w K hr.units) (pv 1) pe_str (fun _ _ => rfl)) (by rfl)))) (fun _ _ _ _ _ => pv 11)) (pss_one (ps_if (pt_cmpR (xIn P w K hr.units) (pv 8) (pv 3) (by rfl)) (pss_one (ps_expr (xAppend K (pv 6) (pa_cons (pe_tup (pa_cons (pe_ix (xIx P w K hr.units) (pv 2) (pv 8) (fun _ _ => rfl)) (pa_cons (pe_callTy (xTuple K) (by rfl) fx.tuple_ (by decide +kernel) (pa_cons (pv 10) pa_nil)) pa_nil))) pa_nil)))) (pss_one (ps_if (pt_cmpR (xNe K hr.units) (pv 10) (pe_lst (pa_nil)) (nomark _)) (pss_one (ps_set (i := 7) sc__law_stand.nd rfl (by first | exact .inl rfl | exact .inr rfl) (pe_op op_sub (pe_op (xAdd K) (pv 7) (pe_ix (xIx P w K hr.units) (pv 2) (pv 8) (fun _ _ => rfl))) (pe_callB (xLen P w K) (by rfl) fx.len_ (by decide +kernel) (pa_cons (pv 10) pa_nil))))) (pss_nil))))))) (pss_one (ps_ret (pe_tup (pa_cons (pe_tup (pa_cons (pv 0) (pa_cons (pe_callTy (xTuple K) (by rfl) fx.tuple_ (by decide +kernel) (pa_cons (pv 5) pa_nil)) (pa_cons (pe_callTy (xTuple K) (by rfl) fx.tuple_ (by decide +kernel) (pa_cons (pv 6) pa_nil)) pa_nil)))) (pa_cons (pv 7) pa_nil))))))))))), ?_⟩
  obtain ⟨ix, bx, hl, sz, sh, rows, h, bs, wd, rfl, b, kb, hw6, h3, b8, q⟩ := h
  have s0 : SOk _ _ H := SOk.entry (N := sc__law_stand_N) (As := [aD K (natD ix), aV (.ref bx)]) (.cons (.int _) (.cons rfl .nil))
  have sz6 : ∀ n, n < bs.length → blkSize bs n ≤ 6 := fun n hn => by rw [blkSize_at hn]; exact Nat.le_trans (kb.bk _ (List.getElem_mem hn)).sw hw6
  refine st_asgVN (K := K) (ev_boxZ b.box (ev_var rfl)) (ev_lst (K := K) ed_nil (Nat.zero_le _)) s0 fun oa σ1 H1 ho e1 s1 w1 => ?_
  have b1 := b.ex e1
  have o_hl : oa ≠ hl := fun z => by rw [z, b.rws.at_] at ho; cases ho
  have sqh := Evl.sq_of (K := K) b1.rws.at_
  have G1 : ∀ H', Ex H1 H' → BoxIs P w K H' bx hl sz sh rows h bs := fun H' e => b1.ex e
  refine st_forA (K := K) (ev_boxH b1.box (ev_var rfl)) s1 sqh fun H2 e2 s2 => ⟨fun i σ' H' => SOk (((entry sc__law_stand_N [aD K (natD ix), aV (.ref bx)]).set 2 (some (aV (.ref sz)))).set 3 (some (aV (.ref oa)))) σ' H' ∧ Frs [oa] H2 H' ∧ WL K H' oa ((ordTo h i).map natD), ⟨s2, .refl, WL.ex w1 e2⟩, ?_, ?_, ?_⟩
  · rintro i σ' H' ⟨_, f', _⟩
    exact Evl.sq_of (f'.keep _ (by simp [Ne.symm o_hl]) _ ((b1.ex e2).rws.at_))
  · rintro i x σ' H' hx ⟨s', f', w'⟩
    rw [List.getElem?_map] at hx
    obtain ⟨r, hr, rfl⟩ := Option.map_eq_some_iff.mp hx
    have hil : i < h.length := by
      have := (List.getElem?_eq_some_iff.mp hr).1
      rw [b.rws.len] at this
      exact this
    have eO : Ex H H' := f'.ofNew (e1.trans e2) fun a ha => by rw [List.mem_singleton.mp ha]; exact ho
    obtain ⟨wr, _⟩ := (b.ex eO).rws.row i r h[i] hr (List.getElem?_eq_getElem hil)
    have hget : h[i]? = some h[i] := List.getElem?_eq_getElem hil
    have hm : h[i] ∈ h := List.getElem_mem hil
    generalize h[i] = pp at *
    have hfl : ∀ n f l, pp = some (n, f, l) → f < l := fun n f l e => (kb.pc _ (e ▸ hm)).fl
    have s5 := s'.set 4 (A := aV (.ref r)) (v := .ref r) rfl (Nat.le_of_ble_eq_true rfl)
    have hcut := cut_one pp hfl
    refine st_forN (K := K) (ev_slL (ev_wl rfl wr) eo_none (eo_some (K := K) ev_int)) s5 fun H6 la hla e6 s6 wla => ⟨fun j σ' H' => SOk ((((entry sc__law_stand_N [aD K (natD ix), aV (.ref bx)]).set 2 (some (aV (.ref sz)))).set 3 (some (aV (.ref oa)))).set 4 (some (aV (.ref r)))) σ' H' ∧ Frs [oa] H6 H' ∧ WL K H' oa ((if j = 0 then ordTo h i else ordTo h (i + 1)).map natD), ⟨s6, .refl, WL.ex w' e6⟩, ?_, ?_, ?_⟩
    · rintro j σ' H' ⟨_, f'', _⟩
      exact ⟨[oa], by simp [Ne.symm (WL.ne_none w' hla)], f''⟩
    · rintro j d y σ7 H7 hj ⟨s7, f7, w7⟩ hy
      rw [hcut] at hj
      match pp with
      | none => cases j <;> cases hj
      | some (n, f, l) =>
        cases j with
        | succ j => cases hj
        | zero =>
          have ed := Option.some.inj hj
          subst ed
          have ho3 := ordTo_some hget
          have olen := ordTo_len h i
          have s8 := s7.set 9 (A := aD K (cellD n f)) hy (Nat.le_of_ble_eq_true rfl)
          have w7 : WL K H7 oa ((ordTo h i).map natD) := w7
          refine st_if (b := !decide (n ∈ ordTo h i)) (et_is (et_test (ev_notInL (ev_ixT (ev_var rfl) ev_int rfl) (ev_wl rfl w7) rfl flat_nats)) (by rw [← mem_nats]; rfl)) s8 (fun hb H9 e9 s9 => ?_) (fun hb H9 e9 s9 => ?_)
          · have hno : n ∉ ordTo h i := by simpa using hb
            refine st_append (K := K) (d := natD n) (ev_var rfl) (ev_ixT (ev_var rfl) ev_int rfl) s9 (WL.ex w7 e9) (by rw [List.length_map]; omega) (fun H10 f10 s10 w10 => ?_) (by walk_at "gs")
            rw [if_neg hno] at ho3
            refine ⟨s10.unset rfl, (f7.trans (.ex e9)).trans f10, ?_⟩
            rw [if_neg (by omega), ho3, List.map_append]
            exact w10
          · have hyes : n ∈ ordTo h i := by simpa using hb
            rw [if_pos hyes] at ho3
            refine ⟨s9.unset rfl, f7.trans (.ex e9), ?_⟩
            rw [if_neg (by omega), ho3]
            exact WL.ex w7 e9
    · rintro σ7 H7 ⟨s7, f7, w7⟩
      refine ⟨s7.unset rfl, (f'.trans (.ex e6)).trans f7, ?_⟩
      rw [hcut] at w7
      match pp with
      | none =>
        have e := ordTo_none hget
        rw [e]
        exact w7
      | some (n, f, l) => exact w7
  rintro σ3 H3 ⟨s3, f3, w3⟩
  have rlen : (rows.map V.ref).length = h.length := by rw [List.length_map, b.rws.len]
  rw [rlen, ordTo_all] at w3
  have e03 : Ex H H3 := f3.ofNew (e1.trans e2) fun a ha => by rw [List.mem_singleton.mp ha]; exact ho
  have olen : (ordOf h).length ≤ 3 := by
    have := ordTo_len h h.length
    rw [ordTo_all] at this
    omega
  have o_lt : ∀ n ∈ ordOf h, n < bs.length := fun n hn => by
    obtain ⟨f, l, hm⟩ := (mem_ordOf h n).mp hn
    exact (kb.pc _ hm).n
  -- held
  refine EvN.st (n := 5) (ev_lst (K := K) ed_nil (Nat.zero_le _)) s3 fun he σ4 H4 hhe e4 s4 wh => ?_
  have e04 := e03.trans e4
  have w4 := WL.ex w3 e4
  have he_hl : he ≠ hl := fun z => by rw [z, (b.ex e03).rws.at_] at hhe; cases hhe
  have he_oa : oa ≠ he := WL.ne_none w3 hhe
  refine st_forA (K := K) (ev_boxH (b.ex e04).box (ev_var rfl)) s4 (Evl.sq_of (b.ex e04).rws.at_) fun H5 e5 s5 => ⟨fun i σ' H' => SOk ((((entry sc__law_stand_N [aD K (natD ix), aV (.ref bx)]).set 2 (some (aV (.ref sz)))).set 3 (some (aV (.ref oa)))).set 5 (some (aV (.ref he)))) σ' H' ∧ Frs [he] H5 H' ∧ WL K H' he (((h.take i).map (renum (ordOf h))).map encP), ⟨s5, .refl, WL.ex wh e5⟩, ?_, ?_, ?_⟩
  · rintro i σ' H' ⟨_, f', _⟩
    exact Evl.sq_of (f'.keep _ (by simp [Ne.symm he_hl]) _ ((b.ex (e04.trans e5)).rws.at_))
  · rintro i x σ' H' hx ⟨s', f', w'⟩
    rw [List.getElem?_map] at hx
    obtain ⟨r, hr, rfl⟩ := Option.map_eq_some_iff.mp hx
    have hil : i < h.length := by
      have := (List.getElem?_eq_some_iff.mp hr).1
      rw [b.rws.len] at this
      exact this
    have eO : Ex H3 H' := f'.ofNew (e4.trans e5) fun a ha => by rw [List.mem_singleton.mp ha]; exact hhe
    obtain ⟨wr, _⟩ := (b.ex (e03.trans eO)).rws.row i r h[i] hr (List.getElem?_eq_getElem hil)
    have hm : h[i] ∈ h := List.getElem_mem hil
    have tk : h.take (i + 1) = h.take i ++ [h[i]] := by rw [List.take_succ, List.getElem?_eq_getElem hil]; rfl
    generalize h[i] = pp at *
    have hpc : ∀ q, pp = some q → PcOk bs q := fun q e => kb.pc q (e ▸ hm)
    have s6 := s'.set 4 (A := aV (.ref r)) (v := .ref r) rfl (Nat.le_of_ble_eq_true rfl)
    have wO := WL.ex w3 eO
    have test : EvT (tTest (tOp (rNeU K) (tVar 4) (tLst tNil))) (((((entry sc__law_stand_N [aD K (natD ix), aV (.ref bx)]).set 2 (some (aV (.ref sz)))).set 3 (some (aV (.ref oa)))).set 5 (some (aV (.ref he)))).set 4 (some (aV (.ref r)))) H' (!decide (pp = none)) := et_is (et_test (ev_neN (ev_wl rfl wr) (cellsD_lay pp))) (by rw [cellsD_empty hpc])
    refine st_append (K := K) (d := encP (renum (ordOf h) pp)) (ev_var rfl) ?_ s6 w' (by rw [List.length_map, List.length_map, List.length_take]; omega) (fun H7 f7 s7 w7 => ?_) (by walk_at "gs")
    · match pp with
      | none => exact ev_ifF test rfl ev_non
      | some (n, f, l) =>
        have a1 : f < l := (hpc _ rfl).fl
        refine ev_ifT test rfl (ev_tup (ed_cons (ev_listIx (ev_var rfl) wO (ev_ixT (ev_ixL (ev_wl rfl wr) ev_int (cellsD_first a1)) ev_int rfl) ((mem_ordOf h n).mpr ⟨f, l, hm⟩)) (ed_cons (ev_ixT (ev_ixL (ev_wl rfl wr) ev_int (cellsD_first a1)) ev_int rfl) (ed_cons (ev_is (ev_add (ev_ixT (ev_ixL (ev_wl rfl wr) (ev_neg ev_int) (cellsD_last a1)) ev_int rfl) ev_int) ?_) ed_nil))) (by show 3 ≤ 100000; decide))
        have : ((l - 1 : Nat) : Int) + 1 = (l : Int) := by omega
        rw [this]
    · refine ⟨s7.gle (by walk_at "gle"), f'.trans f7, ?_⟩
      rw [tk, List.map_append, List.map_append]
      exact w7
  rintro σ6 H6 ⟨s6, f6, w6⟩
  rw [rlen, List.take_length] at w6
  have eO6 : Ex H3 H6 := f6.ofNew (e4.trans e5) fun a ha => by rw [List.mem_singleton.mp ha]; exact hhe
  have e06 := e03.trans eO6
  have wo6 := WL.ex w3 eO6
  refine st_parN (n := 6) (m := 7) (ev_lst (K := K) ed_nil (Nat.zero_le _)) (B := aD K (natD 0)) ev_int s6 fun ra σ7 H7 hra e7 s7 wra => ?_
  have e07 := e06.trans e7
  have wo7 := WL.ex wo6 e7
  have b7 := b.ex e07
  have wh7 := WL.ex w6 e7
  have ra_oa : oa ≠ ra := WL.ne_none wo6 hra
  have ra_he : he ≠ ra := WL.ne_none w6 hra
  have o_sz : oa ≠ sz := wo7.ne_dK b7.sizes
  have ra_bx : bx ≠ ra := fun z => by rw [← z, (b.ex e06).box] at hra; cases hra
  have hsz7 := b7.sizes
  have b6 := b.ex e06
  obtain ⟨ks, k1, k2⟩ := b6.shelf
  have hL : ((ordOf h).map natD ++ (othersP (ordOf h) bs).map natD) = (ordOf h ++ othersP (ordOf h) bs).map natD := (List.map_append).symm
  have othl : (othersP (ordOf h) bs).length ≤ bs.length := by
    have := List.length_filter_le (fun n => !decide (n ∈ ordOf h)) (List.range bs.length)
    rw [List.length_range] at this
    exact this
  have L_lt : ∀ n ∈ ordOf h ++ othersP (ordOf h) bs, n < bs.length := fun n hn => by
    rcases List.mem_append.mp hn with z | z
    · exact o_lt n z
    · exact List.mem_range.mp (List.mem_filter.mp z).1
  refine st_forN (K := K) (ev_catN (ev_var rfl) (en_lock (G1 := (((((entry sc__law_stand_N [aD K (natD ix), aV (.ref bx)]).set 2 (some (aV (.ref sz)))).set 3 (some (aV (.ref oa)))).set 5 (some (aV (.ref he)))).set 6 (some (aV (.ref ra)))).set 7 (some (aD K (natD 0)))) sz _ hsz7 trivial rfl (fun σ H1 od s e => s.le (le_lock (e _ _ hsz7) rfl) (by walk_at "gl")) fun od => en_lc (K := K) (List.range bs.length) natD _ (fun n => !decide (n ∈ ordOf h)) natD (ei_keysK (ev_var rfl) upd_same) (by unfold sizesK; rw [List.map_map]; rfl) (by rw [List.length_range]; omega) (fun n _ => tg_name) (fun n _ => et_is (et_test (ev_notInL (ev_var rfl) (ev_wl rfl (WL.upd wo7 hsz7 rfl o_sz)) rfl flat_nats)) (by rw [mem_nats])) fun n _ _ => ev_var rfl) wo7 (by rw [List.length_map, List.length_map]; have := othl; unfold othersP at this; omega)) s7 fun H8 la hla e8 s8 wla => ⟨fun i σ' H' => SOk (((((((entry sc__law_stand_N [aD K (natD ix), aV (.ref bx)]).set 2 (some (aV (.ref sz)))).set 3 (some (aV (.ref oa)))).set 5 (some (aV (.ref he)))).set 6 (some (aV (.ref ra)))).set 7 (some (aD K (natD (lostP (ordOf h) bs ((ordOf h ++ othersP (ordOf h) bs).take i))))))) σ' H' ∧ Frs [ra] H8 H' ∧ WL K H' ra ((seenP (ordOf h) bs ((ordOf h ++ othersP (ordOf h) bs).take i)).map encB), ⟨s8, .refl, WL.ex wra e8⟩, ?_, ?_, ?_⟩
  · rintro i σ' H' ⟨_, f', _⟩
    exact ⟨[ra], by simp [Ne.symm (WL.ne_none wra hla)], f'⟩
  · rintro i d x σ' H' hd ⟨s', f', w'⟩ hx
    have hL2 : ((ordOf h).map natD ++ ((List.range bs.length).filter fun n => !decide (n ∈ ordOf h)).map natD) = (ordOf h ++ othersP (ordOf h) bs).map natD := hL
    rw [hL2, List.getElem?_map] at hd
    obtain ⟨n, hn, rfl⟩ := Option.map_eq_some_iff.mp hd
    have hmn : n ∈ ordOf h ++ othersP (ordOf h) bs := List.mem_of_getElem? hn
    have hnl := L_lt n hmn
    have tk : (ordOf h ++ othersP (ordOf h) bs).take (i + 1) = (ordOf h ++ othersP (ordOf h) bs).take i ++ [n] := by rw [List.take_succ, hn]; rfl
    have seen := seen_snoc (o := ordOf h) (bs := bs) (L := (ordOf h ++ othersP (ordOf h) bs).take i) (n := n)
    have lost := lost_snoc (o := ordOf h) (bs := bs) (L := (ordOf h ++ othersP (ordOf h) bs).take i) (n := n)
    rw [← tk] at seen lost
    have kn := kb.bk _ (List.getElem_mem hnl)
    have hgb := getB hnl
    rw [hgb] at seen lost
    have hcl := kn.cl
    have hbz := blkSize_at hnl
    have h6 := sz6 n hnl
    have hsh : ∀ x, (n, x) ∈ ks ↔ x ∈ bs[n].2 := fun x => by rw [k2 n x, hgb]
    generalize hblk : bs[n] = blk at *
    obtain ⟨bz, bc⟩ := blk
    have hbz : blkSize bs n = bz := hbz
    have e6' : Ex H6 H' := f'.ofNew (e7.trans e8) fun a ha => by rw [List.mem_singleton.mp ha]; exact hra
    have s9 := s'.set 8 (A := aD K (natD n)) hx (Nat.le_of_ble_eq_true rfl)
    have fx : ∀ H'', Ex H' H'' → H'' sz = some (.dK (intK (sizesK bs))) ∧ H'' bx = some (.dK (boxK hl sz sh)) ∧ Shf P w K H'' sh ks := fun H'' e => ⟨(e6'.trans e) _ _ b6.sizes, (e6'.trans e) _ _ b6.box, k1.ex (e6'.trans e)⟩
    have evz : ∀ {G : Gam} {H'' : Hp}, Ex H' H'' → G[2]? = some (some (aV (.ref sz))) → G[8]? = some (some (aD K (natD n))) → EvG (tOp (rIxU P w K) (tVar 2) (tVar 8)) G H'' (aD K (natD bz)) := fun e g2 g8 => ev_to (ev_getK (K := K) (i := (n : Nat)) (fx _ e).1 (ev_var g2) (ev_var g8) (sizesK_at hnl)) fun _ _ z => by rw [hbz] at z; exact num_of z
    refine EvN.st (n := 10) (K := K) (en_lc (K := K) (List.range bz) natD _ (fun x => decide ((n, x) ∈ ks)) natD (ei_range1 (ea_one (evz (Evl.Ex.refl _) rfl rfl)) (by omega)) rfl (by rw [List.length_range]; omega) (fun x _ => tg_name) (fun x _ => et_test (ev_inShelf (c := (n, x)) (ev_tup (ed_cons (ev_var rfl) (ed_cons (ev_var rfl) ed_nil)) (by show 2 ≤ 100000; decide)) (ev_boxS (fx _ (Evl.Ex.refl _)).2.1 (ev_var rfl)) (fx _ (Evl.Ex.refl _)).2.2)) fun x _ _ => ev_var rfl) s9 fun sa σ10 H10 hsa e10 s10 ws => ?_
    have efl : (List.range bz).filter (fun x => decide ((n, x) ∈ ks)) = bc := by
      have hf : (List.range bz).filter (fun x => decide (x ∈ bc)) = bc := filter_asc kn.asc kn.lt
      exact (List.filter_congr fun x _ => decide_eq_decide.mpr (hsh x)).trans hf
    rw [efl] at ws
    have e8' : Ex H6 H10 := e6'.trans e10
    have wo10 := WL.ex wo6 e8'
    have w10 := WL.ex w' e10
    refine st_if (et_is (et_test (ev_inL (ev_var rfl) (ev_wl rfl wo10) rfl flat_nats)) mem_nats) s10 (fun hb H11 e11 s11 => ?_) (fun hb H11 e11 s11 => ?_)
    · have hin : n ∈ ordOf h := of_decide_eq_true hb
      rw [if_pos hin] at seen lost
      refine st_append (K := K) (d := encB (bz, bc)) (ev_var rfl) (ev_tup (ed_cons (evz (e10.trans e11) rfl rfl) (ed_cons (ev_tupleL (ev_wl rfl (WL.ex ws e11))) ed_nil)) (by show 2 ≤ 100000; decide)) s11 (WL.ex w10 e11) ?_ (fun H12 f12 s12 w12 => ?_) (by walk_at "gs")
      · rw [List.length_map]
        unfold seenP
        rw [List.length_map]
        have := List.length_filter_le (fun n => decide (n ∈ ordOf h)) ((ordOf h ++ othersP (ordOf h) bs).take i)
        rw [List.length_take, List.length_append] at this
        omega
      · refine ⟨?_, ((f'.trans (.ex e10)).trans (.ex e11)).trans f12, ?_⟩
        · rw [lost, Nat.add_zero]
          exact s12.gle (by walk_at "gle")
        · rw [seen, List.map_append]
          exact w12
    · have hnin : n ∉ ordOf h := of_decide_eq_false hb
      rw [if_neg hnin] at seen lost
      rw [List.append_nil] at seen
      refine st_if (et_test (ev_neN (ev_wl rfl (WL.ex ws e11)) (lay_nats _))) s11 (fun hb2 H12 e12 s12 => ?_) (fun hb2 H12 e12 s12 => ?_)
      · rw [List.isEmpty_map] at hb2
        have hb2 : bc.isEmpty = false := by simpa using hb2
        rw [if_neg (by show ¬ bc.isEmpty = true; rw [hb2]; decide)] at lost
        refine st_set (A := aD K (natD (lostP (ordOf h) bs ((ordOf h ++ othersP (ordOf h) bs).take (i + 1))))) (ev_is (ev_sub (ev_add (ev_var rfl) (evz ((e10.trans e11).trans e12) rfl rfl)) (ev_lenL (ev_wl rfl (WL.ex ws (e11.trans e12))))) ?_) s12 fun σ13 H13 e13 s13 => ?_
        · rw [List.length_map, lost]
          have hcl : bc.length ≤ bz := hcl
          show NestedKey.num _ = NestedKey.num _
          congr 1
          show _ = ((lostP _ _ _ + (bz - bc.length) : Nat) : Int)
          omega
        · refine ⟨s13.gle (by walk_at "gle"), (((f'.trans (.ex e10)).trans (.ex e11)).trans (.ex e12)).trans (.ex e13), ?_⟩
          rw [seen]
          exact WL.ex w10 ((e11.trans e12).trans e13)
      · rw [List.isEmpty_map] at hb2
        have hb2 : bc.isEmpty = true := by simpa using hb2
        rw [if_pos (show (bz, bc).2.isEmpty = true from hb2), Nat.add_zero] at lost
        refine ⟨?_, ((f'.trans (.ex e10)).trans (.ex e11)).trans (.ex e12), ?_⟩
        · rw [lost]
          exact s12.gle (by walk_at "gle")
        · rw [seen]
          exact WL.ex w10 (e11.trans e12)
  · rintro σ9 H9 ⟨s9, f9, w9⟩
    have hL2 : ((ordOf h).map natD ++ ((List.range bs.length).filter fun n => !decide (n ∈ ordOf h)).map natD) = (ordOf h ++ othersP (ordOf h) bs).map natD := hL
    rw [hL2, List.length_map, List.take_length] at s9 w9
    rw [seen_all] at w9
    rw [lost_all] at s9
    have e6' : Ex H6 H9 := f9.ofNew (e7.trans e8) fun a ha => by rw [List.mem_singleton.mp ha]; exact hra
    refine st_ret (A := aD K (encSG (settle ix h bs))) (ev_tup (ed_cons (ev_tup (ed_cons (ev_var rfl) (ed_cons (ev_tupleL (ev_wl rfl (WL.ex w6 e6'))) (ed_cons (ev_tupleL (ev_wl rfl w9)) ed_nil))) (by show 3 ≤ 100000; decide)) (ed_cons (ev_var rfl) ed_nil)) (by show 2 ≤ 100000; decide)) s9 fun v H10 e10 pv => ?_
    exact q v H10 ((e06.trans e6').trans e10) pv
def spf_lfirst (K : PySem.W.Frag) : Spf Pln := ⟨fun p => [aD K (plnD p)], fun p => p.Ok, fun p => aD K (encS (startP p))⟩
abbrev sc__law_first_N : List Str := ["_law_plain_here"]
theorem sc__law_first : FnScope ["_law_plain_here"] ["_law_plain_here"] (defScope (topS 55)) := ⟨rfl, rfl, rfl, by decide +kernel, rfl, by decide +kernel, by decide +kernel⟩
theorem ok__law_first {P : Program} {w : World} {K : PySem.W.Frag} {mg : Str → Option Value} {base : Heap} {ad : Ads} (fx : Fx K mg ad) : Ok P w K mg base CX0 1 "_law_first" ["_law_plain_here"] ((spf_lfirst K).sp) := by
  refine fx.d__law_first.ok sc__law_first (fun _ _ _ _ _ _ us hl => match us, hl with | [_], _ => rfl) (Spf.len fun _ => rfl) fun f cdv A outer s H vs Q E hr hcd h => ?_
  refine ⟨_, PSs.nox (pss_one (ps_ret (pe_tup (pa_cons pe_int (pa_cons (pe_op (xMul K) (pe_tup (pa_cons pe_non pa_nil)) (pe_ix (xIx P w K hr.units) (pv 0) pe_int (fun _ _ => rfl))) (pa_cons (pe_tup (pa_nil)) pa_nil)))))), ?_⟩
  refine Spf.run h fun p hp => sr_ret ?_
  have hp : p.Ok := hp
  refine ev_is (ev_tup (ed_cons ev_int (ed_cons (ev_rep (n := p.many) (ev_tup (ed_cons ev_non ed_nil) (by show 1 ≤ 100000; decide)) (ev_ixT (ev_var rfl) ev_int rfl) hp.m1 (by have := hp.m3; omega)) (ed_cons ev_t0 ed_nil))) (by show 3 ≤ 100000; decide)) ?_
  unfold encS startP
  simp [encP]
def spf_lclear (K : PySem.W.Frag) : Spf (Pln × Stand) := ⟨fun x => [aD K (plnD x.1), aD K (encS x.2)], fun x => x.1.Ok, fun x => aB (clearP x.1 x.2)⟩
abbrev sc__law_is_clear_N : List Str := ["_law_plain_here", "_law_stand_here"]
theorem sc__law_is_clear : FnScope ["_law_plain_here", "_law_stand_here"] ["_law_plain_here", "_law_stand_here"] (defScope (topS 57)) := ⟨rfl, rfl, rfl, by decide +kernel, rfl, by decide +kernel, by decide +kernel⟩
theorem ok__law_is_clear {P : Program} {w : World} {K : PySem.W.Frag} {mg : Str → Option Value} {base : Heap} {ad : Ads} (fx : Fx K mg ad) : Ok P w K mg base CX0 1 "_law_is_clear" ["_law_plain_here", "_law_stand_here"] ((spf_lclear K).sp) := by
  refine fx.d__law_is_clear.ok sc__law_is_clear (fun _ _ _ _ _ _ us hl => match us, hl with | [_, _], _ => rfl) (Spf.len fun _ => rfl) fun f cdv A outer s H vs Q E hr hcd h => ?_
  refine ⟨_, PSs.nox (pss_one (ps_ret (pe_and (pe_cmpR op_lt (pe_ix (xIx P w K hr.units) (pv 1) pe_int (fun _ _ => rfl)) (pe_callB (xLen P w K) (by rfl) fx.len_ (by decide +kernel) (pa_cons (pe_ix (xIx P w K hr.units) (pv 0) pe_int (fun _ _ => rfl)) pa_nil)) (nomark _)) (pe_one (pe_cmpR (xEq K hr.units) (pe_ix (xIx P w K hr.units) (pe_ix (xIx P w K hr.units) (pv 0) pe_int (fun _ _ => rfl)) (pe_ix (xIx P w K hr.units) (pv 1) pe_int (fun _ _ => rfl)) (fun _ _ => rfl)) (pe_tup (pa_cons pe_str pa_nil)) (nomark _)))))), ?_⟩
  refine Spf.run h fun x hp => sr_ret ?_
  obtain ⟨p, s⟩ := x
  have hp : p.Ok := hp
  refine ev_isB (ev_andV (c := clearP p s) (ev_cmpI (ev_ixT (ev_var rfl) ev_int rfl) (ev_lenT (ev_ixT (ev_var rfl) ev_int rfl))) fun hb => ?_) ?_
  · have hi : s.1 < p.steps.length := by
      have : decide ((s.1 : Int) < ((p.steps.map encT).length : Nat)) = true := hb
      have := of_decide_eq_true this
      rw [List.length_map] at this
      omega
    have hat : (p.steps.map encT)[s.1]? = some (encT p.steps[s.1]) := by simp [hi]
    refine ev_isB (ev_eq (ev_ixT (ev_ixT (ev_var rfl) ev_int rfl) (ev_ixT (ev_var rfl) ev_int rfl) (atD hat)) (ev_tup (ed_cons ev_str ed_nil) (by show 1 ≤ 100000; decide)) ((lay_encT (hp.ok _ (List.getElem_mem hi)) hp.m3).mono (by decide)) (Lay.mono (n := 1) (Lay.tup fun x hx => by rw [List.mem_singleton.mp hx]; exact Lay.text (by decide +kernel)) (by decide))) ?_
    rw [encT_clear]
    unfold clearP
    rw [List.getElem?_eq_getElem hi]
    cases p.steps[s.1] <;> rfl
  · show (decide ((s.1 : Int) < ((p.steps.map encT).length : Nat)) && clearP p s) = clearP p s
    by_cases hi : s.1 < p.steps.length
    · rw [decide_eq_true (by rw [List.length_map]; omega), Bool.true_and]
    · rw [decide_eq_false (by rw [List.length_map]; omega), Bool.false_and]
      unfold clearP
      rw [List.getElem?_eq_none (by omega)]
def spf_lafter (K : PySem.W.Frag) : Spf (Pln × Stand) := ⟨fun x => [aD K (plnD x.1), aD K (encS x.2)], fun x => x.1.Ok ∧ SOk1 x.1 x.2, fun x => aL K ((afterP x.1 x.2).map encSG)⟩
theorem SOk1.bx {p : Pln} {s : Stand} (hp : p.Ok) (k : SOk1 p s) : BxOk s := ⟨by rw [k.hb.len]; exact hp.m3, Nat.le_trans k.few hp.m3, fun b hb => ⟨Nat.le_trans (k.hb.bk b hb).sw hp.w6, (k.hb.bk b hb).lt⟩, k.hb.pc⟩
theorem turns_nat {p i : Nat} (h : p ≠ i + 1) : (sort2 (p : Int) ((i : Int) + 1)).map NestedKey.num = (if p < i + 1 then [p, i + 1] else [i + 1, p]).map natD := by
  unfold sort2
  rw [if_neg (by omega)]
  by_cases e2 : p < i + 1
  · rw [if_pos (by omega), if_pos e2]; rfl
  · rw [if_neg (by omega), if_neg e2]; rfl
theorem st_places {K : PySem.W.Frag} {P : Program} {w : World} {G : Gam} {σ : L2.St} {H H0 : Hp} {bx hl sz sh pl : Addr} {rows : List Addr} {hd : List (Option Pc)} {bk : List Blk} {EE : Ends} {t : Stp} {i wd n : Nat} {rest : TS} (s : SOk G σ H) (g2 : G[2]? = some (some (aD K (natD i)))) (g3 : G[3]? = some (some (aV (.ref bx)))) (g4 : G[4]? = some (some (aD K (encT t)))) (g5 : G[5]? = some (some (aV (.ref pl)))) (b : BoxIs P w K H bx hl sz sh rows hd bk) (wl : WL K H pl ([i + 1].map natD)) (hpl : H0 pl = none) (e0 : Ex H0 H)
    (hok : t.Ok wd hd.length n) (h3 : hd.length ≤ 3) (pcs : ∀ a q, getP hd a = some q → PcOk bk q) (q : ∀ p σ' H', H0 p = none → Ex H H' → SOk (G.set 5 (some (aV (.ref p)))) σ' H' → WL K H' p ((turnsP t i hd).map natD) → rest EE σ' H') (hn : 5 < G.length) :
    tSeq (tIfS (tOr (tTest (tOp (rEqU K) (tOp (rIxU P w K) (tVar 4) (tC (.int 0))) (tC (.str "jump")))) (tAnd (tTest (tOp (rEqU K) (tOp (rIxU P w K) (tVar 4) (tC (.int 0))) (tC (.str "void")))) (tTest (tOp (rEqU K) (tOp (rIxU P w K) (tOp (rIxU P w K) (tVar 3) (tC (.str "held"))) (tBM K "str" rStrIx (tC (.str "abc")) (tCons (tOp (rIxU P w K) (tVar 4) (tC (.int 1))) tNil))) (tLst tNil))))) (tAsg (tLst (tCons (tOp (rIxU P w K) (tVar 4) (tUn (rU fun i => .int (-i)) (tC (.int 1)))) tNil)) (gName 5)) tNext)
      (tSeq (tIfS (tAnd (tTest (tOp (rEqU K) (tOp (rIxU P w K) (tVar 4) (tC (.int 0))) (tC (.str "ask")))) (tTest (tOp (rNeU K) (tOp (rIxU P w K) (tVar 4) (tC (.int 1))) (tOp (rAddU K) (tVar 2) (tC (.int 1)))))) (tAsg (tCB (rSortU w K) (tCons (tLst (tCons (tOp (rIxU P w K) (tVar 4) (tC (.int 1))) (tCons (tOp (rAddU K) (tVar 2) (tC (.int 1))) tNil))) tNil)) (gName 5)) tNext) rest) EE σ H := by
  have word : ∀ {x : Str} {H' : Hp} {G' : Gam}, G'[4]? = some (some (aD K (encT t))) → EvT (tTest (tOp (rEqU K) (tOp (rIxU P w K) (tVar 4) (tC (.int 0))) (tC (.str x)))) G' H' (decide (wordT t = x)) := fun {x H' G'} g => by
    rw [encT_eq] at g
    exact et_test (ev_eqS (ev_ixT (ev_var g) ev_int (atD (n := 0) rfl)) ev_str)
  have g4' : ∀ {A : Option Asr}, (G.set 5 A)[4]? = some (some (aD K (encT t))) := fun {A} => by rw [List.getElem?_set_ne (by decide)]; exact g4
  have g2' : ∀ {A : Option Asr}, (G.set 5 A)[2]? = some (some (aD K (natD i))) := fun {A} => by rw [List.getElem?_set_ne (by decide)]; exact g2
  have keep : ∀ {σ' H'}, SOk G σ' H' → SOk (G.set 5 (some (aV (.ref pl)))) σ' H' := fun {σ' H'} z => by
    have : G.set 5 (some (aV (.ref pl))) = G := by
      refine List.ext_getElem? fun m => ?_
      by_cases y : 5 = m
      · subst y; rw [List.getElem?_set_self hn, g5]
      · rw [List.getElem?_set_ne y]
    rw [this]; exact z
  -- the second if, where it is not taken
  have no2 : ∀ {G' : Gam} {σ' H'}, G'[4]? = some (some (aD K (encT t))) → SOk G' σ' H' → decide (wordT t = "ask") = false → (∀ H'', Ex H' H'' → SOk G' σ' H'' → rest EE σ' H'') → tSeq (tIfS (tAnd (tTest (tOp (rEqU K) (tOp (rIxU P w K) (tVar 4) (tC (.int 0))) (tC (.str "ask")))) (tTest (tOp (rNeU K) (tOp (rIxU P w K) (tVar 4) (tC (.int 1))) (tOp (rAddU K) (tVar 2) (tC (.int 1)))))) (tAsg (tCB (rSortU w K) (tCons (tLst (tCons (tOp (rIxU P w K) (tVar 4) (tC (.int 1))) (tCons (tOp (rAddU K) (tVar 2) (tC (.int 1))) tNil))) tNil)) (gName 5)) tNext) rest EE σ' H' := fun {G' σ' H'} g s' hw k =>
    st_if (b := false) (et_is (et_and (c := false) (word g) fun z => by rw [hw] at z; cases z) (by rw [hw]; rfl)) s' (fun z => by cases z) fun _ H'' e'' s'' => k H'' e'' s''
  have none : (∀ H', Ex H H' → SOk G σ H' → EvT (tOr (tTest (tOp (rEqU K) (tOp (rIxU P w K) (tVar 4) (tC (.int 0))) (tC (.str "jump")))) (tAnd (tTest (tOp (rEqU K) (tOp (rIxU P w K) (tVar 4) (tC (.int 0))) (tC (.str "void")))) (tTest (tOp (rEqU K) (tOp (rIxU P w K) (tOp (rIxU P w K) (tVar 3) (tC (.str "held"))) (tBM K "str" rStrIx (tC (.str "abc")) (tCons (tOp (rIxU P w K) (tVar 4) (tC (.int 1))) tNil))) (tLst tNil))))) G H' false) → decide (wordT t = "ask") = false → turnsP t i hd = [i + 1] → tSeq (tIfS (tOr (tTest (tOp (rEqU K) (tOp (rIxU P w K) (tVar 4) (tC (.int 0))) (tC (.str "jump")))) (tAnd (tTest (tOp (rEqU K) (tOp (rIxU P w K) (tVar 4) (tC (.int 0))) (tC (.str "void")))) (tTest (tOp (rEqU K) (tOp (rIxU P w K) (tOp (rIxU P w K) (tVar 3) (tC (.str "held"))) (tBM K "str" rStrIx (tC (.str "abc")) (tCons (tOp (rIxU P w K) (tVar 4) (tC (.int 1))) tNil))) (tLst tNil))))) (tAsg (tLst (tCons (tOp (rIxU P w K) (tVar 4) (tUn (rU fun i => .int (-i)) (tC (.int 1)))) tNil)) (gName 5)) tNext)
      (tSeq (tIfS (tAnd (tTest (tOp (rEqU K) (tOp (rIxU P w K) (tVar 4) (tC (.int 0))) (tC (.str "ask")))) (tTest (tOp (rNeU K) (tOp (rIxU P w K) (tVar 4) (tC (.int 1))) (tOp (rAddU K) (tVar 2) (tC (.int 1)))))) (tAsg (tCB (rSortU w K) (tCons (tLst (tCons (tOp (rIxU P w K) (tVar 4) (tC (.int 1))) (tCons (tOp (rAddU K) (tVar 2) (tC (.int 1))) tNil))) tNil)) (gName 5)) tNext) rest) EE σ H := fun ht hw et =>
    st_if (b := false) (ht H (Evl.Ex.refl H) s) s (fun z => by cases z) fun _ H1 e1 s1 => no2 g4 s1 hw fun H2 e2 s2 => q pl σ H2 hpl (e1.trans e2) (keep s2) (by rw [et]; exact WL.ex wl (e1.trans e2))
  cases t with
  | jump p =>
    refine st_if (b := true) (et_is (et_or (c := false) (word g4) fun z => Bool.noConfusion (z.symm.trans (rfl : _ = true))) rfl) s (fun _ H1 e1 s1 => ?_) (fun z => by cases z)
    refine EvN.st (n := 5) (ev_lst (K := K) (ed_cons (ev_ixT (ev_var g4) (ev_neg ev_int) (atEnd rfl)) ed_nil) (by show 1 ≤ 100000; decide)) s1 (fun p' σ2 H2 hp' e2 s2 w2 => ?_) hn
    exact no2 g4' s2 rfl fun H3 e3 s3 => q p' σ2 H3 (Evl.fresh_back (e0.trans e1) hp') ((e1.trans e2).trans e3) s3 (WL.ex w2 e3)
  | void a p =>
    obtain ⟨o1, o2⟩ := hok
    obtain ⟨r, gr, wr, _⟩ := b.rws.get o1
    refine st_if (b := decide (getP hd a = Option.none)) (et_is (et_or (c := decide (getP hd a = Option.none)) (word g4) fun _ => et_is (et_and (c := decide (getP hd a = Option.none)) (word g4) fun _ => et_is (et_test (ev_eqN (ev_ref (n := 0) (ev_row b (ev_boxH b.box (ev_var g3)) (ev_abcIx (ev_ixT (ev_var g4) ev_int rfl) (Nat.lt_of_lt_of_le o1 h3)) gr) wr) (cellsD_lay _))) (cellsD_empty (pcs a))) rfl) rfl) s (fun hb H1 e1 s1 => ?_) (fun hb H1 e1 s1 => ?_)
    · have e : getP hd a = Option.none := of_decide_eq_true hb
      have et : turnsP (.void a p) i hd = [p] := if_pos e
      refine EvN.st (n := 5) (ev_lst (K := K) (ed_cons (ev_ixT (ev_var g4) (ev_neg ev_int) (atEnd rfl)) ed_nil) (by show 1 ≤ 100000; decide)) s1 (fun p' σ2 H2 hp' e2 s2 w2 => ?_) hn
      exact no2 g4' s2 rfl fun H3 e3 s3 => q p' σ2 H3 (Evl.fresh_back (e0.trans e1) hp') ((e1.trans e2).trans e3) s3 (by rw [et]; exact WL.ex w2 e3)
    · have e : ¬ getP hd a = Option.none := of_decide_eq_false hb
      have et : turnsP (.void a p) i hd = [i + 1] := if_neg e
      exact no2 g4 s1 rfl fun H2 e2 s2 => q pl σ H2 hpl (e1.trans e2) (keep s2) (by rw [et]; exact WL.ex wl (e1.trans e2))
  | ask p =>
    refine st_if (b := false) (et_is (et_or (c := false) (word g4) fun _ => et_is (et_and (c := false) (word g4) fun z => Bool.noConfusion (z.symm.trans (rfl : _ = false))) rfl) rfl) s (fun z => by cases z) fun _ H1 e1 s1 => ?_
    refine st_if (b := !decide (p = i + 1)) (et_is (et_and (c := !decide (p = i + 1)) (word g4) fun _ => et_is (et_test (ev_neI (ev_ixT (ev_var g4) ev_int rfl) (ev_add (ev_var g2) ev_int))) ?_) rfl) s1 (fun hb H2 e2 s2 => ?_) (fun hb H2 e2 s2 => ?_)
    · congr 1
      exact decide_eq_decide.mpr (by omega)
    · have hne : p ≠ i + 1 := by simpa using hb
      have et : turnsP (.ask p) i hd = if p < i + 1 then [p, i + 1] else [i + 1, p] := if_neg hne
      refine EvN.st (n := 5) (en_sortL2 (K := K) (i := (p : Nat)) (j := (i : Int) + 1) (EvN.l (ev_lst (K := K) (ed_cons (ev_ixT (ev_var g4) ev_int rfl) (ed_cons (ev_add (ev_var g2) ev_int) ed_nil)) (by show 2 ≤ 100000; decide))) (by omega)) s2 (fun p' σ2 H3 hp' e3 s3 w3 => ?_) hn
      exact q p' σ2 H3 (Evl.fresh_back ((e0.trans e1).trans e2) hp') ((e1.trans e2).trans e3) s3 (by rw [et, ← turns_nat hne]; exact w3)
    · have he : p = i + 1 := by simpa using hb
      have et : turnsP (.ask p) i hd = [p] := if_pos he
      exact q pl σ H2 hpl (e1.trans e2) (keep s2) (by rw [et, he]; exact WL.ex wl (e1.trans e2))
  | _ => exact none (fun H' e' s' => et_is (et_or (c := false) (word g4) fun _ => et_is (et_and (c := false) (word g4) fun z => Bool.noConfusion (z.symm.trans (rfl : _ = false))) rfl) rfl) rfl rfl
abbrev sc__law_after_N : List Str := ["_law_plain_here", "_law_stand_here", "_law_index", "_law_box_here", "_law_step_here", "_law_places", "_law_place"]
theorem sc__law_after : FnScope ["_law_plain_here", "_law_stand_here", "_law_index", "_law_box_here", "_law_step_here", "_law_places", "_law_place"] ["_law_plain_here", "_law_stand_here"] (defScope (topS 54)) := ⟨rfl, rfl, rfl, by decide +kernel, rfl, by decide +kernel, by decide +kernel⟩
theorem ok__law_after {P : Program} {w : World} {K : PySem.W.Frag} {mg : Str → Option Value} {base : Heap} {ad : Ads} (fx : Fx K mg ad) : Ok P w K mg base CX0 5 "_law_after" ["_law_plain_here", "_law_stand_here"] ((spf_lafter K).sp) := by
  refine fx.d__law_after.ok sc__law_after (fun _ _ _ _ _ _ us hl => match us, hl with | [_, _], _ => rfl) (Spf.len fun _ => rfl) fun f cdv A outer s H vs Q E hr hcd h => ?_
  refine ⟨_, PSs.nox (pss_cons (ps_asg (pe_tup (pa_cons (pe_ix (xIx P w K hr.units) (pv 1) pe_int (fun _ _ => rfl)) (pa_cons (pe_callD (ok__law_box (P := P) (w := w) (base := base) fx) (hr.mono (by decide)) (by rfl) (pa_cons (pv 1) pa_nil)) pa_nil))) (xTg K (n := 2) rfl (pgs_cons (pg_name (i := 2) sc__law_after.nd rfl (by first | exact .inl rfl | exact .inr rfl)) (pgs_cons (pg_name (i := 3) sc__law_after.nd rfl (by first | exact .inl rfl | exact .inr rfl)) pgs_nil)))) (pss_cons (ps_if (pt_cmpR (xEq K hr.units) (pv 2) (pe_callB (xLen P w K) (by rfl) fx.len_ (by decide +kernel) (pa_cons (pe_ix (xIx P w K hr.units) (pv 0) pe_int (fun _ _ => rfl)) pa_nil)) (nomark _)) (pss_one (ps_ret (pe_lst (pa_nil)))) (pss_nil)) (pss_cons (ps_par (i := 4) (j := 5) (by rfl) sc__law_after.nd rfl rfl (by decide) rfl rfl (pa_cons (pe_ix (xIx P w K hr.units) (pe_ix (xIx P w K hr.units) (pv 0) pe_int (fun _ _ => rfl)) (pv 2) (fun _ _ => rfl)) (pa_cons (pe_lst (pa_cons (pe_op (xAdd K) (pv 2) pe_int) pa_nil)) pa_nil)) (by rfl)) (pss_cons (ps_if (PW.pt (pw_or (pt_cmpR (xEq K hr.units) (pe_ix (xIx P w K hr.units) (pv 4) pe_int (fun _ _ => rfl)) pe_str (nomark _)) (pw_or1 (PW.pt (pw_and (pt_cmpR (xEq K hr.units) (pe_ix (xIx P w K hr.units) (pv 4) pe_int (fun _ _ => rfl)) pe_str (nomark _)) (pw_and1 (pt_cmpR (xEq K hr.units) (pe_ix (xIx P w K hr.units) (pe_ix (xIx P w K hr.units) (pv 3) pe_str (fun _ _ => rfl)) (xStrIx K pe_str (pa_cons (pe_ix (xIx P w K hr.units) (pv 4) pe_int (fun _ _ => rfl)) pa_nil)) (fun _ _ => rfl)) (pe_lst (pa_nil)) (nomark _)))))))) (pss_one (ps_set (i := 5) sc__law_after.nd rfl (by first | exact .inl rfl | exact .inr rfl) (pe_lst (pa_cons (pe_ix (xIx P w K hr.units) (pv 4) (pe_un un_neg pe_int) (fun _ _ => rfl)) pa_nil)))) (pss_nil)) (pss_cons (ps_if (PW.pt (pw_and (pt_cmpR (xEq K hr.units) (pe_ix (xIx P w K hr.units) (pv 4) pe_int (fun _ _ => rfl)) pe_str (nomark _)) (pw_and1 (pt_cmpR (xNe K hr.units) (pe_ix (xIx P w K hr.units) (pv 4) pe_int (fun _ _ => rfl)) (pe_op (xAdd K) (pv 2) pe_int) (nomark _))))) (pss_one (ps_set (i := 5) sc__law_after.nd rfl (by first | exact .inl rfl | exact .inr rfl) (pe_callB (xSort w K rfl) (by rfl) fx.sorted_ (by decide +kernel) (pa_cons (pe_lst (pa_cons (pe_ix (xIx P w K hr.units) (pv 4) pe_int (fun _ _ => rfl)) (pa_cons (pe_op (xAdd K) (pv 2) pe_int) pa_nil))) pa_nil)))) (pss_nil)) (pss_cons (ps_expr (pe_callD (ok__law_do (P := P) (w := w) (base := base) fx) (hr.mono (by decide)) (by rfl) (pa_cons (pv 3) (pa_cons (pv 4) (pa_cons (pe_ix (xIx P w K hr.units) (pv 0) pe_int (fun _ _ => rfl)) pa_nil))))) (pss_one (ps_ret (pe_lc (own := [("_law_place", 6)]) rfl sc__law_after.nd (xSeq K (pv 5)) (blkOk_by (own := [("_law_place", 6)]) (N := ["_law_plain_here", "_law_stand_here", "_law_index", "_law_box_here", "_law_step_here", "_law_places", "_law_place"]) (sc := defScope (topS 54)) (by decide +kernel)) (fun _ _ _ _ _ => (pg_name (i := 6) sc__law_after.nd rfl (by first | exact .inl rfl | exact .inr rfl))) (fun _ _ _ _ _ => pts_nil) (fun _ _ _ _ _ => pe_callD (ok__law_stand (P := P) (w := w) (base := base) fx) (hr.mono (by decide)) (by rfl) (pa_cons (pv 6) (pa_cons (pv 3) pa_nil)))))))))))), ?_⟩
  obtain ⟨⟨p, i, hd, bk⟩, ⟨hp, hs⟩, hAll, q⟩ := h
  have hp : p.Ok := hp
  have hs : SOk1 p (i, hd, bk) := hs
  have s0 : SOk _ _ H := SOk.entry (N := sc__law_after_N) (As := [aD K (plnD p), aD K (encS (i, hd, bk))]) hAll
  have hk : HBOk p.wide p.many hd bk := hs.hb
  have hlen : hd.length = p.many := hk.len
  have hfew : bk.length ≤ p.many := hs.few
  have h3 := hp.m3
  have h6 := hp.w6
  have h12 := hp.s12
  -- index, box
  refine (ev_ixT (ev_var rfl) ev_int rfl : EvG _ _ _ (aD K (natD i))) _ H s0 (Evl.Ex.refl H) _ fun v1 H1 e1 p1 => ?_
  refine call_of (ea_one (ev_var rfl)) (s0.ex e1) fun vs H2 e2 s2 hv => ?_
  obtain ⟨x, rfl, px⟩ := aall1 (A := aD K (encS (i, hd, bk))) hv
  refine ⟨x, (i, hd, bk), rfl, px, SOk1.bx hp hs, fun bx hl sz sh rows H3 n1 n2 n3 n4 e3 b3 => ?_⟩
  refine ⟨by show 2 ≤ sizeLine; decide, fun T hT => ?_⟩
  have eT := Evl.Ex.new (o := .tup [v1, .ref bx]) hT
  refine ⟨T, [v1, .ref bx], rfl, .inl (.inl upd_same), rfl, v1, [.ref bx], rfl, .ref bx, [], rfl, rfl, ?_⟩
  have e12 := e1.trans e2
  have g1 : H bx = none := Evl.fresh_back e12 n1
  have g2 : H hl = none := Evl.fresh_back e12 n2
  have g3 : H sz = none := Evl.fresh_back e12 n3
  have g4 : H sh = none := Evl.fresh_back e12 n4
  have e04 := (e12.trans e3).trans eT
  have b4 : BoxIs P w K _ bx hl sz sh rows hd bk := b3.ex eT
  have p14 := (aD K (natD i)).mono ((e2.trans e3).trans eT) p1
  generalize upd H3 T (.tup [v1, .ref bx]) = H4 at *
  have s4 := ((s0.ex e04).set 2 (A := aD K (natD i)) p14 (Nat.le_of_ble_eq_true rfl)).set 3 (A := aV (.ref bx)) (v := .ref bx) rfl (Nat.le_of_ble_eq_true rfl)
  refine st_if (et_test (ev_eqI (ev_var rfl) (ev_lenT (ev_ixT (ev_var rfl) ev_int rfl)))) s4 (fun hb H5 e5 s5 => ?_) fun hb H5 e5 s5 => ?_
  · have ei : i = p.steps.length := by
      have : (i : Int) = ((p.steps.map encT).length : Nat) := of_decide_eq_true hb
      rw [List.length_map] at this
      omega
    have ea : afterP p (i, hd, bk) = [] := by
      unfold afterP
      rw [List.getElem?_eq_none (by show p.steps.length ≤ i; omega)]
    have ea2 : (afterP (p, i, hd, bk).1 (p, i, hd, bk).2).map encSG = [] := by rw [show afterP (p, i, hd, bk).1 (p, i, hd, bk).2 = [] from ea]; rfl
    refine st_ret (A := aL K []) ev_nil s5 fun v H6 e6 pv => q v H6 ((e04.trans e5).trans e6) ?_
    show (aL K ((afterP (p, i, hd, bk).1 (p, i, hd, bk).2).map encSG)).p v H6
    rw [ea2]
    exact pv
  have hi : i < p.steps.length := by
    have : ¬ (i : Int) = ((p.steps.map encT).length : Nat) := of_decide_eq_false hb
    rw [List.length_map] at this
    have := hs.ix
    have : i ≤ p.steps.length := this
    omega
  have hat : (p.steps.map encT)[i]? = some (encT p.steps[i]) := by simp [hi]
  have hok := hp.ok _ (List.getElem_mem hi)
  have ea : afterP p (i, hd, bk) = (turnsP p.steps[i] i hd).map fun j => settle j (actP p.steps[i] p.wide hd bk).1 (actP p.steps[i] p.wide hd bk).2 := by
    unfold afterP
    rw [List.getElem?_eq_getElem hi]
  generalize p.steps[i] = t at *
  refine st_parN2 (K := K) (B := aD K (encT t)) (ev_ixT (ev_ixT (ev_var rfl) ev_int rfl) (ev_var rfl) (atD hat)) (ev_lst (K := K) (ed_cons (ev_is (d := .num ((i : Int) + 1)) (d' := natD (i + 1)) (ev_add (ev_var rfl) ev_int) rfl) ed_nil) (by show 1 ≤ 100000; decide)) s5 fun pl6 σ6 H6 hpl6 e6 s6 w6 => ?_
  have e46 := e5.trans e6
  have b6 := b4.ex e46
  have pcs : ∀ a q, getP hd a = some q → PcOk bk q := fun a q e => hk.pc q (getP_mem e)
  have hok2 : t.Ok p.wide hd.length 12 := by rw [hlen]; exact hok.le h12
  have hk2 : HBOk p.wide hd.length hd bk := by rw [hlen]; exact hk
  refine st_places (K := K) (H0 := H4) (t := t) (i := i) s6 rfl rfl rfl rfl b6 w6 (Evl.fresh_back e5 hpl6) e46 hok2 (by omega) pcs (fun pl σ7 H7 hpl e7 s7 w7 => ?_) (Nat.le_of_ble_eq_true rfl)
  have b7 := b6.ex e7
  refine call_of (ea_cons (ev_var rfl) (ea_cons (ev_var rfl) (ea_one (ev_ixT (ev_var rfl) ev_int rfl)))) s7 fun vs H8 e8 s8 hv => ?_
  obtain ⟨x, y, z, rfl, px, py, pz⟩ := aall3 (A := aV (.ref bx)) (B := aD K (encT t)) (C := aD K (natD p.wide)) hv
  have ex : x = .ref bx := px
  have ez := DIs.num_inv pz
  subst ex ez
  refine ⟨bx, hl, sz, sh, rows, y, t, p.wide, hd, bk, rfl, b7.ex e8, py, hok2, hk2, by omega, by omega, hp.w1, h6, fun rows' H9 f9 b9 => ?_⟩
  have nhl : pl ≠ hl := fun z => by rw [z, b4.rws.at_] at hpl; cases hpl
  have nsz : pl ≠ sz := fun z => by rw [z, b4.sizes] at hpl; cases hpl
  have nsh : pl ≠ sh := fun z => by
    obtain ⟨ks, ⟨kvs, ⟨xs, hx, _⟩, _⟩, _⟩ := b4.shelf
    rw [z, hx] at hpl; cases hpl
  have w9 := (WL.ex w7 e8).frs f9 (by simp [nhl, nsz, nsh])
  have s9 := s8.st f9.t (by walk_at "gs")
  obtain ⟨k9, l9⟩ := act_ok hok2 hk2 hp.w1
  have e09 : Ex H H9 := f9.ofNew (((e04.trans e46).trans e7).trans e8) fun a ha => by
    simp only [List.mem_cons, List.not_mem_nil, or_false] at ha
    rcases ha with rfl | rfl | rfl
    · exact g2
    · exact g3
    · exact g4
  refine st_ret (A := aL K ((afterP p (i, hd, bk)).map encSG)) (ev_isL (EvN.l (en_map (K := K) (turnsP t i hd) natD _ (fun j => encSG (settle j (actP t p.wide hd bk).1 (actP t p.wide hd bk).2)) (ei_L (ev_wl rfl w9)) rfl ?_ (fun j _ => tg_name) fun j _ => ?_)) ?_) s9 fun v H10 e10 p10 => q v H10 (e09.trans e10) p10
  · have : (turnsP t i hd).length ≤ 2 := by
      unfold turnsP
      split <;> (try split) <;> (try split) <;> simp
    omega
  · refine ev_callS (ea_cons (ev_var rfl) (ea_one (ev_var rfl))) fun vs H10 e10 hv Q' q' => ?_
    obtain ⟨x, y, rfl, px, py⟩ := aall2 (A := aD K (natD j)) (B := aV (.ref bx)) hv
    have ex := DIs.num_inv px
    have ey : y = .ref bx := py
    subst ex ey
    refine ⟨j, bx, hl, sz, sh, rows', _, _, p.wide, rfl, b9.ex e10, ?_, h6, ?_, ?_, fun v H11 e11 p11 => q' v H11 e11 p11⟩
    · rw [k9.len]; exact k9
    · rw [k9.len]; omega
    · omega
  · rw [ea, List.map_map]; rfl
def spf_llost (K : PySem.W.Frag) : Spf Stand := ⟨fun s => [aD K (encS s)], fun s => BxOk s, fun s => aD K (natD (wasteP s))⟩
def coverP (h : List (Option Pc)) (n x : Nat) : Bool := h.any fun p => match p with
  | some (m, f, l) => decide (m = n) && (decide (f ≤ x) && decide (x < l))
  | none => false
theorem cover_iff {h : List (Option Pc)} {n x : Nat} : coverP h n x = true ↔ ∃ q ∈ h, (n, x) ∈ cellsP q := by
  unfold coverP
  rw [List.any_eq_true]
  constructor
  · rintro ⟨q, hq, hc⟩
    refine ⟨q, hq, ?_⟩
    match q with
    | none => cases hc
    | some (m, f, l) =>
      simp only [Bool.and_eq_true, decide_eq_true_eq] at hc
      exact mem_cellsP.mpr ⟨hc.1.symm, hc.2.1, hc.2.2⟩
  · rintro ⟨q, hq, hc⟩
    refine ⟨q, hq, ?_⟩
    match q with
    | none => cases hc
    | some (m, f, l) =>
      obtain ⟨h1, h2, h3⟩ := mem_cellsP.mp hc
      have h1 : n = m := h1
      have h2 : f ≤ x := h2
      have h3 : x < l := h3
      simp [h1, h2, h3]
theorem filter_two {α : Type} (p : α → Bool) : ∀ l : List α, (l.filter p).length + (l.filter fun x => !p x).length = l.length
  | [] => rfl
  | a :: l => by
    have := filter_two p l
    cases h : p a with
    | true => rw [List.filter_cons_of_pos h, List.filter_cons_of_neg (by rw [h]; decide), List.length_cons, List.length_cons]; omega
    | false => rw [List.filter_cons_of_neg (by rw [h]; decide), List.filter_cons_of_pos (by rw [h]; rfl), List.length_cons, List.length_cons]; omega
def seenC (h : List (Option Pc)) (bs : List Blk) (n : Nat) : List Nat := (List.range (bs.getD n (0, [])).1).filter fun x => decide (x ∈ (bs.getD n (0, [])).2) || coverP h n x
theorem seen_waste (h : List (Option Pc)) (bs : List Blk) (n : Nat) : (seenC h bs n).length + wasteB h n (bs.getD n (0, [])) = (bs.getD n (0, [])).1 := by
  have e := filter_two (fun x => decide (x ∈ (bs.getD n (0, [])).2) || coverP h n x) (List.range (bs.getD n (0, [])).1)
  rw [List.length_range] at e
  have e2 : wasteB h n (bs.getD n (0, [])) = ((List.range (bs.getD n (0, [])).1).filter fun x => !(decide (x ∈ (bs.getD n (0, [])).2) || coverP h n x)).length := by
    unfold wasteB
    congr 1
    refine List.filter_congr fun x _ => ?_
    rw [Bool.not_or]
    rfl
  rw [e2]
  exact e
theorem sum_add {α : Type} (f g : α → Nat) : ∀ l : List α, (l.map f).sum + (l.map g).sum = (l.map fun x => f x + g x).sum
  | [] => rfl
  | a :: l => by
    have := sum_add f g l
    simp only [List.map_cons, List.sum_cons]
    omega
theorem map_range_getD {α β : Type} (f : α → β) (d : α) (l : List α) : (List.range l.length).map (fun n => f (l.getD n d)) = l.map f := by
  refine List.ext_getElem (by simp) fun i h1 h2 => ?_
  simp at h1 h2
  simp [h2]
theorem lost_eq {i : Nat} {h : List (Option Pc)} {bs : List Blk} {ks : List (Nat × Nat)} (hn : ks.Nodup) (hk : ∀ c, c ∈ ks ↔ c.2 ∈ (bs.getD c.1 (0, [])).2 ∨ ∃ q ∈ h, c ∈ cellsP q) (hb : ∀ b ∈ bs, ∀ x ∈ b.2, x < b.1) (pc : ∀ q, some q ∈ h → PcOk bs q) : ks.length + wasteP (i, h, bs) = (bs.map (·.1)).sum := by
  have hU : ks.length = ((List.range bs.length).map fun n => (seenC h bs n).length).sum := by
    have hp : ks.Perm ((List.range bs.length).flatMap fun n => (seenC h bs n).map fun x => (n, x)) := by
      refine (List.perm_ext_iff_of_nodup hn ?_).mpr fun c => ?_
      · refine List.pairwise_flatMap.mpr ⟨fun n _ => ?_, ?_⟩
        · exact List.Pairwise.map _ (fun a b hab => fun e => hab (Prod.mk.inj e).2) (List.Pairwise.filter _ List.nodup_range)
        · refine (List.nodup_range (n := bs.length)).imp fun {a b} hab => ?_
          intro x hx y hy e
          obtain ⟨_, _, rfl⟩ := List.mem_map.mp hx
          obtain ⟨_, _, rfl⟩ := List.mem_map.mp hy
          exact hab (Prod.mk.inj e).1
      · obtain ⟨n, x⟩ := c
        rw [hk, List.mem_flatMap]
        constructor
        · intro hc
          have hlt : n < bs.length ∧ x < (bs.getD n (0, [])).1 := by
            rcases hc with hc | ⟨q, hq, hc⟩
            · have hc : x ∈ (bs.getD n (0, [])).2 := hc
              by_cases z : n < bs.length
              · rw [getB z] at hc ⊢
                exact ⟨z, hb _ (List.getElem_mem z) x hc⟩
              · rw [List.getD_eq_getElem?_getD, List.getElem?_eq_none (by omega)] at hc
                cases hc
            · match q with
              | none => cases hc
              | some (m, f, l) =>
                obtain ⟨h1, h2, h3⟩ := mem_cellsP.mp hc
                have h1 : n = m := h1
                have h3 : x < l := h3
                have k := pc _ hq
                have k1 : m < bs.length := k.n
                have k2 : l ≤ blkSize bs m := k.l
                unfold blkSize at k2
                subst h1
                exact ⟨k1, by omega⟩
          refine ⟨n, List.mem_range.mpr hlt.1, List.mem_map.mpr ⟨x, List.mem_filter.mpr ⟨List.mem_range.mpr hlt.2, ?_⟩, rfl⟩⟩
          rw [Bool.or_eq_true, decide_eq_true_eq, cover_iff]
          exact hc
        · rintro ⟨m, _, hm⟩
          obtain ⟨y, hy, e⟩ := List.mem_map.mp hm
          obtain ⟨rfl, rfl⟩ := Prod.mk.inj e
          have := (List.mem_filter.mp hy).2
          rw [Bool.or_eq_true, decide_eq_true_eq, cover_iff] at this
          exact this
    rw [hp.length_eq, List.length_flatMap]
    simp only [List.length_map]
  have hw : wasteP (i, h, bs) = ((List.range bs.length).map fun n => wasteB h n (bs.getD n (0, []))).sum := rfl
  rw [hU, hw, sum_add]
  have : ((List.range bs.length).map fun n => (seenC h bs n).length + wasteB h n (bs.getD n (0, []))) = (List.range bs.length).map fun n => (bs.getD n (0, [])).1 := List.map_congr_left fun n _ => seen_waste h bs n
  rw [this, map_range_getD (fun b : Blk => b.1) (0, []) bs]
abbrev sc__law_lost_N : List Str := ["_law_stand_here", "_law_box_here", "_law_row", "_law_cell", "_law_block"]
theorem sc__law_lost : FnScope ["_law_stand_here", "_law_box_here", "_law_row", "_law_cell", "_law_block"] ["_law_stand_here"] (defScope (topS 56)) := ⟨rfl, rfl, rfl, by decide +kernel, rfl, by decide +kernel, by decide +kernel⟩
theorem ok__law_lost {P : Program} {w : World} {K : PySem.W.Frag} {mg : Str → Option Value} {base : Heap} {ad : Ads} (fx : Fx K mg ad) : Ok P w K mg base CX0 2 "_law_lost" ["_law_stand_here"] ((spf_llost K).sp) := by
  refine fx.d__law_lost.ok sc__law_lost (fun _ _ _ _ _ _ us hl => match us, hl with | [_], _ => rfl) (Spf.len fun _ => rfl) fun f cdv A outer s H vs Q E hr hcd h => ?_
  refine ⟨_, PSs.nox (pss_cons (ps_set (i := 1) sc__law_lost.nd rfl (by first | exact .inl rfl | exact .inr rfl) (pe_callD (ok__law_box (P := P) (w := w) (base := base) fx) (hr.mono (by decide)) (by rfl) (pa_cons (pv 0) pa_nil))) (pss_cons (ps_for PassesOwn.never rfl (xSeq K (pe_ix (xIx P w K hr.units) (pv 1) pe_str (fun _ _ => rfl))) (pg_name (i := 2) sc__law_lost.nd rfl (by first | exact .inl rfl | exact .inr rfl)) (pss_one (ps_for PassesOwn.never rfl (xSeq K (pv 2)) (pg_name (i := 3) sc__law_lost.nd rfl (by first | exact .inl rfl | exact .inr rfl)) (pss_one (ps_asg pe_bl (pg_sub (pe_ix (xIx P w K hr.units) (pv 1) pe_str (fun _ _ => rfl)) (pv 3) (xSet P w K hr.units))))))) (pss_one (ps_ret (pe_op op_sub (pe_callB (xSum K rfl) (by rfl) fx.sum_ (by decide +kernel) (pa_cons (pe_lc (own := [("_law_block", 4)]) rfl sc__law_lost.nd (xSeq K (pe_ix (xIx P w K hr.units) (pv 0) pe_int (fun _ _ => rfl))) (blkOk_by (own := [("_law_block", 4)]) (N := ["_law_stand_here", "_law_box_here", "_law_row", "_law_cell", "_law_block"]) (sc := defScope (topS 56)) (by decide +kernel)) (fun _ _ _ _ _ => (pg_name (i := 4) sc__law_lost.nd rfl (by first | exact .inl rfl | exact .inr rfl))) (fun _ _ _ _ _ => pts_nil) (fun _ _ _ _ _ => pe_ix (xIx P w K hr.units) (pv 4) pe_int (fun _ _ => rfl))) pa_nil)) (pe_callB (xLen P w K) (by rfl) fx.len_ (by decide +kernel) (pa_cons (pe_ix (xIx P w K hr.units) (pv 1) pe_str (fun _ _ => rfl)) pa_nil))))))), ?_⟩
  obtain ⟨⟨ix, hd, bk⟩, ok, hAll, q⟩ := h
  have ok : BxOk (ix, hd, bk) := ok
  have h3 : hd.length ≤ 3 := ok.h3
  have b3 : bk.length ≤ 3 := ok.b3
  have s0 : SOk _ _ H := SOk.entry (N := sc__law_lost_N) hAll
  refine call_of (ea_one (ev_var rfl)) s0 fun vs H1 e1 s1 hv => ?_
  obtain ⟨x, rfl, px⟩ := aall1 (A := aD K (encS (ix, hd, bk))) hv
  refine ⟨x, (ix, hd, bk), rfl, px, ok, fun bx hl sz sh rows H2 n1 n2 n3 n4 e2 b => ?_⟩
  have b : BoxIs P w K H2 bx hl sz sh rows hd bk := b
  have g4 : H sh = none := Evl.fresh_back e1 n4
  have s2 := (s1.ex e2).set 1 (A := aV (.ref bx)) (v := .ref bx) rfl (Nat.le_of_ble_eq_true rfl)
  obtain ⟨ks0, k1, k2⟩ := b.shelf
  have uni : ∀ c, (c ∈ ks0 ∨ ∃ q ∈ hd, c ∈ cellsP q) → c.1 < 4 ∧ c.2 < 6 := fun c hc => by
    obtain ⟨n, x⟩ := c
    rcases hc with hc | ⟨q, hq, hc⟩
    · have := (k2 n x).mp hc
      by_cases z : n < bk.length
      · rw [getB z] at this
        have y := ok.b6 _ (List.getElem_mem z)
        have := y.2 x this
        have := y.1
        exact ⟨by show n < 4; omega, by show x < 6; omega⟩
      · rw [List.getD_eq_getElem?_getD, List.getElem?_eq_none (by omega)] at this
        cases this
    · match q with
      | none => cases hc
      | some (m, f, l) =>
        obtain ⟨h1, h2, h3⟩ := mem_cellsP.mp hc
        have h1 : n = m := h1
        have h3 : x < l := h3
        have k := ok.pc _ hq
        have y1 : m < bk.length := k.n
        have y2 : l ≤ blkSize bk m := k.l
        rw [blkSize_at y1] at y2
        have := (ok.b6 _ (List.getElem_mem y1)).1
        exact ⟨by show n < 4; omega, by show x < 6; omega⟩
  refine st_forA (K := K) (ev_boxH b.box (ev_var rfl)) s2 (Evl.sq_of b.rws.at_) fun H3 e3 s3 => ⟨fun i σ' H' => SOk ((entry sc__law_lost_N [aD K (encS (ix, hd, bk))]).set 1 (some (aV (.ref bx)))) σ' H' ∧ Frs [sh] H3 H' ∧ ∃ ks, Shf P w K H' sh ks ∧ ∀ c, c ∈ ks ↔ c ∈ ks0 ∨ ∃ q ∈ hd.take i, c ∈ cellsP q, ⟨s3, .refl, ks0, k1.ex e3, fun c => by simp⟩, ?_, ?_, ?_⟩
  · rintro i σ' H' ⟨_, f', _⟩
    exact Evl.sq_of (f'.keep _ (by simp [Ne.symm b.sh_hl]) _ (e3 _ _ b.rws.at_))
  · rintro i x σ' H' hx ⟨s', f', ks, m1, m2⟩
    rw [List.getElem?_map] at hx
    obtain ⟨r, hr, rfl⟩ := Option.map_eq_some_iff.mp hx
    have hil : i < hd.length := by
      have := (List.getElem?_eq_some_iff.mp hr).1
      rw [b.rws.len] at this
      exact this
    have tk : hd.take (i + 1) = hd.take i ++ [hd[i]] := by rw [List.take_succ, List.getElem?_eq_getElem hil]; rfl
    obtain ⟨wr, _⟩ := b.rws.row i r hd[i] hr (List.getElem?_eq_getElem hil)
    have rsh := k1.ne_wl wr
    have wr' := (WL.ex wr e3).frs f' (by simp [rsh])
    have s4 := s'.set 2 (A := aV (.ref r)) (v := .ref r) rfl (Nat.le_of_ble_eq_true rfl)
    have few : ks.length ≤ 24 := nodup_few m1.choose_spec.2.2 4 6 fun c hc => uni c (((m2 c).mp hc).imp id fun ⟨q, hq, hc⟩ => ⟨q, List.mem_of_mem_take hq, hc⟩)
    have zz : (cellsP hd[i]).length ≤ 6 := by
      have := PcOk.few (bs := bk) (p := hd[i]) (fun q e => ok.pc q (e ▸ List.getElem_mem hil)) (fun b hb => (ok.b6 b hb).1)
      rwa [← cellsD_len, cellsD, List.length_map] at this
    refine for_shelve (K := K) (cs := cellsP hd[i]) s4 rfl rfl rfl (by walk_at "gs") (f'.keep _ (by simp [Ne.symm b.sh_bx]) _ (e3 _ _ b.box)) (Ne.symm b.sh_bx) wr' m1 (by omega) fun σX HX ks' fX sX kX mX => ?_
    refine ⟨sX.unset rfl, f'.trans fX, ks', kX, fun c => ?_⟩
    rw [mX, m2, tk, or_assoc]
    refine or_congr_right ?_
    constructor
    · rintro (⟨q, hq, hc⟩ | hc)
      · exact ⟨q, List.mem_append_left _ hq, hc⟩
      · exact ⟨_, List.mem_append_right _ (List.mem_singleton.mpr rfl), hc⟩
    · rintro ⟨q, hq, hc⟩
      rcases List.mem_append.mp hq with z | z
      · exact .inl ⟨q, z, hc⟩
      · rw [List.mem_singleton.mp z] at hc
        exact .inr hc
  · rintro σ' H' ⟨s', f', ks, m1, m2⟩
    have rlen : (rows.map V.ref).length = hd.length := by rw [List.length_map, b.rws.len]
    rw [rlen, List.take_length] at m2
    have hle := lost_eq (i := ix) (h := hd) (bs := bk) m1.choose_spec.2.2 (fun c => (m2 c).trans (or_congr_left (k2 c.1 c.2))) (fun b hb => (ok.b6 b hb).2) ok.pc
    have box' := f'.keep _ (by simp [Ne.symm b.sh_bx]) _ (e3 _ _ b.box)
    refine st_ret (A := aD K (natD (wasteP (ix, hd, bk)))) (ev_is (ev_sub (ev_sum (K := K) (ns := bk.map fun b => (b.1 : Int)) (ev_isL (EvN.l (en_map (K := K) bk encB _ (fun b => natD b.1) (ei_T (ev_ixT (ev_var rfl) ev_int rfl)) rfl (by omega) (fun b _ => tg_name) fun b _ => ev_ixT (ev_var rfl) ev_int rfl)) (by rw [List.map_map]; rfl))) (ev_lenShelf (ev_boxS box' (ev_var rfl)) m1)) ?_) s' fun v H4 e4 pv => ?_
    · show NestedKey.num _ = NestedKey.num _
      congr 1
      rw [sum_cast (fun b : Blk => b.1) (fun b => (b.1 : Int)) bk fun _ _ => rfl]
      show (((bk.map fun b : Blk => b.1).sum : Nat) : Int) - (ks.length : Nat) = ((wasteP (ix, hd, bk) : Nat) : Int)
      have hle2 : ks.length + wasteP (ix, hd, bk) = (bk.map fun b : Blk => b.1).sum := hle
      omega
    · have e2H : Ex H H4 := (Frs.ofNew f' ((e1.trans e2).trans e3) fun a ha => by rw [List.mem_singleton.mp ha]; exact g4).trans e4
      exact q v H4 e2H pv
def spf_lwalk (K : PySem.W.Frag) : Spf (Pln × List Int) := ⟨fun x => [aD K (plnD x.1), aD K (.tup (x.2.map .num))], fun x => x.1.Ok ∧ x.2.length < 50000, fun x => aOL K ((walkP x.1 x.2).map fun l => l.map encSGi)⟩
theorem lay_nums {n : Nat} (xs : List Int) : ∀ x ∈ xs.map NestedKey.num, Lay n x := fun x hx => by
  obtain ⟨y, _, rfl⟩ := List.mem_map.mp hx
  exact Lay.num
abbrev sc__law_walk_N : List Str := ["_law_plain_here", "_law_path", "_law_found", "_law_total", "_law_index", "_law_some", "_law_pair"]
theorem sc__law_walk : FnScope ["_law_plain_here", "_law_path", "_law_found", "_law_total", "_law_index", "_law_some", "_law_pair"] ["_law_plain_here", "_law_path"] (defScope (topS 58)) := ⟨rfl, rfl, rfl, by decide +kernel, rfl, by decide +kernel, by decide +kernel⟩
theorem ok__law_walk {P : Program} {w : World} {K : PySem.W.Frag} {mg : Str → Option Value} {base : Heap} {ad : Ads} (fx : Fx K mg ad) : Ok P w K mg base CX0 6 "_law_walk" ["_law_plain_here", "_law_path"] ((spf_lwalk K).sp) := by
  refine fx.d__law_walk.ok sc__law_walk (fun _ _ _ _ _ _ us hl => match us, hl with | [_, _], _ => rfl) (Spf.len fun _ => rfl) fun f cdv A outer s H vs Q E hr hcd h => ?_
  refine ⟨_, PSs.nox (pss_cons (ps_if (PW.pt (pw_or (pt_cmpR (xEq K hr.units) (pv 1) (pe_tup (pa_nil)) (nomark _)) (pw_or1 (pt_cmpR (xNe K hr.units) (pe_ix (xIx P w K hr.units) (pv 1) pe_int (fun _ _ => rfl)) pe_int (nomark _))))) (pss_one (ps_ret pe_non)) (pss_nil)) (pss_cons (ps_par (i := 2) (j := 3) (by rfl) sc__law_walk.nd rfl rfl (by decide) rfl rfl (pa_cons (pe_lst (pa_cons (pe_tup (pa_cons (pe_callD (ok__law_first (P := P) (w := w) (base := base) fx) (hr.mono (by decide)) (by rfl) (pa_cons (pv 0) pa_nil)) (pa_cons pe_int pa_nil))) pa_nil)) (pa_cons pe_int pa_nil)) (by rfl)) (pss_cons (ps_for PassesOwn.never rfl (xSeq K (pe_slice (xSl K) (pv 1) (po_some pe_int) po_none)) (pg_name (i := 4) sc__law_walk.nd rfl (by first | exact .inl rfl | exact .inr rfl)) (pss_cons (ps_setLc (i := 5) (own := [("_law_pair", 6)]) rfl sc__law_walk.nd rfl rfl (sw_true rfl rfl rfl (by decide +kernel)) (xSeq K (pe_callD (ok__law_after (P := P) (w := w) (base := base) fx) (hr.mono (by decide)) (by rfl) (pa_cons (pv 0) (pa_cons (pe_ix (xIx P w K hr.units) (pe_ix (xIx P w K hr.units) (pv 2) (pe_un un_neg pe_int) (fun _ _ => rfl)) pe_int (fun _ _ => rfl)) pa_nil)))) (blkOk_by (own := [("_law_pair", 6)]) (N := ["_law_plain_here", "_law_path", "_law_found", "_law_total", "_law_index", "_law_some", "_law_pair"]) (sc := defScope (topS 58)) (by decide +kernel)) (fun _ _ _ _ _ => (pg_name (i := 6) sc__law_walk.nd rfl (by first | exact .inl rfl | exact .inr rfl))) (fun _ _ _ _ _ => (pts_one (pt_cmpR (xEq K hr.units) (pe_ix (xIx P w K hr.units) (pe_ix (xIx P w K hr.units) (pv 6) pe_int (fun _ _ => rfl)) pe_int (fun _ _ => rfl)) (pv 4) (nomark _)))) (fun _ _ _ _ _ => pv 6)) (pss_cons (ps_if (pt_cmpR (xEq K hr.units) (pv 5) (pe_lst (pa_nil)) (nomark _)) (pss_one (ps_ret pe_non)) (pss_nil)) (pss_cons (ps_set (i := 3) sc__law_walk.nd rfl (by first | exact .inl rfl | exact .inr rfl) (pe_ifExp (pt_val (pe_callD (ok__law_is_clear (P := P) (w := w) (base := base) fx) (hr.mono (by decide)) (by rfl) (pa_cons (pv 0) (pa_cons (pe_ix (xIx P w K hr.units) (pe_ix (xIx P w K hr.units) (pv 2) (pe_un un_neg pe_int) (fun _ _ => rfl)) pe_int (fun _ _ => rfl)) pa_nil)))) pe_int (pe_op (xAdd K) (pv 3) (pe_ix (xIx P w K hr.units) (pe_ix (xIx P w K hr.units) (pv 5) pe_int (fun _ _ => rfl)) pe_int (fun _ _ => rfl))))) (pss_one (ps_expr (xAppend K (pv 2) (pa_cons (pe_tup (pa_cons (pe_ix (xIx P w K hr.units) (pe_ix (xIx P w K hr.units) (pv 5) pe_int (fun _ _ => rfl)) pe_int (fun _ _ => rfl)) (pa_cons (pe_op (xAdd K) (pv 3) (pe_callD (ok__law_lost (P := P) (w := w) (base := base) fx) (hr.mono (by decide)) (by rfl) (pa_cons (pe_ix (xIx P w K hr.units) (pe_ix (xIx P w K hr.units) (pv 5) pe_int (fun _ _ => rfl)) pe_int (fun _ _ => rfl)) pa_nil))) pa_nil))) pa_nil)))))))) (pss_one (ps_ret (pv 2)))))), ?_⟩
  obtain ⟨⟨p, path⟩, ⟨hp, hlen⟩, hAll, q⟩ := h
  have hp : p.Ok := hp
  have hlen : path.length < 50000 := hlen
  have qn : walkP p path = none → ∀ H', Ex H H' → Q .non H' := fun e H' e' => q .non H' e' (by show (aOL K ((walkP p path).map fun l => l.map encSGi)).p .non H'; rw [e]; rfl)
  have qs : ∀ l, walkP p path = some l → ∀ v H', Ex H H' → (aL K (l.map encSGi)).p v H' → Q v H' := fun l e v H' e' pv => q v H' e' (by show (aOL K ((walkP p path).map fun l => l.map encSGi)).p v H'; rw [e]; exact pv)
  have s0 : SOk _ _ H := SOk.entry (N := sc__law_walk_N) (As := [aD K (plnD p), aD K (.tup (path.map .num))]) hAll
  refine st_if (b := !decide (path.head? = some 0)) (et_is (et_or (c := !decide (path.head? = some 0)) (et_test (ev_eqT0 (ev_var rfl) (lay_nums path))) fun hb => ?_) ?_) s0 (fun hb H1 e1 s1 => ?_) fun hb H1 e1 s1 => ?_
  · cases path with
    | nil => cases hb
    | cons i r =>
      refine et_is (et_test (ev_neI (ev_ixT (ev_var rfl) ev_int (atD (n := 0) (d := .num i) rfl)) ev_int)) ?_
      congr 1
      exact decide_eq_decide.mpr (by simp)
  · rw [List.isEmpty_map]
    cases path <;> simp
  · have hn : ¬ path.head? = some 0 := by simpa using hb
    have wn : walkP p path = none := by
      cases path with
      | nil => rfl
      | cons i r => exact if_neg fun z => hn (by rw [z]; rfl)
    exact st_ret (A := aV .non) ev_nonV s1 fun v H2 e2 pv => by
      have ev : v = .non := pv
      subst ev
      exact qn wn H2 (e1.trans e2)
  obtain ⟨r, rfl⟩ : ∃ r, path = 0 :: r := by
    have hy : path.head? = some 0 := by simpa using hb
    cases path with
    | nil => cases hy
    | cons i r => exact ⟨r, by rw [Option.some.inj hy]⟩
  refine st_parN (K := K) (ds := [encSGi (startP p, 0)]) (B := aD K (.num 0)) (ev_lst (ed_cons (ev_tup (ed_cons (ev_call (f := spf_lfirst K) p (ea_one (ev_var rfl)) hp) (ed_cons ev_int ed_nil)) (by show 2 ≤ 100000; decide)) ed_nil) (by show 1 ≤ 100000; decide)) ev_int s1 fun fl σ3 H3 n3 e3 s3 w3 => ?_
  have e03 := e1.trans e3
  have nfl : H fl = none := Evl.fresh_back e1 n3
  have ww : walkP p (0 :: r) = (walkFrom p (startP p) 0 r).map fun l => [(startP p, 0)] ++ l := by
    show (if (0 : Int) = 0 then _ else none) = _
    rw [if_pos rfl]; rfl
  refine st_for (K := K) (ds := r.map NestedKey.num) (it_tup (ev_is (ev_slT (ev_var rfl) (eo_some (K := K) ev_int) eo_none) (by rw [List.map_cons, cut_tail]))) s3 fun H4 e4 s4 => ⟨fun i σ' H' => ∃ (L : List (Stand × Int)) (x : Stand × Int) (g : Int), SOk (((entry sc__law_walk_N [aD K (plnD p), aD K (.tup ((0 :: r).map .num))]).set 2 (some (aV (.ref fl)))).set 3 (some (aD K (.num g)))) σ' H' ∧ Frs [fl] H4 H' ∧ WL K H' fl ((L ++ [x]).map encSGi) ∧ SOk1 p x.1 ∧ L.length = i ∧
      walkP p (0 :: r) = (walkFrom p x.1 g (r.drop i)).map fun l => (L ++ [x]) ++ l, ?_, ?_, ?_, ?_⟩
  · exact ⟨[], (startP p, 0), 0, s4, .refl, WL.ex w3 e4, start_ok hp, rfl, ww⟩
  · rintro i σ' H' ⟨_, _, _, _, f', _⟩
    exact f'.t
  · rintro i d x5 σ' H' H'' hi ⟨L, x, g, s', f', wf, hx, hL, hw⟩ e5 hx5
    have hir : i < r.length := by
      have := (List.getElem?_eq_some_iff.mp hi).1
      rw [List.length_map] at this
      exact this
    rw [List.getElem?_map, List.getElem?_eq_getElem hir] at hi
    have ed := Option.some.inj hi
    subst ed
    have hdr : r.drop i = r[i] :: r.drop (i + 1) := List.drop_eq_getElem_cons hir
    have e0' : Ex H H'' := (f'.ofNew (e03.trans e4) fun a ha => by rw [List.mem_singleton.mp ha]; exact nfl).trans e5
    have s5 := (s'.ex e5).set 4 (A := aD K (.num r[i])) hx5 (Nat.le_of_ble_eq_true rfl)
    have wf5 := WL.ex wf e5
    have last : EvG (tOp (rIxU P w K) (tOp (rIxU P w K) (tVar 2) (tUn (rU fun i => .int (-i)) (tC (.int 1)))) (tC (.int 0))) ((((entry sc__law_walk_N [aD K (plnD p), aD K (.tup ((0 :: r).map .num))]).set 2 (some (aV (.ref fl)))).set 3 (some (aD K (.num g)))).set 4 (some (aD K (.num r[i])))) H'' (aD K (encS x.1)) := ev_ixT (ev_ixL (ev_wl rfl wf5) (ev_neg ev_int) last_at) ev_int rfl
    refine EvN.st (n := 5) (en_lc (K := K) (afterP p x.1) encSG _ (fun q : Stand × Nat => decide ((q.1.1 : Int) = r[i])) encSG (ei_L (ev_call (f := spf_lafter K) (p, x.1) (ea_cons (ev_var rfl) (ea_one last)) ⟨hp, hx⟩)) rfl (by have := after_len p x.1; omega) (fun q _ => tg_name)
      (fun q _ => et_test (ev_eqI (ev_ixT (ev_ixT (ev_var rfl) ev_int rfl) ev_int rfl) (ev_var rfl))) (fun q _ _ => ev_var rfl)) s5 fun so σ6 H6 hso e6 s6 wso => ?_
    have lay : ∀ x' ∈ ((afterP p x.1).filter fun q : Stand × Nat => decide ((q.1.1 : Int) = r[i])).map encSG, Lay 8 x' := fun x' hx => by
      obtain ⟨q, _, rfl⟩ := List.mem_map.mp hx
      exact lay_encSG q
    have hfind : (afterP p x.1).find? (fun q => decide ((q.1.1 : Int) = r[i])) = ((afterP p x.1).filter fun q : Stand × Nat => decide ((q.1.1 : Int) = r[i])).head? := List.head?_filter.symm
    have hmem : ∀ q ∈ (afterP p x.1).filter fun q : Stand × Nat => decide ((q.1.1 : Int) = r[i]), q ∈ afterP p x.1 := fun q hq => (List.mem_filter.mp hq).1
    generalize ((afterP p x.1).filter fun q : Stand × Nat => decide ((q.1.1 : Int) = r[i])) = some' at *
    cases some' with
    | nil =>
      refine st_if (et_test (ev_eqN (ev_wl rfl wso) lay)) s6 (fun _ H8 e8 s8 => ?_) (fun z => by cases z)
      have wn : walkP p (0 :: r) = none := by
        rw [hw, hdr]
        unfold walkFrom
        rw [hfind]; rfl
      exact st_ret (A := aV .non) ev_nonV s8 fun v H9 e9 pv => by
        have ev : v = .non := pv
        subst ev
        exact qn wn H9 (((e0'.trans e6).trans e8).trans e9)
    | cons qq rest' =>
      obtain ⟨qs', qg⟩ := qq
      have hq : (qs', qg) ∈ afterP p x.1 := hmem _ List.mem_cons_self
      have hqk := after_ok hp hx _ hq
      refine st_if (et_test (ev_eqN (ev_wl rfl wso) lay)) s6 (fun z => by cases z) (fun _ H8 e8 s8 => ?_)
      have wf8 := WL.ex (WL.ex wf5 e6) e8
      have wso8 := WL.ex wso e8
      refine st_set (A := aD K (.num (if clearP p x.1 then 0 else g + qg))) (ev_if (et_B (ev_call (f := spf_lclear K) (p, x.1) (ea_cons (ev_var rfl) (ea_one (ev_ixT (ev_ixL (ev_wl rfl wf8) (ev_neg ev_int) last_at) ev_int rfl))) hp)) (fun z => ?_) (fun z => ?_)) s8 fun σ9 H9 e9 s9 => ?_
      · have z : clearP p x.1 = true := z
        rw [if_pos z]; exact ev_int
      · have z : clearP p x.1 = false := z
        rw [if_neg (by rw [z]; decide)]
        exact ev_add (ev_var rfl) (ev_ixT (ev_ixL (ev_wl rfl wso8) ev_int (atD (n := 0) rfl)) ev_int rfl)
      have wf9 := WL.ex wf8 e9
      have wso9 := WL.ex wso8 e9
      refine st_append (K := K) (d := encSGi (qs', (if clearP p x.1 then 0 else g + qg) + wasteP qs')) (ev_var rfl) (ev_tup (ed_cons (ev_ixT (ev_ixL (ev_wl rfl wso9) ev_int (atD (n := 0) rfl)) ev_int rfl) (ed_cons (ev_add (ev_var rfl) (ev_call (f := spf_llost K) qs' (ea_one (ev_ixT (ev_ixL (ev_wl rfl wso9) ev_int (atD (n := 0) rfl)) ev_int rfl)) (SOk1.bx hp hqk))) ed_nil)) (by show 2 ≤ 100000; decide)) s9 wf9 (by rw [List.length_map, List.length_append, hL]; simp; have : (0 :: r).length < 50000 := hlen; rw [List.length_cons] at this; omega) (fun H10 f10 s10 w10 => ?_) (by walk_at "gs")
      refine ⟨L ++ [x], (qs', (if clearP p x.1 then 0 else g + qg) + wasteP qs'), (if clearP p x.1 then 0 else g + qg), s10.gle (by walk_at "gle"), (f'.trans (.ex (((e5.trans e6).trans e8).trans e9))).trans f10, ?_, hqk, by rw [List.length_append, hL]; rfl, ?_⟩
      · rw [List.map_append]
        exact w10
      · rw [hw, hdr]
        conv => lhs; unfold walkFrom
        rw [hfind]
        simp only [List.head?_cons]
        cases walkFrom p qs' (if clearP p x.1 then 0 else g + qg) (r.drop (i + 1)) with
        | none => rfl
        | some l => simp
  · rintro σ' H' ⟨L, x, g, s', f', wf, hx, hL, hw⟩
    have hd : r.drop (r.map NestedKey.num).length = [] := by rw [List.length_map]; exact List.drop_length
    rw [hd] at hw
    have hw2 : walkP p (0 :: r) = some (L ++ [x]) := by rw [hw]; simp [walkFrom]
    have e0' : Ex H H' := f'.ofNew (e03.trans e4) fun a ha => by rw [List.mem_singleton.mp ha]; exact nfl
    exact st_ret (ev_wl rfl wf) s' fun v H9 e9 pv => qs _ hw2 v H9 (e0'.trans e9) pv
def spf_lheights (P : Program) (w : World) (K : PySem.W.Frag) : Spf (Pln × Int × Hts) := ⟨fun x => [aD K (plnD x.1), aD K (.num x.2.1), aDW P w K (hK x.2.2)], fun x => x.1.Ok ∧ (∀ q ∈ x.2.2, SOk1 x.1 q.1) ∧ (x.2.2.map (·.1)).Nodup ∧ x.2.2.length ≤ 1000, fun x => aB (heightsB x.1 x.2.2 x.2.1)⟩
/-- what the law's row asks -/
def lrowB (p : Pln) (hs : Hts) (num : Int) (q : Stand × Int) : Prop := 0 ≤ q.2 ∧ rowB p hs num q = true
theorem hget_in {hs : Hts} {s : Stand} {v : Int} (h : hget hs s = some v) : ∃ q ∈ hs, q.2 = v := by
  unfold hget at h
  obtain ⟨q, h1, h2⟩ := Option.map_eq_some_iff.mp h
  exact ⟨q, List.mem_of_find?_eq_some h1, h2⟩
theorem heights_neg {p : Pln} {hs : Hts} {num : Int} {q : Stand × Int} (h : q ∈ hs) (hn : q.2 < 0) : heightsB p hs num = false := by
  rw [heightsB_eq]
  have : (hs.any fun q => decide (q.2 < 0)) = true := List.any_eq_true.mpr ⟨q, h, decide_eq_true hn⟩
  rw [this]
  simp
theorem heights_row {p : Pln} {hs : Hts} {num : Int} {q : Stand × Int} (h : q ∈ hs) (hn : rowB p hs num q = false) : heightsB p hs num = false := by
  rw [heightsB_eq]
  have : hs.all (rowB p hs num) = false := List.all_eq_false.mpr ⟨q, h, by rw [hn]; decide⟩
  rw [this]
  simp
theorem row_waste {p : Pln} {hs : Hts} {num : Int} {q : Stand × Int} (h : ¬ q.2 + wasteP q.1 ≤ num) : rowB p hs num q = false := by
  rw [rowB_eq, decide_eq_false h]; rfl
theorem row_later {p : Pln} {hs : Hts} {num : Int} {q : Stand × Int} {r : Stand × Nat} (hr : r ∈ afterP p q.1) (h : laterB p hs q r = false) : rowB p hs num q = false := by
  rw [rowB_eq]
  have : (afterP p q.1).all (laterB p hs q) = false := List.all_eq_false.mpr ⟨r, hr, by rw [h]; decide⟩
  rw [this, Bool.and_false]
abbrev sc__law_are_heights_N : List Str := ["_law_plain_here", "_law_number_here", "_law_heights", "_law_stand_here", "_law_later", "_law_gone", "_law_least"]
theorem sc__law_are_heights : FnScope ["_law_plain_here", "_law_number_here", "_law_heights", "_law_stand_here", "_law_later", "_law_gone", "_law_least"] ["_law_plain_here", "_law_number_here", "_law_heights"] (defScope (topS 61)) := ⟨rfl, rfl, rfl, by decide +kernel, rfl, by decide +kernel, by decide +kernel⟩
theorem ok__law_are_heights {P : Program} {w : World} {K : PySem.W.Frag} {mg : Str → Option Value} {base : Heap} {ad : Ads} (fx : Fx K mg ad) : Ok P w K mg base CX0 6 "_law_are_heights" ["_law_plain_here", "_law_number_here", "_law_heights"] ((spf_lheights P w K).sp) := by
  refine fx.d__law_are_heights.ok sc__law_are_heights (fun _ _ _ _ _ _ us hl => match us, hl with | [_, _, _], _ => rfl) (Spf.len fun _ => rfl) fun f cdv A outer s H vs Q E hr hcd h => ?_
  refine ⟨_, PSs.nox (pss_cons (ps_if (pt_cmpR (xNotIn P w K hr.units) (pe_callD (ok__law_first (P := P) (w := w) (base := base) fx) (hr.mono (by decide)) (by rfl) (pa_cons (pv 0) pa_nil)) (pv 2) (by rfl)) (pss_one (ps_ret pe_bl)) (pss_nil)) (pss_cons (ps_lock (ps_for PassesOwn.never rfl (xKeysD P w (pv 2)) (pg_name (i := 3) sc__law_are_heights.nd rfl (by first | exact .inl rfl | exact .inr rfl)) (pss_cons (ps_if (PW.pt (pw_or (pt_cmpR op_lt (pe_ix (xIx P w K hr.units) (pv 2) (pv 3) (fun _ _ => rfl)) pe_int (nomark _)) (pw_or1 (pt_cmpR op_gt (pe_op (xAdd K) (pe_ix (xIx P w K hr.units) (pv 2) (pv 3) (fun _ _ => rfl)) (pe_callD (ok__law_lost (P := P) (w := w) (base := base) fx) (hr.mono (by decide)) (by rfl) (pa_cons (pv 3) pa_nil))) (pv 1) (nomark _))))) (pss_one (ps_ret pe_bl)) (pss_nil)) (pss_one (ps_for PassesOwn.never rfl (xSeq K (pe_callD (ok__law_after (P := P) (w := w) (base := base) fx) (hr.mono (by decide)) (by rfl) (pa_cons (pv 0) (pa_cons (pv 3) pa_nil)))) (xTg K (n := 2) rfl (pgs_cons (pg_name (i := 4) sc__law_are_heights.nd rfl (by first | exact .inl rfl | exact .inr rfl)) (pgs_cons (pg_name (i := 5) sc__law_are_heights.nd rfl (by first | exact .inl rfl | exact .inr rfl)) pgs_nil))) (pss_cons (ps_set (i := 6) sc__law_are_heights.nd rfl (by first | exact .inl rfl | exact .inr rfl) (pe_ifExp (pt_val (pe_callD (ok__law_is_clear (P := P) (w := w) (base := base) fx) (hr.mono (by decide)) (by rfl) (pa_cons (pv 0) (pa_cons (pv 3) pa_nil)))) pe_int (pe_op (xAdd K) (pe_ix (xIx P w K hr.units) (pv 2) (pv 3) (fun _ _ => rfl)) (pv 5)))) (pss_one (ps_if (PW.pt (pw_or (pt_cmpR (xNotIn P w K hr.units) (pv 4) (pv 2) (by rfl)) (pw_or1 (pt_cmpR op_lt (pe_ix (xIx P w K hr.units) (pv 2) (pv 4) (fun _ _ => rfl)) (pv 6) (nomark _))))) (pss_one (ps_ret pe_bl)) (pss_nil))))))))) (pss_one (ps_ret pe_bl)))), ?_⟩
  obtain ⟨⟨p, num, hs⟩, ⟨hp, hok, hnd, hlen⟩, hAll, q⟩ := h
  have hp : p.Ok := hp
  obtain ⟨x, y, z, rfl, px, py, pz⟩ := aall3 hAll
  obtain ⟨a, rfl, xs, hx, kd⟩ := pz
  have hok : ∀ q ∈ hs, SOk1 p q.1 := hok
  have hnd : (hs.map (·.1)).Nodup := hnd
  have hlen : hs.length ≤ 1000 := hlen
  have hx : H a = some (ddO P w a xs) := hx
  have kd : KD K H (hK hs) xs := kd
  have q : ∀ (b : Bool), heightsB p hs num = b → ∀ H', Ex H H' → Q (.bl b) H' := fun b e H' e' => q (.bl b) H' e' (by show V.bl b = V.bl (heightsB p hs num); rw [e])
  have s0 : SOk _ _ H := SOk.entry (N := sc__law_are_heights_N) (As := [aD K (plnD p), aD K (.num num), aV (.ref a)]) (.cons px (.cons py (.cons rfl .nil)))
  have hvs : ∀ r ∈ hs, valV (hK hs) (encS r.1) = some (.int r.2) := fun r hr => by rw [valV_hK, hget_mem hnd hr]; rfl
  have dr : DDr P w K H a (hK hs) := ⟨xs, .inl hx, kd⟩
  refine st_if (b := !(hget hs (startP p)).isSome) (et_is (et_test (ev_notInDD (ev_call (f := spf_lfirst K) p (ea_one (ev_var rfl)) hp) (ev_ddr (ev_var rfl) dr) (isTup_encS _) (dep_encS _))) (by rw [valV_hK]; simp)) s0 (fun hb H1 e1 s1 => ?_) fun hb H1 e1 s1 => ?_
  · refine st_ret (A := aB false) ev_bl s1 fun v H2 e2 pv => ?_
    have ev : v = .bl false := pv
    subst ev
    refine q false ?_ H2 (e1.trans e2)
    rw [heightsB_eq]
    have : (hget hs (startP p)).isSome = false := by simpa using hb
    rw [this]; rfl
  have h1 : (hget hs (startP p)).isSome = true := by simpa using hb
  have hx1 := e1 _ _ hx
  have kd1 := kd.to (tle_of_ex e1)
  refine ⟨a, _, hx1, ddO_mut, fun od => ?_⟩
  have sL := s1.le (le_lock (od := od) hx1 ddO_lockable) (by walk_at "gl")
  have drL := ddr_lock (od := od) hx1 kd1
  have kdL := kd1.to (le_lock (od := od) hx1 ddO_lockable).t
  obtain ⟨v1, hv1, pv1⟩ := sL.at_ 2 (aV (.ref a)) rfl
  have ev1 : v1 = .ref a := pv1
  subst ev1
  have exU : ∀ {H'}, Ex (upd H1 a (.frz od (ddO P w a xs))) H' → H' a = some (.frz od (ddO P w a xs)) ∧ Ex H (upd H' a (ddO P w a xs)) := fun {H'} e => ⟨e _ _ upd_same, e1.trans (ex_unlock hx1 e)⟩
  generalize hHL : upd H1 a (.frz od (ddO P w a xs)) = HL at *
  refine ⟨.ref a, hv1, a, od, xs, rfl, by rw [← hHL]; exact upd_same, for_it (walk_itq kdL) (fun i σ' H' => SOk (entry sc__law_are_heights_N [aD K (plnD p), aD K (.num num), aV (.ref a)]) σ' H' ∧ Ex HL H' ∧ ∀ r ∈ hs.take i, lrowB p hs num r) ⟨sL, Evl.Ex.refl _, fun r hr => by simp at hr⟩ (fun i σ' H' _ p' => ⟨p'.2.1 _ _ (by rw [← hHL]; exact upd_same), tle_of_ex p'.2.1⟩) ?_ ?_⟩
  · rintro i x' σ' H' H'' hi ⟨s', e', hrows⟩ ⟨ex2, d, hd, hdk⟩
    have hi2 : i < hs.length := by unfold hK at hi; rwa [List.length_map] at hi
    rw [hK_keys, List.getElem?_map, List.getElem?_eq_getElem hi2] at hd
    have ed := Option.some.inj hd
    subst ed
    have hm : hs[i] ∈ hs := List.getElem_mem hi2
    have hoki := hok _ hm
    have tk : hs.take (i + 1) = hs.take i ++ [hs[i]] := by rw [List.take_succ, List.getElem?_eq_getElem hi2]; rfl
    have hv := hvs _ hm
    generalize hr : hs[i] = row at *
    obtain ⟨s, ht⟩ := row
    have hoki : SOk1 p s := hoki
    have hv : valV (hK hs) (encS s) = some (.int ht) := hv
    have eL := e'.trans ex2
    have s3 := (s'.ex ex2).set 3 (A := aD K (encS s)) hdk (Nat.le_of_ble_eq_true rfl)
    have dr3 := drL.ex eL
    have get : ∀ {G : Gam} {H' : Hp}, Ex HL H' → G[2]? = some (some (aV (.ref a))) → G[3]? = some (some (aD K (encS s))) → EvG (tOp (rIxU P w K) (tVar 2) (tVar 3)) G H' (aD K (.num ht)) := fun e g2 g3 => ev_to (ev_getDD (ev_ddr (ev_var g2) (drL.ex e)) (ev_var g3) (isTup_encS _) (dep_encS _) hv) fun _ _ z => num_of z
    refine st_if (b := decide (ht < 0) || !decide (ht + wasteP s ≤ num)) (et_or (et_test (ev_cmpI (K := K) (get eL rfl rfl) ev_int)) fun _ => et_is (et_test (ev_cmpI (K := K) (ev_add (get eL rfl rfl) (ev_call (f := spf_llost K) s (ea_one (ev_var rfl)) (SOk1.bx hp hoki))) (ev_var rfl))) ?_) s3 (fun hb4 H4 e4 s4 => ?_) fun hb4 H4 e4 s4 => ?_
    · rw [← decide_not]
      exact decide_eq_decide.mpr (by omega)
    · obtain ⟨u1, u2⟩ := exU (eL.trans e4)
      refine ⟨u1, q false ?_ _ u2⟩
      rw [Bool.or_eq_true] at hb4
      rcases hb4 with z | z
      · exact heights_neg hm (of_decide_eq_true z)
      · exact heights_row hm (row_waste (by simpa using z))
    · rw [Bool.or_eq_false_iff] at hb4
      have hw0 : ¬ ht < 0 := of_decide_eq_false hb4.1
      have hw : decide (ht + wasteP s ≤ num) = true := by simpa using hb4.2
      refine st_forL (K := K) (ev_call (f := spf_lafter K) (p, s) (ea_cons (ev_var rfl) (ea_one (ev_var rfl))) ⟨hp, hoki⟩) s4 fun H5 la lx e5 s5 hsq hda => ⟨fun j σ' H' => SOk ((entry sc__law_are_heights_N [aD K (plnD p), aD K (.num num), aV (.ref a)]).set 3 (some (aD K (encS s)))) σ' H' ∧ Ex H5 H' ∧ ∀ r ∈ (afterP p s).take j, laterB p hs (s, ht) r = true, ⟨s5, Evl.Ex.refl _, fun r hr => by simp at hr⟩, fun j σ' H' p' => ⟨tle_of_ex p'.2.1, Evl.ex_l p'.2.1 hsq⟩, ?_, ?_⟩
      · rintro j d x5 σ5 H6 hd5 ⟨s6, e6, hl6⟩ hx5
        have hjl : j < (afterP p s).length := by
          have := (List.getElem?_eq_some_iff.mp hd5).1
          rw [List.length_map] at this
          exact this
        rw [List.getElem?_map, List.getElem?_eq_getElem hjl] at hd5
        have ed := Option.some.inj hd5
        subst ed
        have tk5 : (afterP p s).take (j + 1) = (afterP p s).take j ++ [(afterP p s)[j]] := by rw [List.take_succ, List.getElem?_eq_getElem hjl]; rfl
        have hm5 : (afterP p s)[j] ∈ afterP p s := List.getElem_mem hjl
        generalize hr5 : (afterP p s)[j] = rr at *
        obtain ⟨s', g'⟩ := rr
        refine (tg_tup (vs := sv) (tgs_cons tg_name (tgs_cons tg_name tgs_nil)) rfl) _ σ5 H6 s6 hx5 _ fun σ7 s7 _ => ?_
        have eL6 := ((eL.trans e4).trans e5).trans e6
        refine st_set (A := aD K (.num (if clearP p s then 0 else ht + g'))) (ev_if (et_B (ev_call (f := spf_lclear K) (p, s) (ea_cons (ev_var rfl) (ea_one (ev_var rfl))) hp)) (fun z => ?_) (fun z => ?_)) s7 fun σ8 H8 e8 s8 => ?_
        · have z : clearP p s = true := z
          rw [if_pos z]; exact ev_int
        · have z : clearP p s = false := z
          rw [if_neg (by rw [z]; decide)]
          exact ev_add (get eL6 rfl rfl) (ev_var rfl)
        have dr8 := drL.ex (eL6.trans e8)
        refine st_if (b := match hget hs s' with
          | none => true
          | some h' => decide (h' < if clearP p s then 0 else ht + g')) (et_is (et_or (c := match hget hs s' with
          | none => false
          | some h' => decide (h' < if clearP p s then 0 else ht + g')) (et_is (et_test (ev_notInDD (ev_var rfl) (ev_ddr (ev_var rfl) dr8) (isTup_encS _) (dep_encS _))) (c := !(hget hs s').isSome) (by rw [valV_hK]; simp)) fun hin => ?_) ?_) s8 (fun hb9 H9 e9 s9 => ?_) fun hb9 H9 e9 s9 => ?_
        · cases hg : hget hs s' with
          | none => rw [hg] at hin; cases hin
          | some h' =>
            have hv : valV (hK hs) (encS s') = some (.int h') := by rw [valV_hK, hg]; rfl
            exact et_test (ev_cmpI (K := K) (ev_to (ev_getDD (ev_ddr (ev_var rfl) dr8) (ev_var rfl) (isTup_encS _) (dep_encS _) hv) fun _ _ z => num_of z) (ev_var rfl))
        · cases hg : hget hs s' <;> rfl
        · obtain ⟨u1, u2⟩ := exU ((eL6.trans e8).trans e9)
          refine ⟨u1, q false ?_ _ u2⟩
          cases hg : hget hs s' with
          | none => exact heights_row hm (row_later hm5 (by unfold laterB; rw [hg]))
          | some h' =>
            rw [hg] at hb9
            have hlt := of_decide_eq_true hb9
            by_cases hc : clearP p s = true
            · rw [if_pos hc] at hlt
              obtain ⟨q', hq', e'⟩ := hget_in hg
              exact heights_neg hq' (by rw [e']; exact hlt)
            · rw [if_neg hc] at hlt
              refine heights_row hm (row_later hm5 ?_)
              unfold laterB
              rw [hg]
              have hc : clearP p s = false := by simpa using hc
              show (clearP p s || decide (ht + (g' : Int) ≤ h')) = false
              rw [hc, decide_eq_false (by omega)]; rfl
        · refine ⟨s9.gle (by walk_at "gle"), (e6.trans e8).trans e9, fun r hr => ?_⟩
          rw [tk5] at hr
          rcases List.mem_append.mp hr with z | z
          · exact hl6 r z
          · rw [List.mem_singleton.mp z]
            unfold laterB
            cases hg : hget hs s' with
            | none => rw [hg] at hb9; cases hb9
            | some h' =>
              rw [hg] at hb9
              have hge := of_decide_eq_false hb9
              show (clearP p s || decide (ht + (g' : Int) ≤ h')) = true
              by_cases hc : clearP p s = true
              · rw [hc]; rfl
              · rw [if_neg hc] at hge
                rw [decide_eq_true (by omega), Bool.or_true]
      · rintro σ5 H6 ⟨s6, e6, hl6⟩
        rw [List.length_map, List.take_length] at hl6
        refine ⟨s6.gle (by walk_at "gle"), ((eL.trans e4).trans e5).trans e6, fun r hr => ?_⟩
        rw [tk] at hr
        rcases List.mem_append.mp hr with z | z
        · exact hrows r z
        · rw [List.mem_singleton.mp z]
          refine ⟨Int.not_lt.mp hw0, ?_⟩
          rw [rowB_eq]
          show (decide (ht + wasteP s ≤ num) && (afterP p s).all (laterB p hs (s, ht))) = true
          rw [hw, Bool.true_and]
          exact List.all_eq_true.mpr hl6
  · rintro σ' H' ⟨s', e', hrows⟩
    obtain ⟨u1, u2⟩ := exU e'
    refine ⟨u1, q true ?_ _ u2⟩
    have hk : (hK hs).length = hs.length := by unfold hK; rw [List.length_map]
    rw [hk, List.take_length] at hrows
    have h2 : (hs.any fun q => decide (q.2 < 0)) = false := List.any_eq_false.mpr fun q hq => by
      have := (hrows q hq).1
      simp
      omega
    rw [heightsB_eq, h1, h2, List.all_eq_true.mpr fun q hq => (hrows q hq).2]; rfl
def spf_lmost (P : Program) (w : World) (K : PySem.W.Frag) : Spf (Pln × Int × List Int × Hts) := ⟨fun x => [aD K (plnD x.1), aD K (.num x.2.1), aD K (.tup (x.2.2.1.map .num)), aDW P w K (hK x.2.2.2)], fun x => x.1.Ok ∧ x.2.2.1.length < 50000 ∧ (∀ q ∈ x.2.2.2, SOk1 x.1 q.1) ∧ (x.2.2.2.map (·.1)).Nodup ∧ x.2.2.2.length ≤ 1000, fun x => aB (mostB x.1 x.2.1 x.2.2.1 x.2.2.2)⟩
theorem isNoV_L {K : PySem.W.Frag} {ds : List D} : ∀ v H', (aL K ds).p v H' → decide (v = V.non) = false := fun v H' ⟨a, xs, ev, _⟩ => by rw [ev]; rfl
theorem isNoV_N : ∀ v H', (aV .non).p v H' → decide (v = V.non) = true := fun v H' e => by
  have e : v = .non := e
  rw [e]; rfl
abbrev sc__law_is_most_N : List Str := ["_law_plain_here", "_law_number_here", "_law_path", "_law_heights", "_law_found"]
theorem sc__law_is_most : FnScope ["_law_plain_here", "_law_number_here", "_law_path", "_law_heights", "_law_found"] ["_law_plain_here", "_law_number_here", "_law_path", "_law_heights"] (defScope (topS 62)) := ⟨rfl, rfl, rfl, by decide +kernel, rfl, by decide +kernel, by decide +kernel⟩
theorem ok__law_is_most {P : Program} {w : World} {K : PySem.W.Frag} {mg : Str → Option Value} {base : Heap} {ad : Ads} (fx : Fx K mg ad) : Ok P w K mg base CX0 7 "_law_is_most" ["_law_plain_here", "_law_number_here", "_law_path", "_law_heights"] ((spf_lmost P w K).sp) := by
  refine fx.d__law_is_most.ok sc__law_is_most (fun _ _ _ _ _ _ us hl => match us, hl with | [_, _, _, _], _ => rfl) (Spf.len fun _ => rfl) fun f cdv A outer s H vs Q E hr hcd h => ?_
  refine ⟨_, PSs.nox (pss_cons (ps_set (i := 4) sc__law_is_most.nd rfl (by first | exact .inl rfl | exact .inr rfl) (pe_callD (ok__law_walk (P := P) (w := w) (base := base) fx) (hr.mono (by decide)) (by rfl) (pa_cons (pv 0) (pa_cons (pv 2) pa_nil)))) (pss_one (ps_ret (pe_and (pe_cmpR op_notNo (pv 4) pe_non (nomark _)) (pe_and (pe_cmpR (xEq K hr.units) (pe_ix (xIx P w K hr.units) (pe_ix (xIx P w K hr.units) (pv 4) (pe_un un_neg pe_int) (fun _ _ => rfl)) pe_int (fun _ _ => rfl)) (pv 1) (nomark _)) (pe_one (pe_callD (ok__law_are_heights (P := P) (w := w) (base := base) fx) (hr.mono (by decide)) (by rfl) (pa_cons (pv 0) (pa_cons (pv 1) (pa_cons (pv 3) pa_nil)))))))))), ?_⟩
  refine Spf.run h fun x hp => ?_
  obtain ⟨p, num, path, hs⟩ := x
  obtain ⟨hp, hl, hok, hnd, hlen⟩ := hp
  have hp : p.Ok := hp
  refine sr_set (B := aOL K ((walkP p path).map fun l : List SG => l.map encSGi)) (ev_call (f := spf_lwalk K) (p, path) (ea_cons (ev_var rfl) (ea_one (ev_var rfl))) ⟨hp, hl⟩) (sr_ret ?_)
  show EvG _ _ _ (aB (mostB p num path hs))
  unfold mostB
  cases hw : walkP p path with
  | none =>
    exact ev_isB (ev_andV (c := true) (ev_notNV (ev_var rfl) isNoV_N) fun z => by cases z) rfl
  | some l =>
    obtain ⟨hl1, hl2⟩ := walkP_len hw
    have hne : l ≠ [] := fun z => by
      rw [z] at hl1
      exact hl2 (List.length_eq_zero_iff.mp hl1.symm)
    refine ev_isB (ev_andV (c := decide ((lastW l).2 = num) && heightsB p hs num) (ev_notNV (A := aL K (l.map encSGi)) (ev_var rfl) isNoV_L) fun _ => ev_andV (ev_eqI (ev_ixT (ev_ixL (ev_var rfl) (ev_neg ev_int) (lastW_at hne)) ev_int rfl) (ev_var rfl)) fun _ => ev_call (f := spf_lheights P w K) (p, num, hs) (ea_cons (ev_var rfl) (ea_cons (ev_var rfl) (ea_one (ev_var rfl)))) ⟨hp, hok, hnd, hlen⟩) rfl
def spf_lring (K : PySem.W.Frag) : Spf (Pln × List Int × List Int) := ⟨fun x => [aD K (plnD x.1), aD K (.tup (x.2.1.map .num)), aD K (.tup (x.2.2.map .num))], fun x => x.1.Ok ∧ x.2.1.length + x.2.2.length < 50000, fun x => aB (ringB x.1 x.2.1 x.2.2)⟩
abbrev sc__law_is_ring_N : List Str := ["_law_plain_here", "_law_path", "_law_ring", "_law_found", "_law_begin", "_law_inner", "_law_pair", "_law_stand_here"]
theorem sc__law_is_ring : FnScope ["_law_plain_here", "_law_path", "_law_ring", "_law_found", "_law_begin", "_law_inner", "_law_pair", "_law_stand_here"] ["_law_plain_here", "_law_path", "_law_ring"] (defScope (topS 63)) := ⟨rfl, rfl, rfl, by decide +kernel, rfl, by decide +kernel, by decide +kernel⟩
theorem ok__law_is_ring {P : Program} {w : World} {K : PySem.W.Frag} {mg : Str → Option Value} {base : Heap} {ad : Ads} (fx : Fx K mg ad) : Ok P w K mg base CX0 7 "_law_is_ring" ["_law_plain_here", "_law_path", "_law_ring"] ((spf_lring K).sp) := by
  refine fx.d__law_is_ring.ok sc__law_is_ring (fun _ _ _ _ _ _ us hl => match us, hl with | [_, _, _], _ => rfl) (Spf.len fun _ => rfl) fun f cdv A outer s H vs Q E hr hcd h => ?_
  refine ⟨_, PSs.nox (pss_cons (ps_set (i := 3) sc__law_is_ring.nd rfl (by first | exact .inl rfl | exact .inr rfl) (pe_callD (ok__law_walk (P := P) (w := w) (base := base) fx) (hr.mono (by decide)) (by rfl) (pa_cons (pv 0) (pa_cons (pe_op (xAdd K) (pv 1) (pv 2)) pa_nil)))) (pss_cons (ps_if (PW.pt (pw_or (pt_cmpR (xEq K hr.units) (pv 1) (pe_tup (pa_nil)) (nomark _)) (pw_or (pt_cmpR (xEq K hr.units) (pv 2) (pe_tup (pa_nil)) (nomark _)) (pw_or1 (pt_cmpR op_isNo (pv 3) pe_non (nomark _)))))) (pss_one (ps_ret pe_bl)) (pss_nil)) (pss_cons (ps_set (i := 4) sc__law_is_ring.nd rfl (by first | exact .inl rfl | exact .inr rfl) (pe_ix (xIx P w K hr.units) (pv 3) (pe_op op_sub (pe_callB (xLen P w K) (by rfl) fx.len_ (by decide +kernel) (pa_cons (pv 1) pa_nil)) pe_int) (fun _ _ => rfl))) (pss_cons (ps_setLc (i := 5) (own := [("_law_pair", 6)]) rfl sc__law_is_ring.nd rfl rfl (sw_true rfl rfl rfl (by decide +kernel)) (xSeq K (pe_slice (xSl K) (pv 3) (po_some (pe_op op_sub (pe_callB (xLen P w K) (by rfl) fx.len_ (by decide +kernel) (pa_cons (pv 1) pa_nil)) pe_int)) (po_some (pe_un un_neg pe_int)))) (blkOk_by (own := [("_law_pair", 6)]) (N := ["_law_plain_here", "_law_path", "_law_ring", "_law_found", "_law_begin", "_law_inner", "_law_pair", "_law_stand_here"]) (sc := defScope (topS 63)) (by decide +kernel)) (fun _ _ _ _ _ => (pg_name (i := 6) sc__law_is_ring.nd rfl (by first | exact .inl rfl | exact .inr rfl))) (fun _ _ _ _ _ => pts_nil) (fun _ _ _ _ _ => pe_ix (xIx P w K hr.units) (pv 6) pe_int (fun _ _ => rfl))) (pss_cons (ps_if (PW.pt (pw_or (pt_cmpR (xNe K hr.units) (pe_ix (xIx P w K hr.units) (pe_ix (xIx P w K hr.units) (pv 3) (pe_un un_neg pe_int) (fun _ _ => rfl)) pe_int (fun _ _ => rfl)) (pe_ix (xIx P w K hr.units) (pv 4) pe_int (fun _ _ => rfl)) (nomark _)) (pw_or1 (pt_val (pe_callB (xAny K rfl) (by rfl) fx.any_ (by decide +kernel) (pa_cons (pe_lc (own := [("_law_stand_here", 7)]) rfl sc__law_is_ring.nd (xSeq K (pv 5)) (blkOk_by (own := [("_law_stand_here", 7)]) (N := ["_law_plain_here", "_law_path", "_law_ring", "_law_found", "_law_begin", "_law_inner", "_law_pair", "_law_stand_here"]) (sc := defScope (topS 63)) (by decide +kernel)) (fun _ _ _ _ _ => (pg_name (i := 7) sc__law_is_ring.nd rfl (by first | exact .inl rfl | exact .inr rfl))) (fun _ _ _ _ _ => pts_nil) (fun _ _ _ _ _ => pe_callD (ok__law_is_clear (P := P) (w := w) (base := base) fx) (hr.mono (by decide)) (by rfl) (pa_cons (pv 0) (pa_cons (pv 7) pa_nil)))) pa_nil)))))) (pss_one (ps_ret pe_bl)) (pss_nil)) (pss_one (ps_ret (pe_cmpR op_gt (pe_ix (xIx P w K hr.units) (pe_ix (xIx P w K hr.units) (pv 3) (pe_un un_neg pe_int) (fun _ _ => rfl)) pe_int (fun _ _ => rfl)) (pe_ix (xIx P w K hr.units) (pv 4) pe_int (fun _ _ => rfl)) (nomark _))))))))), ?_⟩
  refine Spf.run h fun x hp => ?_
  obtain ⟨p, path, ring⟩ := x
  obtain ⟨hp, hl⟩ := hp
  have hp : p.Ok := hp
  have hl : path.length + ring.length < 50000 := hl
  refine sr_set (B := aOL K ((walkP p (path ++ ring)).map fun l : List SG => l.map encSGi)) (ev_call (f := spf_lwalk K) (p, path ++ ring) (ea_cons (ev_var rfl) (ea_one (ev_is (ev_catT (ev_var rfl) (ev_var rfl) (by rw [List.length_map, List.length_map]; omega)) (by rw [List.map_append])))) ⟨hp, by rw [List.length_append]; exact hl⟩) ?_
  show SR _ _ _ (aB (ringB p path ring))
  have t1 : ∀ {G : Gam} {H' : Hp}, G[1]? = some (some (aD K (.tup (path.map .num)))) → EvT (tTest (tOp (rEqU K) (tVar 1) (tTup tNil))) G H' path.isEmpty := fun g => et_is (et_test (ev_eqT0 (ev_var g) (lay_nums path))) (by rw [List.isEmpty_map])
  have t2 : ∀ {G : Gam} {H' : Hp}, G[2]? = some (some (aD K (.tup (ring.map .num)))) → EvT (tTest (tOp (rEqU K) (tVar 2) (tTup tNil))) G H' ring.isEmpty := fun g => et_is (et_test (ev_eqT0 (ev_var g) (lay_nums ring))) (by rw [List.isEmpty_map])
  cases hw : walkP p (path ++ ring) with
  | none =>
    have e : ringB p path ring = false := by unfold ringB; rw [hw]; simp
    rw [e]
    exact sr_ifT (et_or (t1 rfl) fun _ => et_or (t2 rfl) fun _ => et_test (ev_isNV (A := aV .non) (ev_var rfl) isNoV_N)) (by simp) (sr_retS ev_bl)
  | some l =>
    obtain ⟨hl1, hl2⟩ := walkP_len hw
    have hne : l ≠ [] := fun z => by
      rw [z] at hl1
      exact hl2 (List.length_eq_zero_iff.mp hl1.symm)
    refine sr_if (et_or (t1 rfl) fun _ => et_or (t2 rfl) fun _ => et_test (ev_isNV (A := aL K (l.map encSGi)) (ev_var rfl) isNoV_L)) (fun hb => ?_) (fun hb => ?_)
    · have e : ringB p path ring = false := by
        unfold ringB
        rw [Bool.or_false] at hb
        cases h1 : path.isEmpty with
        | true => rfl
        | false =>
          rw [h1, Bool.false_or] at hb
          rw [hb]; rfl
      rw [e]
      exact sr_retS ev_bl
    · rw [Bool.or_false, Bool.or_eq_false_iff] at hb
      have hpl : 0 < path.length := by
        cases path with
        | nil => cases hb.1
        | cons _ _ => simp
      have hix : path.length - 1 < l.length := by rw [hl1, List.length_append]; omega
      have hlenm : path.length - 1 < (l.map encSGi).length := by rw [List.length_map]; exact hix
      have ee : ringB p path ring = (decide ((lastW l).1 = (atW l (path.length - 1)).1) && !((l.drop (path.length - 1)).dropLast.any fun q => clearP p q.1) && decide ((lastW l).2 > (atW l (path.length - 1)).2)) := by
        unfold ringB
        rw [hw, hb.1, hb.2]; rfl
      rw [ee]
      refine sr_next ?_
      have ix : ∀ {G : Gam} {H' : Hp}, G[1]? = some (some (aD K (.tup (path.map .num)))) → EvG (tOp (rI0 fun i j => .int (i - j)) (tCB (rLenU P w K) (tCons (tVar 1) tNil)) (tC (.int 1))) G H' (aD K (natD (path.length - 1))) := fun g => ev_is (ev_sub (ev_lenT (ev_var g)) ev_int) (by
        rw [List.length_map]
        show NestedKey.num _ = NestedKey.num _
        congr 1
        show (path.length : Int) - 1 = ((path.length - 1 : Nat) : Int)
        omega)
      refine sr_set (B := aD K (encSGi (atW l (path.length - 1)))) (ev_ixL (ev_var (A := aL K (l.map encSGi)) rfl) (ix rfl) (atD (atW_at hix))) ?_
      refine sr_set (B := aL K ((l.drop (path.length - 1)).dropLast.map fun q => encS q.1)) (EvN.l (en_map (K := K) ((l.drop (path.length - 1)).dropLast) encSGi _ (fun q => encS q.1) (ei_L (ev_isL (EvN.l (ev_slL (ev_var (A := aL K (l.map encSGi)) rfl) (eo_some (K := K) (ix rfl)) (eo_some (K := K) (ev_neg ev_int)))) (cut_to_last hlenm))) (by rw [List.map_dropLast, List.map_drop]) (by rw [List.length_dropLast, List.length_drop, hl1, List.length_append]; omega) (fun q _ => tg_name) fun q _ => ev_ixT (ev_var rfl) ev_int rfl)) ?_
      have llen : ((l.drop (path.length - 1)).dropLast).length < 100000 := by rw [List.length_dropLast, List.length_drop, hl1, List.length_append]; omega
      refine sr_if (b := !decide ((lastW l).1 = (atW l (path.length - 1)).1) || ((l.drop (path.length - 1)).dropLast.any fun q => clearP p q.1)) (et_or (et_is (et_test (ev_ne (ev_ixT (ev_ixL (ev_var (A := aL K (l.map encSGi)) rfl) (ev_neg ev_int) (lastW_at hne)) ev_int rfl) (ev_ixT (ev_var rfl) ev_int rfl) ((lay_encS _).mono (by decide)) ((lay_encS _).mono (by decide)))) (congrArg (fun t => !t) (decide_eq_decide.mpr ⟨fun z => encS_inj z, fun z => by rw [z]⟩))) fun _ => et_B (ev_isB (ev_any (eb_map (K := K) ((l.drop (path.length - 1)).dropLast) (fun q => encS q.1) _ (fun q => clearP p q.1) (ei_L (ev_var rfl)) rfl llen (fun q _ => tg_name) fun q _ => ev_call (f := spf_lclear K) (p, q.1) (ea_cons (ev_var rfl) (ea_one (ev_var rfl))) hp)) (by rw [List.any_map]; rfl))) (fun hb2 => ?_) (fun hb2 => ?_)
      · have e2 : (decide ((lastW l).1 = (atW l (path.length - 1)).1) && !((l.drop (path.length - 1)).dropLast.any fun q => clearP p q.1) && decide ((lastW l).2 > (atW l (path.length - 1)).2)) = false := by
          cases h1 : decide ((lastW l).1 = (atW l (path.length - 1)).1) with
          | false => rfl
          | true =>
            rw [h1, Bool.not_true, Bool.false_or] at hb2
            rw [hb2]; rfl
        rw [e2]
        exact sr_retS ev_bl
      · rw [Bool.or_eq_false_iff] at hb2
        have h1 : decide ((lastW l).1 = (atW l (path.length - 1)).1) = true := by simpa using hb2.1
        rw [h1, hb2.2, Bool.true_and, Bool.not_false, Bool.true_and]
        exact sr_next (sr_ret (ev_cmpI (K := K) (ev_ixT (ev_ixL (ev_var (A := aL K (l.map encSGi)) rfl) (ev_neg ev_int) (lastW_at hne)) ev_int rfl) (ev_ixT (ev_var rfl) ev_int rfl)))
section
variable {P : Program} {w : World} {K : PySem.W.Frag} {G : Gam} {σ : L2.St} {H H1 H2 : Hp} {EE : Ends} {ta tb te to ti : TE} {tt : TT} {A B : Asr} {ds : List D} {a b : Addr} {v : V} {k : D} {kvs : List (D × V)} {W : List Addr} {t u : TS} {n : Nat}
theorem ev_ofV (h : EvG te G H (aV v)) (p : A.p v H) : EvG te G H A := fun σ H1 s x Q q => h σ H1 s x _ fun y H2 e2 p2 => by
  have e : y = v := p2
  rw [e]
  exact q v H2 e2 (A.mono (x.trans e2) p)
/-- a loop by a measure -/
theorem st_while (Pv : Nat → L2.St → Hp → Prop) (m0 : Nat) (h0 : Pv m0 σ H)
    (hs : ∀ m σ H, Pv m σ H → ∃ (G : Gam) (b : Bool), SOk G σ H ∧ EvT tt G H b ∧ (b = true → ∀ H1, Ex H H1 → SOk G σ H1 → t { EE with nx := fun σ' H' => ∃ m', m' < m ∧ Pv m' σ' H', ct := fun σ' H' => ∃ m', m' < m ∧ Pv m' σ' H', bk := EE.nx } σ H1) ∧
      (b = false → ∀ H1, Ex H H1 → SOk G σ H1 → EE.nx σ H1)) : tWhile tt t EE σ H := by
  refine ⟨Pv, ⟨m0, h0⟩, fun m σ' H' p => ?_⟩
  obtain ⟨G, b, s, hb, h1, h2⟩ := hs m σ' H' p
  refine hb σ' H' s (Evl.Ex.refl H') _ fun H1 e => ?_
  cases b with
  | true =>
    rw [if_pos rfl]
    exact ⟨fun σ' H' => ∃ m', m' < m ∧ Pv m' σ' H', fun _ _ z => z, h1 rfl H1 e (s.ex e)⟩
  | false =>
    rw [if_neg (by decide)]
    exact h2 rfl H1 e (s.ex e)
theorem key_of {z : V} (h : DIs K H z k) (ht : isTup k = true) : ∃ b, z = .ref b := by
  cases k with
  | tup ds => cases h; exact ⟨_, rfl⟩
  | none => cases ht
  | num _ => cases ht
  | text _ => cases ht
/-- d[k] = e -/
theorem st_setDD (h : EvG te G H A) (ho : EvG to G H (aV (.ref a))) (hi : EvG ti G H (aD K k)) (s : SOk G σ H) (hd : DDw P w K H a kvs) (ht : isTup k = true) (h8 : k.depth ≤ 8) (hl : kvs.length < 100000)
    (q : ∀ v H1 H', Ex H H1 → A.p v H1 → DDw P w K H1 a kvs → Frs [a] H1 H' → SOk G σ H' → DDw P w K H' a (putK kvs k v) → EE.nx σ H') (hs : ∀ A, some A ∈ G → A.St) : tAsg te (gSub to ti (rSetU P w K)) EE σ H :=
  h σ H s (Evl.Ex.refl H) _ fun y H1 e1 p1 => ho σ H1 (s.ex e1) e1 _ fun vo H2 e2 p2 => hi σ H2 (s.ex (e1.trans e2)) (e1.trans e2) _ fun z H3 e3 p3 => by
    have eo : vo = .ref a := p2
    subst eo
    have e13 := (e1.trans e2).trans e3
    obtain ⟨b, hb⟩ := key_of (K := K) (H := H3) p3 ht
    subst hb
    have hd3 := hd.ex e13
    have hd3' := hd3
    obtain ⟨xs, hx, _⟩ := hd3'
    refine .inr (.inr ⟨a, kvs, k, b, rfl, rfl, hd3, p3, ht, h8, Evl.sz_lt hl, fun H' ⟨u, hu, hn⟩ hdw => ?_⟩)
    have f : Frs [a] H3 H' := by rw [hu]; exact Frs.refl.upd (by simp) hx rfl
    exact q y H3 H' e13 (A.mono (e2.trans e3) p1) hd3 f ((s.ex e13).frs f hs) hdw
/-- the list's data at a -/
abbrev RL (K : PySem.W.Frag) (H : Hp) (a : Addr) (ds : List D) : Prop := (aL K ds).p (.ref a) H
theorem RL.mk' {xs : List V} (h1 : SqL K H a xs) (h2 : DAll K H xs ds) : RL K H a ds := ⟨a, xs, rfl, h1, h2⟩
theorem RL.frs (h : RL K H a ds) (x : Frs W H H1) (hw : ∀ b ∈ W, ∀ xs, ¬ Rd H b (.lst xs)) : RL K H1 a ds := by
  obtain ⟨c, xs, e, h1, h2⟩ := h
  cases e
  refine ⟨a, xs, rfl, ?_, h2.to x.t⟩
  rcases h1 with h1 | h1
  · have n : a ∉ W := fun z => hw a z xs h1
    rcases h1 with r | ⟨q, r⟩
    · exact .inl (.inl (x.keep a n _ r))
    · exact .inl (.inr ⟨q, x.keep a n _ r⟩)
  · exact .inr h1
theorem DDw.noL (h : DDw P w K H a kvs) (xs : List V) : ¬ Rd H a (.lst xs) := fun r => by
  obtain ⟨ys, h1, _⟩ := h
  rcases r with r | ⟨q, r⟩ <;> (rw [h1] at r; cases r)
theorem DDw.frs (h : DDw P w K H a kvs) (x : Frs W H H1) (hw : a ∉ W) : DDw P w K H1 a kvs := h.keep x.t fun o ho => x.keep a hw o ho
theorem DDw.ne (h : DDw P w K H a kvs) (hb : H b = none) : a ≠ b := fun z => by
  obtain ⟨ys, h1, _⟩ := h
  rw [z, hb] at h1; cases h1
theorem DDw.ne_wl {c : Addr} (h : DDw P w K H a kvs) (wl : WL K H c ds) : c ≠ a := fun z => by
  obtain ⟨ys, h1, _⟩ := h
  obtain ⟨xs, h2, _⟩ := wl
  rw [z, h1] at h2; cases h2
abbrev Rws := List (Stand × Addr)
def rwK (rs : Rws) : List (D × V) := rs.map fun q => (encS q.1, V.ref q.2)
theorem rwK_keys (rs : Rws) : (rwK rs).map (·.1) = (rs.map (·.1)).map encS := by unfold rwK; rw [List.map_map, List.map_map]; rfl
theorem rwK_len (rs : Rws) : (rwK rs).length = rs.length := by unfold rwK; rw [List.length_map]
theorem valV_in_map {τ : Type} (f : τ → V) (g : τ → Stand) : ∀ rs : List τ, ∀ s : Stand, (valV (rs.map fun q => (encS (g q), f q)) (encS s)).isSome = decide (s ∈ rs.map g)
  | [], s => by simp [valV]
  | q :: rs, s => by
    rw [List.map_cons, List.map_cons]
    by_cases e : g q = s
    · rw [valV_pos (by show encS (g q) = encS s; rw [e])]
      simp [e]
    · rw [valV_neg (fun z => e (encS_inj z)), valV_in_map f g rs s]
      have e2 : ¬ s = g q := fun z => e z.symm
      simp [e2]
theorem rwK_in (rs : Rws) (s : Stand) : (valV (rwK rs) (encS s)).isSome = decide (s ∈ rs.map (·.1)) := valV_in_map _ _ rs s
theorem valV_mem {τ : Type} (f : τ → V) (g : τ → Stand) : ∀ rs : List τ, (rs.map g).Nodup → ∀ q ∈ rs, valV (rs.map fun q => (encS (g q), f q)) (encS (g q)) = some (f q)
  | [], _, q, h => by cases h
  | r :: rs, nd, q, h => by
    rw [List.map_cons, List.nodup_cons] at nd
    rw [List.map_cons]
    rcases List.mem_cons.mp h with rfl | h
    · exact valV_pos rfl
    · rw [valV_neg fun e => nd.1 (by rw [encS_inj (show encS (g r) = encS (g q) from e)]; exact List.mem_map.mpr ⟨q, h, rfl⟩)]
      exact valV_mem f g rs nd.2 q h
theorem rwK_get {rs : Rws} (hn : (rs.map (·.1)).Nodup) {q : Stand × Addr} (h : q ∈ rs) : valV (rwK rs) (encS q.1) = some (.ref q.2) := valV_mem (fun q : Stand × Addr => V.ref q.2) (fun q => q.1) rs hn q h
theorem rwK_put {rs : Rws} {s : Stand} {la : Addr} (h : s ∉ rs.map (·.1)) : putK (rwK rs) (encS s) (.ref la) = rwK (rs ++ [(s, la)]) := by
  rw [L2.putK_new]
  · unfold rwK; rw [List.map_append]; rfl
  · have z := rwK_in rs s
    rw [decide_eq_false h] at z
    cases y : valV (rwK rs) (encS s) with
    | none => rfl
    | some _ => rw [y] at z; cases z
/-- what the rows' keys are -/
structure Expl (p : Pln) (ss : List Stand) : Prop where
  nd : ss.Nodup
  few : ss.length ≤ 40
  first : startP p ∈ ss
  ok : ∀ s ∈ ss, SOk1 p s
  next : ∀ s ∈ ss, ∀ q ∈ afterP p s, q.1 ∈ ss
structure RwIs (P : Program) (w : World) (K : PySem.W.Frag) (H : Hp) (p : Pln) (ss : List Stand) (a : Addr) (rs : Rws) : Prop where
  keys : rs.map (·.1) = ss
  dd : DDw P w K H a (rwK rs)
  row : ∀ q ∈ rs, RL K H q.2 ((afterP p q.1).map encSG)
def aRw (P : Program) (w : World) (K : PySem.W.Frag) (p : Pln) (ss : List Stand) : Asr := ⟨fun v H => ∃ a rs, v = .ref a ∧ RwIs P w K H p ss a rs, fun e ⟨a, rs, h1, h2⟩ => ⟨a, rs, h1, h2.keys, h2.dd.ex e, fun q hq => (aL K _).mono e (h2.row q hq)⟩⟩
/-- .. or None -/
def aRwO (P : Program) (w : World) (K : PySem.W.Frag) (p : Pln) : Option {ss : List Stand // Expl p ss} → Asr
  | none => aV .non
  | some x => aRw P w K p x.1
end
def spf_explored (P : Program) (w : World) (K : PySem.W.Frag) : Spf Pln := ⟨fun p => [aD K (plnD p), aD K (natD 40)], fun p => p.Ok, fun p => aX (aRwO P w K p)⟩
structure ExIn (P : Program) (w : World) (K : PySem.W.Frag) (p : Pln) (fd : Addr) (H1 H' : Hp) (rs : Rws) (qs : List Stand) (k : Nat) : Prop where
  fr : Frs [fd] H1 H'
  rw_ : RwIs P w K H' p (rs.map (·.1)) fd rs
  nd : (rs.map (·.1)).Nodup
  ok : ∀ s ∈ rs.map (·.1), s ∈ qs
  qok : ∀ s ∈ qs, SOk1 p s
  first : startP p ∈ qs
  le : k ≤ qs.length
  done : ∀ i s, i < k → qs[i]? = some s → s ∈ rs.map (·.1)
  next : ∀ s ∈ rs.map (·.1), ∀ q ∈ afterP p s, q.1 ∈ qs
  qfew : qs.length ≤ 1 + 2 * rs.length
theorem RwIs.ex {P : Program} {w : World} {K : PySem.W.Frag} {H H' : Hp} {p : Pln} {ss : List Stand} {a : Addr} {rs : Rws} (h : RwIs P w K H p ss a rs) (e : Ex H H') : RwIs P w K H' p ss a rs := ⟨h.keys, h.dd.ex e, fun q hq => (aL K _).mono e (h.row q hq)⟩
theorem ExIn.ex {P : Program} {w : World} {K : PySem.W.Frag} {p : Pln} {fd : Addr} {H1 H' H2 : Hp} {rs : Rws} {qs : List Stand} {k : Nat} (h : ExIn P w K p fd H1 H' rs qs k) (e : Ex H' H2) : ExIn P w K p fd H1 H2 rs qs k :=
  { h with fr := h.fr.trans (.ex e), rw_ := h.rw_.ex e }
abbrev sc__law_explored_N : List Str := ["_law_plain_here", "_law_most", "_law_found", "_law_queue", "_law_at", "_law_stand_here", "_law_pair"]
theorem sc__law_explored : FnScope ["_law_plain_here", "_law_most", "_law_found", "_law_queue", "_law_at", "_law_stand_here", "_law_pair"] ["_law_plain_here", "_law_most"] (defScope (topS 59)) := ⟨rfl, rfl, rfl, by decide +kernel, rfl, by decide +kernel, by decide +kernel⟩
theorem ok__law_explored {P : Program} {w : World} {K : PySem.W.Frag} {mg : Str → Option Value} {base : Heap} {ad : Ads} (fx : Fx K mg ad) : Ok P w K mg base CX0 6 "_law_explored" ["_law_plain_here", "_law_most"] ((spf_explored P w K).sp) := by
  refine fx.d__law_explored.ok sc__law_explored (fun _ _ _ _ _ _ us hl => match us, hl with | [_, _], _ => rfl) (Spf.len fun _ => rfl) fun f cdv A outer s H vs Q E hr hcd h => ?_
  refine ⟨_, PSs.nox (pss_cons (ps_par3 (i := 2) (j := 3) (l := 4) (by rfl) sc__law_explored.nd rfl rfl rfl (by decide) (by decide) (by decide) rfl rfl rfl (pa_cons (xNewD P w K) (pa_cons (pe_lst (pa_cons (pe_callD (ok__law_first (P := P) (w := w) (base := base) fx) (hr.mono (by decide)) (by rfl) (pa_cons (pv 0) pa_nil)) pa_nil)) (pa_cons pe_int pa_nil))) (by rfl)) (pss_cons (ps_while PassesOwn.never (pt_cmpR op_lt (pv 4) (pe_callB (xLen P w K) (by rfl) fx.len_ (by decide +kernel) (pa_cons (pv 3) pa_nil)) (nomark _)) (pss_cons (ps_par (i := 5) (j := 4) (by rfl) sc__law_explored.nd rfl rfl (by decide) rfl rfl (pa_cons (pe_ix (xIx P w K hr.units) (pv 3) (pv 4) (fun _ _ => rfl)) (pa_cons (pe_op (xAdd K) (pv 4) pe_int) pa_nil)) (by rfl)) (pss_cons (ps_if (pt_cmpR (xNotIn P w K hr.units) (pv 5) (pv 2) (by rfl)) (pss_cons (ps_asg (pe_callD (ok__law_after (P := P) (w := w) (base := base) fx) (hr.mono (by decide)) (by rfl) (pa_cons (pv 0) (pa_cons (pv 5) pa_nil))) (pg_sub (pv 2) (pv 5) (xSet P w K hr.units))) (pss_one (ps_set (i := 3) sc__law_explored.nd rfl (by first | exact .inl rfl | exact .inr rfl) (pe_op (xAdd K) (pv 3) (pe_lc (own := [("_law_pair", 6)]) rfl sc__law_explored.nd (xSeq K (pe_ix (xIx P w K hr.units) (pv 2) (pv 5) (fun _ _ => rfl))) (blkOk_by (own := [("_law_pair", 6)]) (N := ["_law_plain_here", "_law_most", "_law_found", "_law_queue", "_law_at", "_law_stand_here", "_law_pair"]) (sc := defScope (topS 59)) (by decide +kernel)) (fun _ _ _ _ _ => (pg_name (i := 6) sc__law_explored.nd rfl (by first | exact .inl rfl | exact .inr rfl))) (fun _ _ _ _ _ => pts_nil) (fun _ _ _ _ _ => pe_ix (xIx P w K hr.units) (pv 6) pe_int (fun _ _ => rfl))))))) (pss_nil)) (pss_one (ps_if (pt_cmpR op_gt (pe_callB (xLen P w K) (by rfl) fx.len_ (by decide +kernel) (pa_cons (pv 2) pa_nil)) (pv 1) (nomark _)) (pss_one (ps_ret pe_non)) (pss_nil)))))) (pss_one (ps_ret (pv 2))))), ?_⟩
  obtain ⟨p, hp, hAll, q⟩ := h
  have hp : p.Ok := hp
  have s0 : SOk _ _ H := SOk.entry (N := sc__law_explored_N) (As := [aD K (plnD p), aD K (natD 40)]) hAll
  refine fun fd H1 hfd hu hdd => ?_
  obtain ⟨u, hu, hnt⟩ := hu
  have e1 : Ex H H1 := by rw [hu]; exact Evl.Ex.new hfd
  refine (ev_lst (K := K) (ed_cons (ev_call (f := spf_lfirst K) p (ea_one (ev_var rfl)) hp) ed_nil) (by show 1 ≤ 100000; decide) : EvN K _ _ H1 [encS (startP p)]) _ H1 (s0.ex e1) (Evl.Ex.refl H1) _ fun ql xs H2 hql e2 hx hd => ?_
  refine ⟨.ref fd, .ref ql, .int 0, rfl, ?_⟩
  have s2 := (((s0.ex (e1.trans e2)).set 2 (A := aV (.ref fd)) (v := .ref fd) rfl (Nat.le_of_ble_eq_true rfl)).set 3 (A := aV (.ref ql)) (v := .ref ql) rfl (Nat.le_of_ble_eq_true rfl)).set 4 (A := aD K (natD 0)) (v := .int 0) (.int 0) (Nat.le_of_ble_eq_true rfl)
  refine st_while (fun m σ' H' => ∃ rs qs k ql, SOk [some (aD K (plnD p)), some (aD K (natD 40)), some (aV (.ref fd)), some (aV (.ref ql)), some (aD K (natD k)), none, none] σ' H' ∧ WL K H' ql (qs.map encS) ∧ ExIn P w K p fd H1 H' rs qs k ∧ rs.length ≤ 40 ∧ m = 3 * (42 - rs.length) + (qs.length - k)) _ ⟨[], [startP p], 0, ql, s2.gle (by walk_at "gle"), ⟨xs, hx, hd⟩, ⟨.ex e2, ⟨rfl, hdd.ex e2, fun _ h => by cases h⟩, List.nodup_nil, fun _ h => (by cases h), fun s hs => by rw [List.mem_singleton.mp hs]; exact start_ok hp, List.mem_singleton.mpr rfl, Nat.zero_le _, fun i s hi => absurd hi (Nat.not_lt_zero i), fun _ h => (by cases h), by simp⟩, Nat.zero_le _, rfl⟩ ?_
  rintro m σ' H' ⟨rs, qs, k, ql, s', wq, ei, hfew, rfl⟩
  refine ⟨_, decide ((k : Int) < ((qs.map encS).length : Nat)), s', et_test (ev_cmpI (K := K) (ev_var rfl) (ev_lenL (ev_wl rfl wq))), fun hb H3 e3 s3 => ?_, fun hb H3 e3 s3 => ?_⟩
  · have hk : k < qs.length := by
      have := of_decide_eq_true hb
      rw [List.length_map] at this
      omega
    have hat : (qs.map encS)[k]? = some (encS qs[k]) := by simp [hk]
    have hsq : qs[k]? = some qs[k] := List.getElem?_eq_getElem hk
    have hsm : qs[k] ∈ qs := List.getElem_mem hk
    have hsok := ei.qok _ hsm
    generalize qs[k] = s at *
    refine st_par (A := aD K (encS s)) (B := aD K (natD (k + 1))) (ea_cons (ev_ixL (ev_wl rfl (WL.ex wq e3)) (ev_var rfl) (atD hat)) (ea_one (ev_numIs (ev_add (ev_var rfl) ev_int) (by omega)))) s3 fun σ4 H4 e4 s4 => ?_
    have s4' : SOk [some (aD K (plnD p)), some (aD K (natD 40)), some (aV (.ref fd)), some (aV (.ref ql)), some (aD K (natD (k + 1))), some (aD K (encS s)), none] σ4 H4 := s4.gle (by walk_at "gle")
    have ei4 := ei.ex (e3.trans e4)
    have wq4 := WL.ex wq (e3.trans e4)
    refine st_ifK (b := !decide (s ∈ rs.map (·.1))) (et_is (et_test (ev_notInDD (ev_var rfl) (ev_ddr (ev_var rfl) ei4.rw_.dd.r) (isTup_encS _) (dep_encS _))) (by rw [rwK_in])) s4' (fun σ' H' => ∃ rs' qs' ql', SOk [some (aD K (plnD p)), some (aD K (natD 40)), some (aV (.ref fd)), some (aV (.ref ql')), some (aD K (natD (k + 1))), none, none] σ' H' ∧ WL K H' ql' (qs'.map encS) ∧ ExIn P w K p fd H1 H' rs' qs' (k + 1) ∧ 3 * (42 - rs'.length) + (qs'.length - (k + 1)) < 3 * (42 - rs.length) + (qs.length - k)) (fun hb2 kk H5 e5 s5 => ?_) (fun hb2 kk H5 e5 s5 => ?_) ?_
    · have hns : s ∉ rs.map (·.1) := by simpa using hb2
      have ei5 := ei4.ex e5
      refine st_setDD (K := K) (A := aL K ((afterP p s).map encSG)) (ev_call (f := spf_lafter K) (p, s) (ea_cons (ev_var rfl) (ea_one (ev_var rfl))) ⟨hp, hsok⟩) (ev_var rfl) (ev_var rfl) s5 ei5.rw_.dd (isTup_encS _) (dep_encS _) (by rw [rwK_len]; omega) (fun v H9 H10 e9 pv dd9 f10 s10 dd10 => ?_) (by walk_at "gs")
      obtain ⟨la, ys, rfl, hsqv, hda⟩ := pv
      rw [rwK_put hns] at dd10
      have noL : ∀ b ∈ [fd], ∀ zs, ¬ Rd H9 b (.lst zs) := fun b hb zs => by rw [List.mem_singleton.mp hb]; exact dd9.noL zs
      have r10 : RL K H10 la ((afterP p s).map encSG) := (RL.mk' hsqv hda).frs f10 noL
      have wq9 := WL.ex wq4 (e5.trans e9)
      have wq10 := wq9.frs f10 (by have := dd9.ne_wl wq9; simp [this])
      have nd10 : ((rs ++ [(s, la)]).map (·.1)).Nodup := by
        rw [List.map_append, List.nodup_append]
        exact ⟨ei.nd, by simp, fun a ha b hb => by
          have : b = s := by simpa using hb
          rw [this]
          exact fun z => hns (z ▸ ha)⟩
      have hrow : ∀ q ∈ rs ++ [(s, la)], RL K H10 q.2 ((afterP p q.1).map encSG) := fun q hq => by
        rcases List.mem_append.mp hq with z | z
        · exact RL.frs (K := K) (H := H9) (a := q.2) ((aL K _).mono e9 (ei5.rw_.row q z)) f10 noL
        · rw [List.mem_singleton.mp z]; exact r10
      have hal := after_len p s
      refine EvN.st (K := K) (n := 3) (ev_catN (ev_var rfl) (en_map (K := K) (afterP p s) encSG _ (fun q => encS q.1) (ei_L (ev_ofV (ev_getDD (ev_ddr (ev_var rfl) dd10.r) (ev_var rfl) (isTup_encS _) (dep_encS _) (rwK_get nd10 (q := (s, la)) (by simp))) r10)) rfl (by omega) (fun q _ => tg_name) fun q _ => ev_ixT (ev_var rfl) ev_int rfl) wq10 (by have := ei.qfew; simp only [List.length_map]; omega)) s10 fun ql' σ11 H11 hql' e11 s11 wq11 => ?_
      have eqs : qs.map encS ++ (afterP p s).map (fun q => encS q.1) = (qs ++ (afterP p s).map (·.1)).map encS := by rw [List.map_append, List.map_map]; rfl
      rw [eqs] at wq11
      refine kk _ _ ⟨rs ++ [(s, la)], qs ++ (afterP p s).map (·.1), ql', s11.gle (by walk_at "gle"), wq11, ⟨((ei5.fr.trans (.ex e9)).trans f10).trans (.ex e11), ⟨rfl, dd10.ex e11, fun q hq => (aL K _).mono e11 (hrow q hq)⟩, nd10, ?_, ?_, List.mem_append_left _ ei.first, ?_, ?_, ?_, ?_⟩, ?_⟩
      · intro x hx
        rw [List.map_append] at hx
        rcases List.mem_append.mp hx with z | z
        · exact List.mem_append_left _ (ei.ok x z)
        · have : x = s := by simpa using z
          rw [this]; exact List.mem_append_left _ hsm
      · intro x hx
        rcases List.mem_append.mp hx with z | z
        · exact ei.qok x z
        · obtain ⟨q', hq', rfl⟩ := List.mem_map.mp z
          exact after_ok hp hsok _ hq'
      · rw [List.length_append]; omega
      · intro i x hi hx
        rw [List.map_append]
        by_cases z : i < k
        · rw [List.getElem?_append_left (by omega)] at hx
          exact List.mem_append_left _ (ei.done i x z hx)
        · have : i = k := by omega
          subst this
          rw [List.getElem?_append_left hk, hsq] at hx
          rw [← Option.some.inj hx]
          exact List.mem_append_right _ (by simp)
      · intro x hx q' hq'
        rw [List.map_append] at hx
        rcases List.mem_append.mp hx with z | z
        · exact List.mem_append_left _ (ei.next x z q' hq')
        · have : x = s := by simpa using z
          subst this
          exact List.mem_append_right _ (List.mem_map.mpr ⟨q', hq', rfl⟩)
      · have := ei.qfew
        simp only [List.length_append, List.length_map, List.length_singleton]
        omega
      · simp only [List.length_append, List.length_map, List.length_singleton]
        omega
    · have hs : s ∈ rs.map (·.1) := by simpa using hb2
      have ei5 := ei4.ex e5
      refine kk _ _ ⟨rs, qs, ql, s5.gle (by walk_at "gle"), WL.ex wq4 e5, { ei5 with le := hk, done := fun i x hi hx => ?_ }, by omega⟩
      by_cases z : i < k
      · exact ei.done i x z hx
      · have : i = k := by omega
        subst this
        rw [hsq] at hx
        rw [← Option.some.inj hx]
        exact hs
    · rintro σ5 H5 ⟨rs', qs', ql', s5, wq5, ei5, hlt⟩
      refine st_if (et_test (ev_cmpI (K := K) (ev_lenDD (ev_ddr (ev_var rfl) ei5.rw_.dd.r)) (ev_var rfl))) s5 (fun _ H6 e6 s6 => ?_) (fun hb6 H6 e6 s6 => ?_)
      · have e06 : Ex H H6 := (ei5.fr.ofNew e1 fun a ha => by rw [List.mem_singleton.mp ha]; exact hfd).trans e6
        exact st_ret (A := aX (aRwO P w K p)) (ev_X (B := aRwO P w K p) none ev_nonV) s6 fun v H7 e7 p7 => q v H7 (e06.trans e7) p7
      · have h40 : rs'.length ≤ 40 := by
          have := of_decide_eq_false hb6
          rw [rwK_len] at this
          omega
        exact ⟨_, hlt, rs', qs', k + 1, ql', s6, WL.ex wq5 e6, ei5.ex e6, h40, rfl⟩
  · have hk : qs.length ≤ k := by
      have := of_decide_eq_false hb
      rw [List.length_map] at this
      omega
    have ei3 := ei.ex e3
    have all : ∀ s ∈ qs, s ∈ rs.map (·.1) := fun s hs => by
      obtain ⟨i, hi, rfl⟩ := List.mem_iff_getElem.mp hs
      exact ei.done i _ (by omega) (List.getElem?_eq_getElem hi)
    have ex : Expl p (rs.map (·.1)) := ⟨ei.nd, by rw [List.length_map]; exact hfew, all _ ei.first, fun s hs => ei.qok s (ei.ok s hs), fun s hs q hq => all _ (ei.next s hs q hq)⟩
    have e03 : Ex H H3 := ei3.fr.ofNew e1 fun a ha => by rw [List.mem_singleton.mp ha]; exact hfd
    show tRet (tVar 2) _ _ _
    refine st_ret (A := aX (aRwO P w K p)) (ev_X (B := aRwO P w K p) (some ⟨_, ex⟩) (ev_ofV (A := aRw P w K p (rs.map (·.1))) (ev_var rfl) ⟨fd, rs, rfl, ei3.rw_⟩)) s3 fun v H7 e7 p7 => ?_
    exact q v H7 (e03.trans e7) p7
section
variable {P : Program} {w : World} {K : PySem.W.Frag} {G : Gam} {σ : L2.St} {H H1 H' H2 : Hp} {EE : Ends} {te : TE} {ds : List D} {a b : Addr} {kvs : List (D × V)} {xs : XE3} {W : List Addr} {n : Nat} {od : Obj} {u : HO}
theorem st_newDL {ps : List (D × Int)} (h : EvN K te G H (ps.map fun p => .tup [p.1, .num p.2])) (hk : ∀ p ∈ ps, isTup p.1 = true ∧ p.1.depth ≤ 8) (hnd : (ps.map (·.1)).Nodup) (s : SOk G σ H)
    (q : ∀ d σ' H', H d = none → Ex H H' → SOk (G.set n (some (aV (.ref d)))) σ' H' → DDw P w K H' d (ps.map fun q => (q.1, V.int q.2)) → EE.nx σ' H') (hn : n < G.length := by exact Nat.le_of_ble_eq_true rfl) : tAsg (tCB (rDictL P w K) (tCons te tNil)) (gName n) EE σ H :=
  h σ H s (Evl.Ex.refl H) _ fun l xs H1 hl e1 hx hd => ⟨l, ps, xs, rfl, Evl.sq_of hx, hd, hk, hnd, fun d H' hd' ⟨u, hu, hn'⟩ dd => by
    have e2 : Ex H1 H' := by rw [hu]; exact Evl.Ex.new hd'
    exact q d _ H' (Evl.fresh_back e1 hd') (e1.trans e2) ((s.ex (e1.trans e2)).set n rfl hn) dd⟩
theorem sql_frs {ys : List V} (h1 : SqL K H a ys) (x : Frs W H H1) (hw : ∀ b ∈ W, ∀ xs, ¬ Rd H b (.lst xs)) : SqL K H1 a ys := by
  rcases h1 with h1 | h1
  · have n : a ∉ W := fun z => hw a z ys h1
    rcases h1 with r | ⟨q, r⟩
    · exact .inl (.inl (x.keep a n _ r))
    · exact .inl (.inr ⟨q, x.keep a n _ r⟩)
  · exact .inr h1
/-- locked, W written, unlocked -/
theorem frs_unlock (h : H a = some u) (hu : lockable u = true) (f : Frs W (upd H a (.frz od u)) H') (ha : a ∉ W) : H' a = some (.frz od u) ∧ Frs W H (upd H' a u) := by
  have h1 : H' a = some (.frz od u) := f.keep a ha _ upd_same
  refine ⟨h1, fun b hb o ho => ?_, ((le_lock (od := od) h hu).t.trans f.t).trans (le_unlock h1).t⟩
  by_cases z : b = a
  · subst z
    rw [h] at ho; cases ho
    exact upd_same
  · rw [upd_ne z]
    exact f.keep b hb o (by rw [upd_ne z]; exact ho)
theorem DDw.unlock (h : DDw P w K H' b kvs) (h1 : H' a = some (.frz od u)) (ne : b ≠ a) : DDw P w K (upd H' a u) b kvs := h.keep (le_unlock h1).t fun o ho => by rw [upd_ne ne]; exact ho
theorem DDw.lock (h : DDw P w K H b kvs) (h1 : H a = some u) (hu : lockable u = true) (ne : b ≠ a) : DDw P w K (upd H a (.frz od u)) b kvs := h.keep (le_lock h1 hu).t fun o ho => by rw [upd_ne ne]; exact ho
theorem DDr.frs (h : DDr P w K H a kvs) (x : Frs W H H1) (hw : a ∉ W) : DDr P w K H1 a kvs := h.keep x.t fun o r => by
  rcases r with r | ⟨q, r⟩
  · exact .inl (x.keep a hw _ r)
  · exact .inr ⟨q, x.keep a hw _ r⟩
end
def hput (hs : Hts) (s : Stand) (n : Int) : Hts := if s ∈ hs.map (·.1) then hs.map (fun q => if q.1 = s then (q.1, n) else q) else hs ++ [(s, n)]
theorem hput_keys (hs : Hts) (s : Stand) (n : Int) : (hput hs s n).map (·.1) = if s ∈ hs.map (·.1) then hs.map (·.1) else hs.map (·.1) ++ [s] := by
  unfold hput
  split
  · rw [List.map_map]
    refine List.map_congr_left fun q _ => ?_
    show (if q.1 = s then _ else q).1 = q.1
    split <;> rfl
  · rw [List.map_append]; rfl
theorem putK_hK (hs : Hts) (s : Stand) (n : Int) : putK (hK hs) (encS s) (.int n) = hK (hput hs s n) := by
  have ha : ((hK hs).any fun kv => decide (kv.1 = encS s)) = decide (s ∈ hs.map (·.1)) := by
    rw [valV_any]
    exact valV_in_map (fun q : Stand × Int => V.int q.2) (fun q => q.1) hs s
  unfold putK hput
  rw [ha]
  by_cases h : s ∈ hs.map (·.1)
  · rw [decide_eq_true h, if_pos rfl, if_pos h]
    unfold hK
    rw [List.map_map, List.map_map]
    refine List.map_congr_left fun q _ => ?_
    show (if encS q.1 = encS s then (encS q.1, V.int n) else (encS q.1, V.int q.2)) = (encS (if q.1 = s then (q.1, n) else q).1, V.int (if q.1 = s then (q.1, n) else q).2)
    by_cases e : q.1 = s
    · rw [if_pos (by rw [e]), if_pos e]
    · rw [if_neg (fun z => e (encS_inj z)), if_neg e]
  · rw [decide_eq_false h, if_neg (by decide), if_neg h]
    unfold hK
    rw [List.map_append]; rfl
theorem hK_len (hs : Hts) : (hK hs).length = hs.length := by unfold hK; rw [List.length_map]
theorem hget_some {hs : Hts} {s : Stand} (h : s ∈ hs.map (·.1)) : ∃ n, valV (hK hs) (encS s) = some (.int n) := by
  have z := valV_in_map (fun q : Stand × Int => V.int q.2) (fun q => q.1) hs s
  rw [decide_eq_true h] at z
  rw [valV_hK]
  have e : valV (hK hs) (encS s) = (hget hs s).map V.int := valV_hK s hs
  have z2 : (valV (hK hs) (encS s)).isSome = true := z
  rw [e] at z2
  cases y : hget hs s with
  | none => rw [y] at z2; cases z2
  | some n => exact ⟨n, rfl⟩
/-- heights of just these stands, or None -/
def aHtO (P : Program) (w : World) (K : PySem.W.Frag) (ss : List Stand) : Option {hs : Hts // hs.map (·.1) = ss} → Asr
  | none => aV .non
  | some x => aDW P w K (hK x.1)
def spf_sums (P : Program) (w : World) (K : PySem.W.Frag) : Spf (Pln × List Stand) := ⟨fun x => [aD K (plnD x.1), aRw P w K x.1 x.2], fun x => x.1.Ok ∧ Expl x.1 x.2, fun x => aX (aHtO P w K x.2)⟩
abbrev sc__law_sums_N : List Str := ["_law_plain_here", "_law_rows", "_law_found", "_law_turn", "_law_is_new", "_law_stand_here", "_law_later", "_law_gone"]
theorem sc__law_sums : FnScope ["_law_plain_here", "_law_rows", "_law_found", "_law_turn", "_law_is_new", "_law_stand_here", "_law_later", "_law_gone"] ["_law_plain_here", "_law_rows"] (defScope (topS 60)) := ⟨rfl, rfl, rfl, by decide +kernel, rfl, by decide +kernel, by decide +kernel⟩
theorem ok__law_sums {P : Program} {w : World} {K : PySem.W.Frag} {mg : Str → Option Value} {base : Heap} {ad : Ads} (fx : Fx K mg ad) : Ok P w K mg base CX0 6 "_law_sums" ["_law_plain_here", "_law_rows"] ((spf_sums P w K).sp) := by
  refine fx.d__law_sums.ok sc__law_sums (fun _ _ _ _ _ _ us hl => match us, hl with | [_, _], _ => rfl) (Spf.len fun _ => rfl) fun f cdv A outer s H vs Q E hr hcd h => ?_
  refine ⟨_, PSs.nox (pss_cons (ps_set (i := 2) sc__law_sums.nd rfl (by first | exact .inl rfl | exact .inr rfl) (pe_callTy (xDict P w K rfl hr.units) (by rfl) fx.dict_ (by decide +kernel) (pa_cons (pe_lock (pe_lc (own := [("_law_stand_here", 5)]) rfl sc__law_sums.nd (xKeysD P w (pv 1)) (blkOk_by (own := [("_law_stand_here", 5)]) (N := ["_law_plain_here", "_law_rows", "_law_found", "_law_turn", "_law_is_new", "_law_stand_here", "_law_later", "_law_gone"]) (sc := defScope (topS 60)) (by decide +kernel)) (fun _ _ _ _ _ => (pg_name (i := 5) sc__law_sums.nd rfl (by first | exact .inl rfl | exact .inr rfl))) (fun _ _ _ _ _ => pts_nil) (fun _ _ _ _ _ => pe_tup (pa_cons (pv 5) (pa_cons pe_int pa_nil))))) pa_nil))) (pss_cons (ps_for PassesOwn.never rfl (pi_range1 (by rfl) fx.range_ (pa_cons (pe_op (xAdd K) (pe_callB (xLen P w K) (by rfl) fx.len_ (by decide +kernel) (pa_cons (pv 1) pa_nil)) pe_int) pa_nil)) (pg_name (i := 3) sc__law_sums.nd rfl (by first | exact .inl rfl | exact .inr rfl)) (pss_cons (ps_set (i := 4) sc__law_sums.nd rfl (by first | exact .inl rfl | exact .inr rfl) pe_bl) (pss_cons (ps_lock (ps_for PassesOwn.never rfl (xKeysD P w (pv 1)) (pg_name (i := 5) sc__law_sums.nd rfl (by first | exact .inl rfl | exact .inr rfl)) (pss_one (ps_for PassesOwn.never rfl (xSeq K (pe_ix (xIx P w K hr.units) (pv 1) (pv 5) (fun _ _ => rfl))) (xTg K (n := 2) rfl (pgs_cons (pg_name (i := 6) sc__law_sums.nd rfl (by first | exact .inl rfl | exact .inr rfl)) (pgs_cons (pg_name (i := 7) sc__law_sums.nd rfl (by first | exact .inl rfl | exact .inr rfl)) pgs_nil))) (pss_one (ps_if (PW.pt (pw_and (pt_not (pt_val (pe_callD (ok__law_is_clear (P := P) (w := w) (base := base) fx) (hr.mono (by decide)) (by rfl) (pa_cons (pv 0) (pa_cons (pv 5) pa_nil))))) (pw_and1 (pt_cmpR op_gt (pe_op (xAdd K) (pe_ix (xIx P w K hr.units) (pv 2) (pv 5) (fun _ _ => rfl)) (pv 7)) (pe_ix (xIx P w K hr.units) (pv 2) (pv 6) (fun _ _ => rfl)) (nomark _))))) (pss_cons (ps_asg (pe_op (xAdd K) (pe_ix (xIx P w K hr.units) (pv 2) (pv 5) (fun _ _ => rfl)) (pv 7)) (pg_sub (pv 2) (pv 6) (xSet P w K hr.units))) (pss_one (ps_set (i := 4) sc__law_sums.nd rfl (by first | exact .inl rfl | exact .inr rfl) pe_bl))) (pss_nil))))))) (pss_one (ps_if (pt_not (pt_val (pv 4))) (pss_one (ps_ret (pv 2))) (pss_nil)))))) (pss_one (ps_ret pe_non)))), ?_⟩
  obtain ⟨⟨p, ss⟩, ⟨hp, hex⟩, hAll, q⟩ := h
  have hp : p.Ok := hp
  have hex : Expl p ss := hex
  obtain ⟨x0, y0, rfl, px, a, rs, rfl, rw0⟩ := aall2 hAll
  have rw0 : RwIs P w K H p ss a rs := rw0
  have s0 : SOk _ _ H := SOk.entry (N := sc__law_sums_N) (As := [aD K (plnD p), aV (.ref a)]) (.cons px (.cons rfl .nil))
  have ndr : (rs.map (·.1)).Nodup := by rw [rw0.keys]; exact hex.nd
  have hkeys : (rwK rs).map (·.1) = ss.map encS := by rw [rwK_keys, rw0.keys]
  have hrl : rs.length = ss.length := by rw [← rw0.keys, List.length_map]
  have hfew := hex.few
  obtain ⟨xs, hx, kd⟩ := rw0.dd
  refine st_newDL (K := K) (n := 2) (ps := ss.map fun s => (encS s, 0)) (en_lock (G1 := entry sc__law_sums_N [aD K (plnD p), aV (.ref a)]) a _ hx ddO_mut ddO_lockable (fun σ H1 od s e => s.le (le_lock (e _ _ hx) ddO_lockable) (by walk_at "gl")) fun od => by
    rw [List.map_map]
    exact en_map (K := K) ss encS _ (fun s => .tup [encS s, .num 0]) (ei_keysD (ev_var rfl) upd_same (kd.to (le_lock hx ddO_lockable).t)) hkeys (by omega) (fun q _ => tg_name) fun r hr => ev_tup (ed_cons (ev_var rfl) (ed_cons ev_int ed_nil)) (by show 2 ≤ 100000; decide)) (fun z hz => ?_) ?_ s0 fun fd σ2 H2 hfd e2 s2 dd2 => ?_
  · obtain ⟨s, _, rfl⟩ := List.mem_map.mp hz
    exact ⟨isTup_encS _, dep_encS _⟩
  · rw [List.map_map]
    exact List.Pairwise.map _ (fun _ _ hab e => hab (encS_inj e)) hex.nd
  have dd2 : DDw P w K H2 fd (hK (ss.map fun s => (s, 0))) := by
    have e : (ss.map fun s => (encS s, (0 : Int))).map (fun q => (q.1, V.int q.2)) = hK (ss.map fun s => (s, 0)) := by unfold hK; rw [List.map_map, List.map_map]; rfl
    rw [← e]; exact dd2
  have rw2 := rw0.ex e2
  have haf : a ≠ fd := rw0.dd.ne hfd
  refine st_range1 (n := ss.length + 1) (ea_one (ev_numIs (ev_add (ev_lenDD (ev_ddr (ev_var rfl) rw2.dd.r)) ev_int) (by rw [rwK_len, hrl]; omega))) s2 (by omega) (fun i σ' H' => ∃ hs : Hts, hs.map (·.1) = ss ∧ SOk [some (aD K (plnD p)), some (aV (.ref a)), some (aV (.ref fd)), none, none, none, none, none] σ' H' ∧ Frs [fd] H2 H' ∧ DDw P w K H' fd (hK hs)) ?_ ?_ ?_
  · exact fun H3 e3 => ⟨ss.map fun s => (s, 0), by simp [List.map_map, Function.comp_def], (s2.ex e3).gle (by walk_at "gle"), .ex e3, dd2.ex e3⟩
  · rintro i σ' H' hi ⟨hs, hkk, s', f', dd'⟩
    have s3 := s'.set 3 (A := aD K (natD i)) (v := .int (i : Nat)) (.int _) (Nat.le_of_ble_eq_true rfl)
    refine st_set (A := aB false) ev_bl s3 fun σ4 H4 e4 s4 => ?_
    have s4' : SOk [some (aD K (plnD p)), some (aV (.ref a)), some (aV (.ref fd)), none, some (aB false), none, none, none] σ4 H4 := s4.gle (by walk_at "gle")
    clear s3 s4
    have f4 := f'.trans (.ex e4)
    have dd4 := dd'.ex e4
    have noL2 : ∀ b ∈ [fd], ∀ zs, ¬ Rd H2 b (.lst zs) := fun b hb zs => by rw [List.mem_singleton.mp hb]; exact dd2.noL zs
    have rows4 : ∀ q ∈ rs, RL K H4 q.2 ((afterP p q.1).map encSG) := fun q hq => RL.frs (rw2.row q hq) f4 noL2
    have ddr4 : DDw P w K H4 a (rwK rs) := rw2.dd.frs f4 (by simp [haf])
    obtain ⟨ys, hx4, kd4⟩ := ddr4
    refine ⟨a, _, hx4, ddO_mut, fun od => ?_⟩
    have sL := s4'.le (le_lock (od := od) hx4 ddO_lockable) (by walk_at "gl")
    have drL := ddr_lock (od := od) hx4 kd4
    have kdL := kd4.to (le_lock (od := od) hx4 ddO_lockable).t
    have rowsL : ∀ q ∈ rs, RL K (upd H4 a (.frz od (ddO P w a ys))) q.2 ((afterP p q.1).map encSG) := fun q hq => aL_le _ _ _ (le_lock (od := od) hx4 ddO_lockable) (rows4 q hq)
    have ddL := dd4.lock (od := od) hx4 ddO_lockable (Ne.symm haf)
    have exU : ∀ {H'}, Frs [fd] (upd H4 a (.frz od (ddO P w a ys))) H' → H' a = some (.frz od (ddO P w a ys)) ∧ Frs [fd] H4 (upd H' a (ddO P w a ys)) := fun {H'} f => frs_unlock hx4 ddO_lockable f (by simp [haf])
    obtain ⟨v1, hv1, pv1⟩ := sL.at_ 1 (aV (.ref a)) rfl
    have ev1 : v1 = .ref a := pv1
    subst ev1
    have hLa : (upd H4 a (.frz od (ddO P w a ys))) a = some (.frz od (ddO P w a ys)) := upd_same
    generalize upd H4 a (.frz od (ddO P w a ys)) = HL at *
    have noLL : ∀ b ∈ [fd], ∀ zs, ¬ Rd HL b (.lst zs) := fun b hb zs => by rw [List.mem_singleton.mp hb]; exact ddL.noL zs
    refine ⟨.ref a, hv1, a, od, ys, rfl, hLa, for_it (walk_itq kdL) (fun i σ' H' => ∃ (hs : Hts) (b : Bool), hs.map (·.1) = ss ∧ SOk [some (aD K (plnD p)), some (aV (.ref a)), some (aV (.ref fd)), none, some (aB b), none, none, none] σ' H' ∧ Frs [fd] HL H' ∧ DDw P w K H' fd (hK hs)) ⟨hs, false, hkk, sL, .refl, ddL⟩ (fun i σ' H' _ p' => ?_) ?_ ?_⟩
    · obtain ⟨_, _, _, _, f, _⟩ := p'
      exact ⟨(exU f).1, f.t⟩
    · rintro j x' σ5 H5 H6 hj ⟨hs5, b5, hk5, s5, f5, dd5⟩ ⟨e6, d, hd, hdk⟩
      rw [hkeys] at hd
      have hj2 : j < ss.length := by rw [rwK_len, hrl] at hj; exact hj
      rw [List.getElem?_map, List.getElem?_eq_getElem hj2] at hd
      have ed := Option.some.inj hd
      subst ed
      have hm : ss[j] ∈ ss := List.getElem_mem hj2
      generalize ss[j] = s at *
      have hsok := hex.ok s hm
      have f6 := f5.trans (.ex e6)
      have dd6 := dd5.ex e6
      obtain ⟨rq, hrq, hrs⟩ : ∃ rq ∈ rs, rq.1 = s := by
        rw [← rw0.keys] at hm
        exact List.mem_map.mp hm
      have s6 := (s5.ex e6).set 5 (A := aD K (encS s)) hdk (Nat.le_of_ble_eq_true rfl)
      have s6' : SOk [some (aD K (plnD p)), some (aV (.ref a)), some (aV (.ref fd)), none, some (aB b5), some (aD K (encS s)), none, none] _ H6 := s6.gle (by walk_at "gle")
      have rl6 : RL K H6 rq.2 ((afterP p s).map encSG) := by rw [← hrs]; exact RL.frs (rowsL rq hrq) f6 noLL
      have dr6 : DDr P w K H6 a (rwK rs) := drL.frs f6 (by simp [haf])
      have gr : valV (rwK rs) (encS s) = some (.ref rq.2) := by rw [← hrs]; exact rwK_get ndr hrq
      refine st_forL (K := K) (ev_ofV (ev_getDD (ev_ddr (ev_var rfl) dr6) (ev_var rfl) (isTup_encS _) (dep_encS _) gr) rl6) s6' fun H7 la lx e7 s7 hsq hda => ⟨fun j σ' H' => ∃ (hs : Hts) (b : Bool), hs.map (·.1) = ss ∧ SOk [some (aD K (plnD p)), some (aV (.ref a)), some (aV (.ref fd)), none, some (aB b), some (aD K (encS s)), none, none] σ' H' ∧ Frs [fd] H7 H' ∧ DDw P w K H' fd (hK hs), ⟨hs5, b5, hk5, s7, .refl, dd6.ex e7⟩, ?_, ?_, ?_⟩
      · rintro j σ' H' ⟨_, _, _, _, f, _⟩
        exact ⟨f.t, sql_frs hsq f fun b hb zs => by rw [List.mem_singleton.mp hb]; exact (dd6.ex e7).noL zs⟩
      · rintro j d x5 σ8 H8 hd8 ⟨hs8, b8, hk8, s8, f8, dd8⟩ hx8
        have hjl : j < (afterP p s).length := by
          have := (List.getElem?_eq_some_iff.mp hd8).1
          rw [List.length_map] at this
          exact this
        rw [List.getElem?_map, List.getElem?_eq_getElem hjl] at hd8
        have ed := Option.some.inj hd8
        subst ed
        have hm8 : (afterP p s)[j] ∈ afterP p s := List.getElem_mem hjl
        have hml := hex.next s hm _ hm8
        generalize (afterP p s)[j] = rr at *
        obtain ⟨s', g'⟩ := rr
        have hml : s' ∈ ss := hml
        refine (tg_tup (vs := sv) (tgs_cons tg_name (tgs_cons tg_name tgs_nil)) rfl) _ σ8 H8 s8 hx8 _ fun σ9 s9 _ => ?_
        have s9' : SOk [some (aD K (plnD p)), some (aV (.ref a)), some (aV (.ref fd)), none, some (aB b8), some (aD K (encS s)), some (aD K (encS s')), some (aD K (.num g'))] σ9 H8 := s9.gle (by walk_at "gle")
        obtain ⟨n1, hn1⟩ := hget_some (hs := hs8) (s := s) (by rw [hk8]; exact hm)
        obtain ⟨n2, hn2⟩ := hget_some (hs := hs8) (s := s') (by rw [hk8]; exact hml)
        have g1 : ∀ {H'}, Ex H8 H' → EvG (tOp (rIxU P w K) (tVar 2) (tVar 5)) [some (aD K (plnD p)), some (aV (.ref a)), some (aV (.ref fd)), none, some (aB b8), some (aD K (encS s)), some (aD K (encS s')), some (aD K (.num g'))] H' (aD K (.num n1)) := fun e => ev_to (ev_getDD (ev_ddr (ev_var rfl) (dd8.ex e).r) (ev_var rfl) (isTup_encS _) (dep_encS _) hn1) fun _ _ z => num_of z
        have g2 : ∀ {H'}, Ex H8 H' → EvG (tOp (rIxU P w K) (tVar 2) (tVar 6)) [some (aD K (plnD p)), some (aV (.ref a)), some (aV (.ref fd)), none, some (aB b8), some (aD K (encS s)), some (aD K (encS s')), some (aD K (.num g'))] H' (aD K (.num n2)) := fun e => ev_to (ev_getDD (ev_ddr (ev_var rfl) (dd8.ex e).r) (ev_var rfl) (isTup_encS _) (dep_encS _) hn2) fun _ _ z => num_of z
        refine st_if (et_and (et_not (et_B (ev_call (f := spf_lclear K) (p, s) (ea_cons (ev_var rfl) (ea_one (ev_var rfl))) hp))) fun _ => et_test (ev_cmpI (K := K) (ev_add (g1 (Evl.Ex.refl _)) (ev_var rfl)) (g2 (Evl.Ex.refl _)))) s9' (fun _ H10 e10 s10 => ?_) (fun _ H10 e10 s10 => ?_)
        · refine st_setDD (K := K) (A := aD K (.num (n1 + g'))) (ev_add (g1 e10) (ev_var rfl)) (ev_var rfl) (ev_var rfl) s10 (dd8.ex e10) (isTup_encS _) (dep_encS _) (by rw [hK_len, ← List.length_map (f := fun q : Stand × Int => q.1), hk8]; omega) (fun v H11 H12 e11 pv dd11 f12 s12 dd12 => ?_) (by walk_at "gs")
          have ev := DIs.num_inv pv
          subst ev
          rw [putK_hK] at dd12
          dsimp only
          refine st_set (A := aB true) ev_bl s12 fun σ13 H13 e13 s13 => ?_
          exact ⟨hput hs8 s' (n1 + g'), true, by rw [hput_keys, if_pos (by rw [hk8]; exact hml)]; exact hk8, s13.gle (by walk_at "gle"), ((f8.trans (.ex (e10.trans e11))).trans f12).trans (.ex e13), dd12.ex e13⟩
        · exact ⟨hs8, b8, hk8, s10.gle (by walk_at "gle"), f8.trans (.ex e10), dd8.ex e10⟩
      · rintro σ8 H8 ⟨hs8, b8, hk8, s8, f8, dd8⟩
        exact ⟨hs8, b8, hk8, s8.gle (by walk_at "gle"), (f6.trans (.ex e7)).trans f8, dd8⟩
    · rintro σ5 H5 ⟨hs5, b5, hk5, s5, f5, dd5⟩
      obtain ⟨u1, u2⟩ := exU f5
      refine ⟨u1, ?_⟩
      have s6 := s5.le (le_unlock u1) (by walk_at "gl")
      have dd6 := dd5.unlock u1 (Ne.symm haf)
      generalize upd H5 a (ddO P w a ys) = H6 at *
      refine st_if (b := !b5) (et_not (et_B (ev_var rfl))) s6 (fun _ H7 e7 s7 => ?_) (fun _ H7 e7 s7 => ?_)
      · have e07 : Ex H H7 := ((f4.trans u2).ofNew e2 fun b hb => by rw [List.mem_singleton.mp hb]; exact hfd).trans e7
        refine st_ret (A := aX (aHtO P w K ss)) (ev_X (B := aHtO P w K ss) (some ⟨hs5, hk5⟩) (ev_ofV (A := aDW P w K (hK hs5)) (ev_var rfl) ⟨fd, rfl, dd6.ex e7⟩)) s7 fun v H8 e8 p8 => ?_
        exact q v H8 (e07.trans e8) p8
      · exact ⟨hs5, hk5, s7.gle (by walk_at "gle"), (f4.trans u2).trans (.ex e7), dd6.ex e7⟩
  · rintro σ' H' ⟨hs, hkk, s', f', dd'⟩
    have e0' : Ex H H' := f'.ofNew e2 fun b hb => by rw [List.mem_singleton.mp hb]; exact hfd
    show tRet (tC .non) { nx := fun _ H' => Q .non H', rt := Q } σ' H'
    refine st_ret (A := aX (aHtO P w K ss)) (ev_X (B := aHtO P w K ss) none ev_nonV) s' fun v H8 e8 p8 => ?_
    exact q v H8 (e0'.trans e8) p8
theorem find_of {f : Nat → Stand × Nat} (hf : ∀ i, (f i).1.1 = i) (i : Nat) : ∀ l : List Nat, i ∈ l → (l.map f).find? (fun r => decide ((r.1.1 : Int) = (i : Nat))) = some (f i)
  | [], h => by cases h
  | j :: l, h => by
    rw [List.map_cons]
    by_cases e : j = i
    · subst e
      rw [List.find?_cons_of_pos (by simp [hf])]
    · rw [List.find?_cons_of_neg (by simp [hf]; omega)]
      rcases List.mem_cons.mp h with z | z
      · exact absurd z.symm e
      · exact find_of hf i l z
theorem after_find {p : Pln} {s : Stand} {q : Stand × Nat} (h : q ∈ afterP p s) : (afterP p s).find? (fun r => decide ((r.1.1 : Int) = (q.1.1 : Nat))) = some q := by
  unfold afterP at h ⊢
  split at h
  · cases h
  · rename_i t ht
    obtain ⟨i, hi, rfl⟩ := List.mem_map.mp h
    exact find_of (f := fun i => settle i (actP t p.wide s.2.1 s.2.2).1 (actP t p.wide s.2.1 s.2.2).2) (fun _ => rfl) i _ hi
def endS (s : Stand) (l : List SG) : Stand := match l.getLast? with
  | none => s
  | some x => x.1
theorem endS_cons (s : Stand) (x : SG) (l : List SG) : endS s (x :: l) = endS x.1 l := by
  unfold endS
  cases l with
  | nil => rfl
  | cons y r => rw [List.getLast?_cons_cons]; cases h : (y :: r).getLast? with
    | none => simp at h
    | some _ => rfl
theorem endS_snoc (s : Stand) (l : List SG) (x : SG) : endS s (l ++ [x]) = x.1 := by
  unfold endS
  rw [List.getLast?_append]
  rfl
theorem walkFrom_snoc (p : Pln) {q : Stand × Nat} : ∀ (r : List Int) (s : Stand) (g : Int) (l : List SG), walkFrom p s g r = some l → q ∈ afterP p (endS s l) → ∃ x : SG, x.1 = q.1 ∧ walkFrom p s g (r ++ [(q.1.1 : Int)]) = some (l ++ [x])
  | [], s, g, l, h, hq => by
    unfold walkFrom at h
    cases h
    have hf := after_find (show q ∈ afterP p s from hq)
    refine ⟨(q.1, (if clearP p s then 0 else g + q.2) + wasteP q.1), rfl, ?_⟩
    show walkFrom p s g [(q.1.1 : Int)] = _
    unfold walkFrom
    rw [hf]
    rfl
  | i :: r, s, g, l, h, hq => by
    unfold walkFrom at h
    show ∃ x : SG, x.1 = q.1 ∧ walkFrom p s g (i :: (r ++ [(q.1.1 : Int)])) = some (l ++ [x])
    unfold walkFrom
    split at h
    · cases h
    · rename_i q0 h0
      dsimp only at h ⊢
      split at h
      · cases h
      · rename_i l0 hl0
        cases h
        rw [endS_cons] at hq
        obtain ⟨x, hx, hw⟩ := walkFrom_snoc p r _ _ l0 hl0 hq
        exact ⟨x, hx, by rw [hw]; rfl⟩
/-- a path that leads to a stand -/
def RoadOk (p : Pln) (s : Stand) (path : List Int) : Prop := ∃ l, walkP p path = some l ∧ (lastW l).1 = s
theorem road_start (p : Pln) : RoadOk p (startP p) [0] := ⟨[(startP p, 0)], rfl, rfl⟩
theorem lastW_end (p : Pln) (l : List SG) : (lastW ((startP p, 0) :: l)).1 = endS (startP p) l := by
  unfold lastW endS
  rw [List.getLastD_eq_getLast?]
  cases l with
  | nil => rfl
  | cons y r =>
    rw [List.getLast?_cons_cons]
    cases h : (y :: r).getLast? with
    | none => simp at h
    | some _ => rfl
theorem road_snoc {p : Pln} {s : Stand} {path : List Int} {q : Stand × Nat} (h : RoadOk p s path) (hq : q ∈ afterP p s) : RoadOk p q.1 (path ++ [(q.1.1 : Int)]) := by
  obtain ⟨l, h1, h2⟩ := h
  cases path with
  | nil => cases h1
  | cons i r =>
    have e0 : ∀ r : List Int, walkP p (i :: r) = if i = 0 then (walkFrom p (startP p) 0 r).map (fun l => (startP p, 0) :: l) else none := fun _ => rfl
    rw [e0] at h1
    split at h1
    · rename_i hi
      obtain ⟨l0, h3, rfl⟩ := Option.map_eq_some_iff.mp h1
      rw [lastW_end] at h2
      obtain ⟨x, hx, hw⟩ := walkFrom_snoc p r _ _ l0 h3 (by rw [h2]; exact hq)
      refine ⟨(startP p, 0) :: (l0 ++ [x]), ?_, by rw [lastW_end, endS_snoc, hx]⟩
      rw [List.cons_append, e0, if_pos hi, hw]
      rfl
    · cases h1
abbrev Rds := List (Stand × V)
def rdK (rs : Rds) : List (D × V) := rs.map fun q => (encS q.1, q.2)
theorem rdK_len (rs : Rds) : (rdK rs).length = rs.length := by unfold rdK; rw [List.length_map]
theorem rdK_keys (rs : Rds) : (rdK rs).map (·.1) = (rs.map (·.1)).map encS := by unfold rdK; rw [List.map_map, List.map_map]; rfl
theorem rdK_in (rs : Rds) (s : Stand) : (valV (rdK rs) (encS s)).isSome = decide (s ∈ rs.map (·.1)) := valV_in_map (fun q : Stand × V => q.2) (fun q => q.1) rs s
theorem rdK_get {rs : Rds} (hn : (rs.map (·.1)).Nodup) {q : Stand × V} (h : q ∈ rs) : valV (rdK rs) (encS q.1) = some q.2 := valV_mem (fun q : Stand × V => q.2) (fun q => q.1) rs hn q h
theorem rdK_put {rs : Rds} {s : Stand} {v : V} (h : s ∉ rs.map (·.1)) : putK (rdK rs) (encS s) v = rdK (rs ++ [(s, v)]) := by
  rw [L2.putK_new]
  · unfold rdK; rw [List.map_append]; rfl
  · have z := rdK_in rs s
    rw [decide_eq_false h] at z
    cases y : valV (rdK rs) (encS s) with
    | none => rfl
    | some _ => rw [y] at z; cases z
structure RdIs (P : Program) (w : World) (K : PySem.W.Frag) (H : Hp) (p : Pln) (ss : List Stand) (fd : Addr) (rs : Rds) : Prop where
  dd : DDw P w K H fd (rdK rs)
  nd : (rs.map (·.1)).Nodup
  sub : ∀ s ∈ rs.map (·.1), s ∈ ss
  ne : rs ≠ []
  path : ∀ q ∈ rs, ∃ path : List Int, DIs K H q.2 (.tup (path.map .num)) ∧ path.length ≤ rs.length ∧ RoadOk p q.1 path
theorem RdIs.ex {P : Program} {w : World} {K : PySem.W.Frag} {H H' : Hp} {p : Pln} {ss : List Stand} {fd : Addr} {rs : Rds} (h : RdIs P w K H p ss fd rs) (e : Ex H H') : RdIs P w K H' p ss fd rs :=
  ⟨h.dd.ex e, h.nd, h.sub, h.ne, fun q hq => let ⟨path, h1, h2⟩ := h.path q hq; ⟨path, h1.ex e, h2⟩⟩
theorem RdIs.few {P : Program} {w : World} {K : PySem.W.Frag} {H : Hp} {p : Pln} {ss : List Stand} {fd : Addr} {rs : Rds} (h : RdIs P w K H p ss fd rs) : rs.length ≤ ss.length := by
  have := h.nd.length_le_of_subset (fun s hs => h.sub s hs)
  rwa [List.length_map] at this
def aRd (P : Program) (w : World) (K : PySem.W.Frag) (p : Pln) (ss : List Stand) : Asr := ⟨fun v H => ∃ a rs, v = .ref a ∧ RdIs P w K H p ss a rs, fun e ⟨a, rs, h1, h2⟩ => ⟨a, rs, h1, h2.ex e⟩⟩
def spf_roads (P : Program) (w : World) (K : PySem.W.Frag) : Spf (Pln × List Stand) := ⟨fun x => [aD K (plnD x.1), aRw P w K x.1 x.2], fun x => x.1.Ok ∧ Expl x.1 x.2, fun x => aRd P w K x.1 x.2⟩
abbrev sc__law_roads_N : List Str := ["_law_plain_here", "_law_rows", "_law_first_here", "_law_found", "_law_queue", "_law_at", "_law_stand_here", "_law_later", "_law_gone"]
theorem sc__law_roads : FnScope ["_law_plain_here", "_law_rows", "_law_first_here", "_law_found", "_law_queue", "_law_at", "_law_stand_here", "_law_later", "_law_gone"] ["_law_plain_here", "_law_rows"] (defScope (topS 64)) := ⟨rfl, rfl, rfl, by decide +kernel, rfl, by decide +kernel, by decide +kernel⟩
theorem ok__law_roads {P : Program} {w : World} {K : PySem.W.Frag} {mg : Str → Option Value} {base : Heap} {ad : Ads} (fx : Fx K mg ad) : Ok P w K mg base CX0 6 "_law_roads" ["_law_plain_here", "_law_rows"] ((spf_roads P w K).sp) := by
  refine fx.d__law_roads.ok sc__law_roads (fun _ _ _ _ _ _ us hl => match us, hl with | [_, _], _ => rfl) (Spf.len fun _ => rfl) fun f cdv A outer s H vs Q E hr hcd h => ?_
  refine ⟨_, PSs.nox (pss_cons (ps_set (i := 2) sc__law_roads.nd rfl (by first | exact .inl rfl | exact .inr rfl) (pe_callD (ok__law_first (P := P) (w := w) (base := base) fx) (hr.mono (by decide)) (by rfl) (pa_cons (pv 0) pa_nil))) (pss_cons (ps_par3 (i := 3) (j := 4) (l := 5) (by rfl) sc__law_roads.nd rfl rfl rfl (by decide) (by decide) (by decide) rfl rfl rfl (pa_cons (xDispD P w K hr.units (pv 2) (pe_tup (pa_cons pe_int pa_nil))) (pa_cons (pe_lst (pa_cons (pv 2) pa_nil)) (pa_cons pe_int pa_nil))) (by rfl)) (pss_cons (ps_while PassesOwn.never (pt_cmpR op_lt (pv 5) (pe_callB (xLen P w K) (by rfl) fx.len_ (by decide +kernel) (pa_cons (pv 4) pa_nil)) (nomark _)) (pss_cons (ps_par (i := 6) (j := 5) (by rfl) sc__law_roads.nd rfl rfl (by decide) rfl rfl (pa_cons (pe_ix (xIx P w K hr.units) (pv 4) (pv 5) (fun _ _ => rfl)) (pa_cons (pe_op (xAdd K) (pv 5) pe_int) pa_nil)) (by rfl)) (pss_one (ps_for PassesOwn.never rfl (xSeq K (pe_ix (xIx P w K hr.units) (pv 1) (pv 6) (fun _ _ => rfl))) (xTg K (n := 2) rfl (pgs_cons (pg_name (i := 7) sc__law_roads.nd rfl (by first | exact .inl rfl | exact .inr rfl)) (pgs_cons (pg_name (i := 8) sc__law_roads.nd rfl (by first | exact .inl rfl | exact .inr rfl)) pgs_nil))) (pss_one (ps_if (pt_cmpR (xNotIn P w K hr.units) (pv 7) (pv 3) (by rfl)) (pss_cons (ps_asg (pe_op (xAdd K) (pe_ix (xIx P w K hr.units) (pv 3) (pv 6) (fun _ _ => rfl)) (pe_tup (pa_cons (pe_ix (xIx P w K hr.units) (pv 7) pe_int (fun _ _ => rfl)) pa_nil))) (pg_sub (pv 3) (pv 7) (xSet P w K hr.units))) (pss_one (ps_expr (xAppend K (pv 4) (pa_cons (pv 7) pa_nil))))) (pss_nil))))))) (pss_one (ps_ret (pv 3)))))), ?_⟩
  obtain ⟨⟨p, ss⟩, ⟨hp, hex⟩, hAll, q⟩ := h
  have hp : p.Ok := hp
  have hex : Expl p ss := hex
  obtain ⟨x0, y0, rfl, px, a, rs0, rfl, rw0⟩ := aall2 hAll
  have rw0 : RwIs P w K H p ss a rs0 := rw0
  have s0 : SOk _ _ H := SOk.entry (N := sc__law_roads_N) (As := [aD K (plnD p), aV (.ref a)]) (.cons px (.cons rfl .nil))
  have ndr : (rs0.map (·.1)).Nodup := by rw [rw0.keys]; exact hex.nd
  have hfew := hex.few
  refine st_set (A := aD K (encS (startP p))) (ev_call (f := spf_lfirst K) p (ea_one (ev_var rfl)) hp) s0 fun σ1 H1 e1 s1 => ?_
  refine fun fd H2 hfd hu hdd => ?_
  obtain ⟨u, hu, hnt⟩ := hu
  have e2 : Ex H1 H2 := by rw [hu]; exact Evl.Ex.new hfd
  refine (ev_var (A := aD K (encS (startP p))) rfl : EvG _ _ H2 _) _ H2 (s1.ex e2) (Evl.Ex.refl H2) _ fun v3 H3 e3 p3 => ?_
  refine (ev_tup (K := K) (ed_cons (ev_int (i := 0)) ed_nil) (by show 1 ≤ 100000; decide) : EvG _ _ H3 (aD K (.tup [.num 0]))) _ H3 (s1.ex (e2.trans e3)) (Evl.Ex.refl H3) _ fun v4 H4 e4 p4 => ?_
  obtain ⟨b, hb⟩ := key_of (K := K) (H := H3) p3 (isTup_encS _)
  refine ⟨_, b, hb, hdd.ex (e3.trans e4), DIs.ex p3 e4, dep_encS _, fun H5 hu5 dd5 => ?_⟩
  obtain ⟨u5, hu5, hn5⟩ := hu5
  have nfd : H fd = none := Evl.fresh_back e1 hfd
  have e5' : Ex H1 H5 := by
    obtain ⟨ys, hy, _⟩ := hdd.ex (e3.trans e4)
    have f : Frs [fd] H4 H5 := by rw [hu5]; exact Frs.refl.upd (by simp) hy rfl
    exact f.ofNew ((e2.trans e3).trans e4) fun a ha => by rw [List.mem_singleton.mp ha]; exact hfd
  have p5 : DIs K H5 v4 (.tup (([0] : List Int).map .num)) := DIs.to p4 (by
    obtain ⟨ys, hy, _⟩ := hdd.ex (e3.trans e4)
    rw [hu5]; exact tle_upd hy rfl)
  refine (ev_lst (K := K) (ed_cons (ev_var (A := aD K (encS (startP p))) rfl) ed_nil) (by show 1 ≤ 100000; decide) : EvN K _ _ H5 [encS (startP p)]) _ H5 (s1.ex e5') (Evl.Ex.refl H5) _ fun ql xs H6 hql e6 hx hd => ?_
  refine ⟨.ref fd, .ref ql, .int 0, rfl, ?_⟩
  have e06 := (e1.trans e5').trans e6
  have nql : H ql = none := Evl.fresh_back (e1.trans e5') hql
  have s6 := (((s1.ex (e5'.trans e6)).set 3 (A := aV (.ref fd)) (v := .ref fd) rfl (Nat.le_of_ble_eq_true rfl)).set 4 (A := aV (.ref ql)) (v := .ref ql) rfl (Nat.le_of_ble_eq_true rfl)).set 5 (A := aD K (natD 0)) (v := .int 0) (.int 0) (Nat.le_of_ble_eq_true rfl)
  refine st_while (fun m σ' H' => ∃ (rs : Rds) (k : Nat), SOk [some (aD K (plnD p)), some (aV (.ref a)), none, some (aV (.ref fd)), some (aV (.ref ql)), some (aD K (natD k)), none, none, none] σ' H' ∧ Ex H H' ∧ RdIs P w K H' p ss fd rs ∧ WL K H' ql ((rs.map (·.1)).map encS) ∧ k ≤ rs.length ∧ m = 41 - k) 41 ?_ ?_
  · exact ⟨[(startP p, v4)], 0, s6.gle (by walk_at "gle"), e06, ⟨dd5.ex e6, by simp, fun s hs => by rw [List.mem_singleton.mp hs]; exact hex.first, by simp, fun q hq => by rw [List.mem_singleton.mp hq]; exact ⟨[0], p5.ex e6, by simp, road_start p⟩⟩, ⟨xs, hx, hd⟩, Nat.zero_le _, rfl⟩
  rintro m σ' H' ⟨rs, k, s', e', rd, wq, hk, rfl⟩
  have hrs := rd.few
  refine ⟨_, decide ((k : Int) < (((rs.map (·.1)).map encS).length : Nat)), s', et_test (ev_cmpI (K := K) (ev_var rfl) (ev_lenL (ev_wl rfl wq))), fun hb H7 e7 s7 => ?_, fun hb H7 e7 s7 => ?_⟩
  · have hkl : k < rs.length := by
      have := of_decide_eq_true hb
      rw [List.length_map, List.length_map] at this
      omega
    have hat : ((rs.map (·.1)).map encS)[k]? = some (encS rs[k].1) := by simp [hkl]
    have hsm : rs[k].1 ∈ rs.map (·.1) := List.mem_map.mpr ⟨_, List.getElem_mem hkl, rfl⟩
    generalize rs[k].1 = s at *
    have hss := rd.sub s hsm
    have hsok := hex.ok s hss
    refine st_par (A := aD K (encS s)) (B := aD K (natD (k + 1))) (ea_cons (ev_ixL (ev_wl rfl (WL.ex wq e7)) (ev_var rfl) (atD hat)) (ea_one (ev_numIs (ev_add (ev_var rfl) ev_int) (by omega)))) s7 fun σ8 H8 e8 s8 => ?_
    have s8' : SOk [some (aD K (plnD p)), some (aV (.ref a)), none, some (aV (.ref fd)), some (aV (.ref ql)), some (aD K (natD (k + 1))), some (aD K (encS s)), none, none] σ8 H8 := s8.gle (by walk_at "gle")
    have e08 := (e'.trans e7).trans e8
    obtain ⟨rq, hrq, hrs2⟩ : ∃ rq ∈ rs0, rq.1 = s := by
      rw [← rw0.keys] at hss
      exact List.mem_map.mp hss
    have gr : valV (rwK rs0) (encS s) = some (.ref rq.2) := by rw [← hrs2]; exact rwK_get ndr hrq
    have rl0 : RL K H rq.2 ((afterP p s).map encSG) := by rw [← hrs2]; exact rw0.row rq hrq
    obtain ⟨la, lx, ela, hsq, hda⟩ := rl0
    rw [ela] at gr
    refine st_forA (ev_getDD (ev_ddr (ev_var rfl) (rw0.dd.ex e08).r) (ev_var rfl) (isTup_encS _) (dep_encS _) gr) s8' (Evl.ex_l e08 hsq) fun H9 e9 s9 => ⟨fun j σ' H' => ∃ rs' : Rds, SOk [some (aD K (plnD p)), some (aV (.ref a)), none, some (aV (.ref fd)), some (aV (.ref ql)), some (aD K (natD (k + 1))), some (aD K (encS s)), none, none] σ' H' ∧ Ex H H' ∧ RdIs P w K H' p ss fd rs' ∧ WL K H' ql ((rs'.map (·.1)).map encS) ∧ k + 1 ≤ rs'.length ∧ s ∈ rs'.map (·.1), ⟨rs, s9, e08.trans e9, rd.ex ((e7.trans e8).trans e9), WL.ex wq ((e7.trans e8).trans e9), hkl, hsm⟩, fun j σ' H' ⟨_, _, e, _⟩ => Evl.ex_l e hsq, ?_, ?_⟩
    · rintro j x σ10 H10 hj ⟨rs', s10, e10, rd10, wq10, hk10, hs10⟩
      obtain ⟨d, hd10, hx10⟩ := hda.getV hj
      have hjl : j < (afterP p s).length := by
        have := (List.getElem?_eq_some_iff.mp hd10).1
        rw [List.length_map] at this
        exact this
      rw [List.getElem?_map, List.getElem?_eq_getElem hjl] at hd10
      have ed := Option.some.inj hd10
      subst ed
      have hm8 : (afterP p s)[j] ∈ afterP p s := List.getElem_mem hjl
      have hml := hex.next s hss _ hm8
      generalize (afterP p s)[j] = rr at *
      obtain ⟨s', g'⟩ := rr
      have hml : s' ∈ ss := hml
      refine (tg_tup (vs := sv) (tgs_cons tg_name (tgs_cons tg_name tgs_nil)) rfl) _ σ10 H10 s10 (DIs.ex hx10 e10) _ fun σ11 s11 _ => ?_
      have s11' : SOk [some (aD K (plnD p)), some (aV (.ref a)), none, some (aV (.ref fd)), some (aV (.ref ql)), some (aD K (natD (k + 1))), some (aD K (encS s)), some (aD K (encS s')), none] σ11 H10 := s11.gle (by walk_at "gle")
      have hrs' := rd10.few
      refine st_if (b := !decide (s' ∈ rs'.map (·.1))) (et_is (et_test (ev_notInDD (ev_var rfl) (ev_ddr (ev_var rfl) rd10.dd.r) (isTup_encS _) (dep_encS _))) (by rw [rdK_in])) s11' (fun hb12 H12 e12 s12 => ?_) (fun hb12 H12 e12 s12 => ?_)
      · have hns : s' ∉ rs'.map (·.1) := by simpa using hb12
        obtain ⟨qs, hqs, eqs⟩ := List.mem_map.mp hs10
        obtain ⟨path, hpd, hpl, hpr⟩ := rd10.path qs hqs
        rw [eqs] at hpr
        have gs : valV (rdK rs') (encS s) = some qs.2 := by rw [← eqs]; exact rdK_get rd10.nd hqs
        have rd12 := rd10.ex e12
        refine st_setDD (K := K) (A := aD K (.tup ((path ++ [(s'.1 : Int)]).map .num))) (ev_is (ev_catT (ev_ofV (A := aD K (.tup (path.map .num))) (ev_getDD (ev_ddr (ev_var rfl) rd12.dd.r) (ev_var rfl) (isTup_encS _) (dep_encS _) gs) (DIs.ex hpd e12)) (ev_tup (ed_cons (ev_ixT (ev_var rfl) ev_int rfl) ed_nil) (by show 1 ≤ 100000; decide)) (by rw [List.length_map]; show path.length + 1 ≤ 100000; omega)) (by rw [List.map_append]; rfl)) (ev_var rfl) (ev_var rfl) s12 rd12.dd (isTup_encS _) (dep_encS _) (by rw [rdK_len]; omega) (fun v H13 H14 e13 pv dd13 f14 s14 dd14 => ?_) (by walk_at "gs")
        rw [rdK_put hns] at dd14
        have wq13 := WL.ex wq10 (e12.trans e13)
        have wq14 := wq13.frs f14 (by have := dd13.ne_wl wq13; simp [this])
        have e014 : Ex H H14 := f14.ofNew ((e10.trans e12).trans e13) fun b hb => by rw [List.mem_singleton.mp hb]; exact nfd
        dsimp only
        refine st_append (K := K) (d := encS s') (ev_var rfl) (ev_var rfl) s14 wq14 (by rw [List.length_map, List.length_map]; omega) (fun H15 f15 s15 w15 => ?_) (by walk_at "gs")
        have e015 : Ex H H15 := f15.ofNew e014 fun b hb => by rw [List.mem_singleton.mp hb]; exact nql
        have nfq : fd ≠ ql := fun z => dd14.ne_wl wq14 z.symm
        have pv14 : DIs K H14 v (.tup ((path ++ [(s'.1 : Int)]).map .num)) := DIs.to pv f14.t
        refine ⟨rs' ++ [(s', v)], s15.gle (by walk_at "gle"), e015, ⟨dd14.frs f15 (by simp [nfq]), ?_, ?_, by simp, ?_⟩, ?_, by rw [List.length_append]; omega, by rw [List.map_append]; exact List.mem_append_left _ hs10⟩
        · rw [List.map_append, List.nodup_append]
          exact ⟨rd10.nd, by simp, fun a ha b hb => by
            have : b = s' := by simpa using hb
            rw [this]
            exact fun z => hns (z ▸ ha)⟩
        · intro x hx
          rw [List.map_append] at hx
          rcases List.mem_append.mp hx with z | z
          · exact rd10.sub x z
          · have : x = s' := by simpa using z
            rw [this]; exact hml
        · intro x hx
          rw [List.length_append]
          rcases List.mem_append.mp hx with z | z
          · obtain ⟨p1, h1, h2, h3⟩ := rd12.path x z
            exact ⟨p1, ((DIs.ex h1 e13).to f14.t).to f15.t, by omega, h3⟩
          · rw [List.mem_singleton.mp z]
            exact ⟨_, pv14.to f15.t, by rw [List.length_append]; simp; omega, road_snoc (q := (s', g')) hpr hm8⟩
        · rw [List.map_append, List.map_append]
          exact w15
      · exact ⟨rs', s12.gle (by walk_at "gle"), e10.trans e12, rd10.ex e12, WL.ex wq10 e12, hk10, hs10⟩
    · rintro σ10 H10 ⟨rs', s10, e10, rd10, wq10, hk10, hs10⟩
      have := rd10.few
      exact ⟨41 - (k + 1), by omega, rs', k + 1, s10.gle (by walk_at "gle"), e10, rd10, wq10, hk10, rfl⟩
  · show tRet (tVar 3) { nx := fun _ H' => Q .non H', rt := Q } σ' H7
    refine st_ret (A := aRd P w K p ss) (ev_ofV (A := aRd P w K p ss) (ev_var rfl) ⟨fd, rs, rfl, rd.ex e7⟩) s7 fun v H8 e8 p8 => ?_
    exact q v H8 ((e'.trans e7).trans e8) p8
theorem cut_map (path : List Int) (lo hi : Option Int) : ∃ r : List Int, cutD (path.map NestedKey.num) lo hi = r.map NestedKey.num ∧ r.length ≤ path.length := by
  refine ⟨(path.drop (HT.sIx path.length 0 lo)).take (HT.sIx path.length path.length hi - HT.sIx path.length 0 lo), ?_, ?_⟩
  · unfold cutD
    rw [List.length_map, ← List.map_drop, ← List.map_take]
  · rw [List.length_take, List.length_drop]; omega
/-- some path that is not too long -/
def aPth (K : PySem.W.Frag) : Asr := aX fun path : {path : List Int // path.length ≤ 100} => aD K (.tup (path.1.map .num))
structure Hok (p : Pln) (hs : Hts) : Prop where
  nd : (hs.map (·.1)).Nodup
  few : hs.length ≤ 40
  ok : ∀ q ∈ hs, SOk1 p q.1
/-- heights of some of the stands -/
structure Hin (ss : List Stand) (hs : Hts) : Prop where
  nd : (hs.map (·.1)).Nodup
  sub : ∀ s ∈ hs.map (·.1), s ∈ ss
theorem Hin.put {ss : List Stand} {hs : Hts} (h : Hin ss hs) {s : Stand} (hm : s ∈ ss) (n : Int) : Hin ss (hput hs s n) := by
  have e := hput_keys hs s n
  refine ⟨?_, ?_⟩
  · rw [e]
    split
    · exact h.nd
    · rename_i hn
      rw [List.nodup_append]
      exact ⟨h.nd, by simp, fun a ha b hb => by
        have : b = s := by simpa using hb
        rw [this]
        exact fun z => hn (z ▸ ha)⟩
  · rw [e]
    split
    · exact h.sub
    · intro x hx
      rcases List.mem_append.mp hx with z | z
      · exact h.sub x z
      · have : x = s := by simpa using z
        rw [this]; exact hm
theorem Hin.few {ss : List Stand} {hs : Hts} (h : Hin ss hs) : hs.length ≤ ss.length := by
  have := h.nd.length_le_of_subset (fun s hs => h.sub s hs)
  rwa [List.length_map] at this
theorem Hin.ok {p : Pln} {ss : List Stand} {hs : Hts} (h : Hin ss hs) (e : Expl p ss) : Hok p hs := ⟨h.nd, Nat.le_trans h.few e.few, fun q hq => e.ok _ (h.sub _ (List.mem_map.mpr ⟨q, hq, rfl⟩))⟩
def aBent (P : Program) (w : World) (K : PySem.W.Frag) (p : Pln) : Asr := aX fun x : {hs : Hts // Hok p hs} => aDW P w K (hK x.1)
theorem hK_in (hs : Hts) (s : Stand) : (valV (hK hs) (encS s)).isSome = decide (s ∈ hs.map (·.1)) := valV_in_map (fun q : Stand × Int => V.int q.2) (fun q => q.1) hs s
def cellsN (ns : List Int) : List Int := if ns = [] then [5] else ns
def cellN (ns : List Int) (i : Int) : Int := (cellsN ns).getD (modN i (cellsN ns).length) 0 + 13 * (i / ((cellsN ns).length : Nat))
def lowN (ns : List Int) (i : Int) : Int := cellN ns i % 1000003
def highN (ns : List Int) (i : Int) : Int := (cellN ns i / 1000003) % 999983
def totalN (ns : List Int) : Int := (cellsN ns).sum % 65521
def blendN (ns : List Int) (i : Int) : Int := ((lowN ns i + 977 * i) * 48271 + 31 * highN ns i + totalN ns) % 2147483647
def numP (ns : List Int) (i : Int) : Int := (blendN ns i * (blendN ns i + 31 * i + 7)) % 2147483629 * 65537 + highN ns i
theorem lay_ints {n : Nat} (xs : List Int) : ∀ x ∈ xs.map NestedKey.num, Lay n x := fun x hx => by
  obtain ⟨y, _, rfl⟩ := List.mem_map.mp hx
  exact Lay.num
theorem cellsN_len {ns : List Int} (h : ns.length ≤ 63) : 1 ≤ (cellsN ns).length ∧ (cellsN ns).length ≤ 63 := by
  unfold cellsN
  split
  · exact ⟨Nat.le_refl 1, by decide⟩
  · rename_i hn
    refine ⟨?_, h⟩
    cases ns with
    | nil => exact absurd rfl hn
    | cons _ _ => simp
theorem cut_to {ds : List D} {n : Nat} (h : ds.length ≤ n) : cutD ds none (some (n : Int)) = ds := by
  unfold cutD
  rw [HT.sIx_nat, Nat.min_eq_right h]
  exact cut_whole rfl rfl
def spf_number (K : PySem.W.Frag) : Spf (List Int × Int) := ⟨fun x => [aL K (x.1.map .num), aD K (.num x.2)], fun x => x.1.length ≤ 63, fun x => aD K (.num (numP x.1 x.2))⟩
abbrev sc__law_number_N : List Str := ["_law_script", "_law_index", "_law_cells", "_law_cell", "_law_low", "_law_high", "_law_total", "_law_blend"]
theorem sc__law_number : FnScope ["_law_script", "_law_index", "_law_cells", "_law_cell", "_law_low", "_law_high", "_law_total", "_law_blend"] ["_law_script", "_law_index"] (defScope (topS 44)) := ⟨rfl, rfl, rfl, by decide +kernel, rfl, by decide +kernel, by decide +kernel⟩
theorem ok__law_number {P : Program} {w : World} {K : PySem.W.Frag} {mg : Str → Option Value} {base : Heap} {ad : Ads} (fx : Fx K mg ad) : Ok P w K mg base CX0 1 "_law_number" ["_law_script", "_law_index"] ((spf_number K).sp) := by
  refine fx.d__law_number.ok sc__law_number (fun _ _ _ _ _ _ us hl => match us, hl with | [_, _], _ => rfl) (Spf.len fun _ => rfl) fun f cdv A outer s H vs Q E hr hcd h => ?_
  refine ⟨_, PSs.nox (pss_cons (ps_set (i := 2) sc__law_number.nd rfl (by first | exact .inl rfl | exact .inr rfl) (pe_ifExp (pt_cmpR (xNe K hr.units) (pv 0) (pe_lst (pa_nil)) (nomark _)) (pe_slice (xSl K) (pv 0) po_none (po_some pe_int)) (pe_lst (pa_cons pe_int pa_nil)))) (pss_cons (ps_set (i := 3) sc__law_number.nd rfl (by first | exact .inl rfl | exact .inr rfl) (pe_op (xAdd K) (pe_ix (xIx P w K hr.units) (pv 2) (pe_op op_mod (pe_callTy call_intU (by rfl) fx.int_ (by decide +kernel) (pa_cons (pv 1) pa_nil)) (pe_callB (xLen P w K) (by rfl) fx.len_ (by decide +kernel) (pa_cons (pv 2) pa_nil))) (fun _ _ => rfl)) (pe_op (xMul K) pe_int (pe_op op_fdiv (pv 1) (pe_callB (xLen P w K) (by rfl) fx.len_ (by decide +kernel) (pa_cons (pv 2) pa_nil)))))) (pss_cons (ps_par (i := 4) (j := 5) (by rfl) sc__law_number.nd rfl rfl (by decide) rfl rfl (pa_cons (pe_op op_mod (pe_callTy call_intU (by rfl) fx.int_ (by decide +kernel) (pa_cons (pv 3) pa_nil)) pe_int) (pa_cons (pe_op op_mod (pe_callTy call_intU (by rfl) fx.int_ (by decide +kernel) (pa_cons (pe_op op_fdiv (pv 3) pe_int) pa_nil)) pe_int) pa_nil)) (by rfl)) (pss_cons (ps_set (i := 6) sc__law_number.nd rfl (by first | exact .inl rfl | exact .inr rfl) (pe_op op_mod (pe_callTy call_intU (by rfl) fx.int_ (by decide +kernel) (pa_cons (pe_callB (xSum K rfl) (by rfl) fx.sum_ (by decide +kernel) (pa_cons (pv 2) pa_nil)) pa_nil)) pe_int)) (pss_cons (ps_set (i := 7) sc__law_number.nd rfl (by first | exact .inl rfl | exact .inr rfl) (pe_op op_mod (pe_callTy call_intU (by rfl) fx.int_ (by decide +kernel) (pa_cons (pe_op (xAdd K) (pe_op (xAdd K) (pe_op (xMul K) (pe_op (xAdd K) (pv 4) (pe_op (xMul K) pe_int (pv 1))) pe_int) (pe_op (xMul K) pe_int (pv 5))) (pv 6)) pa_nil)) pe_int)) (pss_one (ps_ret (pe_op (xAdd K) (pe_op (xMul K) (pe_op op_mod (pe_callTy call_intU (by rfl) fx.int_ (by decide +kernel) (pa_cons (pe_op (xMul K) (pv 7) (pe_op (xAdd K) (pe_op (xAdd K) (pv 7) (pe_op (xMul K) pe_int (pv 1))) pe_int)) pa_nil)) pe_int) pe_int) (pv 5))))))))), ?_⟩
  refine Spf.run h fun x hp => ?_
  obtain ⟨ns, i⟩ := x
  have hp : ns.length ≤ 63 := hp
  obtain ⟨c1, c2⟩ := cellsN_len hp
  refine sr_set (B := aL K ((cellsN ns).map .num)) (ev_if (et_test (ev_neN (ev_var rfl) (lay_ints ns))) (fun hb => ?_) (fun hb => ?_)) ?_
  · have e : cellsN ns = ns := if_neg fun z => by rw [z] at hb; cases hb
    rw [e]
    exact ev_isL (EvN.l (ev_slL (ev_var rfl) eo_none (eo_some (K := K) ev_int))) (cut_to (n := 63) (by rw [List.length_map]; exact hp))
  · have e : cellsN ns = [5] := if_pos (by cases ns with
      | nil => rfl
      | cons _ _ => cases hb)
    rw [e]
    exact EvN.l (ev_lst (ed_cons ev_int ed_nil) (by show 1 ≤ 100000; decide))
  have hix := modN_lt i c1
  refine sr_set (B := aD K (.num (cellN ns i))) (ev_add (ev_ixL (ev_var rfl) (ev_modN (ev_int1 (ev_var rfl)) (ev_is (ev_lenL (ev_var rfl)) (by rw [List.length_map])) c1) (atD (d := .num ((cellsN ns).getD (modN i (cellsN ns).length) 0)) (by simp [hix]))) (ev_mul ev_int (ev_fdiv (ev_var rfl) (ev_is (ev_lenL (ev_var rfl)) (by rw [List.length_map])) ⟨by omega, by omega⟩) (.inl ⟨by decide, by decide⟩))) ?_
  refine sr_par (B := aD K (.num (lowN ns i))) (C := aD K (.num (highN ns i))) (ea_cons (ev_mod (ev_int1 (ev_var rfl)) ev_int (by decide)) (ea_one (ev_mod (ev_int1 (ev_fdiv (ev_var rfl) ev_int ⟨by decide, by decide⟩)) ev_int (by decide)))) ?_
  refine sr_set (B := aD K (.num (totalN ns))) (ev_mod (ev_int1 (ev_sum (ev_var rfl))) ev_int (by decide)) ?_
  refine sr_set (B := aD K (.num (blendN ns i))) (ev_mod (ev_int1 (ev_add (ev_add (ev_mul (ev_add (ev_var rfl) (ev_mul ev_int (ev_var rfl) (.inl ⟨by decide, by decide⟩))) ev_int (.inr ⟨by decide, by decide⟩)) (ev_mul ev_int (ev_var rfl) (.inl ⟨by decide, by decide⟩))) (ev_var rfl))) ev_int (by decide)) ?_
  have hb1 : 0 ≤ blendN ns i := Int.emod_nonneg _ (by decide)
  have hb2 : blendN ns i < 2147483647 := Int.emod_lt_of_pos _ (by decide)
  exact sr_ret (ev_add (ev_mul (ev_mod (ev_int1 (ev_mul (ev_var rfl) (ev_add (ev_add (ev_var rfl) (ev_mul ev_int (ev_var rfl) (.inl ⟨by decide, by decide⟩))) ev_int) (.inl ⟨Int.lt_of_lt_of_le (by decide) hb1, Int.lt_trans hb2 (by decide)⟩))) ev_int (by decide)) ev_int (.inr ⟨by decide, by decide⟩)) (ev_var rfl))
def wordsL : List Str := ["read", "cut", "keep", "cut", "keep", "join", "ask", "read", "move", "tight", "drop", "pack", "void", "clear", "jump", "tell"]
def begP (r : Int) (wd : Nat) : Nat := modN (r / 27) (wd + 1)
def endP (r : Int) (wd : Nat) : Nat := begP r wd + modN (r / 189) (wd + 1 - begP r wd)
/-- the m-th word's step -/
def stepM (m : Nat) (r : Int) (wd c n : Nat) : Stp := match m with
  | 0 => .read (modN r c) (1 + modN (r / 3) wd)
  | 1 => .cut (modN r c) (modN (r / 3) c) (begP r wd) (endP r wd)
  | 2 => .keep (modN r c)
  | 3 => .cut (modN r c) (modN (r / 3) c) (begP r wd) (endP r wd)
  | 4 => .keep (modN r c)
  | 5 => .join (modN r c) (modN (r / 3) c) (modN (r / 9) c)
  | 6 => .ask (modN (r / 1323) (n + 1))
  | 7 => .read (modN r c) (1 + modN (r / 3) wd)
  | 8 => .move (modN r c) (modN (r / 3) c)
  | 9 => .tight (modN r c) (modN (r / 3) c)
  | 10 => .drop (modN r c)
  | 11 => .pack (modN r c)
  | 12 => .void (modN r c) (modN (r / 1323) (n + 1))
  | 13 => .clear
  | 14 => .jump (modN (r / 1323) (n + 1))
  | _ => .tell (modN r c)
def stepP (k : Int) (wd c n : Nat) : Stp := stepM (modN k 16) (k / 16) wd c n
theorem begP_le (r : Int) (wd : Nat) : begP r wd ≤ wd := by
  have := modN_lt (r / 27) (n := wd + 1) (by omega)
  unfold begP
  omega
theorem endP_le (r : Int) (wd : Nat) : begP r wd ≤ endP r wd ∧ endP r wd ≤ wd := by
  have h := begP_le r wd
  have := modN_lt (r / 189) (n := wd + 1 - begP r wd) (by omega)
  unfold endP
  omega
theorem stepP_ok (k : Int) {wd c : Nat} (n : Nat) (hw : 1 ≤ wd) (hc : 1 ≤ c) : (stepP k wd c n).Ok wd c n := by
  unfold stepP
  generalize k / 16 = r
  have a1 := modN_lt r hc
  have a2 := modN_lt (r / 3) hc
  have a3 := modN_lt (r / 9) hc
  have a4 := modN_lt (r / 1323) (n := n + 1) (by omega)
  have a5 := endP_le r wd
  have a6 := modN_lt (r / 3) hw
  unfold stepM
  split <;> simp only [Stp.Ok] <;> omega
local macro_rules | `(tactic| walk_at "in3") => `(tactic| refine sr_ifF (et_test (ev_inT (ev_var rfl) (ev_tup (ed_cons ev_str (ed_cons ev_str (ed_cons ev_str ed_nil))) (by show 3 ≤ 100000; decide)) rfl rfl)) (by decide +kernel) (sr_next ?_))
local macro_rules | `(tactic| walk_at "in3T") => `(tactic| refine sr_ifT (et_test (ev_inT (ev_var rfl) (ev_tup (ed_cons ev_str (ed_cons ev_str (ed_cons ev_str ed_nil))) (by show 3 ≤ 100000; decide)) rfl rfl)) (by decide +kernel) (sr_retS ?_))
local macro_rules | `(tactic| walk_at "in4") => `(tactic| refine sr_ifF (et_test (ev_inT (ev_var rfl) (ev_tup (ed_cons ev_str (ed_cons ev_str (ed_cons ev_str (ed_cons ev_str ed_nil)))) (by show 4 ≤ 100000; decide)) rfl rfl)) (by decide +kernel) (sr_next ?_))
local macro_rules | `(tactic| walk_at "in4T") => `(tactic| refine sr_ifT (et_test (ev_inT (ev_var rfl) (ev_tup (ed_cons ev_str (ed_cons ev_str (ed_cons ev_str (ed_cons ev_str ed_nil)))) (by show 4 ≤ 100000; decide)) rfl rfl)) (by decide +kernel) (sr_retS ?_))
local macro_rules | `(tactic| walk_at "eq") => `(tactic| refine sr_ifF (et_test (ev_eqS (ev_var rfl) ev_str)) rfl (sr_next ?_))
local macro_rules | `(tactic| walk_at "eqT") => `(tactic| refine sr_ifT (et_test (ev_eqS (ev_var rfl) ev_str)) rfl (sr_retS ?_))
def spf_step (K : PySem.W.Frag) : Spf (Int × Nat × Nat × Nat) := ⟨fun x => [aD K (.num x.1), aD K (natD x.2.1), aD K (natD x.2.2.1), aD K (natD x.2.2.2)], fun x => 1 ≤ x.2.1 ∧ 1 ≤ x.2.2.1 ∧ x.2.2.1 ≤ 3, fun x => aD K (encT (stepP x.1 x.2.1 x.2.2.1 x.2.2.2))⟩
abbrev sc__law_step_N : List Str := ["_law_number_here", "_law_wide", "_law_count", "_law_total", "_law_words", "_law_word", "_law_rest", "_law_one", "_law_other", "_law_third", "_law_place", "_law_begin", "_law_end"]
theorem sc__law_step : FnScope ["_law_number_here", "_law_wide", "_law_count", "_law_total", "_law_words", "_law_word", "_law_rest", "_law_one", "_law_other", "_law_third", "_law_place", "_law_begin", "_law_end"] ["_law_number_here", "_law_wide", "_law_count", "_law_total"] (defScope (topS 45)) := ⟨rfl, rfl, rfl, by decide +kernel, rfl, by decide +kernel, by decide +kernel⟩
theorem ok__law_step {P : Program} {w : World} {K : PySem.W.Frag} {mg : Str → Option Value} {base : Heap} {ad : Ads} (fx : Fx K mg ad) : Ok P w K mg base CX0 1 "_law_step" ["_law_number_here", "_law_wide", "_law_count", "_law_total"] ((spf_step K).sp) := by
  refine fx.d__law_step.ok sc__law_step (fun _ _ _ _ _ _ us hl => match us, hl with | [_, _, _, _], _ => rfl) (Spf.len fun _ => rfl) fun f cdv A outer s H vs Q E hr hcd h => ?_
  refine ⟨_, PSs.nox (pss_cons (ps_set (i := 4) sc__law_step.nd rfl (by first | exact .inl rfl | exact .inr rfl) (pe_tup (pa_cons pe_str (pa_cons pe_str (pa_cons pe_str (pa_cons pe_str (pa_cons pe_str (pa_cons pe_str (pa_cons pe_str (pa_cons pe_str (pa_cons pe_str (pa_cons pe_str (pa_cons pe_str (pa_cons pe_str (pa_cons pe_str (pa_cons pe_str (pa_cons pe_str (pa_cons pe_str pa_nil)))))))))))))))))) (pss_cons (ps_par (i := 5) (j := 6) (by rfl) sc__law_step.nd rfl rfl (by decide) rfl rfl (pa_cons (pe_ix (xIx P w K hr.units) (pv 4) (pe_op op_mod (pe_callTy call_intU (by rfl) fx.int_ (by decide +kernel) (pa_cons (pv 0) pa_nil)) pe_int) (fun _ _ => rfl)) (pa_cons (pe_op op_fdiv (pv 0) pe_int) pa_nil)) (by rfl)) (pss_cons (ps_par (i := 7) (j := 8) (by rfl) sc__law_step.nd rfl rfl (by decide) rfl rfl (pa_cons (pe_op op_mod (pe_callTy call_intU (by rfl) fx.int_ (by decide +kernel) (pa_cons (pv 6) pa_nil)) (pv 2)) (pa_cons (pe_op op_mod (pe_callTy call_intU (by rfl) fx.int_ (by decide +kernel) (pa_cons (pe_op op_fdiv (pv 6) pe_int) pa_nil)) (pv 2)) pa_nil)) (by rfl)) (pss_cons (ps_par (i := 9) (j := 10) (by rfl) sc__law_step.nd rfl rfl (by decide) rfl rfl (pa_cons (pe_op op_mod (pe_callTy call_intU (by rfl) fx.int_ (by decide +kernel) (pa_cons (pe_op op_fdiv (pv 6) pe_int) pa_nil)) (pv 2)) (pa_cons (pe_op op_mod (pe_callTy call_intU (by rfl) fx.int_ (by decide +kernel) (pa_cons (pe_op op_fdiv (pv 6) pe_int) pa_nil)) (pe_op (xAdd K) (pv 3) pe_int)) pa_nil)) (by rfl)) (pss_cons (ps_set (i := 11) sc__law_step.nd rfl (by first | exact .inl rfl | exact .inr rfl) (pe_op op_mod (pe_callTy call_intU (by rfl) fx.int_ (by decide +kernel) (pa_cons (pe_op op_fdiv (pv 6) pe_int) pa_nil)) (pe_op (xAdd K) (pv 1) pe_int))) (pss_cons (ps_set (i := 12) sc__law_step.nd rfl (by first | exact .inl rfl | exact .inr rfl) (pe_op (xAdd K) (pv 11) (pe_op op_mod (pe_callTy call_intU (by rfl) fx.int_ (by decide +kernel) (pa_cons (pe_op op_fdiv (pv 6) pe_int) pa_nil)) (pe_op op_sub (pe_op (xAdd K) (pv 1) pe_int) (pv 11))))) (pss_cons (ps_if (pt_cmpR (xIn P w K hr.units) (pv 5) (pe_tup (pa_cons pe_str (pa_cons pe_str (pa_cons pe_str pa_nil)))) (by rfl)) (pss_one (ps_ret (pe_ifExp (pt_cmpR (xEq K hr.units) (pv 5) pe_str (nomark _)) (pe_tup (pa_cons (pv 5) pa_nil)) (pe_tup (pa_cons (pv 5) (pa_cons (pv 10) pa_nil)))))) (pss_nil)) (pss_cons (ps_if (pt_cmpR (xEq K hr.units) (pv 5) pe_str (nomark _)) (pss_one (ps_ret (pe_tup (pa_cons (pv 5) (pa_cons (pe_ix (xIx P w K hr.units) pe_str (pv 7) (fun _ _ => rfl)) (pa_cons (pv 10) pa_nil)))))) (pss_nil)) (pss_cons (ps_if (pt_cmpR (xEq K hr.units) (pv 5) pe_str (nomark _)) (pss_one (ps_ret (pe_tup (pa_cons (pv 5) (pa_cons (pe_ix (xIx P w K hr.units) pe_str (pv 7) (fun _ _ => rfl)) (pa_cons (pe_op (xAdd K) pe_int (pe_op op_mod (pe_callTy call_intU (by rfl) fx.int_ (by decide +kernel) (pa_cons (pe_op op_fdiv (pv 6) pe_int) pa_nil)) (pv 1))) pa_nil)))))) (pss_nil)) (pss_cons (ps_if (pt_cmpR (xIn P w K hr.units) (pv 5) (pe_tup (pa_cons pe_str (pa_cons pe_str (pa_cons pe_str (pa_cons pe_str pa_nil))))) (by rfl)) (pss_one (ps_ret (pe_tup (pa_cons (pv 5) (pa_cons (pe_ix (xIx P w K hr.units) pe_str (pv 7) (fun _ _ => rfl)) pa_nil))))) (pss_nil)) (pss_cons (ps_if (pt_cmpR (xEq K hr.units) (pv 5) pe_str (nomark _)) (pss_one (ps_ret (pe_tup (pa_cons (pv 5) (pa_cons (pe_ix (xIx P w K hr.units) pe_str (pv 7) (fun _ _ => rfl)) (pa_cons (pe_ix (xIx P w K hr.units) pe_str (pv 8) (fun _ _ => rfl)) (pa_cons (pv 11) (pa_cons (pv 12) pa_nil)))))))) (pss_nil)) (pss_one (ps_ret (pe_op (xAdd K) (pe_tup (pa_cons (pv 5) (pa_cons (pe_ix (xIx P w K hr.units) pe_str (pv 7) (fun _ _ => rfl)) (pa_cons (pe_ix (xIx P w K hr.units) pe_str (pv 8) (fun _ _ => rfl)) pa_nil)))) (pe_ifExp (pt_cmpR (xEq K hr.units) (pv 5) pe_str (nomark _)) (pe_tup (pa_cons (pe_ix (xIx P w K hr.units) pe_str (pv 9) (fun _ _ => rfl)) pa_nil)) (pe_tup (pa_nil))))))))))))))))), ?_⟩
  refine Spf.run h fun x hp => ?_
  obtain ⟨k, wd, c, n⟩ := x
  obtain ⟨hw, hc, hc3⟩ := hp
  have hw : 1 ≤ wd := hw
  have hc : 1 ≤ c := hc
  have hc3 : c ≤ 3 := hc3
  have hm : modN k 16 < 16 := modN_lt k (by decide)
  refine sr_set (B := aD K (.tup (wordsL.map .text))) (ev_tup (ed_cons ev_str (ed_cons ev_str (ed_cons ev_str (ed_cons ev_str (ed_cons ev_str (ed_cons ev_str (ed_cons ev_str (ed_cons ev_str (ed_cons ev_str (ed_cons ev_str (ed_cons ev_str (ed_cons ev_str (ed_cons ev_str (ed_cons ev_str (ed_cons ev_str (ed_cons ev_str ed_nil)))))))))))))))) (by show 16 ≤ 100000; decide)) ?_
  refine sr_par (B := aD K (.text (wordsL.getD (modN k 16) ""))) (C := aD K (.num (k / 16))) (ea_cons (ev_ixT (ev_var rfl) (ev_modL (n := 16) (ev_int1 (ev_var rfl)) ev_int rfl (by decide)) (atD (by
    have hl : modN k 16 < wordsL.length := hm
    simp [hl]))) (ea_one (ev_fdiv (ev_var rfl) ev_int ⟨by decide, by decide⟩))) ?_
  show SR _ _ _ (aD K (encT (stepM (modN k 16) (k / 16) wd c n)))
  generalize k / 16 = r
  generalize modN k 16 = m at hm ⊢
  refine sr_par (B := aD K (natD (modN r c))) (C := aD K (natD (modN (r / 3) c))) (ea_cons (ev_modN (ev_int1 (ev_var rfl)) (ev_var rfl) hc) (ea_one (ev_modN (ev_int1 (ev_fdiv (ev_var rfl) ev_int ⟨by decide, by decide⟩)) (ev_var rfl) hc))) ?_
  refine sr_par (B := aD K (natD (modN (r / 9) c))) (C := aD K (natD (modN (r / 1323) (n + 1)))) (ea_cons (ev_modN (ev_int1 (ev_fdiv (ev_var rfl) ev_int ⟨by decide, by decide⟩)) (ev_var rfl) hc) (ea_one (ev_modL (ev_int1 (ev_fdiv (ev_var rfl) ev_int ⟨by decide, by decide⟩)) (ev_add (ev_var rfl) ev_int) rfl (by omega)))) ?_
  refine sr_set (B := aD K (natD (begP r wd))) (ev_modL (ev_int1 (ev_fdiv (ev_var rfl) ev_int ⟨by decide, by decide⟩)) (ev_add (ev_var rfl) ev_int) rfl (by omega)) ?_
  have hbl := begP_le r wd
  refine sr_set (B := aD K (natD (endP r wd))) (ev_natAdd (ev_var rfl) (ev_modL (ev_int1 (ev_fdiv (ev_var rfl) ev_int ⟨by decide, by decide⟩)) (ev_sub (ev_add (ev_var rfl) ev_int) (ev_var rfl)) (by show (wd : Int) + 1 - (begP r wd : Nat) = ((wd + 1 - begP r wd : Nat) : Int); omega) (by omega))) ?_
  have a1 : modN r c < 3 := Nat.lt_of_lt_of_le (modN_lt r hc) hc3
  have a2 : modN (r / 3) c < 3 := Nat.lt_of_lt_of_le (modN_lt (r / 3) hc) hc3
  have a3 : modN (r / 9) c < 3 := Nat.lt_of_lt_of_le (modN_lt (r / 9) hc) hc3
  have l1 : 1 ≤ 100000 := by decide
  have l2 : 2 ≤ 100000 := by decide
  have l3 : 3 ≤ 100000 := by decide
  have l5 : 5 ≤ 100000 := by decide
  refine sr_gle (G' := [none, some (aD K (natD wd)), none, none, none, some (aD K (.text (wordsL.getD m ""))), some (aD K (.num r)), some (aD K (natD (modN r c))), some (aD K (natD (modN (r / 3) c))), some (aD K (natD (modN (r / 9) c))), some (aD K (natD (modN (r / 1323) (n + 1)))), some (aD K (natD (begP r wd))), some (aD K (natD (endP r wd)))]) ?_ (by walk_at "gle")
  match m, hm with
  | 0, _ | 7, _ =>
    walk_at "in3"; walk_at "eq"; walk_at "eqT"
    exact ev_tup (ed_cons (ev_var rfl) (ed_cons (ev_abc (ev_var rfl) a1) (ed_cons (ev_natAdd (m := 1) (ev_int (K := K)) (ev_modN (ev_int1 (ev_fdiv (ev_var rfl) ev_int ⟨by decide, by decide⟩)) (ev_var rfl) hw)) ed_nil))) l3
  | 1, _ | 3, _ =>
    walk_at "in3"; walk_at "eq"; walk_at "eq"; walk_at "in4"; walk_at "eqT"
    exact ev_tup (ed_cons (ev_var rfl) (ed_cons (ev_abc (ev_var rfl) a1) (ed_cons (ev_abc (ev_var rfl) a2) (ed_cons (ev_var rfl) (ed_cons (ev_var rfl) ed_nil))))) l5
  | 2, _ | 4, _ | 10, _ | 11, _ | 15, _ =>
    walk_at "in3"; walk_at "eq"; walk_at "eq"; walk_at "in4T"
    exact ev_tup (ed_cons (ev_var rfl) (ed_cons (ev_abc (ev_var rfl) a1) ed_nil)) l2
  | 5, _ =>
    walk_at "in3"; walk_at "eq"; walk_at "eq"; walk_at "in4"; walk_at "eq"
    exact sr_ret (ev_catT (ev_tup (ed_cons (ev_var rfl) (ed_cons (ev_abc (ev_var rfl) a1) (ed_cons (ev_abc (ev_var rfl) a2) ed_nil))) l3) (ev_ifT (et_test (ev_eqS (ev_var rfl) ev_str)) rfl (ev_tup (ed_cons (ev_abc (ev_var rfl) a3) ed_nil) l1)) (by show 4 ≤ 100000; decide))
  | 6, _ | 14, _ =>
    walk_at "in3T"
    exact ev_ifF (et_test (ev_eqS (ev_var rfl) ev_str)) rfl (ev_tup (ed_cons (ev_var rfl) (ed_cons (ev_var rfl) ed_nil)) l2)
  | 8, _ | 9, _ =>
    walk_at "in3"; walk_at "eq"; walk_at "eq"; walk_at "in4"; walk_at "eq"
    exact sr_ret (ev_catT (ev_tup (ed_cons (ev_var rfl) (ed_cons (ev_abc (ev_var rfl) a1) (ed_cons (ev_abc (ev_var rfl) a2) ed_nil))) l3) (ev_ifF (et_test (ev_eqS (ev_var rfl) ev_str)) rfl ev_t0) (by show 3 ≤ 100000; decide))
  | 12, _ =>
    walk_at "in3"; walk_at "eqT"
    exact ev_tup (ed_cons (ev_var rfl) (ed_cons (ev_abc (ev_var rfl) a1) (ed_cons (ev_var rfl) ed_nil))) l3
  | 13, _ =>
    walk_at "in3T"
    exact ev_ifT (et_test (ev_eqS (ev_var rfl) ev_str)) rfl (ev_tup (ed_cons (ev_var rfl) ed_nil) l1)
  | n + 16, z => exact absurd z (by omega)
def spf_written (K : PySem.W.Frag) : Spf Int := ⟨fun x => [aD K (.num x)], fun _ => True, fun _ => aPln K⟩
abbrev sc__law_written_N : List Str := ["_law_number_here", "_law_wide", "_law_count", "_law_total", "_law_rest", "_law_found", "_law_turn"]
theorem sc__law_written : FnScope ["_law_number_here", "_law_wide", "_law_count", "_law_total", "_law_rest", "_law_found", "_law_turn"] ["_law_number_here"] (defScope (topS 46)) := ⟨rfl, rfl, rfl, by decide +kernel, rfl, by decide +kernel, by decide +kernel⟩
theorem ok__law_written {P : Program} {w : World} {K : PySem.W.Frag} {mg : Str → Option Value} {base : Heap} {ad : Ads} (fx : Fx K mg ad) : Ok P w K mg base CX0 2 "_law_written" ["_law_number_here"] ((spf_written K).sp) := by
  refine fx.d__law_written.ok sc__law_written (fun _ _ _ _ _ _ us hl => match us, hl with | [_], _ => rfl) (Spf.len fun _ => rfl) fun f cdv A outer s H vs Q E hr hcd h => ?_
  refine ⟨_, PSs.nox (pss_cons (ps_par (i := 1) (j := 2) (by rfl) sc__law_written.nd rfl rfl (by decide) rfl rfl (pa_cons (pe_op (xAdd K) pe_int (pe_op op_mod (pe_callTy call_intU (by rfl) fx.int_ (by decide +kernel) (pa_cons (pv 0) pa_nil)) pe_int)) (pa_cons (pe_op (xAdd K) pe_int (pe_op op_mod (pe_callTy call_intU (by rfl) fx.int_ (by decide +kernel) (pa_cons (pe_op op_fdiv (pv 0) pe_int) pa_nil)) pe_int)) pa_nil)) (by rfl)) (pss_cons (ps_par3 (i := 3) (j := 4) (l := 5) (by rfl) sc__law_written.nd rfl rfl rfl (by decide) (by decide) (by decide) rfl rfl rfl (pa_cons (pe_op (xAdd K) pe_int (pe_op op_mod (pe_callTy call_intU (by rfl) fx.int_ (by decide +kernel) (pa_cons (pe_op op_fdiv (pv 0) pe_int) pa_nil)) pe_int)) (pa_cons (pe_op op_fdiv (pv 0) pe_int) (pa_cons (pe_lst (pa_nil)) pa_nil))) (by rfl)) (pss_cons (ps_for PassesOwn.never rfl (pi_range1 (by rfl) fx.range_ (pa_cons (pv 3) pa_nil)) (pg_name (i := 6) sc__law_written.nd rfl (by first | exact .inl rfl | exact .inr rfl)) (pss_cons (ps_expr (xAppend K (pv 5) (pa_cons (pe_callD (ok__law_step (P := P) (w := w) (base := base) fx) (hr.mono (by decide)) (by rfl) (pa_cons (pe_op op_mod (pe_callTy call_intU (by rfl) fx.int_ (by decide +kernel) (pa_cons (pv 4) pa_nil)) pe_int) (pa_cons (pv 1) (pa_cons (pv 2) (pa_cons (pv 3) pa_nil))))) pa_nil))) (pss_one (ps_set (i := 4) sc__law_written.nd rfl (by first | exact .inl rfl | exact .inr rfl) (pe_op op_fdiv (pv 4) pe_int))))) (pss_one (ps_ret (pe_tup (pa_cons (pv 1) (pa_cons (pv 2) (pa_cons (pe_callTy (xTuple K) (by rfl) fx.tuple_ (by decide +kernel) (pa_cons (pv 5) pa_nil)) pa_nil))))))))), ?_⟩
  obtain ⟨k, _, hAll, q⟩ := h
  have s0 : SOk _ _ H := SOk.entry (N := sc__law_written_N) (As := [aD K (.num k)]) hAll
  have hw := modN_lt k (n := 6) (by decide)
  have hc := modN_lt (k / 6) (n := 3) (by decide)
  have hn := modN_lt (k / 18) (n := 12) (by decide)
  refine st_par (A := aD K (natD (1 + modN k 6))) (B := aD K (natD (1 + modN (k / 6) 3))) (ea_cons (ev_natAdd (m := 1) (ev_int (K := K)) (ev_modL (ev_int1 (ev_var rfl)) ev_int rfl (by decide))) (ea_one (ev_natAdd (m := 1) (ev_int (K := K)) (ev_modL (ev_int1 (ev_fdiv (ev_var rfl) ev_int ⟨by decide, by decide⟩)) ev_int rfl (by decide))))) s0 fun σ1 H1 e1 s1 => ?_
  refine st_par3N (K := K) (A := aD K (natD (1 + modN (k / 18) 12))) (B := aD K (.num (k / 216))) (ds := []) (ev_natAdd (m := 1) (ev_int (K := K)) (ev_modL (ev_int1 (ev_fdiv (ev_var rfl) ev_int ⟨by decide, by decide⟩)) ev_int rfl (by decide))) (ev_fdiv (ev_var rfl) ev_int ⟨by decide, by decide⟩) (ev_lst ed_nil (Nat.zero_le _)) s1 fun fl σ2 H2 nf e2 s2 wf => ?_
  have w1 : 1 ≤ 1 + modN k 6 := by omega
  have w6 : 1 + modN k 6 ≤ 6 := by omega
  have c1 : 1 ≤ 1 + modN (k / 6) 3 := by omega
  have c3 : 1 + modN (k / 6) 3 ≤ 3 := by omega
  have n1 : 1 ≤ 1 + modN (k / 18) 12 := by omega
  have n12 : 1 + modN (k / 18) 12 ≤ 12 := by omega
  generalize 1 + modN k 6 = wd at *
  generalize 1 + modN (k / 6) 3 = c at *
  generalize 1 + modN (k / 18) 12 = n at *
  have e02 := e1.trans e2
  have nfl : H fl = none := Evl.fresh_back e1 nf
  refine st_range1 (ea_one (ev_var rfl)) s2 (by omega) (fun i σ' H' => ∃ (ts : List Stp) (r : Int), SOk [none, some (aD K (natD wd)), some (aD K (natD c)), some (aD K (natD n)), some (aD K (.num r)), some (aV (.ref fl)), none] σ' H' ∧ Frs [fl] H2 H' ∧ WL K H' fl (ts.map encT) ∧ ts.length = i ∧ ∀ t ∈ ts, t.Ok wd c n) ?_ ?_ ?_
  · exact fun H3 e3 => ⟨[], k / 216, (s2.ex e3).gle (by walk_at "gle"), .ex e3, WL.ex wf e3, rfl, fun t ht => by cases ht⟩
  · rintro i σ' H' hi ⟨ts, r, s', f', wf', hl, hok⟩
    have s5 := s'.set 6 (A := aD K (natD i)) (v := .int (i : Nat)) (.int _) (Nat.le_of_ble_eq_true rfl)
    refine st_append (K := K) (d := encT (stepP (r % 300000) wd c n)) (ev_var rfl) (ev_call (f := spf_step K) (r % 300000, wd, c, n) (ea_cons (ev_mod (ev_int1 (ev_var rfl)) ev_int (by decide)) (ea_cons (ev_var rfl) (ea_cons (ev_var rfl) (ea_one (ev_var rfl))))) ⟨w1, c1, c3⟩) s5 wf' (by rw [List.length_map, hl]; omega) (fun H6 f6 s6 w6 => ?_) (by walk_at "gs")
    refine st_set (A := aD K (.num (r / 300000))) (ev_fdiv (ev_var rfl) ev_int ⟨by decide, by decide⟩) s6 fun σ7 H7 e7 s7 => ?_
    refine ⟨ts ++ [stepP (r % 300000) wd c n], r / 300000, s7.gle (by walk_at "gle"), (f'.trans f6).trans (.ex e7), ?_, by rw [List.length_append, hl]; rfl, fun t ht => ?_⟩
    · rw [List.map_append]
      exact WL.ex w6 e7
    · rcases List.mem_append.mp ht with z | z
      · exact hok t z
      · rw [List.mem_singleton.mp z]; exact stepP_ok _ _ w1 c1
  · rintro σ' H' ⟨ts, r, s', f', wf', hl, hok⟩
    have e0' : Ex H H' := f'.ofNew e02 fun a ha => by rw [List.mem_singleton.mp ha]; exact nfl
    have hp : Pln.Ok ⟨wd, c, ts⟩ := ⟨w1, w6, c1, c3, by show 1 ≤ ts.length; omega, by show ts.length ≤ 12; omega, fun t ht => by rw [show (Pln.steps ⟨wd, c, ts⟩).length = n from hl]; exact hok t ht⟩
    exact st_ret (A := aPln K) (ev_X ⟨⟨wd, c, ts⟩, hp⟩ (ev_tup (ed_cons (ev_var rfl) (ed_cons (ev_var rfl) (ed_cons (ev_tupleL (ev_wl rfl wf')) ed_nil))) (by show 3 ≤ 100000; decide))) s' fun v H9 e9 p9 => q v H9 (e0'.trans e9) p9
def jaL : List Str := ["jump", "ask", "ask"]
def cntL : List Nat := [1, 2, 2, 3]
theorem cntL_ok {m : Nat} (h : m < 4) : 1 ≤ cntL.getD m 1 ∧ cntL.getD m 1 ≤ 3 := by
  match m, h with
  | 0, _ => decide
  | 1, _ => decide
  | 2, _ => decide
  | 3, _ => decide
theorem set_ok {wd c n i : Nat} {t : Stp} {ts : List Stp} (h : ∀ x ∈ ts, x.Ok wd c n) (ht : t.Ok wd c n) : ∀ x ∈ ts.set i t, x.Ok wd c n := fun x hx => by
  rcases List.mem_or_eq_of_mem_set hx with z | z
  · exact h x z
  · rw [z]; exact ht
def spf_plain (K : PySem.W.Frag) : Spf (List Int × Nat) := ⟨fun x => [aL K (x.1.map .num), aD K (natD x.2)], fun x => x.1.length ≤ 63, fun _ => aPln K⟩
abbrev sc__law_plain_N : List Str := ["_law_script", "_law_at", "_law_seed", "_law_wide", "_law_count", "_law_total", "_law_numbers", "_law_found", "_law_first_here", "_law_turn", "_law_number_here"]
theorem sc__law_plain : FnScope ["_law_script", "_law_at", "_law_seed", "_law_wide", "_law_count", "_law_total", "_law_numbers", "_law_found", "_law_first_here", "_law_turn", "_law_number_here"] ["_law_script", "_law_at"] (defScope (topS 47)) := ⟨rfl, rfl, rfl, by decide +kernel, rfl, by decide +kernel, by decide +kernel⟩
theorem ok__law_plain {P : Program} {w : World} {K : PySem.W.Frag} {mg : Str → Option Value} {base : Heap} {ad : Ads} (fx : Fx K mg ad) : Ok P w K mg base CX0 3 "_law_plain" ["_law_script", "_law_at"] ((spf_plain K).sp) := by
  refine fx.d__law_plain.ok sc__law_plain (fun _ _ _ _ _ _ us hl => match us, hl with | [_, _], _ => rfl) (Spf.len fun _ => rfl) fun f cdv A outer s H vs Q E hr hcd h => ?_
  refine ⟨_, PSs.nox (pss_cons (ps_if (PW.pt (pw_and (pt_cmpR (xNe K hr.units) (pv 0) (pe_lst (pa_nil)) (nomark _)) (pw_and (pt_cmpR op_ge (pe_ix (xIx P w K hr.units) (pv 0) pe_int (fun _ _ => rfl)) (pe_op op_pow pe_int pe_int) (nomark _)) (pw_and1 (pt_cmpR (xEq K hr.units) (pv 1) pe_int (nomark _)))))) (pss_one (ps_ret (pe_callD (ok__law_written (P := P) (w := w) (base := base) fx) (hr.mono (by decide)) (by rfl) (pa_cons (pe_op op_sub (pe_ix (xIx P w K hr.units) (pv 0) pe_int (fun _ _ => rfl)) (pe_op op_pow pe_int pe_int)) pa_nil)))) (pss_nil)) (pss_cons (ps_set (i := 2) sc__law_plain.nd rfl (by first | exact .inl rfl | exact .inr rfl) (pe_callD (ok__law_number (P := P) (w := w) (base := base) fx) (hr.mono (by decide)) (by rfl) (pa_cons (pv 0) (pa_cons (pv 1) pa_nil)))) (pss_cons (ps_asg (pe_tup (pa_cons (pe_op (xAdd K) pe_int (pe_op op_mod (pe_callTy call_intU (by rfl) fx.int_ (by decide +kernel) (pa_cons (pv 2) pa_nil)) pe_int)) (pa_cons (pe_ix (xIx P w K hr.units) (pe_tup (pa_cons pe_int (pa_cons pe_int (pa_cons pe_int (pa_cons pe_int pa_nil))))) (pe_op op_mod (pe_callTy call_intU (by rfl) fx.int_ (by decide +kernel) (pa_cons (pe_op op_fdiv (pv 2) pe_int) pa_nil)) pe_int) (fun _ _ => rfl)) pa_nil))) (xTg K (n := 2) rfl (pgs_cons (pg_name (i := 3) sc__law_plain.nd rfl (by first | exact .inl rfl | exact .inr rfl)) (pgs_cons (pg_name (i := 4) sc__law_plain.nd rfl (by first | exact .inl rfl | exact .inr rfl)) pgs_nil)))) (pss_cons (ps_set (i := 5) sc__law_plain.nd rfl (by first | exact .inl rfl | exact .inr rfl) (pe_op (xAdd K) pe_int (pe_op op_mod (pe_callTy call_intU (by rfl) fx.int_ (by decide +kernel) (pa_cons (pe_op op_fdiv (pv 2) pe_int) pa_nil)) pe_int))) (pss_cons (ps_setLc (i := 6) (own := [("_law_turn", 9)]) rfl sc__law_plain.nd rfl rfl (sw_true rfl rfl rfl (by decide +kernel)) (pi_range1 (by rfl) fx.range_ (pa_cons (pv 5) pa_nil)) (blkOk_by (own := [("_law_turn", 9)]) (N := ["_law_script", "_law_at", "_law_seed", "_law_wide", "_law_count", "_law_total", "_law_numbers", "_law_found", "_law_first_here", "_law_turn", "_law_number_here"]) (sc := defScope (topS 47)) (by decide +kernel)) (fun _ _ _ _ _ => (pg_name (i := 9) sc__law_plain.nd rfl (by first | exact .inl rfl | exact .inr rfl))) (fun _ _ _ _ _ => pts_nil) (fun _ _ _ _ _ => pe_callD (ok__law_number (P := P) (w := w) (base := base) fx) (hr.mono (by decide)) (by rfl) (pa_cons (pv 0) (pa_cons (pe_op (xAdd K) (pe_op (xAdd K) (pv 1) pe_int) (pv 9)) pa_nil)))) (pss_cons (ps_setLc (i := 7) (own := [("_law_number_here", 10)]) rfl sc__law_plain.nd rfl rfl (sw_true rfl rfl rfl (by decide +kernel)) (xSeq K (pv 6)) (blkOk_by (own := [("_law_number_here", 10)]) (N := ["_law_script", "_law_at", "_law_seed", "_law_wide", "_law_count", "_law_total", "_law_numbers", "_law_found", "_law_first_here", "_law_turn", "_law_number_here"]) (sc := defScope (topS 47)) (by decide +kernel)) (fun _ _ _ _ _ => (pg_name (i := 10) sc__law_plain.nd rfl (by first | exact .inl rfl | exact .inr rfl))) (fun _ _ _ _ _ => pts_nil) (fun _ _ _ _ _ => pe_callD (ok__law_step (P := P) (w := w) (base := base) fx) (hr.mono (by decide)) (by rfl) (pa_cons (pv 10) (pa_cons (pv 3) (pa_cons (pv 4) (pa_cons (pv 5) pa_nil)))))) (pss_cons (ps_if (pt_cmpR op_gt (pe_op op_mod (pe_callTy call_intU (by rfl) fx.int_ (by decide +kernel) (pa_cons (pe_op op_fdiv (pv 2) pe_int) pa_nil)) pe_int) pe_int (nomark _)) (pss_cons (ps_set (i := 8) sc__law_plain.nd rfl (by first | exact .inl rfl | exact .inr rfl) (pe_ix (xIx P w K hr.units) pe_str (pe_op op_mod (pe_callTy call_intU (by rfl) fx.int_ (by decide +kernel) (pa_cons (pe_op op_fdiv (pv 2) pe_int) pa_nil)) (pv 4)) (fun _ _ => rfl))) (pss_cons (ps_asg (pe_tup (pa_cons pe_str (pa_cons (pv 8) (pa_cons (pe_op (xAdd K) pe_int (pe_op op_mod (pe_callTy call_intU (by rfl) fx.int_ (by decide +kernel) (pa_cons (pe_op op_fdiv (pv 2) pe_int) pa_nil)) (pv 3))) pa_nil)))) (pg_sub (pv 7) pe_int (xSet P w K hr.units))) (pss_one (ps_asg (pe_tup (pa_cons (pe_ix (xIx P w K hr.units) (pe_tup (pa_cons pe_str (pa_cons pe_str (pa_cons pe_str pa_nil)))) (pe_op op_mod (pe_callTy call_intU (by rfl) fx.int_ (by decide +kernel) (pa_cons (pe_op op_fdiv (pv 2) pe_int) pa_nil)) pe_int) (fun _ _ => rfl)) (pa_cons (pe_op op_mod (pe_callTy call_intU (by rfl) fx.int_ (by decide +kernel) (pa_cons (pe_op op_fdiv (pv 2) pe_int) pa_nil)) pe_int) pa_nil))) (pg_sub (pv 7) (pe_un un_neg pe_int) (xSet P w K hr.units)))))) (pss_nil)) (pss_cons (ps_if (pt_cmpR (xEq K hr.units) (pe_op op_mod (pe_callTy call_intU (by rfl) fx.int_ (by decide +kernel) (pa_cons (pe_op op_fdiv (pv 2) pe_int) pa_nil)) pe_int) pe_int (nomark _)) (pss_cons (ps_asg (pe_tup (pa_cons pe_str (pa_cons (pe_ix (xIx P w K hr.units) pe_str (pe_op op_sub (pv 4) pe_int) (fun _ _ => rfl)) (pa_cons (pe_ix (xIx P w K hr.units) pe_str (pe_op op_mod (pe_callTy call_intU (by rfl) fx.int_ (by decide +kernel) (pa_cons (pe_op op_fdiv (pv 2) pe_int) pa_nil)) (pv 4)) (fun _ _ => rfl)) (pa_cons pe_int (pa_cons pe_int pa_nil)))))) (pg_sub (pv 7) (pe_op op_fdiv (pv 5) pe_int) (xSet P w K hr.units))) (pss_one (ps_asg (pe_tup (pa_cons pe_str (pa_cons (pe_ix (xIx P w K hr.units) pe_str (pe_op op_sub (pv 4) pe_int) (fun _ _ => rfl)) pa_nil))) (pg_sub (pv 7) (pe_op (xAdd K) (pe_op op_fdiv (pv 5) pe_int) pe_int) (xSet P w K hr.units))))) (pss_nil)) (pss_one (ps_ret (pe_tup (pa_cons (pv 3) (pa_cons (pv 4) (pa_cons (pe_callTy (xTuple K) (by rfl) fx.tuple_ (by decide +kernel) (pa_cons (pv 7) pa_nil)) pa_nil)))))))))))))), ?_⟩
  obtain ⟨⟨ns, at0⟩, hns, hAll, q⟩ := h
  have hns : ns.length ≤ 63 := hns
  have s0 : SOk _ _ H := SOk.entry (N := sc__law_plain_N) (As := [aL K (ns.map .num), aD K (natD at0)]) hAll
  have hat : ∀ b : Bool, (!(ns.map NestedKey.num).isEmpty) = true → atI (ns.map NestedKey.num) 0 = some (.num (ns.getD 0 0)) := fun _ hb => by
    cases ns with
    | nil => cases hb
    | cons x r => exact atD (n := 0) rfl
  refine st_if (et_and (et_test (ev_neN (ev_var rfl) (lay_ints ns))) fun hb => et_and (et_test (ev_cmpI (K := K) (ev_ixL (ev_var rfl) ev_int (hat true hb)) (ev_pow (i := 10) (j := 18) ev_int ev_int ⟨by decide, by decide, by decide⟩))) fun _ => et_test (ev_eqI (ev_var rfl) ev_int)) s0 (fun hb H1 e1 s1 => ?_) fun hb H1 e1 s1 => ?_
  · have hb1 := (Bool.and_eq_true_iff.mp hb).1
    exact st_ret (A := aPln K) (ev_call (f := spf_written K) (ns.getD 0 0 - (10 : Int) ^ (18 : Int).toNat) (ea_one (ev_sub (ev_ixL (ev_var rfl) ev_int (hat true hb1)) (ev_pow (i := 10) (j := 18) ev_int ev_int ⟨by decide, by decide, by decide⟩))) trivial) s1 fun v H9 e9 p9 => q v H9 (e1.trans e9) p9
  refine st_set (A := aD K (.num (numP ns at0))) (ev_call (f := spf_number K) (ns, (at0 : Int)) (ea_cons (ev_var rfl) (ea_one (ev_var rfl))) hns) s1 fun σ2 H2 e2 s2 => ?_
  generalize numP ns at0 = sd at *
  have hm4 := modN_lt (sd / 4) (n := 4) (by decide)
  refine st_asg (K := K) (d := .tup [natD (1 + modN sd 4), natD (cntL.getD (modN (sd / 4) 4) 1)]) (ev_tup (ed_cons (ev_natAdd (m := 1) (ev_int (K := K)) (ev_modL (ev_int1 (ev_var rfl)) ev_int rfl (by decide))) (ed_cons (ev_ixT (ev_tup (ed_cons ev_int (ed_cons ev_int (ed_cons ev_int (ed_cons ev_int ed_nil)))) (by show 4 ≤ 100000; decide)) (ev_modL (n := 4) (ev_int1 (ev_fdiv (ev_var rfl) ev_int ⟨by decide, by decide⟩)) ev_int rfl (by decide)) (atD (by
    show (cntL.map natD)[modN (sd / 4) 4]? = _
    have hl : modN (sd / 4) 4 < cntL.length := hm4
    simp [hl]))) ed_nil)) (by show 2 ≤ 100000; decide)) s2 (tg_tup (tgs_cons tg_name (tgs_cons tg_name tgs_nil)) rfl) fun σ3 H3 e3 s3 => ?_
  refine st_set (A := aD K (natD (4 + modN (sd / 16) 7))) (ev_natAdd (m := 4) (ev_int (K := K)) (ev_modL (ev_int1 (ev_fdiv (ev_var rfl) ev_int ⟨by decide, by decide⟩)) ev_int rfl (by decide))) s3 fun σ4 H4 e4 s4 => ?_
  have hw := modN_lt sd (n := 4) (by decide)
  have hn := modN_lt (sd / 16) (n := 7) (by decide)
  obtain ⟨c1, c3⟩ := cntL_ok hm4
  have w1 : 1 ≤ 1 + modN sd 4 := by omega
  have w6 : 1 + modN sd 4 ≤ 6 := by omega
  have n4 : 4 ≤ 4 + modN (sd / 16) 7 := by omega
  have n12 : 4 + modN (sd / 16) 7 ≤ 12 := by omega
  generalize 1 + modN sd 4 = wd at *
  generalize cntL.getD (modN (sd / 4) 4) 1 = c at *
  generalize 4 + modN (sd / 16) 7 = n at *
  have e04 := ((e1.trans e2).trans e3).trans e4
  refine EvN.st (K := K) (n := 6) (en_map (K := K) (List.range n) natD _ (fun i => .num (numP ns ((at0 : Int) + 1 + (i : Nat)))) (ei_range1 (ea_one (ev_var rfl)) (by omega)) rfl (by rw [List.length_range]; omega) (fun x _ => tg_name) fun x _ => ev_call (f := spf_number K) (ns, (at0 : Int) + 1 + (x : Nat)) (ea_cons (ev_var rfl) (ea_one (ev_add (ev_add (ev_var rfl) ev_int) (ev_var rfl)))) hns) s4 fun nl σ5 H5 hnl e5 s5 wnl => ?_
  refine EvN.st (K := K) (n := 7) (en_map (K := K) (List.range n) (fun i => .num (numP ns ((at0 : Int) + 1 + (i : Nat)))) _ (fun i => encT (stepP (numP ns ((at0 : Int) + 1 + (i : Nat))) wd c n)) (ei_L (ev_wl rfl wnl)) rfl (by rw [List.length_range]; omega) (fun x _ => tg_name) fun x _ => ev_call (f := spf_step K) (numP ns ((at0 : Int) + 1 + (x : Nat)), wd, c, n) (ea_cons (ev_var rfl) (ea_cons (ev_var rfl) (ea_cons (ev_var rfl) (ea_one (ev_var rfl))))) ⟨w1, c1, c3⟩) s5 fun fl σ6 H6 hfl e6 s6 wfl => ?_
  have nfl : H fl = none := Evl.fresh_back (e04.trans e5) hfl
  have e06 := (e04.trans e5).trans e6
  obtain ⟨ts0, ht0, hl0, hok0⟩ : ∃ ts : List Stp, (List.range n).map (fun i => encT (stepP (numP ns ((at0 : Int) + 1 + (i : Nat))) wd c n)) = ts.map encT ∧ ts.length = n ∧ ∀ t ∈ ts, t.Ok wd c n := ⟨(List.range n).map fun i => stepP (numP ns ((at0 : Int) + 1 + (i : Nat))) wd c n, by rw [List.map_map]; rfl, by simp, fun t ht => by
    obtain ⟨i, _, rfl⟩ := List.mem_map.mp ht
    exact stepP_ok _ _ w1 c1⟩
  rw [ht0] at wfl
  have s6' : SOk [none, none, some (aD K (.num sd)), some (aD K (natD wd)), some (aD K (natD c)), some (aD K (natD n)), none, some (aV (.ref fl)), none, none, none] σ6 H6 := s6.gle (by walk_at "gle")
  clear s6
  have a3 : modN (sd / 560) c < c := modN_lt _ c1
  refine st_ifK (et_test (ev_cmpI (K := K) (ev_mod (ev_int1 (ev_fdiv (ev_var rfl) ev_int ⟨by decide, by decide⟩)) ev_int (by decide)) ev_int)) s6' (fun σ' H' => ∃ ts : List Stp, SOk [none, none, some (aD K (.num sd)), some (aD K (natD wd)), some (aD K (natD c)), some (aD K (natD n)), none, some (aV (.ref fl)), none, none, none] σ' H' ∧ Frs [fl] H6 H' ∧ WL K H' fl (ts.map encT) ∧ ts.length = n ∧ ∀ t ∈ ts, t.Ok wd c n) (fun _ kk H7 e7 s7 => ?_) (fun _ kk H7 e7 s7 => kk _ _ ⟨ts0, s7, .ex e7, WL.ex wfl e7, hl0, hok0⟩) ?_
  · refine st_set (A := aD K (.text (nm (modN (sd / 560) c)))) (ev_abc (ev_modN (ev_int1 (ev_fdiv (ev_var rfl) ev_int ⟨by decide, by decide⟩)) (ev_var rfl) c1) (by omega)) s7 fun σ8 H8 e8 s8 => ?_
    refine st_setL (K := K) (i := 0) (j := 0) (d := encT (.read (modN (sd / 560) c) (1 + modN (sd / 1680) wd))) (ev_tup (ed_cons ev_str (ed_cons (ev_var rfl) (ed_cons (ev_natAdd (m := 1) (ev_int (K := K)) (ev_modN (ev_int1 (ev_fdiv (ev_var rfl) ev_int ⟨by decide, by decide⟩)) (ev_var rfl) w1)) ed_nil))) (by show 3 ≤ 100000; decide)) (ev_var rfl) ev_int s8 (WL.ex wfl (e7.trans e8)) (ixN_nat (j := 0) (by rw [List.length_map]; omega)) (fun H9 f9 s9 w9 => ?_) (by walk_at "gs")
    have hk1 := modN_lt (sd / 6720) (n := 3) (by decide)
    have hk2 := modN_lt (sd / 20160) (n := 2) (by decide)
    have hk3 := modN_lt (sd / 1680) w1
    obtain ⟨t2, ht2, hok2⟩ : ∃ t2 : Stp, (NestedKey.tup [.text (jaL.getD (modN (sd / 6720) 3) ""), natD (modN (sd / 20160) 2)]) = encT t2 ∧ t2.Ok wd c n := by
      have hp : modN (sd / 20160) 2 ≤ n := by omega
      generalize modN (sd / 20160) 2 = p at *
      generalize modN (sd / 6720) 3 = m at *
      match m, hk1 with
      | 0, _ => exact ⟨.jump p, rfl, hp⟩
      | 1, _ => exact ⟨.ask p, rfl, hp⟩
      | 2, _ => exact ⟨.ask p, rfl, hp⟩
    refine st_setL (K := K) (i := -1) (j := n - 1) (d := encT t2) (ev_is (ev_tup (ed_cons (ev_ixT (ev_tup (ed_cons ev_str (ed_cons ev_str (ed_cons ev_str ed_nil))) (by show 3 ≤ 100000; decide)) (ev_modL (n := 3) (ev_int1 (ev_fdiv (ev_var rfl) ev_int ⟨by decide, by decide⟩)) ev_int rfl (by decide)) (atD (d := .text (jaL.getD (modN (sd / 6720) 3) "")) (by
      show (jaL.map NestedKey.text)[modN (sd / 6720) 3]? = _
      have hl : modN (sd / 6720) 3 < jaL.length := hk1
      simp [hl]))) (ed_cons (ev_modL (n := 2) (ev_int1 (ev_fdiv (ev_var rfl) ev_int ⟨by decide, by decide⟩)) ev_int rfl (by decide)) ed_nil)) (by show 2 ≤ 100000; decide)) ht2) (ev_var rfl) (ev_neg ev_int) s9 w9 (by rw [List.length_set, List.length_map, hl0]; exact ixN_last (by omega)) (fun H10 f10 s10 w10 => ?_) (by walk_at "gs")
    refine kk _ _ ⟨(ts0.set 0 (.read (modN (sd / 560) c) (1 + modN (sd / 1680) wd))).set (n - 1) t2, s10.gle (by walk_at "gle"), ((Frs.ex (e7.trans e8)).trans f9).trans f10, by rw [List.map_set, List.map_set]; exact w10, by rw [List.length_set, List.length_set]; exact hl0, set_ok (set_ok hok0 ⟨a3, by omega, by omega⟩) hok2⟩
  rintro σ7 H7 ⟨ts1, s7, f7, wf7, hl1, hok1⟩
  refine st_ifK (et_test (ev_eqI (ev_mod (ev_int1 (ev_fdiv (ev_var rfl) ev_int ⟨by decide, by decide⟩)) ev_int (by decide)) ev_int)) s7 (fun σ' H' => ∃ ts : List Stp, SOk [none, none, some (aD K (.num sd)), some (aD K (natD wd)), some (aD K (natD c)), some (aD K (natD n)), none, some (aV (.ref fl)), none, none, none] σ' H' ∧ Frs [fl] H6 H' ∧ WL K H' fl (ts.map encT) ∧ ts.length = n ∧ ∀ t ∈ ts, t.Ok wd c n) (fun _ kk H8 e8 s8 => ?_) (fun _ kk H8 e8 s8 => kk _ _ ⟨ts1, s8, f7.trans (.ex e8), WL.ex wf7 e8, hl1, hok1⟩) ?_
  · have hc1 : (c : Int) - 1 = ((c - 1 : Nat) : Int) := by omega
    have hn2 : (n : Int) / 2 = ((n / 2 : Nat) : Int) := by omega
    refine st_setL (K := K) (i := ((n / 2 : Nat) : Int)) (j := n / 2) (d := encT (.cut (c - 1) (modN (sd / 560) c) 0 1)) (ev_tup (ed_cons ev_str (ed_cons (ev_abc (ev_numIs (ev_sub (ev_var rfl) ev_int) hc1) (by omega)) (ed_cons (ev_abc (ev_modN (ev_int1 (ev_fdiv (ev_var rfl) ev_int ⟨by decide, by decide⟩)) (ev_var rfl) c1) (by omega)) (ed_cons ev_int (ed_cons ev_int ed_nil))))) (by show 5 ≤ 100000; decide)) (ev_var rfl) (ev_numIs (ev_fdiv (ev_var rfl) ev_int ⟨by decide, by decide⟩) hn2) s8 (WL.ex wf7 e8) (ixN_nat (by rw [List.length_map]; omega)) (fun H9 f9 s9 w9 => ?_) (by walk_at "gs")
    refine st_setL (K := K) (i := ((n / 2 + 1 : Nat) : Int)) (j := n / 2 + 1) (d := encT (.keep (c - 1))) (ev_tup (ed_cons ev_str (ed_cons (ev_abc (ev_numIs (ev_sub (ev_var rfl) ev_int) hc1) (by omega)) ed_nil)) (by show 2 ≤ 100000; decide)) (ev_var rfl) (ev_numIs (ev_add (ev_numIs (ev_fdiv (ev_var rfl) ev_int ⟨by decide, by decide⟩) hn2) ev_int) (by omega)) s9 w9 (ixN_nat (by rw [List.length_set, List.length_map]; omega)) (fun H10 f10 s10 w10 => ?_) (by walk_at "gs")
    refine kk _ _ ⟨(ts1.set (n / 2) (.cut (c - 1) (modN (sd / 560) c) 0 1)).set (n / 2 + 1) (.keep (c - 1)), s10.gle (by walk_at "gle"), ((f7.trans (.ex e8)).trans f9).trans f10, by rw [List.map_set, List.map_set]; exact w10, by rw [List.length_set, List.length_set]; exact hl1, set_ok (set_ok hok1 ⟨by omega, a3, by omega, by omega⟩) (by show c - 1 < c; omega)⟩
  rintro σ8 H8 ⟨ts, s8, f8, wf8, hl8, hok8⟩
  have e08 : Ex H H8 := f8.ofNew e06 fun a ha => by rw [List.mem_singleton.mp ha]; exact nfl
  have hp : Pln.Ok ⟨wd, c, ts⟩ := ⟨w1, w6, c1, c3, by show 1 ≤ ts.length; omega, by show ts.length ≤ 12; omega, fun t ht => by rw [show (Pln.steps ⟨wd, c, ts⟩).length = n from hl8]; exact hok8 t ht⟩
  exact st_ret (A := aPln K) (ev_X ⟨⟨wd, c, ts⟩, hp⟩ (ev_tup (ed_cons (ev_var rfl) (ed_cons (ev_var rfl) (ed_cons (ev_tupleL (ev_wl rfl wf8)) ed_nil))) (by show 3 ≤ 100000; decide))) s8 fun v H9 e9 p9 => q v H9 (e08.trans e9) p9
def spf_somePath (K : PySem.W.Frag) : Spf (List Int × Pln × Nat) := ⟨fun x => [aL K (x.1.map .num), aD K (plnD x.2.1), aD K (natD x.2.2)], fun x => x.1.length ≤ 63 ∧ x.2.1.Ok, fun _ => aPth K⟩
abbrev sc__law_some_path_N : List Str := ["_law_script", "_law_plain_here", "_law_at", "_law_path", "_law_stand_here", "_law_turn", "_law_seed", "_law_place", "_law_kind", "_law_some"]
theorem sc__law_some_path : FnScope ["_law_script", "_law_plain_here", "_law_at", "_law_path", "_law_stand_here", "_law_turn", "_law_seed", "_law_place", "_law_kind", "_law_some"] ["_law_script", "_law_plain_here", "_law_at"] (defScope (topS 65)) := ⟨rfl, rfl, rfl, by decide +kernel, rfl, by decide +kernel, by decide +kernel⟩
theorem ok__law_some_path {P : Program} {w : World} {K : PySem.W.Frag} {mg : Str → Option Value} {base : Heap} {ad : Ads} (fx : Fx K mg ad) : Ok P w K mg base CX0 6 "_law_some_path" ["_law_script", "_law_plain_here", "_law_at"] ((spf_somePath K).sp) := by
  refine fx.d__law_some_path.ok sc__law_some_path (fun _ _ _ _ _ _ us hl => match us, hl with | [_, _, _], _ => rfl) (Spf.len fun _ => rfl) fun f cdv A outer s H vs Q E hr hcd h => ?_
  refine ⟨_, PSs.nox (pss_cons (ps_par (i := 3) (j := 4) (by rfl) sc__law_some_path.nd rfl rfl (by decide) rfl rfl (pa_cons (pe_tup (pa_cons pe_int pa_nil)) (pa_cons (pe_callD (ok__law_first (P := P) (w := w) (base := base) fx) (hr.mono (by decide)) (by rfl) (pa_cons (pv 1) pa_nil)) pa_nil)) (by rfl)) (pss_cons (ps_for PassesOwn.never rfl (pi_range1 (by rfl) fx.range_ (pa_cons (pe_op op_mod (pe_callTy call_intU (by rfl) fx.int_ (by decide +kernel) (pa_cons (pe_callD (ok__law_number (P := P) (w := w) (base := base) fx) (hr.mono (by decide)) (by rfl) (pa_cons (pv 0) (pa_cons (pv 2) pa_nil))) pa_nil)) pe_int) pa_nil)) (pg_name (i := 5) sc__law_some_path.nd rfl (by first | exact .inl rfl | exact .inr rfl)) (pss_cons (ps_set (i := 9) sc__law_some_path.nd rfl (by first | exact .inl rfl | exact .inr rfl) (pe_callD (ok__law_after (P := P) (w := w) (base := base) fx) (hr.mono (by decide)) (by rfl) (pa_cons (pv 1) (pa_cons (pv 4) pa_nil)))) (pss_one (ps_if (pt_cmpR (xNe K hr.units) (pv 9) (pe_lst (pa_nil)) (nomark _)) (pss_cons (ps_set (i := 4) sc__law_some_path.nd rfl (by first | exact .inl rfl | exact .inr rfl) (pe_ix (xIx P w K hr.units) (pe_ix (xIx P w K hr.units) (pv 9) (pe_op op_mod (pe_callTy call_intU (by rfl) fx.int_ (by decide +kernel) (pa_cons (pe_op op_fdiv (pe_callD (ok__law_number (P := P) (w := w) (base := base) fx) (hr.mono (by decide)) (by rfl) (pa_cons (pv 0) (pa_cons (pe_op (xAdd K) (pe_op (xAdd K) (pv 2) pe_int) (pv 5)) pa_nil))) pe_int) pa_nil)) (pe_callB (xLen P w K) (by rfl) fx.len_ (by decide +kernel) (pa_cons (pv 9) pa_nil))) (fun _ _ => rfl)) pe_int (fun _ _ => rfl))) (pss_one (ps_set (i := 3) sc__law_some_path.nd rfl (by first | exact .inl rfl | exact .inr rfl) (pe_op (xAdd K) (pv 3) (pe_tup (pa_cons (pe_ix (xIx P w K hr.units) (pv 4) pe_int (fun _ _ => rfl)) pa_nil)))))) (pss_nil))))) (pss_cons (ps_set (i := 6) sc__law_some_path.nd rfl (by first | exact .inl rfl | exact .inr rfl) (pe_callD (ok__law_number (P := P) (w := w) (base := base) fx) (hr.mono (by decide)) (by rfl) (pa_cons (pv 0) (pa_cons (pe_op (xAdd K) (pv 2) pe_int) pa_nil)))) (pss_cons (ps_set (i := 7) sc__law_some_path.nd rfl (by first | exact .inl rfl | exact .inr rfl) (pe_op op_mod (pe_callTy call_intU (by rfl) fx.int_ (by decide +kernel) (pa_cons (pe_op op_fdiv (pv 6) pe_int) pa_nil)) (pe_callB (xLen P w K) (by rfl) fx.len_ (by decide +kernel) (pa_cons (pv 3) pa_nil)))) (pss_cons (ps_set (i := 8) sc__law_some_path.nd rfl (by first | exact .inl rfl | exact .inr rfl) (pe_op op_mod (pe_callTy call_intU (by rfl) fx.int_ (by decide +kernel) (pa_cons (pv 6) pa_nil)) pe_int)) (pss_cons (ps_if (pt_cmpR (xEq K hr.units) (pv 8) pe_int (nomark _)) (pss_one (ps_ret (pe_op (xAdd K) (pe_slice (xSl K) (pv 3) po_none (po_some (pv 7))) (pe_slice (xSl K) (pv 3) (po_some (pe_op (xAdd K) (pv 7) pe_int)) po_none)))) (pss_nil)) (pss_cons (ps_if (pt_cmpR (xEq K hr.units) (pv 8) pe_int (nomark _)) (pss_one (ps_ret (pe_op (xAdd K) (pe_op (xAdd K) (pe_slice (xSl K) (pv 3) po_none (po_some (pv 7))) (pe_tup (pa_cons (pe_op op_sub (pe_op op_mod (pe_callTy call_intU (by rfl) fx.int_ (by decide +kernel) (pa_cons (pe_op op_fdiv (pv 6) pe_int) pa_nil)) pe_int) pe_int) pa_nil))) (pe_slice (xSl K) (pv 3) (po_some (pe_op (xAdd K) (pv 7) pe_int)) po_none)))) (pss_nil)) (pss_one (ps_ret (pv 3)))))))))), ?_⟩
  obtain ⟨⟨ns, p, at0⟩, ⟨hns, hp⟩, hAll, q⟩ := h
  have hns : ns.length ≤ 63 := hns
  have hp : p.Ok := hp
  have s0 : SOk _ _ H := SOk.entry (N := sc__law_some_path_N) (As := [aL K (ns.map .num), aD K (plnD p), aD K (natD at0)]) hAll
  refine st_par (A := aD K (.tup (([0] : List Int).map .num))) (B := aD K (encS (startP p))) (ea_cons (ev_tup (ed_cons ev_int ed_nil) (by show 1 ≤ 100000; decide)) (ea_one (ev_call (f := spf_lfirst K) p (ea_one (ev_var rfl)) hp))) s0 fun σ1 H1 e1 s1 => ?_
  have h20 := modN_lt (numP ns at0) (n := 20) (by decide)
  refine st_range1 (n := modN (numP ns at0) 20) (ea_one (ev_modL (ev_int1 (ev_call (f := spf_number K) (ns, (at0 : Int)) (ea_cons (ev_var rfl) (ea_one (ev_var rfl))) hns)) ev_int rfl (by decide))) s1 (by omega) (fun i σ' H' => ∃ (path : List Int) (s : Stand), SOk [some (aL K (ns.map .num)), some (aD K (plnD p)), some (aD K (natD at0)), some (aD K (.tup (path.map .num))), some (aD K (encS s)), none, none, none, none, none] σ' H' ∧ Ex H H' ∧ path.length ≤ 1 + i ∧ 1 ≤ path.length ∧ SOk1 p s) ?_ ?_ ?_
  · exact fun H2 e2 => ⟨[0], startP p, (s1.ex e2).gle (by walk_at "gle"), e1.trans e2, by simp, by simp, start_ok hp⟩
  · rintro i σ' H' hi ⟨path, s, s', e', hl, hl1, hs⟩
    have s2 := s'.set 5 (A := aD K (natD i)) (v := .int (i : Nat)) (.int _) (Nat.le_of_ble_eq_true rfl)
    refine st_set (A := aL K ((afterP p s).map encSG)) (ev_call (f := spf_lafter K) (p, s) (ea_cons (ev_var rfl) (ea_one (ev_var rfl))) ⟨hp, hs⟩) s2 fun σ3 H3 e3 s3 => ?_
    have s3' : SOk [some (aL K (ns.map .num)), some (aD K (plnD p)), some (aD K (natD at0)), some (aD K (.tup (path.map .num))), some (aD K (encS s)), some (aD K (natD i)), none, none, none, some (aL K ((afterP p s).map encSG))] σ3 H3 := s3.gle (by walk_at "gle")
    refine st_if (et_test (ev_neN (ev_var rfl) (fun x hx => by
      obtain ⟨y, _, rfl⟩ := List.mem_map.mp hx
      exact lay_encSG y))) s3' (fun hb H4 e4 s4 => ?_) (fun hb H4 e4 s4 => ?_)
    · have hpos : 0 < (afterP p s).length := by
        cases hq : afterP p s with
        | nil => rw [hq] at hb; cases hb
        | cons _ _ => simp
      have hm := modN_lt (numP ns ((at0 : Int) + 1 + (i : Nat)) / 3) hpos
      have hok := after_ok hp hs _ (List.getElem_mem hm)
      refine st_set (A := aD K (encS (afterP p s)[modN (numP ns ((at0 : Int) + 1 + (i : Nat)) / 3) (afterP p s).length].1)) (ev_ixT (ev_ixL (ev_var rfl) (ev_modN (ev_int1 (ev_fdiv (ev_call (f := spf_number K) (ns, (at0 : Int) + 1 + (i : Nat)) (ea_cons (ev_var rfl) (ea_one (ev_add (ev_add (ev_var rfl) ev_int) (ev_var rfl)))) hns) ev_int ⟨by decide, by decide⟩)) (ev_is (ev_lenL (ev_var rfl)) (by rw [List.length_map])) hpos) (atD (d := encSG (afterP p s)[modN (numP ns ((at0 : Int) + 1 + (i : Nat)) / 3) (afterP p s).length]) (by rw [List.getElem?_map, List.getElem?_eq_getElem hm]; rfl))) ev_int rfl) s4 fun σ5 H5 e5 s5 => ?_
      generalize (afterP p s)[modN (numP ns ((at0 : Int) + 1 + (i : Nat)) / 3) (afterP p s).length].1 = s'' at *
      refine st_set (A := aD K (.tup ((path ++ [(s''.1 : Int)]).map .num))) (ev_is (ev_catT (ev_var rfl) (ev_tup (ed_cons (ev_ixT (ev_var rfl) ev_int rfl) ed_nil) (by show 1 ≤ 100000; decide)) (by rw [List.length_map]; show path.length + 1 ≤ 100000; omega)) (by rw [List.map_append]; rfl)) s5 fun σ6 H6 e6 s6 => ?_
      exact ⟨path ++ [(s''.1 : Int)], s'', s6.gle (by walk_at "gle"), (((e'.trans e3).trans e4).trans e5).trans e6, by rw [List.length_append]; simp; omega, by rw [List.length_append]; omega, hok⟩
    · exact ⟨path, s, s4.gle (by walk_at "gle"), (e'.trans e3).trans e4, by omega, hl1, hs⟩
  · rintro σ' H' ⟨path, s, s', e', hl, hl1, hs⟩
    dsimp only
    refine st_set (A := aD K (.num (numP ns ((at0 : Int) + 21)))) (ev_call (f := spf_number K) (ns, (at0 : Int) + 21) (ea_cons (ev_var rfl) (ea_one (ev_add (ev_var rfl) ev_int))) hns) s' fun σ2 H2 e2 s2 => ?_
    generalize numP ns ((at0 : Int) + 21) = sd at *
    refine st_set (A := aD K (natD (modN (sd / 5) path.length))) (ev_modN (ev_int1 (ev_fdiv (ev_var rfl) ev_int ⟨by decide, by decide⟩)) (ev_is (ev_lenT (ev_var rfl)) (by rw [List.length_map])) hl1) s2 fun σ3 H3 e3 s3 => ?_
    generalize modN (sd / 5) path.length = pl at *
    refine st_set (A := aD K (natD (modN sd 9))) (ev_modL (ev_int1 (ev_var rfl)) ev_int rfl (by decide)) s3 fun σ4 H4 e4 s4 => ?_
    have s4' : SOk [none, none, none, some (aD K (.tup (path.map .num))), none, none, some (aD K (.num sd)), some (aD K (natD pl)), some (aD K (natD (modN sd 9))), none] σ4 H4 := s4.gle (by walk_at "gle")
    have e04 := ((e'.trans e2).trans e3).trans e4
    obtain ⟨r1, h1, l1⟩ := cut_map path none (some (pl : Int))
    obtain ⟨r2, h2, l2⟩ := cut_map path (some ((pl : Int) + 1)) none
    have c1 : ∀ {H'}, EvG (tSl (rSlU K) (tVar 3) tNoPart (tPart (tVar 7))) [none, none, none, some (aD K (.tup (path.map .num))), none, none, some (aD K (.num sd)), some (aD K (natD pl)), some (aD K (natD (modN sd 9))), none] H' (aD K (.tup (r1.map .num))) := ev_is (ev_slT (ev_var rfl) eo_none (eo_some (K := K) (ev_var rfl))) (by rw [h1])
    have c2 : ∀ {H'}, EvG (tSl (rSlU K) (tVar 3) (tPart (tOp (rAddU K) (tVar 7) (tC (.int 1)))) tNoPart) [none, none, none, some (aD K (.tup (path.map .num))), none, none, some (aD K (.num sd)), some (aD K (natD pl)), some (aD K (natD (modN sd 9))), none] H' (aD K (.tup (r2.map .num))) := ev_is (ev_slT (ev_var rfl) (eo_some (K := K) (ev_add (ev_var rfl) ev_int)) eo_none) (by rw [h2])
    refine st_if (et_test (ev_eqI (ev_var rfl) ev_int)) s4' (fun _ H5 e5 s5 => ?_) (fun _ H5 e5 s5 => ?_)
    · refine st_ret (A := aPth K) (ev_X ⟨r1 ++ r2, by rw [List.length_append]; omega⟩ (ev_is (ev_catT c1 c2 (by rw [List.length_map, List.length_map]; omega)) (by rw [← List.map_append]))) s5 fun v H9 e9 p9 => ?_
      exact q v H9 ((e04.trans e5).trans e9) p9
    refine st_if (et_test (ev_eqI (ev_var rfl) ev_int)) s5 (fun _ H6 e6 s6 => ?_) (fun _ H6 e6 s6 => ?_)
    · refine st_ret (A := aPth K) (ev_X ⟨(r1 ++ [(sd / 90) % 14 - 1]) ++ r2, by simp only [List.length_append, List.length_singleton]; omega⟩ (ev_is (ev_catT (ev_catT c1 (ev_tup (ed_cons (ev_sub (ev_mod (ev_int1 (ev_fdiv (ev_var rfl) ev_int ⟨by decide, by decide⟩)) ev_int (by decide)) ev_int) ed_nil) (by show 1 ≤ 100000; decide)) (by rw [List.length_map]; show r1.length + 1 ≤ 100000; omega)) c2 (by rw [List.length_append, List.length_map, List.length_map]; show r1.length + 1 + r2.length ≤ 100000; omega)) (by rw [List.map_append, List.map_append]; rfl))) s6 fun v H9 e9 p9 => ?_
      exact q v H9 (((e04.trans e5).trans e6).trans e9) p9
    · refine st_ret (A := aPth K) (ev_X ⟨path, by omega⟩ (ev_var rfl)) s6 fun v H9 e9 p9 => ?_
      exact q v H9 (((e04.trans e5).trans e6).trans e9) p9
def spf_bent (P : Program) (w : World) (K : PySem.W.Frag) : Spf (List Int × Nat × Pln × List Stand × Hts) := ⟨fun x => [aL K (x.1.map .num), aD K (natD x.2.1), aRw P w K x.2.2.1 x.2.2.2.1, aDW P w K (hK x.2.2.2.2)], fun x => x.1.length ≤ 63 ∧ x.2.2.1.Ok ∧ Expl x.2.2.1 x.2.2.2.1 ∧ x.2.2.2.2.map (·.1) = x.2.2.2.1, fun x => aBent P w K x.2.2.1⟩
abbrev sc__law_bent_N : List Str := ["_law_script", "_law_at", "_law_rows", "_law_sums_here", "_law_seed", "_law_found", "_law_stands_here", "_law_own", "_law_stand_here"]
theorem sc__law_bent : FnScope ["_law_script", "_law_at", "_law_rows", "_law_sums_here", "_law_seed", "_law_found", "_law_stands_here", "_law_own", "_law_stand_here"] ["_law_script", "_law_at", "_law_rows", "_law_sums_here"] (defScope (topS 66)) := ⟨rfl, rfl, rfl, by decide +kernel, rfl, by decide +kernel, by decide +kernel⟩
theorem ok__law_bent {P : Program} {w : World} {K : PySem.W.Frag} {mg : Str → Option Value} {base : Heap} {ad : Ads} (fx : Fx K mg ad) : Ok P w K mg base CX0 2 "_law_bent" ["_law_script", "_law_at", "_law_rows", "_law_sums_here"] ((spf_bent P w K).sp) := by
  refine fx.d__law_bent.ok sc__law_bent (fun _ _ _ _ _ _ us hl => match us, hl with | [_, _, _, _], _ => rfl) (Spf.len fun _ => rfl) fun f cdv A outer s H vs Q E hr hcd h => ?_
  refine ⟨_, PSs.nox (pss_cons (ps_par (i := 4) (j := 5) (by rfl) sc__law_bent.nd rfl rfl (by decide) rfl rfl (pa_cons (pe_callD (ok__law_number (P := P) (w := w) (base := base) fx) (hr.mono (by decide)) (by rfl) (pa_cons (pv 0) (pa_cons (pv 1) pa_nil))) (pa_cons (xNewD P w K) pa_nil)) (by rfl)) (pss_cons (ps_set (i := 6) sc__law_bent.nd rfl (by first | exact .inl rfl | exact .inr rfl) (pe_callTy (xList P w K rfl) (by rfl) fx.list_ (by decide +kernel) (pa_cons (pv 2) pa_nil))) (pss_cons (ps_set (i := 7) sc__law_bent.nd rfl (by first | exact .inl rfl | exact .inr rfl) (pe_ix (xIx P w K hr.units) (pv 6) (pe_op op_mod (pe_callTy call_intU (by rfl) fx.int_ (by decide +kernel) (pa_cons (pe_op op_fdiv (pv 4) pe_int) pa_nil)) (pe_callB (xLen P w K) (by rfl) fx.len_ (by decide +kernel) (pa_cons (pv 6) pa_nil))) (fun _ _ => rfl))) (pss_cons (ps_for PassesOwn.never rfl (xSeq K (pe_ifExp (pt_cmpR (xEq K hr.units) (pe_op op_mod (pe_callTy call_intU (by rfl) fx.int_ (by decide +kernel) (pa_cons (pv 4) pa_nil)) pe_int) pe_int (nomark _)) (xRev K (pv 6)) (pv 6))) (pg_name (i := 8) sc__law_bent.nd rfl (by first | exact .inl rfl | exact .inr rfl)) (pss_one (ps_if (PW.pt (pw_or (pt_cmpR (xNe K hr.units) (pv 8) (pv 7) (nomark _)) (pw_or1 (pt_cmpR (xNe K hr.units) (pe_op op_mod (pe_callTy call_intU (by rfl) fx.int_ (by decide +kernel) (pa_cons (pv 4) pa_nil)) pe_int) pe_int (nomark _))))) (pss_one (ps_asg (pe_ix (xIx P w K hr.units) (pv 3) (pv 8) (fun _ _ => rfl)) (pg_sub (pv 5) (pv 8) (xSet P w K hr.units)))) (pss_nil)))) (pss_cons (ps_if (PW.pt (pw_and (pt_cmpR (xIn P w K hr.units) (pv 7) (pv 5) (by rfl)) (pw_and1 (pt_cmpR op_lt (pe_op op_mod (pe_callTy call_intU (by rfl) fx.int_ (by decide +kernel) (pa_cons (pv 4) pa_nil)) pe_int) pe_int (nomark _))))) (pss_one (ps_asg (pe_op op_sub (pe_op (xAdd K) (pe_ix (xIx P w K hr.units) (pv 5) (pv 7) (fun _ _ => rfl)) (pe_op op_mod (pe_callTy call_intU (by rfl) fx.int_ (by decide +kernel) (pa_cons (pe_op op_fdiv (pv 4) pe_int) pa_nil)) pe_int)) pe_int) (pg_sub (pv 5) (pv 7) (xSet P w K hr.units)))) (pss_nil)) (pss_one (ps_ret (pv 5)))))))), ?_⟩
  obtain ⟨⟨ns, at0, p, ss, hs0⟩, ⟨hns, hp, hex, hk0⟩, hAll, q⟩ := h
  have hns : ns.length ≤ 63 := hns
  have hp : p.Ok := hp
  have hex : Expl p ss := hex
  have hk0 : hs0.map (·.1) = ss := hk0
  have hAll : AAll [aL K (ns.map .num), aD K (natD at0), aRw P w K p ss, aDW P w K (hK hs0)] vs H := hAll
  obtain ⟨x0, x1, x2, x3, rfl, px0, px1, px2, px3⟩ := aall4 hAll
  obtain ⟨a, rs, rfl, rw0⟩ := px2
  obtain ⟨c, rfl, ddc⟩ := px3
  have rw0 : RwIs P w K H p ss a rs := rw0
  have ddc : DDw P w K H c (hK hs0) := ddc
  have s0 : SOk _ _ H := SOk.entry (N := sc__law_bent_N) (As := [aL K (ns.map .num), aD K (natD at0), aV (.ref a), aV (.ref c)]) (.cons px0 (.cons px1 (.cons rfl (.cons rfl .nil))))
  refine (ev_call (f := spf_number K) (ns, (at0 : Int)) (ea_cons (ev_var rfl) (ea_one (ev_var rfl))) hns : EvG _ _ H (aD K (.num (numP ns at0)))) _ H s0 (Evl.Ex.refl H) _ fun v1 H1 e1 p1 => ?_
  have p1 : (aD K (.num (numP ns at0))).p v1 H1 := p1
  refine fun fd H2 hfd hu hdd => ?_
  obtain ⟨u, hu, hnt⟩ := hu
  have e2 : Ex H1 H2 := by rw [hu]; exact Evl.Ex.new hfd
  refine ⟨v1, .ref fd, rfl, ?_⟩
  have nfd : H fd = none := Evl.fresh_back e1 hfd
  generalize numP ns at0 = sd at *
  have s2 := ((s0.ex (e1.trans e2)).set 4 (A := aD K (.num sd)) ((aD K (.num sd)).mono e2 p1) (Nat.le_of_ble_eq_true rfl)).set 5 (A := aV (.ref fd)) (v := .ref fd) rfl (Nat.le_of_ble_eq_true rfl)
  have e02 := e1.trans e2
  have hkeys : (rwK rs).map (·.1) = ss.map encS := by rw [rwK_keys, rw0.keys]
  refine st_set (A := aL K (ss.map encS)) (ev_isL (ev_listDD (ev_ddr (ev_var rfl) (rw0.dd.ex e02).r)) hkeys) s2 fun σ3 H3 e3 s3 => ?_
  have hpos : 0 < ss.length := by
    have := hex.first
    cases ss with
    | nil => cases this
    | cons _ _ => simp
  have hm := modN_lt (sd / 7) hpos
  refine st_set (A := aD K (encS ss[modN (sd / 7) ss.length])) (ev_ixL (ev_var rfl) (ev_modN (ev_int1 (ev_fdiv (ev_var rfl) ev_int ⟨by decide, by decide⟩)) (ev_is (ev_lenL (ev_var rfl)) (by rw [List.length_map])) hpos) (atD (by rw [List.getElem?_map, List.getElem?_eq_getElem hm]; rfl))) s3 fun σ4 H4 e4 s4 => ?_
  have hown : ss[modN (sd / 7) ss.length] ∈ ss := List.getElem_mem hm
  generalize ss[modN (sd / 7) ss.length] = own at *
  have e04 := (e02.trans e3).trans e4
  have s4' : SOk [none, none, none, some (aV (.ref c)), some (aD K (.num sd)), some (aV (.ref fd)), some (aL K (ss.map encS)), some (aD K (encS own)), none] σ4 H4 := s4.gle (by walk_at "gle")
  have hfew := hex.few
  have dd4 : DDw P w K H4 fd (hK []) := hdd.ex (e3.trans e4)
  have cfd : c ≠ fd := ddc.ne nfd
  obtain ⟨ls, hls, hlss⟩ : ∃ ls : List Stand, (∀ s ∈ ls, s ∈ ss) ∧ EvG (tIf (tTest (tOp (rEqU K) (tOp (rI (fun _ j => 0 < j) fun i j => .int (i % j)) (tCB rInt1 (tCons (tVar 4) tNil)) (tC (.int 2))) (tC (.int 0)))) (tRevL K (tVar 6)) (tVar 6)) [none, none, none, some (aV (.ref c)), some (aD K (.num sd)), some (aV (.ref fd)), some (aL K (ss.map encS)), some (aD K (encS own)), none] H4 (aL K (ls.map encS)) := by
    by_cases hb : sd % 2 = 0
    · exact ⟨ss.reverse, fun s hs => List.mem_reverse.mp hs, ev_ifT (et_test (ev_eqI (ev_mod (ev_int1 (ev_var rfl)) ev_int (by decide)) ev_int)) (decide_eq_true hb) (ev_isL (ev_revL (ev_var rfl)) (by rw [List.map_reverse]))⟩
    · exact ⟨ss, fun s hs => hs, ev_ifF (et_test (ev_eqI (ev_mod (ev_int1 (ev_var rfl)) ev_int (by decide)) ev_int)) (decide_eq_false hb) (ev_var rfl)⟩
  refine st_forL (K := K) hlss s4' fun H5 la lx e5 s5 hsq hda => ⟨fun j σ' H' => ∃ hs : Hts, SOk [none, none, none, some (aV (.ref c)), some (aD K (.num sd)), some (aV (.ref fd)), none, some (aD K (encS own)), none] σ' H' ∧ Frs [fd] H5 H' ∧ DDw P w K H' fd (hK hs) ∧ Hin ss hs, ⟨[], s5.gle (by walk_at "gle"), .refl, dd4.ex e5, List.nodup_nil, fun _ h => (by cases h)⟩, ?_, ?_, ?_⟩
  · rintro j σ' H' ⟨_, _, f, _⟩
    exact ⟨f.t, sql_frs hsq f fun b hb zs => by rw [List.mem_singleton.mp hb]; exact (dd4.ex e5).noL zs⟩
  · rintro j d x σ6 H6 hd ⟨hs, s6, f6, dd6, hin⟩ hx6
    have hjl : j < ls.length := by
      have := (List.getElem?_eq_some_iff.mp hd).1
      rw [List.length_map] at this
      exact this
    rw [List.getElem?_map, List.getElem?_eq_getElem hjl] at hd
    have ed := Option.some.inj hd
    subst ed
    have hmem : ls[j] ∈ ss := hls _ (List.getElem_mem hjl)
    generalize ls[j] = s at *
    have s7 := s6.set 8 (A := aD K (encS s)) hx6 (Nat.le_of_ble_eq_true rfl)
    have s7' : SOk [none, none, none, some (aV (.ref c)), some (aD K (.num sd)), some (aV (.ref fd)), none, some (aD K (encS own)), some (aD K (encS s))] _ H6 := s7.gle (by walk_at "gle")
    have hfw := hin.few
    have e06 : Ex H H6 := f6.ofNew (e04.trans e5) fun b hb => by rw [List.mem_singleton.mp hb]; exact nfd
    refine st_if (et_or (et_test (ev_ne (ev_var rfl) (ev_var rfl) ((lay_encS _).mono (by decide)) ((lay_encS _).mono (by decide)))) fun _ => et_test (ev_neI (ev_mod (ev_int1 (ev_var rfl)) ev_int (by decide)) ev_int)) s7' (fun _ H8 e8 s8 => ?_) (fun _ H8 e8 s8 => ?_)
    · obtain ⟨n1, hn1⟩ := hget_some (hs := hs0) (s := s) (by rw [hk0]; exact hmem)
      refine st_setDD (K := K) (A := aD K (.num n1)) (ev_to (ev_getDD (ev_ddr (ev_var rfl) (ddc.ex (e06.trans e8)).r) (ev_var rfl) (isTup_encS _) (dep_encS _) hn1) fun _ _ z => num_of z) (ev_var rfl) (ev_var rfl) s8 (dd6.ex e8) (isTup_encS _) (dep_encS _) (by rw [hK_len]; omega) (fun v H9 H10 e9 pv dd9 f10 s10 dd10 => ?_) (by walk_at "gs")
      have ev := DIs.num_inv pv
      subst ev
      rw [putK_hK] at dd10
      exact ⟨hput hs s n1, s10.gle (by walk_at "gle"), (f6.trans (.ex (e8.trans e9))).trans f10, dd10, hin.put hmem n1⟩
    · exact ⟨hs, s8.gle (by walk_at "gle"), f6.trans (.ex e8), dd6.ex e8, hin⟩
  · rintro σ6 H6 ⟨hs, s6, f6, dd6, hin⟩
    have e06 : Ex H H6 := f6.ofNew (e04.trans e5) fun b hb => by rw [List.mem_singleton.mp hb]; exact nfd
    have hfw := hin.few
    dsimp only
    refine st_ifK (b := decide (own ∈ hs.map (·.1)) && decide (sd % 7 < 5)) (et_and (et_is (et_test (ev_inDD (ev_var rfl) (ev_ddr (ev_var rfl) dd6.r) (isTup_encS _) (dep_encS _))) (hK_in hs own)) fun _ => et_test (ev_cmpI (K := K) (ev_mod (ev_int1 (ev_var rfl)) ev_int (by decide)) ev_int)) s6 (fun σ' H' => ∃ hs' : Hts, SOk [none, none, none, some (aV (.ref c)), some (aD K (.num sd)), some (aV (.ref fd)), none, some (aD K (encS own)), none] σ' H' ∧ Ex H H' ∧ DDw P w K H' fd (hK hs') ∧ Hin ss hs') (fun hb kk H7 e7 s7 => ?_) (fun hb kk H7 e7 s7 => kk _ _ ⟨hs, s7, e06.trans e7, dd6.ex e7, hin⟩) ?_
    · obtain ⟨n1, hn1⟩ := hget_some (hs := hs) (s := own) (of_decide_eq_true (Bool.and_eq_true_iff.mp hb).1)
      refine st_setDD (K := K) (A := aD K (.num (n1 + (sd / 5000) % 4 - 1))) (ev_sub (ev_add (ev_to (ev_getDD (ev_ddr (ev_var rfl) (dd6.ex e7).r) (ev_var rfl) (isTup_encS _) (dep_encS _) hn1) fun _ _ z => num_of z) (ev_mod (ev_int1 (ev_fdiv (ev_var rfl) ev_int ⟨by decide, by decide⟩)) ev_int (by decide))) ev_int) (ev_var rfl) (ev_var rfl) s7 (dd6.ex e7) (isTup_encS _) (dep_encS _) (by rw [hK_len]; omega) (fun v H9 H10 e9 pv dd9 f10 s10 dd10 => ?_) (by walk_at "gs")
      have ev := DIs.num_inv pv
      subst ev
      rw [putK_hK] at dd10
      exact kk _ _ ⟨hput hs own _, s10, f10.ofNew ((e06.trans e7).trans e9) fun b hb => by rw [List.mem_singleton.mp hb]; exact nfd, dd10, hin.put hown _⟩
    · rintro σ8 H8 ⟨hs', s8, e8, dd8, hin'⟩
      refine st_ret (A := aBent P w K p) (ev_X ⟨hs', hin'.ok hex⟩ (ev_ofV (A := aDW P w K (hK hs')) (ev_var rfl) ⟨fd, rfl, dd8⟩)) s8 fun v H9 e9 p9 => ?_
      exact q v H9 (e8.trans e9) p9
theorem insC_program {K : PySem.W.Frag} {mg : Str → Option Value} {ad : Ads} (fx : Fx K mg ad) : C8.InsC K ad.program := ⟨fx.c_program, fx.t_program.at_, fx.t_program.get, fx.t_program.tak, fx.t_program.mro, fx.t_program.kit⟩
def spf_check_program (K : PySem.W.Frag) (ad : Ads) : Spf Pln := ⟨fun p => [aPrg K ad p], fun _ => True, fun _ => aV .non⟩
abbrev sc_check_program_N : List Str := ["program"]
theorem sc_check_program : FnScope ["program"] ["program"] (defScope (topS 16)) := ⟨rfl, rfl, rfl, by decide +kernel, rfl, by decide +kernel, by decide +kernel⟩
theorem ok_check_program {P : Program} {w : World} {K : PySem.W.Frag} {mg : Str → Option Value} {base : Heap} {ad : Ads} (fx : Fx K mg ad) : Ok P w K mg base CX0 1 "check_program" ["program"] ((spf_check_program K ad).sp) := by
  refine fx.d_check_program.ok sc_check_program (fun _ _ _ _ _ _ us hl => match us, hl with | [_], _ => rfl) (Spf.len fun _ => rfl) fun f cdv A outer s H vs Q E hr hcd h => ?_
  refine ⟨_, PSs.nox (pss_one (ps_if (pt_not (pt_val (pe_callB (C8.call_isC (insC_program fx)) (by rfl) fx.isinstance_ (by decide +kernel) (pa_cons (pv 0) (pa_cons (pe_glob (v := .ref ad.program) rfl fx.g_Program rfl) pa_nil))))) (pss_one ps_never) pss_nil)), ?_⟩
  obtain ⟨p, _, hAll, q⟩ := h
  have s0 : SOk _ _ H := SOk.entry (N := sc_check_program_N) (As := [aPrg K ad p]) hAll
  refine st_if (b := false) (et_not (b := true) ?_) s0 (fun z => by cases z) fun _ H1 e1 s1 => q .non H1 e1 rfl
  refine et_B (ev_cb (As := [aPrg K ad p, aV (.ref ad.program)]) (ea_cons (ev_var rfl) (ea_one ev_cV)) fun H1 ex xs hxs Q' q' => ?_)
  obtain ⟨x, y, rfl, ⟨a, dx, rv, rfl, ha, _⟩, hy⟩ := aall2 hxs
  have ey : y = .ref ad.program := hy
  subst ey
  exact ⟨a, dx, _, rfl, ha, q' _ H1 (Evl.Ex.refl H1) rfl⟩
def spf_check_limit (K : PySem.W.Frag) : Spf Int := ⟨fun n => [aD K (.num n)], fun n => 0 ≤ n, fun _ => aV .non⟩
abbrev sc_check_limit_N : List Str := ["limit"]
theorem sc_check_limit : FnScope ["limit"] ["limit"] (defScope (topS 42)) := ⟨rfl, rfl, rfl, by decide +kernel, rfl, by decide +kernel, by decide +kernel⟩
theorem ok_check_limit {P : Program} {w : World} {K : PySem.W.Frag} {mg : Str → Option Value} {base : Heap} {ad : Ads} (fx : Fx K mg ad) : Ok P w K mg base CX0 2 "check_limit" ["limit"] ((spf_check_limit K).sp) := by
  refine fx.d_check_limit.ok sc_check_limit (fun _ _ _ _ _ _ us hl => match us, hl with | [_], _ => rfl) (Spf.len fun _ => rfl) fun f cdv A outer s H vs Q E hr hcd h => ?_
  refine ⟨_, PSs.nox (pss_one (ps_if (PW.pt (pw_or (pt_not (pt_val (pe_callD (ok_is_integer (P := P) (w := w) (base := base) fx) (hr.mono (by decide)) (by rfl) (pa_cons (pv 0) pa_nil)))) (pw_or1 (pt_cmpR op_lt (pv 0) pe_int (nomark _))))) (pss_one (ps_never)) (pss_nil))), ?_⟩
  obtain ⟨n, hn, hAll, q⟩ := h
  have hn : 0 ≤ n := hn
  have s0 : SOk _ _ H := SOk.entry (N := sc_check_limit_N) (As := [aD K (.num n)]) hAll
  refine st_if (b := false) (et_is (et_or (c := false) (et_not (et_B (ev_call (f := spf_is_integer K) (.num n) (ea_one (ev_var rfl)) trivial))) fun _ => et_is (et_test (ev_cmpI (K := K) (ev_var rfl) ev_int)) (decide_eq_false (by omega))) rfl) s0 (fun z => by cases z) fun _ H1 e1 s1 => q .non H1 e1 rfl
/-- a value that fits its sign -/
def FitOk (wd c n : Nat) : Str → Nat ⊕ Nat → Prop
  | sg, .inl a => sg = "r" ∧ a < c ∧ c ≤ 3
  | sg, .inr k => (sg = "n" ∧ 1 ≤ k ∧ k ≤ wd) ∨ (sg = "i" ∧ k ≤ wd) ∨ (sg = "p" ∧ k ≤ n)
def spf_fits (K : PySem.W.Frag) : Spf (Str × (Nat ⊕ Nat) × Nat × Nat × Nat) := ⟨fun x => [aD K (.text x.1), aD K (encA x.2.1), aD K (natD x.2.2.1), aD K (natD x.2.2.2.1), aD K (natD x.2.2.2.2)], fun x => FitOk x.2.2.1 x.2.2.2.1 x.2.2.2.2 x.1 x.2.1, fun _ => aB true⟩
theorem names_cut {a c : Nat} (h : a < c) (hc : c ≤ 3) : decide (nmD a ∈ cutD abcD none (some (c : Int))) = true := by
  have h1 : c = 1 ∨ c = 2 ∨ c = 3 := by omega
  have h2 : a = 0 ∨ a = 1 ∨ a = 2 := by omega
  rcases h1 with rfl | rfl | rfl <;> rcases h2 with rfl | rfl | rfl <;> first | omega | decide +kernel
theorem names_flat {c : Nat} (hc : c ≤ 3) : (cutD abcD none (some (c : Int))).all flatD = true := by
  have h1 : c = 0 ∨ c = 1 ∨ c = 2 ∨ c = 3 := by omega
  rcases h1 with rfl | rfl | rfl | rfl <;> decide +kernel
abbrev sc_fits_N : List Str := ["sign", "value", "width", "many", "total"]
theorem sc_fits : FnScope ["sign", "value", "width", "many", "total"] ["sign", "value", "width", "many", "total"] (defScope (topS 13)) := ⟨rfl, rfl, rfl, by decide +kernel, rfl, by decide +kernel, by decide +kernel⟩
theorem ok_fits {P : Program} {w : World} {K : PySem.W.Frag} {mg : Str → Option Value} {base : Heap} {ad : Ads} (fx : Fx K mg ad) : Ok P w K mg base CX0 2 "fits" ["sign", "value", "width", "many", "total"] ((spf_fits K).sp) := by
  refine fx.d_fits.ok sc_fits (fun _ _ _ _ _ _ us hl => match us, hl with | [_, _, _, _, _], _ => rfl) (Spf.len fun _ => rfl) fun f cdv A outer s H vs Q E hr hcd h => ?_
  refine ⟨_, PSs.nox (pss_cons (ps_if (pt_cmpR (xEq K hr.units) (pv 0) pe_str (nomark _)) (pss_one (ps_ret (pe_and (pe_callB (xIsi K) (by rfl) fx.isinstance_ (by decide +kernel) (pa_cons (pv 1) (pa_cons (pe_bltn (v := .ty "str") (u := .type "str") (by rfl) fx.str_ (by decide +kernel) (by rfl)) pa_nil))) (pe_one (pe_cmpR (xIn P w K hr.units) (pv 1) (pe_slice (xSl K) (pe_glob (v := .ref ad.names) (by rfl) fx.NAMES.1 (by rfl)) po_none (po_some (pv 3))) (by rfl)))))) (pss_nil)) (pss_cons (ps_if (pt_not (pt_val (pe_callD (ok_is_integer (P := P) (w := w) (base := base) fx) (hr.mono (by decide)) (by rfl) (pa_cons (pv 1) pa_nil)))) (pss_one (ps_ret pe_bl)) (pss_nil)) (pss_one (ps_ret (pe_ifExp (pt_cmpR (xEq K hr.units) (pv 0) pe_str (nomark _)) (pe_chain op_le op_le pe_int (pv 1) (pv 2)) (pe_chain op_le op_le pe_int (pv 1) (pe_ifExp (pt_cmpR (xEq K hr.units) (pv 0) pe_str (nomark _)) (pv 4) (pv 2)))))))), ?_⟩
  refine Spf.run h fun x hp => ?_
  obtain ⟨sg, v, wd, c, n⟩ := x
  have hp : FitOk wd c n sg v := hp
  cases v with
  | inl a =>
    obtain ⟨rfl, h1, h2⟩ := hp
    refine sr_ifT (et_test (ev_eqS (ev_var rfl) ev_str)) rfl (sr_retS ?_)
    exact ev_isB (ev_andV (c := true) (ev_isi (ev_var rfl) (kit_str (nmD a))) fun _ => ev_isB (ev_inT (ev_var rfl) (ev_slT (ev_names fx.NAMES.2) eo_none (eo_some (K := K) (ev_var rfl))) rfl (names_flat h2)) (names_cut h1 h2)) rfl
  | inr k =>
    have hs : decide (sg = "r") = false := by
      rcases hp with ⟨rfl, _⟩ | ⟨rfl, _⟩ | ⟨rfl, _⟩ <;> rfl
    refine sr_ifF (et_test (ev_eqS (ev_var rfl) ev_str)) hs (sr_next ?_)
    refine sr_ifF (et_not (et_B (ev_call (f := spf_is_integer K) (.num (k : Int)) (ea_one (ev_var rfl)) trivial))) rfl (sr_next (sr_ret ?_))
    rcases hp with ⟨rfl, h1, h2⟩ | ⟨rfl, h1⟩ | ⟨rfl, h1⟩
    · exact ev_ifT (et_test (ev_eqS (ev_var rfl) ev_str)) rfl (ev_isB (ev_chain (K := K) (ev_int) (ev_var rfl) (ev_var rfl)) (by
        simp only [Bool.and_eq_true, decide_eq_true_eq]; omega))
    · exact ev_ifF (et_test (ev_eqS (ev_var rfl) ev_str)) rfl (ev_isB (ev_chain (K := K) (ev_int) (ev_var rfl) (ev_ifF (et_test (ev_eqS (ev_var rfl) ev_str)) rfl (ev_var rfl))) (by
        simp only [Bool.and_eq_true, decide_eq_true_eq]; omega))
    · exact ev_ifF (et_test (ev_eqS (ev_var rfl) ev_str)) rfl (ev_isB (ev_chain (K := K) (ev_int) (ev_var rfl) (ev_ifT (et_test (ev_eqS (ev_var rfl) ev_str)) rfl (ev_var rfl))) (by
        simp only [Bool.and_eq_true, decide_eq_true_eq]; omega))
/-- a class with its own __init__ -/
def MadeBy (K : PySem.W.Frag) (C : Addr) (qual : Str) (i : Nat) : Prop := ∃ f fd, Mk K C f ∧ MethD K "__init__" qual i 0 f fd
/-- a method of a class's instances, def j of the class at i -/
def HasM (K : PySem.W.Frag) (C : Addr) (m qual : Str) (i j : Nat) : Prop := ∃ f fd, Meth K C m f ∧ MethD K m qual i j f fd
structure Fy (w : World) (K : PySem.W.Frag) (mg : Str → Option Value) (ad : Ads) : Prop where
  shapes : mg "SHAPES" = some (.ref ad.shapes)
  dict : ∃ es n, KDict K w ad.shapes es n
  vals : ∀ p ∈ shapeL, ∃ t, PySem.W.nsIn K ad.shapes p.1 = some (some (.str p.2 t))
  m_program : MadeBy K ad.program "Program.__init__" 15
  g_way : mg "Way" = some (.ref ad.way)
  g_atMost : mg "AtMost" = some (.ref ad.atMost)
  g_noBound : mg "NoBound" = some (.ref ad.noBound)
  g_over : mg "Over" = some (.ref ad.over)
  m_way : MadeBy K ad.way "Way.__init__" 36
  m_atMost : MadeBy K ad.atMost "AtMost.__init__" 39
  m_noBound : MadeBy K ad.noBound "NoBound.__init__" 40
  m_over : MadeBy K ad.over "Over.__init__" 41
  c_way : Cls K ad.way
  c_atMost : Cls K ad.atMost
  c_noBound : Cls K ad.noBound
  c_over : Cls K ad.over
  n_way : NoAttr K ad.way "path"
  n_atMost : NoAttr K ad.atMost "path" ∧ NoAttr K ad.atMost "number" ∧ NoAttr K ad.atMost "heights"
  n_noBound : NoAttr K ad.noBound "path" ∧ NoAttr K ad.noBound "ring"
  n_over : NoAttr K ad.over "path"
  i_way : ∃ f fd, InitOf K ad.way (.ref f) ∧ MethD K "__init__" "Way.__init__" 36 0 f fd
  e_way : HasM K ad.way "end" "Way.end" 36 1
  s_atMost : HasM K ad.atMost "shows" "AtMost.shows" 39 2
  s_noBound : HasM K ad.noBound "shows" "NoBound.shows" 40 2
  s_over : HasM K ad.over "shows" "Over.shows" 41 2
section
variable {X : Cx} {P : Program} {w : World} {K : PySem.W.Frag} {mg : Str → Option Value} {ad : Ads} {G : Gam} {H : Hp} {ta tb te : TE}
/-- word in SHAPES -/
def rNotInS (K : PySem.W.Frag) (d : Addr) : R2 := fun x y H Q => ∃ (z : Str) (r : Option Value), x = .str z ∧ y = .ref d ∧ PySem.W.nsIn K d z = some r ∧ Q (.bl (!r.isSome)) H
theorem op_notInS (fy : Fy X.w X.K X.mg ad) : OpR X (compareOp .NotIn) (rNotInS X.K ad.shapes) := by
  obtain ⟨es, n, D⟩ := fy.dict
  exact op_notIn_kd D
def rShape (K : PySem.W.Frag) (d : Addr) : R2 := fun x y H Q => ∃ (z : Str) (u0 : Value) (v0 : V), x = .ref d ∧ y = .str z ∧ PySem.W.nsIn K d z = some (some u0) ∧ RelV v0 u0 ∧ Q v0 H
theorem ix_shape (fy : Fy X.w X.K X.mg ad) : IxR X (rShape X.K ad.shapes) := by
  obtain ⟨es, n, D⟩ := fy.dict
  intro value slice pins s σ H x y v u Q I rx ry h hs
  have h' := h
  obtain ⟨z, u0, v0, rfl, rfl, e, r, q⟩ := h
  have hd : v = Value.ref ad.shapes := by cases rx; rfl
  subst hd
  exact tail_any (kd_type D I) F.slot_dict_getitem.lookup (op_item_kd D pins s σ H _ _ _ _ Q I rx ry h') hs
def shapeT : Stp → Str
  | .read _ _ => "rn" | .cut _ _ _ _ => "rrii" | .tight _ _ => "rr" | .join _ _ _ => "rrr" | .move _ _ => "rr" | .drop _ => "r" | .keep _ => "r" | .pack _ => "r" | .clear => "" | .tell _ => "r" | .ask _ => "p" | .void _ _ => "rp" | .jump _ => "p"
def shapeIx : Stp → Nat
  | .read _ _ => 0 | .cut _ _ _ _ => 1 | .tight _ _ => 2 | .join _ _ _ => 3 | .move _ _ => 4 | .drop _ => 5 | .keep _ => 6 | .pack _ => 7 | .clear => 8 | .tell _ => 9 | .ask _ => 10 | .void _ _ => 11 | .jump _ => 12
theorem shape_in (t : Stp) : (wordT t, shapeT t) ∈ shapeL := by
  refine List.mem_of_getElem? (i := shapeIx t) ?_
  cases t <;> rfl
theorem et_notInS (fy : Fy w K mg ad) {t : Stp} (ha : EvG ta G H (aD K (.text (wordT t)))) : EvT (tTest (tOp (rNotInS K ad.shapes) ta (tC (.ref ad.shapes)))) G H false := et_test (ev_op ha ev_cV fun H1 ex x y hx hy Q q => by
  obtain ⟨t0, h⟩ := fy.vals _ (shape_in t)
  exact ⟨wordT t, _, DIs.text_inv hx, hy, h, q _ H1 (Evl.Ex.refl H1) rfl⟩)
theorem ev_shape (fy : Fy w K mg ad) {t : Stp} (ha : EvG ta G H (aD K (.text (wordT t)))) : EvG (tOp (rShape K ad.shapes) (tC (.ref ad.shapes)) ta) G H (aD K (.text (shapeT t))) := ev_op ev_cV ha fun H1 ex x y hx hy Q q => by
  obtain ⟨t0, h⟩ := fy.vals _ (shape_in t)
  exact ⟨wordT t, _, .str (shapeT t), hx, DIs.text_inv hy, h, ⟨t0, rfl⟩, q _ H1 (Evl.Ex.refl H1) (.str _)⟩
theorem shape_len (t : Stp) : (shapeT t).cps.size = (argsT t).length := by cases t <;> rfl
end
def pairsT : Stp → List (Str × (Nat ⊕ Nat))
  | .read a n => [("r", .inl a), ("n", .inr n)] | .cut a b i j => [("r", .inl a), ("r", .inl b), ("i", .inr i), ("i", .inr j)] | .tight a b => [("r", .inl a), ("r", .inl b)] | .join a b c => [("r", .inl a), ("r", .inl b), ("r", .inl c)] | .move a b => [("r", .inl a), ("r", .inl b)] | .drop a => [("r", .inl a)] | .keep a => [("r", .inl a)] | .pack a => [("r", .inl a)] | .clear => [] | .tell a => [("r", .inl a)] | .ask p => [("p", .inr p)] | .void a p => [("r", .inl a), ("p", .inr p)] | .jump p => [("p", .inr p)]
def encQ (q : Str × (Nat ⊕ Nat)) : D := .tup [.text q.1, encA q.2]
theorem zip_pairs (t : Stp) : zipD (shapeT t) ((argsT t).map encA) = (pairsT t).map encQ := by cases t <;> rfl
theorem pairs_few (t : Stp) : (pairsT t).length ≤ 4 := by cases t <;> simp [pairsT]
theorem fitR {wd c n a : Nat} (h : a < c) (hc : c ≤ 3) : FitOk wd c n "r" (.inl a) := ⟨rfl, h, hc⟩
theorem fitN {wd c n k : Nat} (h : 1 ≤ k) (hk : k ≤ wd) : FitOk wd c n "n" (.inr k) := .inl ⟨rfl, h, hk⟩
theorem fitI {wd c n k : Nat} (h : k ≤ wd) : FitOk wd c n "i" (.inr k) := .inr (.inl ⟨rfl, h⟩)
theorem fitP {wd c n k : Nat} (h : k ≤ n) : FitOk wd c n "p" (.inr k) := .inr (.inr ⟨rfl, h⟩)
theorem pairs_ok {t : Stp} {wd c n : Nat} (h : t.Ok wd c n) (hc : c ≤ 3) : ∀ q ∈ pairsT t, FitOk wd c n q.1 q.2 := by
  have two : ∀ {x y : Str × (Nat ⊕ Nat)}, FitOk wd c n x.1 x.2 → FitOk wd c n y.1 y.2 → ∀ q ∈ [x, y], FitOk wd c n q.1 q.2 := fun {x y} h1 h2 q hq => by
    rcases List.mem_cons.mp hq with rfl | hq
    · exact h1
    · rw [List.mem_singleton.mp hq]; exact h2
  have one : ∀ {x : Str × (Nat ⊕ Nat)}, FitOk wd c n x.1 x.2 → ∀ q ∈ [x], FitOk wd c n q.1 q.2 := fun {x} h1 q hq => by rw [List.mem_singleton.mp hq]; exact h1
  cases t with
  | read a k => exact two (fitR h.1 hc) (fitN h.2.1 h.2.2)
  | cut a b i j =>
    obtain ⟨h1, h2, h3, h4⟩ := h
    intro q hq
    rcases List.mem_cons.mp hq with rfl | hq
    · exact fitR h1 hc
    rcases List.mem_cons.mp hq with rfl | hq
    · exact fitR h2 hc
    exact two (x := ("i", .inr i)) (y := ("i", .inr j)) (fitI (Nat.le_trans h3 h4)) (fitI h4) q hq
  | tight a b => exact two (fitR h.1 hc) (fitR h.2 hc)
  | join a b d =>
    intro q hq
    rcases List.mem_cons.mp hq with rfl | hq
    · exact fitR h.1 hc
    exact two (x := ("r", .inl b)) (y := ("r", .inl d)) (fitR h.2.1 hc) (fitR h.2.2 hc) q hq
  | move a b => exact two (fitR h.1 hc) (fitR h.2 hc)
  | drop a => exact one (fitR h hc)
  | keep a => exact one (fitR h hc)
  | pack a => exact one (fitR h hc)
  | clear => exact fun q hq => by cases hq
  | tell a => exact one (fitR h hc)
  | ask p => exact one (fitP h)
  | void a p => exact two (fitR h.1 hc) (fitP h.2)
  | jump p => exact one (fitP h)
theorem lay_args {t : Stp} {wd c n : Nat} (h : t.Ok wd c n) (hc : c ≤ 3) : ∀ x ∈ NestedKey.text (wordT t) :: (argsT t).map encA, Lay 7 x := fun x hx => by
  rcases List.mem_cons.mp hx with rfl | hx
  · have all : ∀ p ∈ shapeL, PyData.strOk p.1 = true := by decide +kernel
    exact Lay.text (all _ (shape_in t))
  · obtain ⟨y, hy, rfl⟩ := List.mem_map.mp hx
    cases y with
    | inl a =>
      have : a < c := by
        cases t <;> simp only [argsT, List.mem_cons, List.not_mem_nil, or_false, Sum.inl.injEq, reduceCtorEq, Stp.Ok] at hy h <;> omega
      exact lay_nm (by omega)
    | inr k => exact Lay.num
def spf_is_step (K : PySem.W.Frag) : Spf (Stp × Nat × Nat × Nat) := ⟨fun x => [aD K (encT x.1), aD K (natD x.2.1), aD K (natD x.2.2.1), aD K (natD x.2.2.2)], fun x => x.1.Ok x.2.1 x.2.2.1 x.2.2.2 ∧ x.2.2.1 ≤ 3, fun _ => aB true⟩
abbrev sc_is_step_N : List Str := ["step", "width", "many", "total", "shape", "sign", "value"]
theorem sc_is_step : FnScope ["step", "width", "many", "total", "shape", "sign", "value"] ["step", "width", "many", "total"] (defScope (topS 14)) := ⟨rfl, rfl, rfl, by decide +kernel, rfl, by decide +kernel, by decide +kernel⟩
theorem ok_is_step {P : Program} {w : World} {K : PySem.W.Frag} {mg : Str → Option Value} {base : Heap} {ad : Ads} (fx : Fx K mg ad) (fy : Fy w K mg ad) : Ok P w K mg base CX0 3 "is_step" ["step", "width", "many", "total"] ((spf_is_step K).sp) := by
  refine fx.d_is_step.ok sc_is_step (fun _ _ _ _ _ _ us hl => match us, hl with | [_, _, _, _], _ => rfl) (Spf.len fun _ => rfl) fun f cdv A outer s H vs Q E hr hcd h => ?_
  refine ⟨_, PSs.nox (pss_cons (ps_if (PW.pt (pw_or (pt_not (pt_val (pe_callB (xIsi K) (by rfl) fx.isinstance_ (by decide +kernel) (pa_cons (pv 0) (pa_cons (pe_bltn (v := .ty "tuple") (u := .type "tuple") (by rfl) fx.tuple_ (by decide +kernel) (by rfl)) pa_nil))))) (pw_or (pt_cmpR (xEq K hr.units) (pv 0) (pe_tup (pa_nil)) (nomark _)) (pw_or (pt_not (pt_val (pe_callB (xIsi K) (by rfl) fx.isinstance_ (by decide +kernel) (pa_cons (pe_ix (xIx P w K hr.units) (pv 0) pe_int (fun _ _ => rfl)) (pa_cons (pe_bltn (v := .ty "str") (u := .type "str") (by rfl) fx.str_ (by decide +kernel) (by rfl)) pa_nil))))) (pw_or1 (pt_cmpR (op_notInS fy) (pe_ix (xIx P w K hr.units) (pv 0) pe_int (fun _ _ => rfl)) (pe_glob (v := .ref ad.shapes) (by rfl) fy.shapes (by rfl)) (by rfl))))))) (pss_one (ps_ret pe_bl)) (pss_nil)) (pss_cons (ps_set (i := 4) sc_is_step.nd rfl (by first | exact .inl rfl | exact .inr rfl) (pe_ix (ix_shape fy) (pe_glob (v := .ref ad.shapes) (by rfl) fy.shapes (by rfl)) (pe_ix (xIx P w K hr.units) (pv 0) pe_int (fun _ _ => rfl)) (fun _ _ => rfl))) (pss_cons (ps_if (pt_cmpR (xNe K hr.units) (pe_callB (xLen P w K) (by rfl) fx.len_ (by decide +kernel) (pa_cons (pv 0) pa_nil)) (pe_op (xAdd K) (pe_callB (xLen P w K) (by rfl) fx.len_ (by decide +kernel) (pa_cons (pv 4) pa_nil)) pe_int) (nomark _)) (pss_one (ps_ret pe_bl)) (pss_nil)) (pss_cons (ps_if (pt_not (pt_val (pe_callB (xAll K rfl) (by rfl) fx.all_ (by decide +kernel) (pa_cons (pe_lc (own := [("sign", 5), ("value", 6)]) rfl sc_is_step.nd (xZip K (by rfl) fx.zip_ (pa_cons (pv 4) (pa_cons (pe_slice (xSl K) (pv 0) (po_some pe_int) po_none) pa_nil))) (blkOk_by (own := [("sign", 5), ("value", 6)]) (N := ["step", "width", "many", "total", "shape", "sign", "value"]) (sc := defScope (topS 14)) (by decide +kernel)) (fun _ _ _ _ _ => (xTg K (n := 2) rfl (pgs_cons (pg_name (i := 5) sc_is_step.nd rfl (by first | exact .inl rfl | exact .inr rfl)) (pgs_cons (pg_name (i := 6) sc_is_step.nd rfl (by first | exact .inl rfl | exact .inr rfl)) pgs_nil)))) (fun _ _ _ _ _ => pts_nil) (fun _ _ _ _ _ => pe_callD (ok_fits (P := P) (w := w) (base := base) fx) (hr.mono (by decide)) (by rfl) (pa_cons (pv 5) (pa_cons (pv 6) (pa_cons (pv 1) (pa_cons (pv 2) (pa_cons (pv 3) pa_nil))))))) pa_nil)))) (pss_one (ps_ret pe_bl)) (pss_nil)) (pss_one (ps_ret (pe_or (pe_cmpR (xNe K hr.units) (pe_ix (xIx P w K hr.units) (pv 0) pe_int (fun _ _ => rfl)) pe_str (nomark _)) (pe_one (pe_cmpR op_le (pe_ix (xIx P w K hr.units) (pv 0) pe_int (fun _ _ => rfl)) (pe_ix (xIx P w K hr.units) (pv 0) pe_int (fun _ _ => rfl)) (nomark _)))))))))), ?_⟩
  refine Spf.run h fun x hp => ?_
  obtain ⟨t, wd, c, n⟩ := x
  obtain ⟨hok, hc⟩ := hp
  have hok : t.Ok wd c n := hok
  have hc : c ≤ 3 := hc
  have hS : EvG (tVar 0) (entry sc_is_step_N ((spf_is_step K).As (t, wd, c, n))) H (aD K (.tup (.text (wordT t) :: (argsT t).map encA))) := ev_is (ev_var (A := aD K (encT t)) rfl) (encT_eq t)
  have h0 : EvG (tOp (rIxU P w K) (tVar 0) (tC (.int 0))) (entry sc_is_step_N ((spf_is_step K).As (t, wd, c, n))) H (aD K (.text (wordT t))) := ev_ixT hS ev_int (atD (n := 0) rfl)
  have hlay : ∀ x ∈ NestedKey.text (wordT t) :: (argsT t).map encA, Lay 7 x := lay_args hok hc
  refine sr_ifF (et_or (b := false) (c := false) (et_not (et_B (ev_isB (ev_isi hS (T := "tuple") (b := true) rfl) rfl))) fun _ => et_or (b := false) (c := false) (et_is (et_test (ev_eqT0 hS hlay)) rfl) fun _ => et_or (b := false) (c := false) (et_not (et_B (ev_isi h0 (kit_str _)))) fun _ => et_notInS fy h0) rfl (sr_next ?_)
  refine sr_set (B := aD K (.text (shapeT t))) (ev_shape fy h0) ?_
  have hS2 : EvG (tVar 0) ((entry sc_is_step_N ((spf_is_step K).As (t, wd, c, n))).set 4 (some (aD K (.text (shapeT t))))) H (aD K (.tup (.text (wordT t) :: (argsT t).map encA))) := ev_is (ev_var (A := aD K (encT t)) rfl) (encT_eq t)
  refine sr_ifF (et_test (ev_neI (ev_lenT hS2) (ev_add (ev_lenS (ev_var rfl) ?_) ev_int))) ?_ (sr_next ?_)
  · have h4 : (shapeT t).length ≤ 4 := by cases t <;> exact Nat.le_of_ble_eq_true rfl
    exact Nat.le_trans h4 (by decide)
  · have e : (shapeT t).length = (argsT t).length := shape_len t
    rw [e, List.length_cons, List.length_map]
    simp
  refine sr_ifF (et_not (b := true) (et_B (ev_isB (ev_all (eb_map (K := K) (pairsT t) encQ _ (fun _ => true) (ei_zipX (ev_var rfl) (ev_is (ev_slT hS2 (eo_some (K := K) ev_int) eo_none) (by rw [cut_tail])) (by rw [List.length_map]; exact shape_len t)) (zip_pairs t) (by have := pairs_few t; omega) (fun q _ => tg_tup (tgs_cons tg_name (tgs_cons tg_name tgs_nil)) rfl) fun q hq => ev_call (f := spf_fits K) (q.1, q.2, wd, c, n) (ea_cons (ev_var rfl) (ea_cons (ev_var rfl) (ea_cons (ev_var rfl) (ea_cons (ev_var rfl) (ea_one (ev_var rfl)))))) (pairs_ok hok hc q hq))) (by simp)))) rfl (sr_next (sr_ret ?_))
  have h02 : EvG (tOp (rIxU P w K) (tVar 0) (tC (.int 0))) ((entry sc_is_step_N ((spf_is_step K).As (t, wd, c, n))).set 4 (some (aD K (.text (shapeT t))))) H (aD K (.text (wordT t))) := ev_ixT hS2 ev_int (atD (n := 0) rfl)
  refine ev_isB (b := !decide (wordT t = "cut") || true) (ev_orV (c := true) (ev_neS h02 ev_str) fun hb => ?_) (by simp)
  cases t with
  | cut a b i j =>
    obtain ⟨_, _, o3, _⟩ := hok
    exact ev_isB (ev_cmpI (K := K) (ev_ixT hS2 ev_int (atD (n := 3) rfl)) (ev_ixT hS2 ev_int (atD (n := 4) rfl))) (decide_eq_true (Int.ofNat_le.mpr o3))
  | _ => exact absurd (hb.symm.trans (rfl : _ = true)) (by decide)
/-- self.path = path, whatever the instance's class -/
def sp_wayInit (K : PySem.W.Frag) : Sp := fun vs H Q _ => ∃ (a C dx : Addr) (fs : List (Str × V)) (v : V), vs = [.ref a, v] ∧ H a = some (.ins C dx fs) ∧ Cls K C ∧ NoAttr K C "path" ∧ fs.length < 1000 ∧ Q .non (upd H a (.ins C dx (putF "path" v fs)))
abbrev sc_Way___init___N : List Str := ["self", "path"]
theorem sc_Way___init__ : FnScope ["self", "path"] ["self", "path"] (defScope (methS 36 0)) := ⟨rfl, rfl, rfl, by decide +kernel, rfl, by decide +kernel, by decide +kernel⟩
theorem ok_Way___init__ {P : Program} {w : World} {K : PySem.W.Frag} {mg : Str → Option Value} {base : Heap} {ad : Ads} {f : Addr} {fd : FuncData} (fx : Fx K mg ad) (F : MethD K "__init__" "Way.__init__" 36 0 f fd) : FnOk P w K mg base CX0 1 f fd ["self", "path"] (sp_wayInit K) := by
  refine F.ok sc_Way___init__ (fun vs H Q E q => by obtain ⟨_, _, _, _, _, rfl, _⟩ := q; rfl) fun cdv A outer s H vs Q E hr h => ?_
  refine ⟨_, PSs.nox (pss_one (ps_fld (pv 0) (pv 1) rfl)), ?_⟩
  obtain ⟨a, C, dx, fs, v, rfl, ha, hc, hn, hl, q⟩ := h
  exact ⟨v, rfl, .ref a, rfl, a, C, dx, fs, rfl, ha, hc, hn, hl, q⟩
section
variable {X : Cx} {e : Expr} {es : List Expr} {ta : TA} {p1 p2 p pos : Pos} {ad : Ads}
theorem pe_wayInit {pl : Sem Bool} (fx : Fx X.K X.mg ad) (fy : Fy X.w X.K X.mg ad) (hr : Room 1 X.A) (hg : Gl X "Way") (ha : PA X (e :: es) ta)
    (hc : eval (.Call (.Attribute (.Name "Way" p1) "__init__" p2) (e :: es) [] pos) X.env = (do
      let ov ← eval (.Name "Way" p1) X.env
      standAt p2.atName
      let (f, first) ← holding [ov] (getMethod ov "__init__" pl)
      callWith pos f first (backTo pos (starEach (e :: es) X.env)) (backToKw pos (keywordEach [] X.env))) := by rfl)
    (he : starEach (e :: es) X.env = (false, eval e X.env) :: starEach es X.env := by rfl) (hpl : (backTo pos (starEach es X.env)).any (·.1) = false := by rfl) :
    PE X (.Call (.Attribute (.Name "Way" p1) "__init__" p2) (e :: es) [] pos) (tCall (sp_wayInit X.K) [] E0 ta) := by
  refine ⟨fun pins s σ H Q I h => ?_⟩
  obtain ⟨f, fd, ⟨mc, r1, r2, r3⟩, F⟩ := fy.i_way
  have b := F.bindsN (ps := ["self", "path"]) fun _ _ _ _ _ _ us hl => match us, hl with | [_, _], _ => rfl
  refine PySem.W.methodCall_KW (ld_glob I hg fy.g_way ?_) hc
  refine PySem.W.method_cls I.kIn r2 (PySem.W.cls_value I.kIn r1 r3 rfl ?_)
  show wpAny _ _ (callWith pos (Value.ref f) [] (backTo pos (starEach (e :: es) X.env)) []) _ _ _
  refine PySem.W.callWith_K (h₀ := X.base) I.ok.mod.kin F.kp (thn (ha.run pos pins _ σ H _ (I.tok _) h) fun us s1 ⟨vs, H1, I1, r, q⟩ => ⟨I1.kIn, ?_⟩) he hpl
  exact run_fn (ok_Way___init__ fx F) hr b .nil (fun _ _ _ _ _ _ _ z => z.elim) I1 r q
end
def sp_overInit (ad : Ads) : Sp := fun vs H Q _ => ∃ (a dx : Addr) (v : V), vs = [.ref a, v] ∧ H a = some (.ins ad.over dx []) ∧ Q .non (upd H a (.ins ad.over dx [("path", v)]))
abbrev sc_Over___init___N : List Str := ["self", "path"]
theorem sc_Over___init__ : FnScope ["self", "path"] ["self", "path"] (defScope (methS 41 0)) := ⟨rfl, rfl, rfl, by decide +kernel, rfl, by decide +kernel, by decide +kernel⟩
theorem ok_Over___init__ {P : Program} {w : World} {K : PySem.W.Frag} {mg : Str → Option Value} {base : Heap} {ad : Ads} {f : Addr} {fd : FuncData} (fx : Fx K mg ad) (fy : Fy w K mg ad) (F : MethD K "__init__" "Over.__init__" 41 0 f fd) : FnOk P w K mg base CX0 2 f fd ["self", "path"] (sp_overInit ad) := by
  refine F.ok sc_Over___init__ (fun vs H Q E q => by obtain ⟨_, _, _, rfl, _⟩ := q; rfl) fun cdv A outer s H vs Q E hr h => ?_
  refine ⟨_, PSs.nox (pss_one (ps_expr (pe_wayInit fx fy (hr.mono (by decide)) (by rfl) (pa_cons (pv 0) (pa_cons (pv 1) pa_nil))))), ?_⟩
  obtain ⟨a, dx, v, rfl, ha, q⟩ := h
  exact ⟨.ref a, rfl, v, rfl, a, ad.over, dx, [], v, rfl, ha, fy.c_over, fy.n_over, by decide, q⟩
def sp_nbInit (ad : Ads) : Sp := fun vs H Q _ => ∃ (a dx : Addr) (v u : V), vs = [.ref a, v, u] ∧ H a = some (.ins ad.noBound dx []) ∧ Q .non (upd (upd H a (.ins ad.noBound dx [("path", v)])) a (.ins ad.noBound dx [("path", v), ("ring", u)]))
abbrev sc_NoBound___init___N : List Str := ["self", "path", "ring"]
theorem sc_NoBound___init__ : FnScope ["self", "path", "ring"] ["self", "path", "ring"] (defScope (methS 40 0)) := ⟨rfl, rfl, rfl, by decide +kernel, rfl, by decide +kernel, by decide +kernel⟩
theorem ok_NoBound___init__ {P : Program} {w : World} {K : PySem.W.Frag} {mg : Str → Option Value} {base : Heap} {ad : Ads} {f : Addr} {fd : FuncData} (fx : Fx K mg ad) (fy : Fy w K mg ad) (F : MethD K "__init__" "NoBound.__init__" 40 0 f fd) : FnOk P w K mg base CX0 2 f fd ["self", "path", "ring"] (sp_nbInit ad) := by
  refine F.ok sc_NoBound___init__ (fun vs H Q E q => by obtain ⟨_, _, _, _, rfl, _⟩ := q; rfl) fun cdv A outer s H vs Q E hr h => ?_
  refine ⟨_, PSs.nox (pss_cons (ps_expr (pe_wayInit fx fy (hr.mono (by decide)) (by rfl) (pa_cons (pv 0) (pa_cons (pv 1) pa_nil)))) (pss_one (ps_fld (pv 0) (pv 2) rfl))), ?_⟩
  obtain ⟨a, dx, v, u, rfl, ha, q⟩ := h
  refine ⟨.ref a, rfl, v, rfl, a, ad.noBound, dx, [], v, rfl, ha, fy.c_noBound, fy.n_noBound.1, by decide, ?_⟩
  exact ⟨u, rfl, .ref a, rfl, a, ad.noBound, dx, [("path", v)], rfl, upd_same, fy.c_noBound, fy.n_noBound.2, by show 1 < 1000; decide, q⟩
theorem pe_globI {X : Cx} {x : Str} {pos : Pos} {i : Int} (hg : Gl X x) (h : ∃ t, X.mg x = some (.int i t)) (hd : (x == ("__debug__" : Str)) = false := by decide) : PE X (.Name x pos) (tC (.int i)) := C8.pe_gc hg (let ⟨t, e⟩ := h; ⟨_, e, ⟨t, rfl⟩⟩) hd
/-- a value and its data -/
def aDV (K : PySem.W.Frag) (x : V) (d : D) : Asr := ⟨fun v H => v = x ∧ DIs K H v d, fun e ⟨h1, h2⟩ => ⟨h1, h2.ex e⟩⟩
def prgF (p : Pln) (rv : V) : List (Str × V) := [("wide", .int p.wide), ("count", .int p.many), ("rows", rv)]
def sp_prgInit (K : PySem.W.Frag) (ad : Ads) : Sp := fun vs H Q _ => ∃ (a dx : Addr) (rv : V) (p : Pln), vs = [.ref a, .int p.wide, .int p.many, rv] ∧ H a = some (.ins ad.program dx []) ∧ DIs K H rv (.tup (p.steps.map encT)) ∧ p.Ok ∧
  ∀ H1, Ex H H1 → Q .non (upd (upd (upd H1 a (.ins ad.program dx [("wide", .int p.wide)])) a (.ins ad.program dx [("wide", .int p.wide), ("count", .int p.many)])) a (.ins ad.program dx (prgF p rv)))
abbrev sc_Program___init___N : List Str := ["self", "width", "many", "steps", "step"]
theorem sc_Program___init__ : FnScope ["self", "width", "many", "steps", "step"] ["self", "width", "many", "steps"] (defScope (methS 15 0)) := ⟨rfl, rfl, rfl, by decide +kernel, rfl, by decide +kernel, by decide +kernel⟩
theorem ok_Program___init__ {P : Program} {w : World} {K : PySem.W.Frag} {mg : Str → Option Value} {base : Heap} {ad : Ads} {f : Addr} {fd : FuncData} (fx : Fx K mg ad) (fy : Fy w K mg ad) (F : MethD K "__init__" "Program.__init__" 15 0 f fd) : FnOk P w K mg base CX0 4 f fd ["self", "width", "many", "steps"] (sp_prgInit K ad) := by
  refine F.ok sc_Program___init__ (fun vs H Q E q => by obtain ⟨_, _, _, _, rfl, _⟩ := q; rfl) fun cdv A outer s H vs Q E hr h => ?_
  refine ⟨_, PSs.nox (pss_cons (ps_if (PW.pt (pw_or (pt_not (pt_val (pe_callD (ok_is_integer (P := P) (w := w) (base := base) fx) (hr.mono (by decide)) (by rfl) (pa_cons (pv 1) pa_nil)))) (pw_or1 (pt_not (pt_chain op_le op_le pe_int (pv 1) (pe_globI (by rfl) fx.MAX_WIDTH)))))) (pss_one (ps_never)) (pss_nil)) (pss_cons (ps_if (PW.pt (pw_or (pt_not (pt_val (pe_callD (ok_is_integer (P := P) (w := w) (base := base) fx) (hr.mono (by decide)) (by rfl) (pa_cons (pv 2) pa_nil)))) (pw_or1 (pt_not (pt_chain op_le op_le pe_int (pv 2) (pe_callB (xLen P w K) (by rfl) fx.len_ (by decide +kernel) (pa_cons (pe_glob (v := .ref ad.names) (by rfl) fx.NAMES.1 (by rfl)) pa_nil))))))) (pss_one (ps_never)) (pss_nil)) (pss_cons (ps_if (PW.pt (pw_or (pt_not (pt_val (pe_callB (xIsi K) (by rfl) fx.isinstance_ (by decide +kernel) (pa_cons (pv 3) (pa_cons (pe_bltn (v := .ty "tuple") (u := .type "tuple") (by rfl) fx.tuple_ (by decide +kernel) (by rfl)) pa_nil))))) (pw_or1 (pt_not (pt_chain op_le op_le pe_int (pe_callB (xLen P w K) (by rfl) fx.len_ (by decide +kernel) (pa_cons (pv 3) pa_nil)) (pe_globI (by rfl) fx.MAX_STEPS)))))) (pss_one (ps_never)) (pss_nil)) (pss_cons (ps_if (pt_not (pt_val (pe_callB (xAll K rfl) (by rfl) fx.all_ (by decide +kernel) (pa_cons (pe_lc (own := [("step", 4)]) rfl sc_Program___init__.nd (xSeq K (pv 3)) (blkOk_by (own := [("step", 4)]) (N := ["self", "width", "many", "steps", "step"]) (sc := defScope (methS 15 0)) (by decide +kernel)) (fun _ _ _ _ _ => (pg_name (i := 4) sc_Program___init__.nd rfl (by first | exact .inl rfl | exact .inr rfl))) (fun _ _ _ _ _ => pts_nil) (fun _ _ _ _ _ => pe_callD (ok_is_step (P := P) (w := w) (base := base) fx fy) (hr.mono (by decide)) (by rfl) (pa_cons (pv 4) (pa_cons (pv 1) (pa_cons (pv 2) (pa_cons (pe_callB (xLen P w K) (by rfl) fx.len_ (by decide +kernel) (pa_cons (pv 3) pa_nil)) pa_nil)))))) pa_nil)))) (pss_one (ps_never)) (pss_nil)) (pss_cons (ps_fld (pv 0) (pv 1) rfl) (pss_cons (ps_fld (pv 0) (pv 2) rfl) (pss_one (ps_fld (pv 0) (pv 3) rfl)))))))), ?_⟩
  obtain ⟨a, dx, rv, p, rfl, ha, hv, hp, q⟩ := h
  have s0 : SOk _ _ H := SOk.entry (N := sc_Program___init___N) (As := [aV (.ref a), aD K (natD p.wide), aD K (natD p.many), aDV K rv (.tup (p.steps.map encT))]) (.cons rfl (.cons (.int _) (.cons (.int _) (.cons ⟨rfl, hv⟩ .nil))))
  have w1 := hp.w1
  have w6 := hp.w6
  have m1 := hp.m1
  have m3 := hp.m3
  refine st_if (b := false) (et_is (et_or (c := false) (et_not (et_B (ev_call (f := spf_is_integer K) (.num p.wide) (ea_one (ev_var rfl)) trivial))) fun _ => et_not (b := true) (et_B (ev_isB (ev_chain (K := K) ev_int (ev_var rfl) ev_int) (by simp only [Bool.and_eq_true, decide_eq_true_eq]; omega)))) rfl) s0 (fun z => by cases z) fun _ H1 e1 s1 => ?_
  refine st_if (b := false) (et_is (et_or (c := false) (et_not (et_B (ev_call (f := spf_is_integer K) (.num p.many) (ea_one (ev_var rfl)) trivial))) fun _ => et_not (b := true) (et_B (ev_isB (ev_chain (K := K) ev_int (ev_var rfl) (ev_lenT (ev_names fx.NAMES.2))) (by simp only [Bool.and_eq_true, decide_eq_true_eq]; show (1 : Int) ≤ p.many ∧ (p.many : Int) ≤ 3; omega)))) rfl) s1 (fun z => by cases z) fun _ H2 e2 s2 => ?_
  have h3 : ∀ {H' : Hp}, EvG (tVar 3) (entry sc_Program___init___N [aV (.ref a), aD K (natD p.wide), aD K (natD p.many), aDV K rv (.tup (p.steps.map encT))]) H' (aD K (.tup (p.steps.map encT))) := ev_to (ev_var (A := aDV K rv (.tup (p.steps.map encT))) rfl) fun v H' z => z.2
  have n1 := hp.s1
  have n12 := hp.s12
  refine st_if (b := false) (et_is (et_or (c := false) (et_not (et_B (ev_isB (ev_isi h3 (T := "tuple") (b := true) rfl) rfl))) fun _ => et_not (b := true) (et_B (ev_isB (ev_chain (K := K) ev_int (ev_lenT h3) ev_int) (by rw [List.length_map]; simp only [Bool.and_eq_true, decide_eq_true_eq]; omega)))) rfl) s2 (fun z => by cases z) fun _ H3 e3 s3 => ?_
  refine st_if (b := false) (et_not (b := true) (et_B (ev_isB (ev_all (eb_map (K := K) p.steps encT _ (fun _ => true) (ei_T h3) rfl (by omega) (fun t _ => tg_name) fun t ht => ev_call (f := spf_is_step K) (t, p.wide, p.many, p.steps.length) (ea_cons (ev_var rfl) (ea_cons (ev_var rfl) (ea_cons (ev_var rfl) (ea_one (ev_is (ev_lenT (ev_to (ev_var (A := aDV K rv (.tup (p.steps.map encT))) rfl) fun v H' z => z.2)) (by rw [List.length_map]; rfl)))))) ⟨hp.ok t ht, hp.m3⟩)) (by simp)))) s3 (fun z => by cases z) fun _ H4 e4 s4 => ?_
  have e04 := ((e1.trans e2).trans e3).trans e4
  have ha4 := e04 _ _ ha
  obtain ⟨v0, g0, p0⟩ := s4.at_ 0 (aV (.ref a)) rfl
  obtain ⟨v1, g1, p1⟩ := s4.at_ 1 (aD K (natD p.wide)) rfl
  obtain ⟨v2, g2, p2⟩ := s4.at_ 2 (aD K (natD p.many)) rfl
  obtain ⟨v3, g3, p3, _⟩ := s4.at_ 3 (aDV K rv (.tup (p.steps.map encT))) rfl
  have x0 : v0 = .ref a := p0
  have x1 := DIs.num_inv p1
  have x2 := DIs.num_inv p2
  subst x0 x1 x2 p3
  refine ⟨_, g1, .ref a, g0, a, ad.program, dx, [], rfl, ha4, fx.c_program, fx.n_program.1, by decide, ?_⟩
  refine ⟨_, g2, .ref a, g0, a, ad.program, dx, _, rfl, upd_same, fx.c_program, fx.n_program.2.1, by show 1 < 1000; decide, ?_⟩
  refine ⟨_, g3, .ref a, g0, a, ad.program, dx, _, rfl, upd_same, fx.c_program, fx.n_program.2.2, by show 2 < 1000; decide, ?_⟩
  exact q H4 e04
section
variable {K : PySem.W.Frag} {P : Program} {w : World} {G : Gam} {H : Hp}
theorem valV_nodup : ∀ {kvs : List (D × V)}, (kvs.map (·.1)).Nodup → ∀ {q : D × V}, q ∈ kvs → valV kvs q.1 = some q.2
  | [], _, q, h => by cases h
  | r :: kvs, nd, q, h => by
    rw [List.map_cons, List.nodup_cons] at nd
    rcases List.mem_cons.mp h with rfl | h
    · exact valV_pos rfl
    · rw [valV_neg fun e => nd.1 (e ▸ List.mem_map.mpr ⟨q, h, rfl⟩)]
      exact valV_nodup nd.2 h
theorem dis_tup {d : D} {v : V} (h : DIs K H v d) (ht : isTup d = true) : ∃ b, v = .ref b := by
  cases h <;> first | exact ⟨_, rfl⟩ | cases ht
theorem copy_dc {n m : Nat} {d : Addr} {kvs : List (D × V)} {xs : XE3} {od : Obj} (hd : H d = some (.frz od (ddO P w d xs))) (kd : KD K H kvs xs) (nd : (kvs.map (·.1)).Nodup) (hk : ∀ k ∈ kvs.map (·.1), isTup k = true ∧ k.depth ≤ 8) (hl : kvs.length ≤ 1000)
    (gn : (wipeG G [m])[n]? = some (some (aV (.ref d)))) (gn0 : G[n]? = some (some (aV (.ref d)))) (hne : m ≠ n) (hm : m < (wipeG G [m]).length) :
    ∀ σ H1, SOk G σ H1 → Ex H H1 → ∀ Q : VK, (∀ e H2, H1 e = none → Ex H1 H2 → DDw P w K H2 e kvs → Q (.ref e) H2) → tDcD P w K (iKeysD P w (tVar n)) (gName m) (tVar m) (tOp (rIxU P w K) (tVar n) (tVar m)) [m] σ H1 Q := fun σ H1 s x Q q => by
  refine ei_keysD (ev_var gn0) hd kd σ H1 s x _ fun J H2 GJ e2 wk hGJ D H1' hD hu hDD => ?_
  obtain ⟨u, hu, hn⟩ := hu
  have fD := Evl.fresh_back e2 hD
  have eD : Ex H2 H1' := by rw [hu]; exact Evl.Ex.new hD
  have hlen : (kvs.map (·.1)).length = kvs.length := List.length_map _
  refine ⟨fun i mm H' => mm = kvs.length - i ∧ i ≤ kvs.length ∧ Ex H2 H' ∧ DDw P w K H' D (kvs.take i), ⟨kvs.length, rfl, Nat.zero_le _, eD, hDD⟩, ?_⟩
  rintro i mm H3 ⟨rfl, hi, e3, dd⟩
  rcases Nat.lt_or_ge i kvs.length with hlt | hge
  · refine .inr ⟨wk.goes i H3 (by omega) (hGJ H3 e3), fun H' => Ex H2 H' ∧ DDw P w K H' D (kvs.take (i + 1)), fun H' ⟨h1, h2⟩ => ⟨kvs.length - (i + 1), by omega, rfl, by omega, h1, h2⟩, fun y H4 hy => ?_⟩
    obtain ⟨e4, k, hk1, hk2⟩ := wk.yields i H3 y H4 (by omega) (hGJ H3 e3) hy
    have hki : kvs[i]? = some kvs[i] := List.getElem?_eq_getElem hlt
    rw [List.getElem?_map, hki] at hk1
    have ek := Option.some.inj hk1
    subst ek
    have hmem : kvs[i].1 ∈ kvs.map (·.1) := List.mem_map.mpr ⟨_, List.getElem_mem hlt, rfl⟩
    obtain ⟨ht, h8⟩ := hk _ hmem
    have hval : valV kvs kvs[i].1 = some kvs[i].2 := valV_nodup nd (List.getElem_mem hlt)
    have tk : kvs.take (i + 1) = kvs.take i ++ [kvs[i]] := by rw [List.take_succ, hki]; rfl
    have hput : putK (kvs.take i) kvs[i].1 kvs[i].2 = kvs.take (i + 1) := by
      rw [tk]
      refine L2.putK_new _ ?_
      cases z : valV (kvs.take i) kvs[i].1 with
      | none => rfl
      | some v =>
        have h1 := valV_in z
        rw [List.map_take] at h1
        obtain ⟨j, hj, e⟩ := List.mem_take_iff_getElem.mp h1
        rw [List.getElem_map] at e
        have hj2 : j < i := by omega
        have := (List.pairwise_iff_getElem.mp nd) j i (by omega) (by omega) hj2
        rw [List.getElem_map, List.getElem_map] at this
        exact absurd e this
    have ew := wipe_idem σ [m]
    have s4 : SOk (wipeG G [m]) (wipe σ [m]) H4 := (s.ex ((e2.trans e3).trans e4)).wipe [m]
    have s5 := s4.set m (A := aD K kvs[i].1) hk2 hm
    refine ⟨(wipe_set (by simp)).trans ew, ?_⟩
    have x4 : Ex H H4 := ((x.trans e2).trans e3).trans e4
    refine ev_var (A := aD K kvs[i].1) (n := m) (by rw [List.getElem?_set_self hm]) _ H4 s5 (Evl.Ex.refl H4) _ fun v5 H5 e5 p5 => ?_
    have dr : DDr P w K H5 d kvs := ⟨xs, .inr ⟨od, (x4.trans e5) _ _ hd⟩, kd.to (tle_of_ex (x4.trans e5))⟩
    refine ev_getDD (ev_ddr (ev_var (n := n) (by rw [List.getElem?_set_ne hne]; exact gn)) dr) (ev_var (A := aD K kvs[i].1) (n := m) (by rw [List.getElem?_set_self hm])) ht h8 hval _ H5 (s5.ex e5) (Evl.Ex.refl H5) _ fun v6 H6 e6 p6 => ?_
    have ev6 : v6 = kvs[i].2 := p6
    subst ev6
    have dk := DIs.ex p5 e6
    obtain ⟨b, hb⟩ : ∃ b, v5 = .ref b := dis_tup p5 ht
    subst hb
    refine ⟨kvs.take i, kvs[i].1, b, rfl, dd.ex ((e4.trans e5).trans e6), dk, h8, Evl.sz_lt (by rw [List.length_take]; omega), fun H7 ⟨u7, hu7, hn7⟩ hd7 => ⟨?_, by rw [← hput]; exact hd7⟩⟩
    rw [hu7]
    exact (((e3.trans e4).trans e5).trans e6).mut hD
  · have hi2 : i = kvs.length := by omega
    subst hi2
    rw [List.take_length] at dd
    refine .inl ⟨?_, q D H3 fD (e2.trans e3) dd⟩
    have := wk.stops H3 (hGJ H3 e3)
    rwa [hlen] at this
end
def Kp (W : List Addr) (H H' : Hp) : Prop := ∀ b, b ∉ W → ∀ o, H b = some o → H' b = some o
/-- .. the tuples among them -/
def Tp (H H' : Hp) : Prop := ∀ b xs, Rd H b (.tup xs) → Rd H' b (.tup xs)
section
variable {K : PySem.W.Frag} {P : Program} {w : World} {H H1 H' : Hp} {W : List Addr} {a b : Addr} {o u : HO} {kvs : List (D × V)} {xs : XE3}
mutual
theorem DIs.tp (t : Tp H H') : ∀ (d : D) (v : V), DIs K H v d → DIs K H' v d
  | .none, _, h => by cases h; exact .non
  | .num i, _, h => by cases h; exact .int i
  | .text x, _, h => by cases h; exact .str x
  | .tup ds, _, h => by
    cases h with
    | tup hs ha =>
      refine .tup ?_ (DAll.tp t ds _ ha)
      rcases hs with hs | hs
      · exact .inl (t _ _ hs)
      · exact .inr hs
theorem DAll.tp (t : Tp H H') : ∀ (ds : List D) (xs : List V), DAll K H xs ds → DAll K H' xs ds
  | [], _, h => by cases h; exact .nil
  | d :: ds, _, h => by
    cases h with
    | cons h1 h2 => exact .cons (DIs.tp t d _ h1) (DAll.tp t ds _ h2)
end
theorem KD.tp (h : KD K H kvs xs) (t : Tp H H') : KD K H' kvs xs := Paired.mapP h fun _ _ z => ⟨z.1, ⟨DIs.tp t _ _ z.2.1.1, z.2.1.2⟩, z.2.2⟩
theorem Kp.refl : Kp W H H := fun _ _ _ h => h
theorem Kp.trans (x : Kp W H H1) (y : Kp W H1 H') : Kp W H H' := fun b n o h => y b n o (x b n o h)
theorem Kp.ex (e : Ex H H') : Kp W H H' := fun b _ o h => e b o h
theorem Kp.upd (x : Kp W H H1) (ha : a ∈ W) : Kp W H (L2.upd H1 a u) := fun b n o h => by
  rw [upd_ne (fun z => n (by rw [z]; exact ha))]; exact x b n o h
/-- what may change is no tuple -/
theorem Kp.tp (x : Kp W H H') (h : ∀ a ∈ W, ∀ xs, ¬ Rd H a (.tup xs)) : Tp H H' := fun b xs r => by
  have n : b ∉ W := fun z => h b z xs r
  rcases r with r | ⟨q, r⟩
  · exact .inl (x b n _ r)
  · exact .inr ⟨q, x b n _ r⟩
theorem rd_none {xs : List V} (h : H a = none) : ¬ Rd H a (.tup xs) := fun r => by
  rcases r with r | ⟨q, r⟩ <;> (rw [h] at r; cases r)
theorem rd_ins {xs : List V} {C dx : Addr} {fs : List (Str × V)} (h : H a = some (.ins C dx fs)) : ¬ Rd H a (.tup xs) := fun r => by
  rcases r with r | ⟨q, r⟩ <;> (rw [h] at r; cases r)
theorem rd_frzD {ys : List V} {od : Obj} {c : Addr} (h : H a = some (.frz od (ddO P w c xs))) : ¬ Rd H a (.tup ys) := fun r => by
  rcases r with r | ⟨q, r⟩ <;> (rw [h] at r; cases r)
theorem Kp.new (x : Kp W H H') (h : ∀ a ∈ W, H a = none) : Ex H H' := fun b o hb => x b (fun z => by rw [h b z] at hb; cases hb) o hb
end
def sp_amInit (P : Program) (w : World) (K : PySem.W.Frag) (ad : Ads) : Sp := fun vs H Q _ => ∃ (a dx d : Addr) (n : Int) (pv : V) (hs : Hts), vs = [.ref a, .int n, pv, .ref d] ∧ H a = some (.ins ad.atMost dx []) ∧ DDw P w K H d (hK hs) ∧ (hs.map (·.1)).Nodup ∧ hs.length ≤ 1000 ∧
  ∀ e H', H e = none → Kp [a] H H' → DDw P w K H' e (hK hs) → H' a = some (.ins ad.atMost dx [("path", pv), ("number", .int n), ("heights", .ref e)]) → Q .non H'
abbrev sc_AtMost___init___N : List Str := ["self", "number", "path", "heights", "stand"]
theorem sc_AtMost___init__ : FnScope ["self", "number", "path", "heights", "stand"] ["self", "number", "path", "heights"] (defScope (methS 39 0)) := ⟨rfl, rfl, rfl, by decide +kernel, rfl, by decide +kernel, by decide +kernel⟩
theorem ok_AtMost___init__ {P : Program} {w : World} {K : PySem.W.Frag} {mg : Str → Option Value} {base : Heap} {ad : Ads} {f : Addr} {fd : FuncData} (fx : Fx K mg ad) (fy : Fy w K mg ad) (F : MethD K "__init__" "AtMost.__init__" 39 0 f fd) : FnOk P w K mg base CX0 2 f fd ["self", "number", "path", "heights"] (sp_amInit P w K ad) := by
  refine F.ok sc_AtMost___init__ (fun vs H Q E q => by obtain ⟨_, _, _, _, _, _, rfl, _⟩ := q; rfl) fun cdv A outer s H vs Q E hr h => ?_
  refine ⟨_, PSs.nox (pss_cons (ps_expr (pe_wayInit fx fy (hr.mono (by decide)) (by rfl) (pa_cons (pv 0) (pa_cons (pv 2) pa_nil)))) (pss_cons (ps_fld (pv 0) (pv 1) rfl) (pss_one (ps_fld (pv 0) (pe_lock (pe_dcD (own := [("stand", 4)]) hr.units rfl sc_AtMost___init__.nd (xKeysD P w (pv 3)) (blkOk_by (own := [("stand", 4)]) (N := ["self", "number", "path", "heights", "stand"]) (sc := defScope (methS 39 0)) (by decide +kernel)) (fun _ _ _ _ _ => (pg_name (i := 4) sc_AtMost___init__.nd rfl (by first | exact .inl rfl | exact .inr rfl))) (fun _ _ _ _ _ => pv 4) (fun _ _ _ _ _ => pe_ix (xIx P w K hr.units) (pv 3) (pv 4) (fun _ _ => rfl)))) rfl)))), ?_⟩
  obtain ⟨a, dx, d, n, pv, hs, rfl, ha, hd, hn, hl, q⟩ := h
  refine ⟨_, rfl, pv, rfl, a, ad.atMost, dx, [], pv, rfl, ha, fy.c_atMost, fy.n_atMost.1, by decide, ?_⟩
  refine ⟨_, rfl, _, rfl, a, ad.atMost, dx, [("path", pv)], rfl, upd_same, fy.c_atMost, fy.n_atMost.2.1, by show 1 < 1000; decide, ?_⟩
  obtain ⟨xs, hx, kd⟩ := hd
  have hda : d ≠ a := fun z => by rw [z, ha] at hx; cases hx
  have kp : Kp [a] H (upd (upd H a (.ins ad.atMost dx (putF "path" pv []))) a (.ins ad.atMost dx (putF "number" (.int n) [("path", pv)]))) := (Kp.refl.upd (by simp)).upd (by simp)
  have ha2 : (upd (upd H a (.ins ad.atMost dx (putF "path" pv []))) a (.ins ad.atMost dx (putF "number" (.int n) [("path", pv)]))) a = some (.ins ad.atMost dx [("path", pv), ("number", .int n)]) := upd_same
  generalize upd (upd H a (.ins ad.atMost dx (putF "path" pv []))) a (.ins ad.atMost dx (putF "number" (.int n) [("path", pv)])) = H2 at *
  have hx2 := kp d (by simp [hda]) _ hx
  have kd2 := kd.tp (kp.tp fun b hb ys => by rw [List.mem_singleton.mp hb]; exact rd_ins ha)
  refine ⟨d, _, hx2, ddO_mut, fun od => ?_⟩
  have kdL := kd2.to (le_lock (od := od) hx2 ddO_lockable).t
  have haL : (upd H2 d (.frz od (ddO P w d xs))) a = some (.ins ad.atMost dx [("path", pv), ("number", .int n)]) := by rw [upd_ne (Ne.symm hda)]; exact ha2
  have sL : SOk (entry sc_AtMost___init___N [aV (.ref a), aV (.int n), aV pv, aV (.ref d)]) (start sc_AtMost___init___N [.ref a, .int n, pv, .ref d]) (upd H2 d (.frz od (ddO P w d xs))) := SOk.entry (.cons rfl (.cons rfl (.cons rfl (.cons rfl .nil))))
  have nd : ((hK hs).map (·.1)).Nodup := by
    have e : (hK hs).map (·.1) = (hs.map (·.1)).map encS := by rw [hK_keys, List.map_map]; rfl
    rw [e]
    exact List.Pairwise.map encS (fun _ _ hab e => hab (encS_inj e)) hn
  refine copy_dc (n := 3) (m := 4) (xs := xs) (od := od) upd_same kdL nd (fun k hk => ?_) (by unfold hK; rw [List.length_map]; exact hl) rfl rfl (by decide) (Nat.le_of_ble_eq_true rfl) _ _ sL (Evl.Ex.refl _) _ fun e H5 he e5 dd => ?_
  · rw [hK_keys] at hk
    obtain ⟨x, _, rfl⟩ := List.mem_map.mp hk
    exact ⟨isTup_encS _, dep_encS _⟩
  have hed : e ≠ d := fun z => by rw [z, upd_same] at he; cases he
  have he2 : H2 e = none := by rwa [upd_ne hed] at he
  have hea : e ≠ a := fun z => by rw [z, ha2] at he2; cases he2
  have h5d := e5 _ _ (upd_same (a := d))
  have h5a := e5 _ _ haL
  refine ⟨h5d, .ref a, rfl, a, ad.atMost, dx, [("path", pv), ("number", .int n)], rfl, by rw [upd_ne (Ne.symm hda)]; exact h5a, fy.c_atMost, fy.n_atMost.2.2, by show 2 < 1000; decide, q e _ ?_ ?_ ?_ upd_same⟩
  · cases z : H e with
    | none => rfl
    | some o =>
      have := kp e (by simp [hea]) _ z
      rw [he2] at this; cases this
  · intro b hb o hbo
    have hba : b ≠ a := by simpa using hb
    rw [upd_ne hba]
    have h2b := kp b hb _ hbo
    by_cases z : b = d
    · subst z
      rw [hx2] at h2b
      rw [upd_same]; exact h2b
    · rw [upd_ne z]
      exact e5 _ _ (by rw [upd_ne z]; exact h2b)
  · obtain ⟨ys, hy, kdy⟩ := dd
    refine ⟨ys, by rw [upd_ne hea, upd_ne hed]; exact hy, kdy.tp fun b zs r => ?_⟩
    have hbd : b ≠ d := fun z => by rw [z] at r; exact rd_frzD h5d r
    have hba : b ≠ a := fun z => by rw [z] at r; exact rd_ins h5a r
    rcases r with r | ⟨o, r⟩
    · exact .inl (by rw [upd_ne hba, upd_ne hbd]; exact r)
    · exact .inr ⟨o, by rw [upd_ne hba, upd_ne hbd]; exact r⟩
/-- an instance with a path alone -/
def aWay (K : PySem.W.Frag) (C : Addr) (path : List Int) : Asr := ⟨fun v H => ∃ a dx pv, v = .ref a ∧ H a = some (.ins C dx [("path", pv)]) ∧ DIs K H pv (.tup (path.map .num)), fun e ⟨a, dx, pv, h1, h2, h3⟩ => ⟨a, dx, pv, h1, e _ _ h2, h3.ex e⟩⟩
def aNB (K : PySem.W.Frag) (ad : Ads) (path ring : List Int) : Asr := ⟨fun v H => ∃ a dx pv rv, v = .ref a ∧ H a = some (.ins ad.noBound dx [("path", pv), ("ring", rv)]) ∧ DIs K H pv (.tup (path.map .num)) ∧ DIs K H rv (.tup (ring.map .num)), fun e ⟨a, dx, pv, rv, h1, h2, h3, h4⟩ => ⟨a, dx, pv, rv, h1, e _ _ h2, h3.ex e, h4.ex e⟩⟩
def aAM (P : Program) (w : World) (K : PySem.W.Frag) (ad : Ads) (n : Int) (path : List Int) (hs : Hts) : Asr := ⟨fun v H => ∃ a dx pv c, v = .ref a ∧ H a = some (.ins ad.atMost dx [("path", pv), ("number", .int n), ("heights", .ref c)]) ∧ DIs K H pv (.tup (path.map .num)) ∧ DDw P w K H c (hK hs), fun e ⟨a, dx, pv, c, h1, h2, h3, h4⟩ => ⟨a, dx, pv, c, h1, e _ _ h2, h3.ex e, h4.ex e⟩⟩
section
variable {P : Program} {w : World} {K : PySem.W.Frag} {ad : Ads} {G : Gam} {H : Hp} {te : TE} {u : TS} {A B : Asr} {C : Addr} {f : Str} {path ring : List Int} {n : Int} {hs : Hts}
theorem ev_fld (h : EvG te G H A) (hA : ∀ v H', A.p v H' → ∃ a dx fs x, v = .ref a ∧ H' a = some (.ins C dx fs) ∧ fs.lookup f = some x ∧ B.p x H') (c : Cls K C) (nt : NoAttr K C f) : EvG (tFld K te f) G H B := fun σ H1 s x Q q => h σ H1 s x _ fun v H2 e2 p => by
  obtain ⟨a, dx, fs, y, h1, h2, h3, h4⟩ := hA v H2 p
  exact ⟨a, C, dx, fs, y, h1, h2, c, nt, h3, q y H2 e2 h4⟩
theorem ev_wayPath (h : EvG te G H (aWay K C path)) (c : Cls K C) (nt : NoAttr K C "path") : EvG (tFld K te "path") G H (aD K (.tup (path.map .num))) := ev_fld h (fun v H' ⟨a, dx, pv, h1, h2, h3⟩ => ⟨a, dx, _, pv, h1, h2, rfl, h3⟩) c nt
theorem ev_nbPath (h : EvG te G H (aNB K ad path ring)) (c : Cls K ad.noBound) (nt : NoAttr K ad.noBound "path") : EvG (tFld K te "path") G H (aD K (.tup (path.map .num))) := ev_fld h (fun v H' ⟨a, dx, pv, rv, h1, h2, h3, h4⟩ => ⟨a, dx, _, pv, h1, h2, rfl, h3⟩) c nt
theorem ev_nbRing (h : EvG te G H (aNB K ad path ring)) (c : Cls K ad.noBound) (nt : NoAttr K ad.noBound "ring") : EvG (tFld K te "ring") G H (aD K (.tup (ring.map .num))) := ev_fld h (fun v H' ⟨a, dx, pv, rv, h1, h2, h3, h4⟩ => ⟨a, dx, _, rv, h1, h2, rfl, h4⟩) c nt
theorem ev_amPath (h : EvG te G H (aAM P w K ad n path hs)) (c : Cls K ad.atMost) (nt : NoAttr K ad.atMost "path") : EvG (tFld K te "path") G H (aD K (.tup (path.map .num))) := ev_fld h (fun v H' ⟨a, dx, pv, cc, h1, h2, h3, h4⟩ => ⟨a, dx, _, pv, h1, h2, rfl, h3⟩) c nt
theorem ev_amNum (h : EvG te G H (aAM P w K ad n path hs)) (c : Cls K ad.atMost) (nt : NoAttr K ad.atMost "number") : EvG (tFld K te "number") G H (aD K (.num n)) := ev_fld h (fun v H' ⟨a, dx, pv, cc, h1, h2, h3, h4⟩ => ⟨a, dx, _, .int n, h1, h2, rfl, .int n⟩) c nt
theorem ev_amHts (h : EvG te G H (aAM P w K ad n path hs)) (c : Cls K ad.atMost) (nt : NoAttr K ad.atMost "heights") : EvG (tFld K te "heights") G H (aDW P w K (hK hs)) := ev_fld h (fun v H' ⟨a, dx, pv, cc, h1, h2, h3, h4⟩ => ⟨a, dx, _, .ref cc, h1, h2, rfl, cc, rfl, h4⟩) c nt
theorem sr_drop (h : EvG te G H A) (h1 : SR u G H B) : SR (tSeq (tDrop te) u) G H B := fun σ H1 s x D q => h σ H1 s x _ fun v H2 e p => h1 σ H2 (s.ex e) (x.trans e) D fun v H3 e3 p => q v H3 (e.trans e3) p
theorem noV_L {ds : List D} : ∀ v H', (aL K ds).p v H' → decide (v = V.non) = false := fun v H' ⟨a, xs, ev, _⟩ => by rw [ev]; rfl
theorem noV_N : ∀ v H', (aV .non).p v H' → decide (v = V.non) = true := fun v H' e => by
  have e : v = .non := e
  rw [e]; rfl
theorem walk_ne {p : Pln} {l : List SG} (h : walkP p path = some l) : l ≠ [] := fun z => by
  obtain ⟨h1, h2⟩ := walkP_len h
  rw [z] at h1
  exact h2 (List.length_eq_zero_iff.mp h1.symm)
end
/-- what a way's end is -/
def endD (p : Pln) (path : List Int) : D := match walkP p path with
  | none => .none
  | some l => encS (lastW l).1
def overB (p : Pln) (path : List Int) (lim : Int) : Bool := match walkP p path with
  | none => false
  | some l => decide ((lastW l).2 > lim)
def spf_wayEnd (K : PySem.W.Frag) (ad : Ads) : Spf (Pln × List Int) := ⟨fun x => [aWay K ad.way x.2, aPrg K ad x.1], fun x => x.1.Ok ∧ x.2.length < 50000, fun x => aD K (endD x.1 x.2)⟩
abbrev sc_Way_end_N : List Str := ["self", "program", "found"]
theorem sc_Way_end : FnScope ["self", "program", "found"] ["self", "program"] (defScope (methS 36 1)) := ⟨rfl, rfl, rfl, by decide +kernel, rfl, by decide +kernel, by decide +kernel⟩
theorem ok_Way_end {P : Program} {w : World} {K : PySem.W.Frag} {mg : Str → Option Value} {base : Heap} {ad : Ads} {f : Addr} {fd : FuncData} (fx : Fx K mg ad) (fy : Fy w K mg ad) (F : MethD K "end" "Way.end" 36 1 f fd) : FnOk P w K mg base CX0 9 f fd ["self", "program"] ((spf_wayEnd K ad).sp) := by
  refine F.ok sc_Way_end (Spf.len fun _ => rfl) fun cdv A outer s H vs Q E hr h => ?_
  refine ⟨_, PSs.nox (pss_cons (ps_expr (pe_callD (ok_check_program (P := P) (w := w) (base := base) fx) (hr.mono (by decide)) (by rfl) (pa_cons (pv 1) pa_nil))) (pss_cons (ps_set (i := 2) sc_Way_end.nd rfl (by first | exact .inl rfl | exact .inr rfl) (pe_callD (ok_walked (P := P) (w := w) (base := base) fx) (hr.mono (by decide)) (by rfl) (pa_cons (pv 1) (pa_cons (pe_fld (pv 0) rfl) pa_nil)))) (pss_one (ps_ret (pe_ifExp (pt_cmpR op_isNo (pv 2) pe_non (nomark _)) pe_non (pe_ix (xIx P w K hr.units) (pe_ix (xIx P w K hr.units) (pv 2) (pe_un un_neg pe_int) (fun _ _ => rfl)) pe_int (fun _ _ => rfl))))))), ?_⟩
  refine Spf.run h fun x hp => ?_
  obtain ⟨p, path⟩ := x
  obtain ⟨hp, hl⟩ := hp
  refine sr_drop (ev_call (f := spf_check_program K ad) p (ea_one (ev_var rfl)) trivial) ?_
  refine sr_set (B := aOL K ((walkP p path).map fun l : List SG => l.map encSGi)) (ev_call (f := spf_walked K ad) (p, path) (ea_cons (ev_var rfl) (ea_one (ev_wayPath (ev_var (A := aWay K ad.way path) rfl) fy.c_way fy.n_way))) ⟨hp, hl⟩) (sr_ret ?_)
  show EvG _ _ _ (aD K (endD p path))
  unfold endD
  cases hw : walkP p path with
  | none => exact ev_ifT (et_test (ev_isNV (A := aV .non) (ev_var rfl) noV_N)) rfl ev_non
  | some l => exact ev_ifF (et_test (ev_isNV (A := aL K (l.map encSGi)) (ev_var rfl) noV_L)) rfl (ev_ixT (ev_ixL (ev_var (A := aL K (l.map encSGi)) rfl) (ev_neg ev_int) (lastW_at (walk_ne hw))) ev_int rfl)
def spf_overShows (K : PySem.W.Frag) (ad : Ads) : Spf (Pln × List Int × Int) := ⟨fun x => [aWay K ad.over x.2.1, aPrg K ad x.1, aD K (.num x.2.2)], fun x => x.1.Ok ∧ x.2.1.length < 50000 ∧ 0 ≤ x.2.2, fun x => aB (overB x.1 x.2.1 x.2.2)⟩
abbrev sc_Over_shows_N : List Str := ["self", "program", "limit", "found"]
theorem sc_Over_shows : FnScope ["self", "program", "limit", "found"] ["self", "program", "limit"] (defScope (methS 41 2)) := ⟨rfl, rfl, rfl, by decide +kernel, rfl, by decide +kernel, by decide +kernel⟩
theorem ok_Over_shows {P : Program} {w : World} {K : PySem.W.Frag} {mg : Str → Option Value} {base : Heap} {ad : Ads} {f : Addr} {fd : FuncData} (fx : Fx K mg ad) (fy : Fy w K mg ad) (F : MethD K "shows" "Over.shows" 41 2 f fd) : FnOk P w K mg base CX0 9 f fd ["self", "program", "limit"] ((spf_overShows K ad).sp) := by
  refine F.ok sc_Over_shows (Spf.len fun _ => rfl) fun cdv A outer s H vs Q E hr h => ?_
  refine ⟨_, PSs.nox (pss_cons (ps_expr (pe_callD (ok_check_program (P := P) (w := w) (base := base) fx) (hr.mono (by decide)) (by rfl) (pa_cons (pv 1) pa_nil))) (pss_cons (ps_expr (pe_callD (ok_check_limit (P := P) (w := w) (base := base) fx) (hr.mono (by decide)) (by rfl) (pa_cons (pv 2) pa_nil))) (pss_cons (ps_set (i := 3) sc_Over_shows.nd rfl (by first | exact .inl rfl | exact .inr rfl) (pe_callD (ok_walked (P := P) (w := w) (base := base) fx) (hr.mono (by decide)) (by rfl) (pa_cons (pv 1) (pa_cons (pe_fld (pv 0) rfl) pa_nil)))) (pss_one (ps_ret (pe_and (pe_cmpR op_notNo (pv 3) pe_non (nomark _)) (pe_one (pe_cmpR op_gt (pe_ix (xIx P w K hr.units) (pe_ix (xIx P w K hr.units) (pv 3) (pe_un un_neg pe_int) (fun _ _ => rfl)) pe_int (fun _ _ => rfl)) (pv 2) (nomark _))))))))), ?_⟩
  refine Spf.run h fun x hp => ?_
  obtain ⟨p, path, lim⟩ := x
  obtain ⟨hp, hl, h0⟩ := hp
  refine sr_drop (ev_call (f := spf_check_program K ad) p (ea_one (ev_var rfl)) trivial) ?_
  refine sr_drop (ev_call (f := spf_check_limit K) lim (ea_one (ev_var rfl)) h0) ?_
  refine sr_set (B := aOL K ((walkP p path).map fun l : List SG => l.map encSGi)) (ev_call (f := spf_walked K ad) (p, path) (ea_cons (ev_var rfl) (ea_one (ev_wayPath (ev_var (A := aWay K ad.over path) rfl) fy.c_over fy.n_over))) ⟨hp, hl⟩) (sr_ret ?_)
  show EvG _ _ _ (aB (overB p path lim))
  unfold overB
  cases hw : walkP p path with
  | none => exact ev_isB (ev_andV (c := true) (ev_notNV (ev_var rfl) noV_N) fun z => by cases z) rfl
  | some l => exact ev_isB (ev_andV (ev_notNV (A := aL K (l.map encSGi)) (ev_var rfl) noV_L) fun _ => ev_cmpI (K := K) (ev_ixT (ev_ixL (ev_var (A := aL K (l.map encSGi)) rfl) (ev_neg ev_int) (lastW_at (walk_ne hw))) ev_int rfl) (ev_var rfl)) rfl
def spf_amShows (P : Program) (w : World) (K : PySem.W.Frag) (ad : Ads) : Spf (Pln × Int × List Int × Hts) := ⟨fun x => [aAM P w K ad x.2.1 x.2.2.1 x.2.2.2, aPrg K ad x.1], fun x => x.1.Ok ∧ x.2.2.1.length < 50000 ∧ (∀ q ∈ x.2.2.2, SOk1 x.1 q.1) ∧ (x.2.2.2.map (·.1)).Nodup ∧ x.2.2.2.length ≤ 1000, fun x => aB (mostB x.1 x.2.1 x.2.2.1 x.2.2.2)⟩
abbrev sc_AtMost_shows_N : List Str := ["self", "program", "found"]
theorem sc_AtMost_shows : FnScope ["self", "program", "found"] ["self", "program"] (defScope (methS 39 2)) := ⟨rfl, rfl, rfl, by decide +kernel, rfl, by decide +kernel, by decide +kernel⟩
theorem ok_AtMost_shows {P : Program} {w : World} {K : PySem.W.Frag} {mg : Str → Option Value} {base : Heap} {ad : Ads} {f : Addr} {fd : FuncData} (fx : Fx K mg ad) (fy : Fy w K mg ad) (F : MethD K "shows" "AtMost.shows" 39 2 f fd) : FnOk P w K mg base CX0 9 f fd ["self", "program"] ((spf_amShows P w K ad).sp) := by
  refine F.ok sc_AtMost_shows (Spf.len fun _ => rfl) fun cdv A outer s H vs Q E hr h => ?_
  refine ⟨_, PSs.nox (pss_cons (ps_expr (pe_callD (ok_check_program (P := P) (w := w) (base := base) fx) (hr.mono (by decide)) (by rfl) (pa_cons (pv 1) pa_nil))) (pss_cons (ps_set (i := 2) sc_AtMost_shows.nd rfl (by first | exact .inl rfl | exact .inr rfl) (pe_callD (ok_walked (P := P) (w := w) (base := base) fx) (hr.mono (by decide)) (by rfl) (pa_cons (pv 1) (pa_cons (pe_fld (pv 0) rfl) pa_nil)))) (pss_cons (ps_if (PW.pt (pw_or (pt_cmpR op_isNo (pv 2) pe_non (nomark _)) (pw_or1 (pt_cmpR (xNe K hr.units) (pe_ix (xIx P w K hr.units) (pe_ix (xIx P w K hr.units) (pv 2) (pe_un un_neg pe_int) (fun _ _ => rfl)) pe_int (fun _ _ => rfl)) (pe_fld (pv 0) rfl) (nomark _))))) (pss_one (ps_ret pe_bl)) (pss_nil)) (pss_one (ps_ret (pe_callD (ok_are_heights (P := P) (w := w) (base := base) fx) (hr.mono (by decide)) (by rfl) (pa_cons (pv 1) (pa_cons (pe_fld (pv 0) rfl) (pa_cons (pe_fld (pv 0) rfl) pa_nil))))))))), ?_⟩
  refine Spf.run h fun x hp => ?_
  obtain ⟨p, num, path, hs⟩ := x
  obtain ⟨hp, hl, hok, hnd, hlen⟩ := hp
  have hp : p.Ok := hp
  refine sr_drop (ev_call (f := spf_check_program K ad) p (ea_one (ev_var rfl)) trivial) ?_
  refine sr_set (B := aOL K ((walkP p path).map fun l : List SG => l.map encSGi)) (ev_call (f := spf_walked K ad) (p, path) (ea_cons (ev_var rfl) (ea_one (ev_amPath (ev_var (A := aAM P w K ad num path hs) rfl) fy.c_atMost fy.n_atMost.1))) ⟨hp, hl⟩) ?_
  show SR _ _ _ (aB (mostB p num path hs))
  unfold mostB
  cases hw : walkP p path with
  | none => exact sr_ifT (et_or (c := true) (et_test (ev_isNV (A := aV .non) (ev_var rfl) noV_N)) fun z => by cases z) rfl (sr_retS ev_bl)
  | some l =>
    show SR _ _ _ (aB (decide ((lastW l).2 = num) && heightsB p hs num))
    refine sr_if (et_or (et_test (ev_isNV (A := aL K (l.map encSGi)) (ev_var rfl) noV_L)) fun _ => et_test (ev_neI (ev_ixT (ev_ixL (ev_var (A := aL K (l.map encSGi)) rfl) (ev_neg ev_int) (lastW_at (walk_ne hw))) ev_int rfl) (ev_amNum (ev_var (A := aAM P w K ad num path hs) rfl) fy.c_atMost fy.n_atMost.2.1))) (fun hb => ?_) (fun hb => ?_)
    · have e : decide ((lastW l).2 = num) = false := by simpa using hb
      rw [e]
      exact sr_retS ev_bl
    · have e : decide ((lastW l).2 = num) = true := by simpa using hb
      rw [e, Bool.true_and]
      exact sr_next (sr_ret (ev_call (f := spf_are_heights P w K ad) (p, hs, num) (ea_cons (ev_var rfl) (ea_cons (ev_amHts (ev_var (A := aAM P w K ad num path hs) rfl) fy.c_atMost fy.n_atMost.2.2) (ea_one (ev_amNum (ev_var (A := aAM P w K ad num path hs) rfl) fy.c_atMost fy.n_atMost.2.1)))) ⟨hp, hok, hnd, hlen⟩))
def spf_nbShows (K : PySem.W.Frag) (ad : Ads) : Spf (Pln × List Int × List Int) := ⟨fun x => [aNB K ad x.2.1 x.2.2, aPrg K ad x.1], fun x => x.1.Ok ∧ x.2.1.length + x.2.2.length < 50000, fun x => aB (ringB x.1 x.2.1 x.2.2)⟩
theorem nums_lay {n : Nat} (xs : List Int) : ∀ x ∈ xs.map NestedKey.num, Lay n x := fun x hx => by
  obtain ⟨y, _, rfl⟩ := List.mem_map.mp hx
  exact Lay.num
abbrev sc_NoBound_shows_N : List Str := ["self", "program", "found", "stand", "many"]
theorem sc_NoBound_shows : FnScope ["self", "program", "found", "stand", "many"] ["self", "program"] (defScope (methS 40 2)) := ⟨rfl, rfl, rfl, by decide +kernel, rfl, by decide +kernel, by decide +kernel⟩
theorem ok_NoBound_shows {P : Program} {w : World} {K : PySem.W.Frag} {mg : Str → Option Value} {base : Heap} {ad : Ads} {f : Addr} {fd : FuncData} (fx : Fx K mg ad) (fy : Fy w K mg ad) (F : MethD K "shows" "NoBound.shows" 40 2 f fd) : FnOk P w K mg base CX0 9 f fd ["self", "program"] ((spf_nbShows K ad).sp) := by
  refine F.ok sc_NoBound_shows (Spf.len fun _ => rfl) fun cdv A outer s H vs Q E hr h => ?_
  refine ⟨_, PSs.nox (pss_cons (ps_expr (pe_callD (ok_check_program (P := P) (w := w) (base := base) fx) (hr.mono (by decide)) (by rfl) (pa_cons (pv 1) pa_nil))) (pss_cons (ps_if (PW.pt (pw_or (pt_cmpR (xEq K hr.units) (pe_fld (pv 0) rfl) (pe_tup (pa_nil)) (nomark _)) (pw_or1 (pt_cmpR op_isNo (pe_callD (ok_walked (P := P) (w := w) (base := base) fx) (hr.mono (by decide)) (by rfl) (pa_cons (pv 1) (pa_cons (pe_fld (pv 0) rfl) pa_nil))) pe_non (nomark _))))) (pss_one (ps_ret pe_bl)) (pss_nil)) (pss_cons (ps_set (i := 2) sc_NoBound_shows.nd rfl (by first | exact .inl rfl | exact .inr rfl) (pe_callD (ok_walked (P := P) (w := w) (base := base) fx) (hr.mono (by decide)) (by rfl) (pa_cons (pv 1) (pa_cons (pe_op (xAdd K) (pe_fld (pv 0) rfl) (pe_fld (pv 0) rfl)) pa_nil)))) (pss_cons (ps_if (PW.pt (pw_or (pt_cmpR op_isNo (pv 2) pe_non (nomark _)) (pw_or1 (pt_cmpR (xNe K hr.units) (pe_ix (xIx P w K hr.units) (pe_ix (xIx P w K hr.units) (pv 2) (pe_un un_neg pe_int) (fun _ _ => rfl)) pe_int (fun _ _ => rfl)) (pe_ix (xIx P w K hr.units) (pe_ix (xIx P w K hr.units) (pv 2) (pe_op op_sub (pe_callB (xLen P w K) (by rfl) fx.len_ (by decide +kernel) (pa_cons (pe_fld (pv 0) rfl) pa_nil)) pe_int) (fun _ _ => rfl)) pe_int (fun _ _ => rfl)) (nomark _))))) (pss_one (ps_ret pe_bl)) (pss_nil)) (pss_cons (ps_if (pt_val (pe_callB (xAny K rfl) (by rfl) fx.any_ (by decide +kernel) (pa_cons (pe_lc (own := [("stand", 3), ("many", 4)]) rfl sc_NoBound_shows.nd (xSeq K (pe_slice (xSl K) (pv 2) (po_some (pe_op op_sub (pe_callB (xLen P w K) (by rfl) fx.len_ (by decide +kernel) (pa_cons (pe_fld (pv 0) rfl) pa_nil)) pe_int)) (po_some (pe_un un_neg pe_int)))) (blkOk_by (own := [("stand", 3), ("many", 4)]) (N := ["self", "program", "found", "stand", "many"]) (sc := defScope (methS 40 2)) (by decide +kernel)) (fun _ _ _ _ _ => (xTg K (n := 2) rfl (pgs_cons (pg_name (i := 3) sc_NoBound_shows.nd rfl (by first | exact .inl rfl | exact .inr rfl)) (pgs_cons (pg_name (i := 4) sc_NoBound_shows.nd rfl (by first | exact .inl rfl | exact .inr rfl)) pgs_nil)))) (fun _ _ _ _ _ => pts_nil) (fun _ _ _ _ _ => pe_callD (ok_is_clear (P := P) (w := w) (base := base) fx) (hr.mono (by decide)) (by rfl) (pa_cons (pv 1) (pa_cons (pv 3) pa_nil)))) pa_nil))) (pss_one (ps_ret pe_bl)) (pss_nil)) (pss_one (ps_ret (pe_cmpR op_gt (pe_ix (xIx P w K hr.units) (pe_ix (xIx P w K hr.units) (pv 2) (pe_un un_neg pe_int) (fun _ _ => rfl)) pe_int (fun _ _ => rfl)) (pe_ix (xIx P w K hr.units) (pe_ix (xIx P w K hr.units) (pv 2) (pe_op op_sub (pe_callB (xLen P w K) (by rfl) fx.len_ (by decide +kernel) (pa_cons (pe_fld (pv 0) rfl) pa_nil)) pe_int) (fun _ _ => rfl)) pe_int (fun _ _ => rfl)) (nomark _))))))))), ?_⟩
  refine Spf.run h fun x hp => ?_
  obtain ⟨p, path, ring⟩ := x
  obtain ⟨hp, hl⟩ := hp
  have hp : p.Ok := hp
  have hl : path.length + ring.length < 50000 := hl
  have ePath : ∀ {G : Gam} {H' : Hp}, G[0]? = some (some (aNB K ad path ring)) → EvG (tFld K (tVar 0) "path") G H' (aD K (.tup (path.map .num))) := fun g => ev_nbPath (ev_var g) fy.c_noBound fy.n_noBound.1
  have eRing : ∀ {G : Gam} {H' : Hp}, G[0]? = some (some (aNB K ad path ring)) → EvG (tFld K (tVar 0) "ring") G H' (aD K (.tup (ring.map .num))) := fun g => ev_nbRing (ev_var g) fy.c_noBound fy.n_noBound.2
  refine sr_drop (ev_call (f := spf_check_program K ad) p (ea_one (ev_var rfl)) trivial) ?_
  show SR _ _ _ (aB (ringB p path ring))
  have hno : decide ((walkP p path) = none) = true → ringB p path ring = false := fun hb => by
    have hn : walkP p path = none := of_decide_eq_true hb
    unfold ringB
    cases hp' : path with
    | nil => rfl
    | cons i r =>
      rw [hp'] at hn
      rw [walkP_pre hn (by simp)]
      simp
  refine sr_if (et_or (et_test (ev_eqT0 (eRing rfl) (nums_lay ring))) fun _ => et_test (b := decide (walkP p path = none)) (ev_isNV (A := aOL K ((walkP p path).map fun l : List SG => l.map encSGi)) (ev_call (f := spf_walked K ad) (p, path) (ea_cons (ev_var rfl) (ea_one (ePath rfl))) ⟨hp, by show path.length < 50000; omega⟩) ?_)) (fun hb => ?_) (fun hb => ?_)
  · cases walkP p path with
    | none => exact noV_N
    | some l => exact noV_L
  · have e : ringB p path ring = false := by
      rw [Bool.or_eq_true] at hb
      rcases hb with hb | hb
      · unfold ringB
        rw [List.isEmpty_map] at hb
        rw [hb]; simp
      · exact hno hb
    rw [e]
    exact sr_retS ev_bl
  rw [Bool.or_eq_false_iff, List.isEmpty_map] at hb
  obtain ⟨hr, hb2⟩ := hb
  have hwn : walkP p path ≠ none := of_decide_eq_false hb2
  have hpl : 0 < path.length := by
    cases path with
    | nil => exact absurd rfl hwn
    | cons _ _ => simp
  have hpe : path.isEmpty = false := by
    cases path with
    | nil => cases hpl
    | cons _ _ => rfl
  refine sr_next (sr_set (B := aOL K ((walkP p (path ++ ring)).map fun l : List SG => l.map encSGi)) (ev_call (f := spf_walked K ad) (p, path ++ ring) (ea_cons (ev_var rfl) (ea_one (ev_is (ev_catT (ePath rfl) (eRing rfl) (by rw [List.length_map, List.length_map]; omega)) (by rw [List.map_append])))) ⟨hp, by show (path ++ ring).length < 50000; rw [List.length_append]; exact hl⟩) ?_)
  cases hw : walkP p (path ++ ring) with
  | none =>
    have e : ringB p path ring = false := by unfold ringB; rw [hw]; simp
    rw [e]
    exact sr_ifT (et_or (c := true) (et_test (ev_isNV (A := aV .non) (ev_var rfl) noV_N)) fun z => by cases z) rfl (sr_retS ev_bl)
  | some l =>
    obtain ⟨hl1, hl2⟩ := walkP_len hw
    have hne := walk_ne hw
    have hix : path.length - 1 < l.length := by rw [hl1, List.length_append]; omega
    have hlenm : path.length - 1 < (l.map encSGi).length := by rw [List.length_map]; exact hix
    have ee : ringB p path ring = (decide ((lastW l).1 = (atW l (path.length - 1)).1) && !((l.drop (path.length - 1)).dropLast.any fun q => clearP p q.1) && decide ((lastW l).2 > (atW l (path.length - 1)).2)) := by
      unfold ringB
      rw [hw, hpe, hr]; rfl
    rw [ee]
    have ix : ∀ {G : Gam} {H' : Hp}, G[0]? = some (some (aNB K ad path ring)) → EvG (tOp (rI0 fun i j => .int (i - j)) (tCB (rLenU P w K) (tCons (tFld K (tVar 0) "path") tNil)) (tC (.int 1))) G H' (aD K (natD (path.length - 1))) := fun g => ev_is (ev_sub (ev_lenT (ePath g)) ev_int) (by
      rw [List.length_map]
      show NestedKey.num _ = NestedKey.num _
      congr 1
      show (path.length : Int) - 1 = ((path.length - 1 : Nat) : Int)
      omega)
    have eL : ∀ {G : Gam} {H' : Hp}, G[2]? = some (some (aL K (l.map encSGi))) → EvG (tVar 2) G H' (aL K (l.map encSGi)) := fun g => ev_var g
    have llen : ((l.drop (path.length - 1)).dropLast).length < 100000 := by rw [List.length_dropLast, List.length_drop, hl1, List.length_append]; omega
    refine sr_if (b := !decide ((lastW l).1 = (atW l (path.length - 1)).1)) (et_is (et_or (c := !decide ((lastW l).1 = (atW l (path.length - 1)).1)) (et_test (ev_isNV (A := aL K (l.map encSGi)) (eL rfl) noV_L)) fun _ => et_is (et_test (ev_ne (ev_ixT (ev_ixL (eL rfl) (ev_neg ev_int) (lastW_at hne)) ev_int rfl) (ev_ixT (ev_ixL (eL rfl) (ix rfl) (atD (atW_at hix))) ev_int rfl) ((lay_encS _).mono (by decide)) ((lay_encS _).mono (by decide)))) (congrArg (fun t => !t) (decide_eq_decide.mpr ⟨fun z => encS_inj z, fun z => by rw [z]⟩))) rfl) (fun hb2 => ?_) (fun hb2 => ?_)
    · have h1 : decide ((lastW l).1 = (atW l (path.length - 1)).1) = false := by simpa using hb2
      rw [h1, Bool.false_and, Bool.false_and]
      exact sr_retS ev_bl
    · have h1 : decide ((lastW l).1 = (atW l (path.length - 1)).1) = true := by simpa using hb2
      rw [h1, Bool.true_and]
      refine sr_next (sr_if (b := ((l.drop (path.length - 1)).dropLast.any fun q => clearP p q.1)) (et_B (ev_isB (ev_any (eb_map (K := K) ((l.drop (path.length - 1)).dropLast) encSGi _ (fun q => clearP p q.1) (ei_L (ev_isL (EvN.l (ev_slL (eL rfl) (eo_some (K := K) (ix rfl)) (eo_some (K := K) (ev_neg ev_int)))) (cut_to_last hlenm))) (by rw [List.map_dropLast, List.map_drop]) llen (fun q _ => tg_tup (tgs_cons tg_name (tgs_cons tg_name tgs_nil)) rfl) fun q _ => ev_call (f := spf_is_clear K ad) (p, q.1) (ea_cons (ev_var rfl) (ea_one (ev_var rfl))) hp)) (by rw [List.any_map]; rfl))) (fun hb3 => ?_) (fun hb3 => ?_))
      · rw [hb3]
        exact sr_retS ev_bl
      · rw [hb3, Bool.not_false, Bool.true_and]
        exact sr_next (sr_ret (ev_cmpI (K := K) (ev_ixT (ev_ixL (eL rfl) (ev_neg ev_int) (lastW_at hne)) ev_int rfl) (ev_ixT (ev_ixL (eL rfl) (ix rfl) (atD (atW_at hix))) ev_int rfl)))
section
variable {X : Cx} {e o : Expr} {es : List Expr} {t : TA} {to : TE} {p pos apos : Pos} {ad : Ads}
theorem pe_mk_Program (fx : Fx X.K X.mg ad) (fy : Fy X.w X.K X.mg ad) (hr : Room 5 X.A) (hg : Gl X "Program") (ha : PA X (e :: es) t) (he : starEach (e :: es) X.env = (false, eval e X.env) :: starEach es X.env := by rfl) (hpl : (backTo pos (starEach es X.env)).any (·.1) = false := by rfl) :
    PE X (.Call (.Name "Program" p) (e :: es) [] pos) (tMake ad.program (sp_prgInit X.K ad) [] E0 t) := by
  obtain ⟨f, fd, M, F⟩ := fy.m_program
  exact pe_make M (ok_Program___init__ fx fy F) hr hg fx.g_Program (F.bindsN (ps := ["self", "width", "many", "steps"]) fun _ _ _ _ _ _ us hl => match us, hl with | [_, _, _, _], _ => rfl) .nil pass0 ha (by decide) he hpl
theorem pe_mk_Way (fx : Fx X.K X.mg ad) (fy : Fy X.w X.K X.mg ad) (hr : Room 2 X.A) (hg : Gl X "Way") (ha : PA X (e :: es) t) (he : starEach (e :: es) X.env = (false, eval e X.env) :: starEach es X.env := by rfl) (hpl : (backTo pos (starEach es X.env)).any (·.1) = false := by rfl) :
    PE X (.Call (.Name "Way" p) (e :: es) [] pos) (tMake ad.way (sp_wayInit X.K) [] E0 t) := by
  obtain ⟨f, fd, M, F⟩ := fy.m_way
  exact pe_make M (ok_Way___init__ fx F) hr hg fy.g_way (F.bindsN (ps := ["self", "path"]) fun _ _ _ _ _ _ us hl => match us, hl with | [_, _], _ => rfl) .nil pass0 ha (by decide) he hpl
theorem pe_mk_Over (fx : Fx X.K X.mg ad) (fy : Fy X.w X.K X.mg ad) (hr : Room 3 X.A) (hg : Gl X "Over") (ha : PA X (e :: es) t) (he : starEach (e :: es) X.env = (false, eval e X.env) :: starEach es X.env := by rfl) (hpl : (backTo pos (starEach es X.env)).any (·.1) = false := by rfl) :
    PE X (.Call (.Name "Over" p) (e :: es) [] pos) (tMake ad.over (sp_overInit ad) [] E0 t) := by
  obtain ⟨f, fd, M, F⟩ := fy.m_over
  exact pe_make M (ok_Over___init__ fx fy F) hr hg fy.g_over (F.bindsN (ps := ["self", "path"]) fun _ _ _ _ _ _ us hl => match us, hl with | [_, _], _ => rfl) .nil pass0 ha (by decide) he hpl
theorem pe_mk_NoBound (fx : Fx X.K X.mg ad) (fy : Fy X.w X.K X.mg ad) (hr : Room 3 X.A) (hg : Gl X "NoBound") (ha : PA X (e :: es) t) (he : starEach (e :: es) X.env = (false, eval e X.env) :: starEach es X.env := by rfl) (hpl : (backTo pos (starEach es X.env)).any (·.1) = false := by rfl) :
    PE X (.Call (.Name "NoBound" p) (e :: es) [] pos) (tMake ad.noBound (sp_nbInit ad) [] E0 t) := by
  obtain ⟨f, fd, M, F⟩ := fy.m_noBound
  exact pe_make M (ok_NoBound___init__ fx fy F) hr hg fy.g_noBound (F.bindsN (ps := ["self", "path", "ring"]) fun _ _ _ _ _ _ us hl => match us, hl with | [_, _, _], _ => rfl) .nil pass0 ha (by decide) he hpl
theorem pe_mk_AtMost (fx : Fx X.K X.mg ad) (fy : Fy X.w X.K X.mg ad) (hr : Room 3 X.A) (hg : Gl X "AtMost") (ha : PA X (e :: es) t) (he : starEach (e :: es) X.env = (false, eval e X.env) :: starEach es X.env := by rfl) (hpl : (backTo pos (starEach es X.env)).any (·.1) = false := by rfl) :
    PE X (.Call (.Name "AtMost" p) (e :: es) [] pos) (tMake ad.atMost (sp_amInit X.prog X.w X.K ad) [] E0 t) := by
  obtain ⟨f, fd, M, F⟩ := fy.m_atMost
  exact pe_make M (ok_AtMost___init__ fx fy F) hr hg fy.g_atMost (F.bindsN (ps := ["self", "number", "path", "heights"]) fun _ _ _ _ _ _ us hl => match us, hl with | [_, _, _, _], _ => rfl) .nil pass0 ha (by decide) he hpl
theorem pe_m_Way_end {pl : Sem Bool} (fx : Fx X.K X.mg ad) (fy : Fy X.w X.K X.mg ad) (hr : Room 9 X.A) (ho : PE X o to) (ha : PA X (e :: es) t) (hst : starEach (e :: es) X.env = (false, eval e X.env) :: starEach es X.env := by rfl) (hpl : (backTo pos (starEach es X.env)).any (·.1) = false := by rfl)
    (ht : eval (.Call (.Attribute o "end" apos) (e :: es) [] pos) X.env = (do
      let ov ← eval o X.env
      standAt apos.atName
      let (f, first) ← holding [ov] (getMethod ov "end" pl)
      callWith pos f first (backTo pos (starEach (e :: es) X.env)) (backToKw pos (keywordEach [] X.env))) := by rfl) :
    PE X (.Call (.Attribute o "end" apos) (e :: es) [] pos) (tMeth ad.way "end" (spf_wayEnd X.K ad).sp [] E0 to t) := by
  obtain ⟨f, fd, M, F⟩ := fy.e_way
  exact pe_meth (pl := pl) ho fy.c_way M (ok_Way_end fx fy F) hr (F.bindsN (ps := ["self", "program"]) fun _ _ _ _ _ _ us hl => match us, hl with | [_, _], _ => rfl) .nil pass0 ha hst hpl ht
theorem pe_m_Over_shows {pl : Sem Bool} (fx : Fx X.K X.mg ad) (fy : Fy X.w X.K X.mg ad) (hr : Room 9 X.A) (ho : PE X o to) (ha : PA X (e :: es) t) (hst : starEach (e :: es) X.env = (false, eval e X.env) :: starEach es X.env := by rfl) (hpl : (backTo pos (starEach es X.env)).any (·.1) = false := by rfl)
    (ht : eval (.Call (.Attribute o "shows" apos) (e :: es) [] pos) X.env = (do
      let ov ← eval o X.env
      standAt apos.atName
      let (f, first) ← holding [ov] (getMethod ov "shows" pl)
      callWith pos f first (backTo pos (starEach (e :: es) X.env)) (backToKw pos (keywordEach [] X.env))) := by rfl) :
    PE X (.Call (.Attribute o "shows" apos) (e :: es) [] pos) (tMeth ad.over "shows" (spf_overShows X.K ad).sp [] E0 to t) := by
  obtain ⟨f, fd, M, F⟩ := fy.s_over
  exact pe_meth (pl := pl) ho fy.c_over M (ok_Over_shows fx fy F) hr (F.bindsN (ps := ["self", "program", "limit"]) fun _ _ _ _ _ _ us hl => match us, hl with | [_, _, _], _ => rfl) .nil pass0 ha hst hpl ht
theorem pe_m_AtMost_shows {pl : Sem Bool} (fx : Fx X.K X.mg ad) (fy : Fy X.w X.K X.mg ad) (hr : Room 9 X.A) (ho : PE X o to) (ha : PA X (e :: es) t) (hst : starEach (e :: es) X.env = (false, eval e X.env) :: starEach es X.env := by rfl) (hpl : (backTo pos (starEach es X.env)).any (·.1) = false := by rfl)
    (ht : eval (.Call (.Attribute o "shows" apos) (e :: es) [] pos) X.env = (do
      let ov ← eval o X.env
      standAt apos.atName
      let (f, first) ← holding [ov] (getMethod ov "shows" pl)
      callWith pos f first (backTo pos (starEach (e :: es) X.env)) (backToKw pos (keywordEach [] X.env))) := by rfl) :
    PE X (.Call (.Attribute o "shows" apos) (e :: es) [] pos) (tMeth ad.atMost "shows" (spf_amShows X.prog X.w X.K ad).sp [] E0 to t) := by
  obtain ⟨f, fd, M, F⟩ := fy.s_atMost
  exact pe_meth (pl := pl) ho fy.c_atMost M (ok_AtMost_shows fx fy F) hr (F.bindsN (ps := ["self", "program"]) fun _ _ _ _ _ _ us hl => match us, hl with | [_, _], _ => rfl) .nil pass0 ha hst hpl ht
theorem pe_m_NoBound_shows {pl : Sem Bool} (fx : Fx X.K X.mg ad) (fy : Fy X.w X.K X.mg ad) (hr : Room 9 X.A) (ho : PE X o to) (ha : PA X (e :: es) t) (hst : starEach (e :: es) X.env = (false, eval e X.env) :: starEach es X.env := by rfl) (hpl : (backTo pos (starEach es X.env)).any (·.1) = false := by rfl)
    (ht : eval (.Call (.Attribute o "shows" apos) (e :: es) [] pos) X.env = (do
      let ov ← eval o X.env
      standAt apos.atName
      let (f, first) ← holding [ov] (getMethod ov "shows" pl)
      callWith pos f first (backTo pos (starEach (e :: es) X.env)) (backToKw pos (keywordEach [] X.env))) := by rfl) :
    PE X (.Call (.Attribute o "shows" apos) (e :: es) [] pos) (tMeth ad.noBound "shows" (spf_nbShows X.K ad).sp [] E0 to t) := by
  obtain ⟨f, fd, M, F⟩ := fy.s_noBound
  exact pe_meth (pl := pl) ho fy.c_noBound M (ok_NoBound_shows fx fy F) hr (F.bindsN (ps := ["self", "program"]) fun _ _ _ _ _ _ us hl => match us, hl with | [_, _], _ => rfl) .nil pass0 ha hst hpl ht
end
section
variable {P : Program} {w : World} {K : PySem.W.Frag} {mg : Str → Option Value} {ad : Ads} {G : Gam} {H : Hp} {te ta' tb' to : TE} {ta : TA} {A B : Asr} {As : List Asr} {path ring : List Int} {n : Int} {hs : Hts} {C : Addr} {ds es : List D} {m : Str} {ι : Type}
/-- a new instance stands beside what was -/
theorem ex_made {H2 : Hp} {y dx : Addr} {o1 o2 o3 : HO} (hy : H2 y = none) (hd : H2 dx = none) : Ex H2 (upd (upd (upd H2 dx o1) y o2) y o3) := fun b o h => by
  have h1 : b ≠ y := fun z => by rw [z, hy] at h; cases h
  have h2 : b ≠ dx := fun z => by rw [z, hd] at h; cases h
  rw [upd_ne h1, upd_ne h1, upd_ne h2]; exact h
theorem ev_mkOver (h : EvG te G H (aD K (.tup (path.map .num)))) : EvG (tMake ad.over (sp_overInit ad) [] E0 (tCons te tNil)) G H (aWay K ad.over path) := fun σ H1 s x Q q => h σ H1 s x _ fun v H2 e2 p => fun y dx hy hdx ne =>
  ⟨y, dx, v, rfl, upd_same, rfl, q _ _ (e2.trans (ex_made hy hdx)) ⟨y, dx, v, rfl, upd_same, DIs.ex p (ex_made hy hdx)⟩⟩
theorem ev_mkWay (fy : Fy w K mg ad) (h : EvG te G H (aD K (.tup (path.map .num)))) : EvG (tMake ad.way (sp_wayInit K) [] E0 (tCons te tNil)) G H (aWay K ad.way path) := fun σ H1 s x Q q => h σ H1 s x _ fun v H2 e2 p => fun y dx hy hdx ne =>
  ⟨y, ad.way, dx, [], v, rfl, upd_same, fy.c_way, fy.n_way, by decide, rfl, q _ _ (e2.trans (ex_made hy hdx)) ⟨y, dx, v, rfl, upd_same, DIs.ex p (ex_made hy hdx)⟩⟩
theorem ex_made4 {H2 : Hp} {y dx : Addr} {o1 o2 o3 o4 : HO} (hy : H2 y = none) (hd : H2 dx = none) : Ex H2 (upd (upd (upd (upd H2 dx o1) y o2) y o3) y o4) := fun b o h => by
  have h1 : b ≠ y := fun z => by rw [z, hy] at h; cases h
  rw [upd_ne h1]; exact ex_made hy hd b o h
theorem ev_mkNoBound (h : EvA ta G H [aD K (.tup (path.map .num)), aD K (.tup (ring.map .num))]) : EvG (tMake ad.noBound (sp_nbInit ad) [] E0 ta) G H (aNB K ad path ring) := fun σ H1 s x Q q => h σ H1 s x _ fun vs H2 e2 p => by
  obtain ⟨v, u, rfl, pv, pu⟩ := aall2 p
  exact fun y dx hy hdx ne => ⟨y, dx, v, u, rfl, upd_same, rfl, q _ _ (e2.trans (ex_made4 hy hdx)) ⟨y, dx, v, u, rfl, upd_same, DIs.ex pv (ex_made4 hy hdx), DIs.ex pu (ex_made4 hy hdx)⟩⟩
theorem ev_mkAtMost (h : EvA ta G H [aD K (.num n), aD K (.tup (path.map .num)), aDW P w K (hK hs)]) (hn : (hs.map (·.1)).Nodup) (hl : hs.length ≤ 1000) : EvG (tMake ad.atMost (sp_amInit P w K ad) [] E0 ta) G H (aAM P w K ad n path hs) := fun σ H1 s x Q q => h σ H1 s x _ fun vs H2 e2 p => by
  obtain ⟨v, u, z, rfl, pv, pu, d, rfl, dd⟩ := aall3 p
  have ev := DIs.num_inv pv
  subst ev
  intro y dx hy hdx ne
  have e3 : Ex H2 (upd (upd H2 dx (.own y)) y (.ins ad.atMost dx [])) := fun b o h => by
    have h1 : b ≠ y := fun z => by rw [z, hy] at h; cases h
    have h2 : b ≠ dx := fun z => by rw [z, hdx] at h; cases h
    rw [upd_ne h1, upd_ne h2]; exact h
  refine ⟨y, dx, d, n, u, hs, rfl, upd_same, dd.ex e3, hn, hl, fun e H' he kp dde hin => ⟨rfl, ?_⟩⟩
  have e4 : Ex H2 H' := fun b o hb => kp b (fun z => by rw [List.mem_singleton.mp z, hy] at hb; cases hb) o (e3 b o hb)
  exact q _ H' (e2.trans e4) ⟨y, dx, u, e, rfl, hin, DIs.ex pu e4, dde⟩
theorem ev_mkProgram {p : Pln} (h : EvA ta G H [aD K (natD p.wide), aD K (natD p.many), aD K (.tup (p.steps.map encT))]) (hp : p.Ok) : EvG (tMake ad.program (sp_prgInit K ad) [] E0 ta) G H (aPrg K ad p) := fun σ H1 s x Q q => h σ H1 s x _ fun vs H2 e2 pv => by
  obtain ⟨v, u, z, rfl, p1, p2, p3⟩ := aall3 pv
  have e1 := DIs.num_inv p1
  have e2' := DIs.num_inv p2
  subst e1 e2'
  intro y dx hy hdx ne
  have e3 : Ex H2 (upd (upd H2 dx (.own y)) y (.ins ad.program dx [])) := fun b o h => by
    have h1 : b ≠ y := fun z => by rw [z, hy] at h; cases h
    have h2 : b ≠ dx := fun z => by rw [z, hdx] at h; cases h
    rw [upd_ne h1, upd_ne h2]; exact h
  refine ⟨y, dx, z, p, rfl, upd_same, DIs.ex p3 e3, hp, fun H3 e4 => ⟨rfl, ?_⟩⟩
  have e5 : Ex H2 (upd (upd (upd H3 y (.ins ad.program dx [("wide", .int p.wide)])) y (.ins ad.program dx [("wide", .int p.wide), ("count", .int p.many)])) y (.ins ad.program dx (prgF p z))) := fun b o hb => by
    have h1 : b ≠ y := fun z => by rw [z, hy] at hb; cases hb
    rw [upd_ne h1, upd_ne h1, upd_ne h1]
    exact e4 b o (e3 b o hb)
  exact q _ _ (e2.trans e5) ⟨y, dx, z, rfl, upd_same, DIs.ex p3 e5⟩
theorem ev_meth {f : Spf ι} (x : ι) (ho : EvG to G H A) (hA : ∀ v H', A.p v H' → ∃ a dx fs, v = .ref a ∧ H' a = some (.ins C dx fs) ∧ fs.lookup m = none) (ha : EvA ta G H As) (hAs : f.As x = A :: As) (hp : f.Pre x) : EvG (tMeth C m f.sp [] E0 to ta) G H (f.R x) := fun σ H1 s e Q q => ho σ H1 s e _ fun v H2 e2 p2 => by
  obtain ⟨a, dx, fs, h1, h2, h3⟩ := hA v H2 p2
  refine ⟨a, dx, fs, h1, h2, h3, ha σ H2 (s.ex e2) (e.trans e2) _ fun vs H3 e3 p3 => ⟨x, hp, ?_, fun v' H4 e4 r => q v' H4 ((e2.trans e3).trans e4) r⟩⟩
  rw [hAs, List.append_nil]
  exact .cons (A.mono e3 p2) p3
theorem en_catNN (ha : EvN K ta' G H ds) (hb : EvN K tb' G H es) (hl' : ds.length + es.length ≤ 100000) : EvN K (tOp (rAddU K) ta' tb') G H (ds ++ es) := fun σ H1 s e Q q =>
  ha σ H1 s e _ fun a xs H2 ha2 e2 hx dx => hb σ H2 (s.ex e2) (e.trans e2) _ fun c ys H3 hc e3 hy dy => by
    refine .inr (.inr ⟨a, c, xs, ys, rfl, rfl, e3 _ _ hx, hy, by rw [dx.length, dy.length]; exact Nat.le_trans hl' (by decide), fun p hp => ?_⟩)
    have en := Evl.Ex.new (o := .lst (xs ++ ys)) hp
    exact q p (xs ++ ys) _ (Evl.fresh_back (e2.trans e3) hp) ((e2.trans e3).trans en) upd_same ((dx.ex (e3.trans en)).append (dy.ex en))
theorem ev_max {ns : List Int} (h : EvN K te G H (ns.map .num)) (h0 : 0 < ns.length) : EvG (tCB (rMax K) (tCons te tNil)) G H (aInt K) := fun σ H1 s x Q q => h σ H1 s x _ fun p xs H2 hp e2 hx hd => by
  have e := DAll.ints hd
  subst e
  exact ⟨p, ns, rfl, Evl.sq_of hx, h0, fun m _ _ => q _ H2 e2 ⟨m, .int m⟩⟩
end
section
variable {P : Program} {w : World} {K : PySem.W.Frag} {ad : Ads} {G : Gam} {σ : L2.St} {H : Hp} {EE : Ends} {te t1 t2 : TE} {tb : TS} {g : TG} {v : V} {n : Nat} {ds : List D} {path : List Int} {p : Pln} {l : List SG} {ι : Type}
theorem SOk.pin (h : SOk G σ H) (hv : σ[n]? = some (some v)) : SOk (G.set n (some (aV v))) σ H := by
  refine ⟨by rw [List.length_set]; exact h.len, fun i C hi => ?_⟩
  by_cases e : n = i
  · subst e
    have hl : n < G.length := by rw [h.len]; exact (List.getElem?_eq_some_iff.mp hv).1
    rw [List.getElem?_set_self hl] at hi
    cases hi
    exact ⟨v, hv, rfl⟩
  · rw [List.getElem?_set_ne e] at hi
    exact h.at_ i C hi
theorem SOk.elimX {B : ι → Asr} (h : SOk G σ H) (hn : G[n]? = some (some (aX B))) : ∃ i, SOk (G.set n (some (B i))) σ H := by
  obtain ⟨v, hv, i, hp⟩ := h.at_ n _ hn
  refine ⟨i, by rw [List.length_set]; exact h.len, fun j C hj => ?_⟩
  by_cases e : n = j
  · subst e
    rw [List.getElem?_set_self (List.getElem?_eq_some_iff.mp hn).1] at hj
    cases hj
    exact ⟨v, hv, hp⟩
  · rw [List.getElem?_set_ne e] at hj
    exact h.at_ j C hj
theorem st_forLX {dsf : ι → List D} (h : EvG te G H (aX fun i => aL K (dsf i))) (s : SOk G σ H) (q : ∀ i H1 a xs, Ex H H1 → SOk G σ H1 → SqL K H1 a xs → DAll K H1 xs (dsf i) → ∃ Pv : Nat → L2.St → Hp → Prop, Pv 0 σ H1 ∧ (∀ j σ' H', Pv j σ' H' → TLe H1 H' ∧ SqL K H' a xs) ∧
    (∀ j d x σ' H', (dsf i)[j]? = some d → Pv j σ' H' → DIs K H' x d → g x σ' H' fun σ2 H2 => tb (turn Pv EE j) σ2 H2) ∧ ∀ σ' H', Pv (dsf i).length σ' H' → EE.nx σ' H') : tFor (iSeqU K te) g tb EE σ H :=
  .inl (h σ H s (Evl.Ex.refl H) _ fun v H1 e1 ⟨i, a, xs, hv, hsq, hda⟩ => by
    obtain ⟨Pv, h0, ht, hs, hd⟩ := q i H1 a xs e1 (s.ex e1) hsq hda
    refine ⟨a, hv, ⟨xs, hsq⟩, ?_⟩
    refine for_list Pv h0 (fun i σ' H' _ p => (ht i σ' H' p).2) (fun j x σ' H' hx p => ?_) (fun σ' H' p => hd σ' H' (by rw [← hda.length]; exact p))
    obtain ⟨d, h1, h2⟩ := hda.getV hx
    exact hs j d x σ' H' h1 p (h2.to (ht j σ' H' p).1))
theorem dall_pick {xs : List V} (hd : DAll K H xs ds) : ∀ ys : List V, (∀ y ∈ ys, y ∈ xs) → ∃ es : List D, (∀ d ∈ es, d ∈ ds) ∧ DAll K H ys es
  | [], _ => ⟨[], (fun _ h => by cases h), .nil⟩
  | y :: ys, h => by
    obtain ⟨es, h1, h2⟩ := dall_pick hd ys fun z hz => h z (List.mem_cons_of_mem _ hz)
    obtain ⟨i, hi, e⟩ := List.mem_iff_getElem.mp (h y List.mem_cons_self)
    obtain ⟨d, hd1, hd2⟩ := hd.getV (i := i) (x := y) (by rw [List.getElem?_eq_getElem hi, e])
    exact ⟨d :: es, fun z hz => by
      rcases List.mem_cons.mp hz with rfl | hz
      · exact List.mem_of_getElem? hd1
      · exact h1 z hz, .cons hd2 h2⟩
/-- xs[::2] -/
theorem ev_step2 (h : EvG te G H (aL K ds)) : EvG (tStepL K te) G H (aX fun x : {es : List D // ∀ d ∈ es, d ∈ ds} => aL K x.1) := fun σ H1 s x Q q => h σ H1 s x _ fun v H2 e2 ⟨a, xs, hv, hs, hd⟩ => by
  refine ⟨a, xs, hv, hs, fun p ys hy hp => ?_⟩
  obtain ⟨es, h1, h2⟩ := dall_pick hd ys hy
  have en := Evl.Ex.new (o := .lst ys) hp
  exact q _ _ (e2.trans en) ⟨⟨es, h1⟩, p, ys, rfl, Evl.sq_of upd_same, h2.ex en⟩
theorem ev_walkS (hw : walkP p path = some l) (hp : p.Ok) (hl : path.length < 50000) (h1 : EvG t1 G H (aD K (plnD p))) (h2 : EvG t2 G H (aD K (.tup (path.map .num)))) : EvG (tCall (spf_lwalk K).sp [] E0 (tCons t1 (tCons t2 tNil))) G H (aL K (l.map encSGi)) := by
  have z : EvG (tCall (spf_lwalk K).sp [] E0 (tCons t1 (tCons t2 tNil))) G H (aOL K ((walkP p path).map fun l : List SG => l.map encSGi)) := ev_call (f := spf_lwalk K) (p, path) (ea_cons h1 (ea_one h2)) ⟨hp, hl⟩
  rw [hw] at z
  exact z
theorem ev_lwalk (hp : p.Ok) (hl : path.length < 50000) (h1 : EvG t1 G H (aD K (plnD p))) (h2 : EvG t2 G H (aD K (.tup (path.map .num)))) : EvG (tCall (spf_lwalk K).sp [] E0 (tCons t1 (tCons t2 tNil))) G H (aOL K ((walkP p path).map fun l : List SG => l.map encSGi)) := ev_call (f := spf_lwalk K) (p, path) (ea_cons h1 (ea_one h2)) ⟨hp, hl⟩
theorem RL.frsN {a b : Addr} {H1 : Hp} (h : RL K H a ds) (x : Frs [b] H H1) (wl : WL K H b []) (hne : ds ≠ []) : RL K H1 a ds := by
  obtain ⟨c, xs, e, h1, h2⟩ := h
  cases e
  have hx : xs ≠ [] := fun z => by
    rw [z] at h2
    cases h2
    exact hne rfl
  obtain ⟨ys, hy, hd⟩ := wl
  cases hd
  refine ⟨a, xs, rfl, ?_, h2.to x.t⟩
  rcases h1 with h1 | h1
  · have n : a ∉ [b] := fun z => by
      rw [List.mem_singleton.mp z] at h1
      rcases h1 with r | ⟨q, r⟩
      · rw [hy] at r; cases r; exact hx rfl
      · rw [hy] at r; cases r
    rcases h1 with r | ⟨q, r⟩
    · exact .inl (.inl (x.keep a n _ r))
    · exact .inl (.inr ⟨q, x.keep a n _ r⟩)
  · exact .inr h1
theorem lay_end (p : Pln) (path : List Int) : Lay 8 (endD p path) := by
  unfold endD
  split
  · exact Lay.non
  · exact (lay_encS _).mono (by decide)
/-- number + k * turn -/
theorem ev_lin {i : Nat} {a b : Int} {m k : Nat} (ha : a = (m : Nat)) (hb : b = (k : Nat)) (hk : k < 1000) (h : EvG te G H (aD K (natD i))) : EvG (tOp (rAddU K) (tC (.int a)) (tOp (rMulU K) (tC (.int b)) te)) G H (aD K (natD (m + k * i))) := by
  subst ha hb
  refine ev_numIs (ev_add ev_int (ev_mul ev_int h (.inl ⟨by omega, by omega⟩))) ?_
  rw [Int.natCast_add, Int.natCast_mul]
theorem ev_plus {i : Nat} {a : Int} {m : Nat} (ha : a = (m : Nat)) (h : EvG te G H (aD K (natD i))) : EvG (tOp (rAddU K) (tC (.int a)) te) G H (aD K (natD (m + i))) := by
  subst ha
  exact ev_numIs (ev_add ev_int h) (by omega)
end
/-- a def that keeps its promise whatever the base -/
def OkB (P : Program) (w : World) (K : PySem.W.Frag) (mg : Str → Option Value) (CX : CXT) (k : Nat) (x : Str) (ps : List Str) (sp : Sp) : Prop :=
  ∃ f fd, (∀ base : Heap, FnOk P w K mg base CX k f fd ps sp) ∧ mg x = some (.ref f) ∧ Binds K fd ps [] ∧ ∀ (s : Shared) (us : List Value), us.length = ps.length → BindsTo s fd ⟨us, []⟩ (ps.zip us)
theorem TopDef.okB {P : Program} {w : World} {K : PySem.W.Frag} {mg : Str → Option Value} {CX : CXT} {k : Nat} {x : Str} {ps N : List Str} {sp : Sp} {i : Nat} (D : TopDef K mg x i) (S : FnScope N ps (defScope (topS i)))
    (hb : ∀ (kV doc pm : Value) (an : Option Addr) (cdv ct : Value) (us : List Value), us.length = ps.length → bindArgs (PySem.W.fnOf x x (defArgs (topS i)) (defBody (topS i)) (defScope (topS i)) .none kV doc pm an cdv ct) ⟨us, []⟩ = pure (ps.zip us))
    (len : ∀ vs H Q E, sp vs H Q E → vs.length = ps.length)
    (hbody : ∀ (base : Heap) (f : Addr) (cdv : Value) (A : Around) (outer : List Env) (s : Shared) (H : Hp) (vs : List V) (Q : VK) (E : XK), Room k (A.deeper (envOfC x (defScope (topS i)) s.heap.objs.size f cdv)) → PySem.W.codeIn K cdv x = true → sp vs H Q E →
      ∃ t, PSs (cxOf CX P w K mg base N x (defScope (topS i)) f cdv A outer s H E) (defBody (topS i)) t ∧ t { nx := fun _ H' => Q .non H', rt := Q } (start N vs) H) : OkB P w K mg CX (k + 1) x ps sp := by
  obtain ⟨f, fd, F, g⟩ := D
  have b := F.bindsN hb
  have b2 := FunD.bindsA F hb
  obtain ⟨oc, od, dV, kV, doc, pm, an, cdv, ct, osl, rfl, lk, hcd, _, _⟩ := F.ex
  exact ⟨f, _, fun base => fn_of lk hcd S len fun A outer s H vs Q E hr hsp => hbody base f cdv A outer s H vs Q E hr hcd hsp, g, b, b2⟩
def spf_pathsR (K : PySem.W.Frag) (ad : Ads) : Spf (List Int × Pln) := ⟨fun x => [aL K (x.1.map .num), aD K (plnD x.2), aPrg K ad x.2], fun x => x.1.length ≤ 63 ∧ x.2.Ok, fun _ => aB true⟩
abbrev sc__law_paths_right_N : List Str := ["_law_script", "_law_plain_here", "_law_program", "_law_turn", "_law_path", "_law_found", "_law_most"]
theorem sc__law_paths_right : FnScope ["_law_script", "_law_plain_here", "_law_program", "_law_turn", "_law_path", "_law_found", "_law_most"] ["_law_script", "_law_plain_here", "_law_program"] (defScope (topS 69)) := ⟨rfl, rfl, rfl, by decide +kernel, rfl, by decide +kernel, by decide +kernel⟩
theorem ok__law_paths_right {P : Program} {w : World} {K : PySem.W.Frag} {mg : Str → Option Value} {base : Heap} {ad : Ads} (fx : Fx K mg ad) (fy : Fy w K mg ad) : Ok P w K mg base CX0 10 "_law_paths_right" ["_law_script", "_law_plain_here", "_law_program"] ((spf_pathsR K ad).sp) := by
  refine fx.d__law_paths_right.ok sc__law_paths_right (fun _ _ _ _ _ _ us hl => match us, hl with | [_, _, _], _ => rfl) (Spf.len fun _ => rfl) fun f cdv A outer s H vs Q E hr hcd h => ?_
  refine ⟨_, PSs.nox (pss_cons (ps_for PassesOwn.never rfl (pi_range1 (by rfl) fx.range_ (pa_cons pe_int pa_nil)) (pg_name (i := 3) sc__law_paths_right.nd rfl (by first | exact .inl rfl | exact .inr rfl)) (pss_cons (ps_set (i := 4) sc__law_paths_right.nd rfl (by first | exact .inl rfl | exact .inr rfl) (pe_callD (ok__law_some_path (P := P) (w := w) (base := base) fx) (hr.mono (by decide)) (by rfl) (pa_cons (pv 0) (pa_cons (pv 1) (pa_cons (pe_op (xAdd K) pe_int (pe_op (xMul K) pe_int (pv 3))) pa_nil))))) (pss_cons (ps_set (i := 5) sc__law_paths_right.nd rfl (by first | exact .inl rfl | exact .inr rfl) (pe_callD (ok__law_walk (P := P) (w := w) (base := base) fx) (hr.mono (by decide)) (by rfl) (pa_cons (pv 1) (pa_cons (pv 4) pa_nil)))) (pss_cons (ps_if (pt_cmpR (xNe K hr.units) (pe_m_Way_end fx fy (hr.mono (by decide)) (pe_mk_Way fx fy (hr.mono (by decide)) (by rfl) (pa_cons (pv 4) pa_nil)) (pa_cons (pv 2) pa_nil)) (pe_ifExp (pt_cmpR op_notNo (pv 5) pe_non (nomark _)) (pe_ix (xIx P w K hr.units) (pe_ix (xIx P w K hr.units) (pv 5) (pe_un un_neg pe_int) (fun _ _ => rfl)) pe_int (fun _ _ => rfl)) pe_non) (nomark _)) (pss_one (ps_ret pe_bl)) (pss_nil)) (pss_one (ps_for PassesOwn.never rfl (pi_range1 (by rfl) fx.range_ (pa_cons pe_int pa_nil)) (pg_name (i := 6) sc__law_paths_right.nd rfl (by first | exact .inl rfl | exact .inr rfl)) (pss_one (ps_if (pt_cmpR (xNe K hr.units) (pe_m_Over_shows fx fy (hr.mono (by decide)) (pe_mk_Over fx fy (hr.mono (by decide)) (by rfl) (pa_cons (pv 4) pa_nil)) (pa_cons (pv 2) (pa_cons (pv 6) pa_nil))) (pe_and (pe_cmpR op_notNo (pv 5) pe_non (nomark _)) (pe_one (pe_cmpR op_gt (pe_ix (xIx P w K hr.units) (pe_ix (xIx P w K hr.units) (pv 5) (pe_un un_neg pe_int) (fun _ _ => rfl)) pe_int (fun _ _ => rfl)) (pv 6) (nomark _)))) (nomark _)) (pss_one (ps_ret pe_bl)) (pss_nil))))))))) (pss_one (ps_ret (pe_and (pe_cmpR op_isNo (pe_m_Way_end fx fy (hr.mono (by decide)) (pe_mk_Way fx fy (hr.mono (by decide)) (by rfl) (pa_cons (pe_tup (pa_nil)) pa_nil)) (pa_cons (pv 2) pa_nil)) pe_non (nomark _)) (pe_one (pe_not (pe_m_Over_shows fx fy (hr.mono (by decide)) (pe_mk_Over fx fy (hr.mono (by decide)) (by rfl) (pa_cons (pe_tup (pa_cons pe_int pa_nil)) pa_nil)) (pa_cons (pv 2) (pa_cons pe_int pa_nil))))))))), ?_⟩
  obtain ⟨⟨ns, p⟩, ⟨hns, hp⟩, hAll, q⟩ := h
  have hns : ns.length ≤ 63 := hns
  have hp : p.Ok := hp
  have s0 : SOk _ _ H := SOk.entry (N := sc__law_paths_right_N) (As := [aL K (ns.map .num), aD K (plnD p), aPrg K ad p]) hAll
  refine st_range1 (K := K) (n := 6) (ea_one ev_int) s0 (by decide) (fun i σ' H' => SOk [some (aL K (ns.map .num)), some (aD K (plnD p)), some (aPrg K ad p), none, none, none, none] σ' H' ∧ Ex H H') ?_ ?_ ?_
  · exact fun H1 e1 => ⟨(s0.ex e1).gle (by walk_at "gle"), e1⟩
  · rintro i σ' H' hi ⟨s', e'⟩
    have s1 := s'.set 3 (A := aD K (natD i)) (v := .int (i : Nat)) (.int _) (Nat.le_of_ble_eq_true rfl)
    refine st_setX (B := fun path : {path : List Int // path.length ≤ 100} => aD K (.tup (path.1.map .num))) (ev_call (f := spf_somePath K) (ns, p, 900 + 30 * i) (ea_cons (ev_var rfl) (ea_cons (ev_var rfl) (ea_one (ev_lin rfl rfl (by decide) (ev_var rfl))))) ⟨hns, hp⟩) s1 fun ⟨path, hpl⟩ σ2 H2 e2 s2 => ?_
    refine st_set (A := aOL K ((walkP p path).map fun l : List SG => l.map encSGi)) (ev_lwalk hp (by omega) (ev_var rfl) (ev_var rfl)) s2 fun σ3 H3 e3 s3 => ?_
    have s3' : SOk [some (aL K (ns.map .num)), some (aD K (plnD p)), some (aPrg K ad p), none, some (aD K (.tup (path.map .num))), some (aOL K ((walkP p path).map fun l : List SG => l.map encSGi)), none] σ3 H3 := s3.gle (by walk_at "gle")
    have eEnd : ∀ {H'}, EvG (tIf (tTest (tOp rNotNo (tVar 5) (tC .non))) (tOp (rIxU P w K) (tOp (rIxU P w K) (tVar 5) (tUn (rU fun i => .int (-i)) (tC (.int 1)))) (tC (.int 0))) (tC .non)) [some (aL K (ns.map .num)), some (aD K (plnD p)), some (aPrg K ad p), none, some (aD K (.tup (path.map .num))), some (aOL K ((walkP p path).map fun l : List SG => l.map encSGi)), none] H' (aD K (endD p path)) := by
      intro H'
      unfold endD
      cases hw : walkP p path with
      | none => exact ev_ifF (et_test (ev_notNV (A := aV .non) (ev_var rfl) noV_N)) rfl ev_non
      | some l => exact ev_ifT (et_test (ev_notNV (A := aL K (l.map encSGi)) (ev_var rfl) noV_L)) rfl (ev_ixT (ev_ixL (ev_var (A := aL K (l.map encSGi)) rfl) (ev_neg ev_int) (lastW_at (walk_ne hw))) ev_int rfl)
    refine st_if (b := false) (et_is (et_test (ev_ne (ev_meth (f := spf_wayEnd K ad) (p, path) (ev_mkWay fy (ev_var rfl)) (fun v H' ⟨a, dx, pv, h1, h2, _⟩ => ⟨a, dx, _, h1, h2, rfl⟩) (ea_one (ev_var rfl)) rfl ⟨hp, by show path.length < 50000; omega⟩) eEnd (lay_end p path) (lay_end p path))) (by simp)) s3' (fun z => by cases z) fun _ H4 e4 s4 => ?_
    have e04 := ((e'.trans e2).trans e3).trans e4
    refine st_range1 (K := K) (n := 6) (ea_one ev_int) s4 (by decide) (fun j σ' H' => SOk [some (aL K (ns.map .num)), some (aD K (plnD p)), some (aPrg K ad p), none, some (aD K (.tup (path.map .num))), some (aOL K ((walkP p path).map fun l : List SG => l.map encSGi)), none] σ' H' ∧ Ex H H') ?_ ?_ ?_
    · exact fun H5 e5 => ⟨s4.ex e5, e04.trans e5⟩
    · rintro j σ5 H5 hj ⟨s5, e5⟩
      have s6 := s5.set 6 (A := aD K (natD j)) (v := .int (j : Nat)) (.int _) (Nat.le_of_ble_eq_true rfl)
      have s6' : SOk [some (aL K (ns.map .num)), some (aD K (plnD p)), some (aPrg K ad p), none, some (aD K (.tup (path.map .num))), some (aOL K ((walkP p path).map fun l : List SG => l.map encSGi)), some (aD K (natD j))] _ H5 := s6.gle (by walk_at "gle")
      have eOv : ∀ {H'}, EvG (tAndV (tOp rNotNo (tVar 5) (tC .non)) (tOp (rI0 fun i j => .bl (decide (i > j))) (tOp (rIxU P w K) (tOp (rIxU P w K) (tVar 5) (tUn (rU fun i => .int (-i)) (tC (.int 1)))) (tC (.int 1))) (tVar 6))) [some (aL K (ns.map .num)), some (aD K (plnD p)), some (aPrg K ad p), none, some (aD K (.tup (path.map .num))), some (aOL K ((walkP p path).map fun l : List SG => l.map encSGi)), some (aD K (natD j))] H' (aB (overB p path j)) := by
        intro H'
        unfold overB
        cases hw : walkP p path with
        | none => exact ev_isB (ev_andV (c := true) (ev_notNV (A := aV .non) (ev_var rfl) noV_N) fun z => by cases z) rfl
        | some l => exact ev_isB (ev_andV (ev_notNV (A := aL K (l.map encSGi)) (ev_var rfl) noV_L) fun _ => ev_cmpI (K := K) (ev_ixT (ev_ixL (ev_var (A := aL K (l.map encSGi)) rfl) (ev_neg ev_int) (lastW_at (walk_ne hw))) ev_int rfl) (ev_var rfl)) rfl
      refine st_if (b := false) (et_is (et_test (ev_neB (ev_meth (f := spf_overShows K ad) (p, path, (j : Nat)) (ev_mkOver (ev_var rfl)) (fun v H' ⟨a, dx, pv, h1, h2, _⟩ => ⟨a, dx, _, h1, h2, rfl⟩) (ea_cons (ev_var rfl) (ea_one (ev_var rfl))) rfl ⟨hp, by show path.length < 50000; omega, by show (0 : Int) ≤ (j : Nat); omega⟩) eOv)) (by simp)) s6' (fun z => by cases z) fun _ H7 e7 s7 => ?_
      exact ⟨s7.gle (by walk_at "gle"), e5.trans e7⟩
    · rintro σ5 H5 ⟨s5, e5⟩
      exact ⟨s5.gle (by walk_at "gle"), e5⟩
  · rintro σ' H' ⟨s', e'⟩
    dsimp only
    have o1 : overB p [1] 0 = false := rfl
    refine st_ret (A := aB true) (ev_isB (ev_andV (c := true) (ev_isN (d := endD p []) (ev_meth (f := spf_wayEnd K ad) (p, []) (ev_mkWay fy ev_t0) (fun v H' ⟨a, dx, pv, h1, h2, _⟩ => ⟨a, dx, _, h1, h2, rfl⟩) (ea_one (ev_var rfl)) rfl ⟨hp, by show 0 < 50000; decide⟩)) fun _ => ev_isB (ev_notV (ev_meth (f := spf_overShows K ad) (p, [1], 0) (ev_mkOver (ev_tup (ed_cons ev_int ed_nil) (by show 1 ≤ 100000; decide))) (fun v H' ⟨a, dx, pv, h1, h2, _⟩ => ⟨a, dx, _, h1, h2, rfl⟩) (ea_cons (ev_var rfl) (ea_one ev_int)) rfl ⟨hp, by show 1 < 50000; decide, by show (0 : Int) ≤ 0; decide⟩)) rfl) rfl) s' fun v H9 e9 p9 => ?_
    exact q v H9 (e'.trans e9) p9
def spf_ringsR (P : Program) (w : World) (K : PySem.W.Frag) (ad : Ads) : Spf (List Int × Pln × List Stand) := ⟨fun x => [aL K (x.1.map .num), aD K (plnD x.2.1), aPrg K ad x.2.1, aRw P w K x.2.1 x.2.2, aRd P w K x.2.1 x.2.2], fun x => x.1.length ≤ 63 ∧ x.2.1.Ok ∧ Expl x.2.1 x.2.2, fun _ => aB true⟩
/-- a path and a ring -/
def OkD (d : D) : Prop := ∃ path ring : List Int, d = .tup [.tup (path.map .num), .tup (ring.map .num)] ∧ path.length + ring.length < 1000
theorem ring_n0 (p : Pln) : ringB p [] [0] = false := rfl
theorem ring_n1 (p : Pln) : ringB p [0] [] = false := rfl
abbrev sc__law_rings_right_N : List Str := ["_law_script", "_law_plain_here", "_law_program", "_law_rows", "_law_roads_here", "_law_stands_here", "_law_found", "_law_turn", "_law_path", "_law_ring", "_law_seed", "_law_stand_here", "_law_more", "_law_some"]
theorem sc__law_rings_right : FnScope ["_law_script", "_law_plain_here", "_law_program", "_law_rows", "_law_roads_here", "_law_stands_here", "_law_found", "_law_turn", "_law_path", "_law_ring", "_law_seed", "_law_stand_here", "_law_more", "_law_some"] ["_law_script", "_law_plain_here", "_law_program", "_law_rows", "_law_roads_here"] (defScope (topS 68)) := ⟨rfl, rfl, rfl, by decide +kernel, rfl, by decide +kernel, by decide +kernel⟩
theorem ok__law_rings_right {P : Program} {w : World} {K : PySem.W.Frag} {mg : Str → Option Value} {base : Heap} {ad : Ads} (fx : Fx K mg ad) (fy : Fy w K mg ad) : Ok P w K mg base CX0 10 "_law_rings_right" ["_law_script", "_law_plain_here", "_law_program", "_law_rows", "_law_roads_here"] ((spf_ringsR P w K ad).sp) := by
  refine fx.d__law_rings_right.ok sc__law_rings_right (fun _ _ _ _ _ _ us hl => match us, hl with | [_, _, _, _, _], _ => rfl) (Spf.len fun _ => rfl) fun f cdv A outer s H vs Q E hr hcd h => ?_
  refine ⟨_, PSs.nox (pss_cons (ps_par (i := 5) (j := 6) (by rfl) sc__law_rings_right.nd rfl rfl (by decide) rfl rfl (pa_cons (pe_callTy (xList P w K rfl) (by rfl) fx.list_ (by decide +kernel) (pa_cons (pv 4) pa_nil)) (pa_cons (pe_lst (pa_nil)) pa_nil)) (by rfl)) (pss_cons (ps_for PassesOwn.never rfl (pi_range1 (by rfl) fx.range_ (pa_cons pe_int pa_nil)) (pg_name (i := 7) sc__law_rings_right.nd rfl (by first | exact .inl rfl | exact .inr rfl)) (pss_cons (ps_set (i := 10) sc__law_rings_right.nd rfl (by first | exact .inl rfl | exact .inr rfl) (pe_callD (ok__law_number (P := P) (w := w) (base := base) fx) (hr.mono (by decide)) (by rfl) (pa_cons (pv 0) (pa_cons (pe_op (xAdd K) pe_int (pv 7)) pa_nil)))) (pss_cons (ps_set (i := 8) sc__law_rings_right.nd rfl (by first | exact .inl rfl | exact .inr rfl) (pe_ix (xIx P w K hr.units) (pv 4) (pe_ix (xIx P w K hr.units) (pv 5) (pe_op op_mod (pe_callTy call_intU (by rfl) fx.int_ (by decide +kernel) (pa_cons (pv 10) pa_nil)) (pe_callB (xLen P w K) (by rfl) fx.len_ (by decide +kernel) (pa_cons (pv 5) pa_nil))) (fun _ _ => rfl)) (fun _ _ => rfl))) (pss_cons (ps_par (i := 9) (j := 11) (by rfl) sc__law_rings_right.nd rfl rfl (by decide) rfl rfl (pa_cons (pe_tup (pa_nil)) (pa_cons (pe_ix (xIx P w K hr.units) (pe_ix (xIx P w K hr.units) (pe_callD (ok__law_walk (P := P) (w := w) (base := base) fx) (hr.mono (by decide)) (by rfl) (pa_cons (pv 1) (pa_cons (pv 8) pa_nil))) (pe_un un_neg pe_int) (fun _ _ => rfl)) pe_int (fun _ _ => rfl)) pa_nil)) (by rfl)) (pss_one (ps_for PassesOwn.never rfl (pi_range1 (by rfl) fx.range_ (pa_cons (pe_op (xAdd K) pe_int (pe_op op_mod (pe_callTy call_intU (by rfl) fx.int_ (by decide +kernel) (pa_cons (pe_op op_fdiv (pv 10) pe_int) pa_nil)) pe_int)) pa_nil)) (pg_name (i := 12) sc__law_rings_right.nd rfl (by first | exact .inl rfl | exact .inr rfl)) (pss_cons (ps_set (i := 13) sc__law_rings_right.nd rfl (by first | exact .inl rfl | exact .inr rfl) (pe_ix (xIx P w K hr.units) (pv 3) (pv 11) (fun _ _ => rfl))) (pss_cons (ps_if (pt_cmpR (xNe K hr.units) (pv 13) (pe_lst (pa_nil)) (nomark _)) (pss_cons (ps_set (i := 11) sc__law_rings_right.nd rfl (by first | exact .inl rfl | exact .inr rfl) (pe_ix (xIx P w K hr.units) (pe_ix (xIx P w K hr.units) (pv 13) (pe_op op_mod (pe_callTy call_intU (by rfl) fx.int_ (by decide +kernel) (pa_cons (pe_op op_fdiv (pe_callD (ok__law_number (P := P) (w := w) (base := base) fx) (hr.mono (by decide)) (by rfl) (pa_cons (pv 0) (pa_cons (pe_op (xAdd K) (pe_op (xAdd K) pe_int (pe_op (xMul K) pe_int (pv 7))) (pv 12)) pa_nil))) pe_int) pa_nil)) (pe_callB (xLen P w K) (by rfl) fx.len_ (by decide +kernel) (pa_cons (pv 13) pa_nil))) (fun _ _ => rfl)) pe_int (fun _ _ => rfl))) (pss_one (ps_set (i := 9) sc__law_rings_right.nd rfl (by first | exact .inl rfl | exact .inr rfl) (pe_op (xAdd K) (pv 9) (pe_tup (pa_cons (pe_ix (xIx P w K hr.units) (pv 11) pe_int (fun _ _ => rfl)) pa_nil)))))) (pss_nil)) (pss_one (ps_expr (xAppend K (pv 6) (pa_cons (pe_tup (pa_cons (pv 8) (pa_cons (pv 9) pa_nil))) pa_nil)))))))))))) (pss_cons (ps_for PassesOwn.never rfl (xSeq K (xStep2 K (pv 6))) (xTg K (n := 2) rfl (pgs_cons (pg_name (i := 8) sc__law_rings_right.nd rfl (by first | exact .inl rfl | exact .inr rfl)) (pgs_cons (pg_name (i := 9) sc__law_rings_right.nd rfl (by first | exact .inl rfl | exact .inr rfl)) pgs_nil))) (pss_one (ps_if (pt_cmpR (xNe K hr.units) (pe_m_NoBound_shows fx fy (hr.mono (by decide)) (pe_mk_NoBound fx fy (hr.mono (by decide)) (by rfl) (pa_cons (pv 8) (pa_cons (pv 9) pa_nil))) (pa_cons (pv 2) pa_nil)) (pe_callD (ok__law_is_ring (P := P) (w := w) (base := base) fx) (hr.mono (by decide)) (by rfl) (pa_cons (pv 1) (pa_cons (pv 8) (pa_cons (pv 9) pa_nil)))) (nomark _)) (pss_one (ps_ret pe_bl)) (pss_nil)))) (pss_one (ps_ret (pe_and (pe_not (pe_m_NoBound_shows fx fy (hr.mono (by decide)) (pe_mk_NoBound fx fy (hr.mono (by decide)) (by rfl) (pa_cons (pe_tup (pa_nil)) (pa_cons (pe_tup (pa_cons pe_int pa_nil)) pa_nil))) (pa_cons (pv 2) pa_nil))) (pe_one (pe_not (pe_m_NoBound_shows fx fy (hr.mono (by decide)) (pe_mk_NoBound fx fy (hr.mono (by decide)) (by rfl) (pa_cons (pe_tup (pa_cons pe_int pa_nil)) (pa_cons (pe_tup (pa_nil)) pa_nil))) (pa_cons (pv 2) pa_nil)))))))))), ?_⟩
  obtain ⟨⟨ns, p, ss⟩, ⟨hns, hp, hex⟩, hAll, q⟩ := h
  have hns : ns.length ≤ 63 := hns
  have hp : p.Ok := hp
  have hex : Expl p ss := hex
  have hAll : AAll [aL K (ns.map .num), aD K (plnD p), aPrg K ad p, aRw P w K p ss, aRd P w K p ss] vs H := hAll
  cases hAll with
  | cons px0 hA =>
  obtain ⟨x1, x2, x3, x4, rfl, px1, px2, ⟨a, rs0, rfl, rw0⟩, rd, rs, rfl, rd0⟩ := aall4 hA
  obtain ⟨sl, sxs, rfl, hsq0, hda0⟩ := px0
  have pS : (aL K (ns.map .num)).p (.ref sl) H := ⟨sl, sxs, rfl, hsq0, hda0⟩
  have rw0 : RwIs P w K H p ss a rs0 := rw0
  have rd0 : RdIs P w K H p ss rd rs := rd0
  have s0 : SOk _ _ H := SOk.entry (N := sc__law_rings_right_N) (As := [aV (.ref sl), aD K (plnD p), aPrg K ad p, aV (.ref a), aV (.ref rd)]) (.cons rfl (.cons px1 (.cons px2 (.cons rfl (.cons rfl .nil)))))
  have ndr : (rs0.map (·.1)).Nodup := by rw [rw0.keys]; exact hex.nd
  have hrl : 0 < rs.length := List.length_pos_iff.mpr rd0.ne
  have hrf := rd0.few
  have hfew := hex.few
  refine st_parN2 (K := K) (B := aL K ((rs.map (·.1)).map encS)) (ev_isL (ev_listDD (ev_ddr (ev_var rfl) rd0.dd.r)) (rdK_keys rs)) (ev_lst ed_nil (Nat.zero_le _)) s0 fun fl σ1 H1 nfl e1 s1 w1 => ?_
  obtain ⟨v5, g5, p5⟩ := s1.at_ 5 (aL K ((rs.map (·.1)).map encS)) rfl
  obtain ⟨st, sts, rfl, hsq5, hda5⟩ := p5
  have s1' : SOk [some (aV (.ref sl)), some (aD K (plnD p)), some (aPrg K ad p), some (aV (.ref a)), some (aV (.ref rd)), some (aV (.ref st)), some (aV (.ref fl)), none, none, none, none, none, none, none] σ1 H1 := (s1.pin g5).gle (by walk_at "gle")
  have hT1 : RL K H1 st ((rs.map (·.1)).map encS) := RL.mk' hsq5 hda5
  have hTn : (rs.map (·.1)).map encS ≠ [] := fun z => by
    have := congrArg List.length z
    rw [List.length_map, List.length_map] at this
    exact absurd this (by simp; exact rd0.ne)
  refine st_range1 (K := K) (n := 5) (ea_one ev_int) s1' (by decide) (fun i σ' H' => ∃ ds : List D, SOk [some (aV (.ref sl)), some (aD K (plnD p)), some (aPrg K ad p), some (aV (.ref a)), some (aV (.ref rd)), some (aV (.ref st)), some (aV (.ref fl)), none, none, none, none, none, none, none] σ' H' ∧ Frs [fl] H1 H' ∧ WL K H' fl ds ∧ (∀ d ∈ ds, OkD d) ∧ ds.length ≤ 12 * i) ?_ ?_ ?_
  · exact fun H2 e2 => ⟨[], s1'.ex e2, .ex e2, WL.ex w1 e2, fun _ h => (by cases h), Nat.zero_le _⟩
  · rintro i σ' H' hi ⟨ds, s', f', wd, hds, hdl⟩
    have e' : Ex H H' := f'.ofNew e1 fun b hb => by rw [List.mem_singleton.mp hb]; exact nfl
    have s2 := s'.set 7 (A := aD K (natD i)) (v := .int (i : Nat)) (.int _) (Nat.le_of_ble_eq_true rfl)
    refine st_set (A := aD K (.num (numP ns ((600 + i : Nat) : Int)))) (ev_call (f := spf_number K) (ns, ((600 + i : Nat) : Int)) (ea_cons (ev_ofV (A := aL K (ns.map .num)) (ev_var rfl) ((aL K _).mono e' pS)) (ea_one (ev_plus rfl (ev_var rfl)))) hns) s2 fun σ3 H3 e3 s3 => ?_
    generalize numP ns ((600 + i : Nat) : Int) = sd at *
    have hm := modN_lt sd hrl
    have hT3 : RL K H3 st ((rs.map (·.1)).map encS) := hT1.frsN (f'.trans (.ex e3)) w1 hTn
    have e03 := e'.trans e3
    have hat : ((rs.map (·.1)).map encS)[modN sd rs.length]? = some (encS rs[modN sd rs.length].1) := by simp [hm]
    have hqm : rs[modN sd rs.length] ∈ rs := List.getElem_mem hm
    have eT : ∀ {G : Gam}, G[5]? = some (some (aV (.ref st))) → EvG (tVar 5) G H3 (aL K ((rs.map (·.1)).map encS)) := fun g => ev_ofV (ev_var g) hT3
    obtain ⟨path, hpd, hpl, l, hw, hlast⟩ := rd0.path _ hqm
    refine st_set (A := aD K (.tup (path.map .num))) (ev_ofV (ev_getDD (ev_ddr (ev_var rfl) (rd0.dd.ex e03).r) (ev_ixL (eT rfl) (ev_modN (ev_int1 (ev_var rfl)) (ev_is (ev_lenL (eT rfl)) (by rw [List.length_map, List.length_map])) hrl) (atD hat)) (isTup_encS _) (dep_encS _) (rdK_get rd0.nd hqm)) (DIs.ex hpd e03)) s3 fun σ4 H4 e4 s4 => ?_
    have hsub : rs[modN sd rs.length].1 ∈ ss := rd0.sub _ (List.mem_map.mpr ⟨_, hqm, rfl⟩)
    generalize rs[modN sd rs.length].1 = sd1 at *
    refine st_par (A := aD K (.tup (([] : List Int).map .num))) (B := aD K (encS sd1)) (ea_cons ev_t0 (ea_one (ev_ixT (ev_ixL (ev_walkS hw hp (by omega) (ev_var rfl) (ev_var rfl)) (ev_neg ev_int) (lastW_at (walk_ne hw))) ev_int (by
      rw [← hlast]
      exact atD (n := 0) rfl)))) s4 fun σ5 H5 e5 s5 => ?_
    have h12 := modN_lt (sd / 50) (n := 12) (by decide)
    have f5 := f'.trans (.ex ((e3.trans e4).trans e5))
    have wd5 := WL.ex wd ((e3.trans e4).trans e5)
    have s5' : SOk [some (aV (.ref sl)), some (aD K (plnD p)), some (aPrg K ad p), some (aV (.ref a)), some (aV (.ref rd)), some (aV (.ref st)), some (aV (.ref fl)), some (aD K (natD i)), some (aD K (.tup (path.map .num))), some (aD K (.tup (([] : List Int).map .num))), some (aD K (.num sd)), some (aD K (encS sd1)), none, none] σ5 H5 := s5.gle (by walk_at "gle")
    refine st_range1 (K := K) (n := 1 + modN (sd / 50) 12) (ea_one (ev_natAdd (m := 1) (ev_int (K := K)) (ev_modL (ev_int1 (ev_fdiv (ev_var rfl) ev_int ⟨by decide, by decide⟩)) ev_int rfl (by decide)))) s5' (by omega) (fun j σ' H' => ∃ (ds : List D) (ring : List Int) (s : Stand), SOk [some (aV (.ref sl)), some (aD K (plnD p)), some (aPrg K ad p), some (aV (.ref a)), some (aV (.ref rd)), some (aV (.ref st)), some (aV (.ref fl)), some (aD K (natD i)), some (aD K (.tup (path.map .num))), some (aD K (.tup (ring.map .num))), some (aD K (.num sd)), some (aD K (encS s)), none, none] σ' H' ∧ Frs [fl] H1 H' ∧ WL K H' fl ds ∧ (∀ d ∈ ds, OkD d) ∧ ds.length ≤ 12 * i + j ∧ ring.length ≤ j ∧ s ∈ ss) ?_ ?_ ?_
    · exact fun H6 e6 => ⟨ds, [], sd1, s5'.ex e6, f5.trans (.ex e6), WL.ex wd5 e6, hds, by omega, Nat.le_refl _, hsub⟩
    · rintro j σ6 H6 hj ⟨ds6, ring, s, s6, f6, wd6, hds6, hdl6, hrl6, hss⟩
      have e06 : Ex H H6 := f6.ofNew e1 fun b hb => by rw [List.mem_singleton.mp hb]; exact nfl
      have s7 := s6.set 12 (A := aD K (natD j)) (v := .int (j : Nat)) (.int _) (Nat.le_of_ble_eq_true rfl)
      have hsok := hex.ok s hss
      obtain ⟨rq, hrq, hrs2⟩ : ∃ rq ∈ rs0, rq.1 = s := by
        rw [← rw0.keys] at hss
        exact List.mem_map.mp hss
      have gr : valV (rwK rs0) (encS s) = some (.ref rq.2) := by rw [← hrs2]; exact rwK_get ndr hrq
      have rl0 : RL K H rq.2 ((afterP p s).map encSG) := by rw [← hrs2]; exact rw0.row rq hrq
      refine st_set (A := aL K ((afterP p s).map encSG)) (ev_ofV (ev_getDD (ev_ddr (ev_var rfl) (rw0.dd.ex e06).r) (ev_var rfl) (isTup_encS _) (dep_encS _) gr) ((aL K _).mono e06 rl0)) s7 fun σ8 H8 e8 s8 => ?_
      have s8' : SOk [some (aV (.ref sl)), some (aD K (plnD p)), some (aPrg K ad p), some (aV (.ref a)), some (aV (.ref rd)), some (aV (.ref st)), some (aV (.ref fl)), some (aD K (natD i)), some (aD K (.tup (path.map .num))), some (aD K (.tup (ring.map .num))), some (aD K (.num sd)), some (aD K (encS s)), some (aD K (natD j)), some (aL K ((afterP p s).map encSG))] σ8 H8 := s8.gle (by walk_at "gle")
      refine st_ifK (et_test (ev_neN (ev_var rfl) (fun x hx => by
        obtain ⟨y, _, rfl⟩ := List.mem_map.mp hx
        exact lay_encSG y))) s8' (fun σ' H' => ∃ (ring : List Int) (s : Stand), SOk [some (aV (.ref sl)), some (aD K (plnD p)), some (aPrg K ad p), some (aV (.ref a)), some (aV (.ref rd)), some (aV (.ref st)), some (aV (.ref fl)), some (aD K (natD i)), some (aD K (.tup (path.map .num))), some (aD K (.tup (ring.map .num))), some (aD K (.num sd)), some (aD K (encS s)), none, none] σ' H' ∧ Ex H6 H' ∧ ring.length ≤ j + 1 ∧ s ∈ ss) (fun hb kk H9 e9 s9 => ?_) (fun hb kk H9 e9 s9 => kk _ _ ⟨ring, s, s9.gle (by walk_at "gle"), e8.trans e9, by omega, hss⟩) ?_
      · have hpos : 0 < (afterP p s).length := by
          cases hq : afterP p s with
          | nil => rw [hq] at hb; cases hb
          | cons _ _ => simp
        have hm9 := modN_lt (numP ns ((620 + 17 * i + j : Nat) : Int) / 3) hpos
        have hnx := hex.next s hss _ (List.getElem_mem hm9)
        refine st_set (A := aD K (encS (afterP p s)[modN (numP ns ((620 + 17 * i + j : Nat) : Int) / 3) (afterP p s).length].1)) (ev_ixT (ev_ixL (ev_var rfl) (ev_modN (ev_int1 (ev_fdiv (ev_call (f := spf_number K) (ns, ((620 + 17 * i + j : Nat) : Int)) (ea_cons (ev_ofV (A := aL K (ns.map .num)) (ev_var rfl) ((aL K _).mono ((e06.trans e8).trans e9) pS)) (ea_one (ev_natAdd (ev_lin rfl rfl (by decide) (ev_var rfl)) (ev_var rfl)))) hns) ev_int ⟨by decide, by decide⟩)) (ev_is (ev_lenL (ev_var rfl)) (by rw [List.length_map])) hpos) (atD (d := encSG (afterP p s)[modN (numP ns ((620 + 17 * i + j : Nat) : Int) / 3) (afterP p s).length]) (by rw [List.getElem?_map, List.getElem?_eq_getElem hm9]; rfl))) ev_int rfl) s9 fun σ10 H10 e10 s10 => ?_
        generalize (afterP p s)[modN (numP ns ((620 + 17 * i + j : Nat) : Int) / 3) (afterP p s).length].1 = s'' at *
        refine st_set (A := aD K (.tup ((ring ++ [(s''.1 : Int)]).map .num))) (ev_is (ev_catT (ev_var rfl) (ev_tup (ed_cons (ev_ixT (ev_var rfl) ev_int rfl) ed_nil) (by show 1 ≤ 100000; decide)) (by rw [List.length_map]; show ring.length + 1 ≤ 100000; omega)) (by rw [List.map_append]; rfl)) s10 fun σ11 H11 e11 s11 => ?_
        exact kk _ _ ⟨ring ++ [(s''.1 : Int)], s'', s11.gle (by walk_at "gle"), ((e8.trans e9).trans e10).trans e11, by rw [List.length_append]; simp; omega, hnx⟩
      · rintro σ9 H9 ⟨ring', s'', s9, e9, hrl9, hss9⟩
        refine st_append (K := K) (d := .tup [.tup (path.map .num), .tup (ring'.map .num)]) (ev_var rfl) (ev_tup (ed_cons (ev_var rfl) (ed_cons (ev_var rfl) ed_nil)) (by show 2 ≤ 100000; decide)) s9 (WL.ex wd6 e9) (by omega) (fun H10 f10 s10 w10 => ?_) (by walk_at "gs")
        refine ⟨ds6 ++ [.tup [.tup (path.map .num), .tup (ring'.map .num)]], ring', s'', s10, (f6.trans (.ex e9)).trans f10, w10, fun d hd => ?_, by rw [List.length_append]; simp; omega, hrl9, hss9⟩
        rcases List.mem_append.mp hd with z | z
        · exact hds6 d z
        · rw [List.mem_singleton.mp z]
          exact ⟨path, ring', rfl, by omega⟩
    · rintro σ6 H6 ⟨ds6, ring, s, s6, f6, wd6, hds6, hdl6, hrl6, hss⟩
      exact ⟨ds6, s6.gle (by walk_at "gle"), f6, wd6, hds6, by omega⟩
  · rintro σ' H' ⟨ds, s', f', wd, hds, hdl⟩
    have e' : Ex H H' := f'.ofNew e1 fun b hb => by rw [List.mem_singleton.mp hb]; exact nfl
    dsimp only
    have s'' : SOk [none, some (aD K (plnD p)), some (aPrg K ad p), none, none, none, some (aV (.ref fl)), none, none, none, none, none, none, none] σ' H' := s'.gle (by walk_at "gle")
    refine st_forLX (K := K) (dsf := fun x : {es : List D // ∀ d ∈ es, d ∈ ds} => x.1) (ev_step2 (ev_wl rfl wd)) s'' fun ⟨es, hes⟩ H2 la lx e2 s2 hsq hda => ⟨fun j σ' H' => SOk [none, some (aD K (plnD p)), some (aPrg K ad p), none, none, none, some (aV (.ref fl)), none, none, none, none, none, none, none] σ' H' ∧ Ex H2 H', ⟨s2, Evl.Ex.refl _⟩, fun j σ' H' z => ⟨tle_of_ex z.2, Evl.ex_l z.2 hsq⟩, ?_, ?_⟩
    · rintro j d x σ3 H3 hd ⟨s3, e3⟩ hx3
      obtain ⟨path, ring, rfl, hlen⟩ := hds d (hes d (List.mem_of_getElem? hd))
      refine (tg_tup (vs := sv) (tgs_cons tg_name (tgs_cons tg_name tgs_nil)) rfl) _ σ3 H3 s3 hx3 _ fun σ4 s4 _ => ?_
      have s4' : SOk [none, some (aD K (plnD p)), some (aPrg K ad p), none, none, none, some (aV (.ref fl)), none, some (aD K (.tup (path.map .num))), some (aD K (.tup (ring.map .num))), none, none, none, none] σ4 H3 := s4.gle (by walk_at "gle")
      refine st_if (b := false) (et_is (et_test (ev_neB (ev_meth (f := spf_nbShows K ad) (p, path, ring) (ev_mkNoBound (ea_cons (ev_var rfl) (ea_one (ev_var rfl)))) (fun v H' ⟨a, dx, pv, rv, h1, h2, _⟩ => ⟨a, dx, _, h1, h2, rfl⟩) (ea_one (ev_var rfl)) rfl ⟨hp, by show path.length + ring.length < 50000; omega⟩) (ev_call (f := spf_lring K) (p, path, ring) (ea_cons (ev_var rfl) (ea_cons (ev_var rfl) (ea_one (ev_var rfl)))) ⟨hp, by show path.length + ring.length < 50000; omega⟩))) (by simp)) s4' (fun z => by cases z) fun _ H5 e5 s5 => ?_
      exact ⟨s5.gle (by walk_at "gle"), e3.trans e5⟩
    · rintro σ3 H3 ⟨s3, e3⟩
      dsimp only
      refine st_ret (A := aB true) (ev_isB (ev_andV (c := true) (ev_isB (ev_notV (ev_meth (f := spf_nbShows K ad) (p, [], [0]) (ev_mkNoBound (ea_cons ev_t0 (ea_one (ev_tup (ed_cons ev_int ed_nil) (by show 1 ≤ 100000; decide))))) (fun v H' ⟨a, dx, pv, rv, h1, h2, _⟩ => ⟨a, dx, _, h1, h2, rfl⟩) (ea_one (ev_var rfl)) rfl ⟨hp, by show 0 + 1 < 50000; decide⟩)) (by show (!ringB p [] [0]) = true; rw [ring_n0]; rfl)) fun _ => ev_isB (ev_notV (ev_meth (f := spf_nbShows K ad) (p, [0], []) (ev_mkNoBound (ea_cons (ev_tup (ed_cons ev_int ed_nil) (by show 1 ≤ 100000; decide)) (ea_one ev_t0))) (fun v H' ⟨a, dx, pv, rv, h1, h2, _⟩ => ⟨a, dx, _, h1, h2, rfl⟩) (ea_one (ev_var rfl)) rfl ⟨hp, by show 1 + 0 < 50000; decide⟩)) (by show (!ringB p [0] []) = true; rw [ring_n1]; rfl)) rfl) s3 fun v H9 e9 p9 => ?_
      exact q v H9 (((e'.trans e2).trans e3).trans e9) p9
def spf_mostR (P : Program) (w : World) (K : PySem.W.Frag) (ad : Ads) : Spf (List Int × Pln × List Stand × Hts) := ⟨fun x => [aL K (x.1.map .num), aD K (plnD x.2.1), aPrg K ad x.2.1, aRw P w K x.2.1 x.2.2.1, aDW P w K (hK x.2.2.2), aRd P w K x.2.1 x.2.2.1], fun x => x.1.length ≤ 63 ∧ x.2.1.Ok ∧ Expl x.2.1 x.2.2.1 ∧ x.2.2.2.map (·.1) = x.2.2.1, fun _ => aB true⟩
def numW (p : Pln) (trail : List Int) (sd : Int) : Int := match walkP p trail with
  | none => (sd / 200) % 5
  | some l => (lastW l).2
abbrev sc__law_most_right_N : List Str := ["_law_script", "_law_plain_here", "_law_program", "_law_rows", "_law_sums_here", "_law_roads_here", "_law_turn", "_law_heights", "_law_seed", "_law_path", "_law_trail", "_law_found", "_law_number_here", "_law_most", "_law_said", "_law_answer", "_law_stand_here"]
theorem sc__law_most_right : FnScope ["_law_script", "_law_plain_here", "_law_program", "_law_rows", "_law_sums_here", "_law_roads_here", "_law_turn", "_law_heights", "_law_seed", "_law_path", "_law_trail", "_law_found", "_law_number_here", "_law_most", "_law_said", "_law_answer", "_law_stand_here"] ["_law_script", "_law_plain_here", "_law_program", "_law_rows", "_law_sums_here", "_law_roads_here"] (defScope (topS 67)) := ⟨rfl, rfl, rfl, by decide +kernel, rfl, by decide +kernel, by decide +kernel⟩
theorem ok__law_most_right {P : Program} {w : World} {K : PySem.W.Frag} {mg : Str → Option Value} {base : Heap} {ad : Ads} (fx : Fx K mg ad) (fy : Fy w K mg ad) : Ok P w K mg base CX0 10 "_law_most_right" ["_law_script", "_law_plain_here", "_law_program", "_law_rows", "_law_sums_here", "_law_roads_here"] ((spf_mostR P w K ad).sp) := by
  refine fx.d__law_most_right.ok sc__law_most_right (fun _ _ _ _ _ _ us hl => match us, hl with | [_, _, _, _, _, _], _ => rfl) (Spf.len fun _ => rfl) fun f cdv A outer s H vs Q E hr hcd h => ?_
  refine ⟨_, PSs.nox (pss_cons (ps_for PassesOwn.never rfl (pi_range1 (by rfl) fx.range_ (pa_cons pe_int pa_nil)) (pg_name (i := 6) sc__law_most_right.nd rfl (by first | exact .inl rfl | exact .inr rfl)) (pss_cons (ps_set (i := 7) sc__law_most_right.nd rfl (by first | exact .inl rfl | exact .inr rfl) (pe_callD (ok__law_bent (P := P) (w := w) (base := base) fx) (hr.mono (by decide)) (by rfl) (pa_cons (pv 0) (pa_cons (pe_op (xAdd K) pe_int (pv 6)) (pa_cons (pv 3) (pa_cons (pv 4) pa_nil)))))) (pss_cons (ps_set (i := 8) sc__law_most_right.nd rfl (by first | exact .inl rfl | exact .inr rfl) (pe_callD (ok__law_number (P := P) (w := w) (base := base) fx) (hr.mono (by decide)) (by rfl) (pa_cons (pv 0) (pa_cons (pe_op (xAdd K) pe_int (pv 6)) pa_nil)))) (pss_cons (ps_set (i := 9) sc__law_most_right.nd rfl (by first | exact .inl rfl | exact .inr rfl) (pe_callD (ok__law_some_path (P := P) (w := w) (base := base) fx) (hr.mono (by decide)) (by rfl) (pa_cons (pv 0) (pa_cons (pv 1) (pa_cons (pe_op (xAdd K) pe_int (pe_op (xMul K) pe_int (pv 6))) pa_nil))))) (pss_cons (ps_set (i := 10) sc__law_most_right.nd rfl (by first | exact .inl rfl | exact .inr rfl) (pv 9)) (pss_cons (ps_if (pt_cmpR (xEq K hr.units) (pe_op op_mod (pe_callTy call_intU (by rfl) fx.int_ (by decide +kernel) (pa_cons (pe_op op_fdiv (pv 8) pe_int) pa_nil)) pe_int) pe_int (nomark _)) (pss_one (ps_set (i := 10) sc__law_most_right.nd rfl (by first | exact .inl rfl | exact .inr rfl) (pe_ix (xIx P w K hr.units) (pv 5) (pe_ix (xIx P w K hr.units) (pe_callTy (xList P w K rfl) (by rfl) fx.list_ (by decide +kernel) (pa_cons (pv 5) pa_nil)) (pe_op op_mod (pe_callTy call_intU (by rfl) fx.int_ (by decide +kernel) (pa_cons (pv 8) pa_nil)) (pe_callB (xLen P w K) (by rfl) fx.len_ (by decide +kernel) (pa_cons (pv 5) pa_nil))) (fun _ _ => rfl)) (fun _ _ => rfl)))) (pss_nil)) (pss_cons (ps_set (i := 11) sc__law_most_right.nd rfl (by first | exact .inl rfl | exact .inr rfl) (pe_callD (ok__law_walk (P := P) (w := w) (base := base) fx) (hr.mono (by decide)) (by rfl) (pa_cons (pv 1) (pa_cons (pv 10) pa_nil)))) (pss_cons (ps_set (i := 12) sc__law_most_right.nd rfl (by first | exact .inl rfl | exact .inr rfl) (pe_ifExp (pt_cmpR op_notNo (pv 11) pe_non (nomark _)) (pe_ix (xIx P w K hr.units) (pe_ix (xIx P w K hr.units) (pv 11) (pe_un un_neg pe_int) (fun _ _ => rfl)) pe_int (fun _ _ => rfl)) (pe_op op_mod (pe_callTy call_intU (by rfl) fx.int_ (by decide +kernel) (pa_cons (pe_op op_fdiv (pv 8) pe_int) pa_nil)) pe_int))) (pss_cons (ps_set (i := 13) sc__law_most_right.nd rfl (by first | exact .inl rfl | exact .inr rfl) (pe_callB (xMax K rfl) (by rfl) fx.max_ (by decide +kernel) (pa_cons (pe_op (xAdd K) (pe_lst (pa_cons pe_int pa_nil)) (pe_lock (pe_lc (own := [("_law_stand_here", 16)]) rfl sc__law_most_right.nd (xKeysD P w (pv 7)) (blkOk_by (own := [("_law_stand_here", 16)]) (N := ["_law_script", "_law_plain_here", "_law_program", "_law_rows", "_law_sums_here", "_law_roads_here", "_law_turn", "_law_heights", "_law_seed", "_law_path", "_law_trail", "_law_found", "_law_number_here", "_law_most", "_law_said", "_law_answer", "_law_stand_here"]) (sc := defScope (topS 67)) (by decide +kernel)) (fun _ _ _ _ _ => (pg_name (i := 16) sc__law_most_right.nd rfl (by first | exact .inl rfl | exact .inr rfl))) (fun _ _ _ _ _ => pts_nil) (fun _ _ _ _ _ => pe_callTy call_intU (by rfl) fx.int_ (by decide +kernel) (pa_cons (pe_op (xAdd K) (pe_ix (xIx P w K hr.units) (pv 7) (pv 16) (fun _ _ => rfl)) (pe_callD (ok__law_lost (P := P) (w := w) (base := base) fx) (hr.mono (by decide)) (by rfl) (pa_cons (pv 16) pa_nil))) pa_nil))))) pa_nil))) (pss_one (ps_for PassesOwn.never rfl (xSeq K (pe_tup (pa_cons (pv 12) (pa_cons (pv 13) (pa_cons (pe_op (xAdd K) (pv 13) pe_int) pa_nil))))) (pg_name (i := 14) sc__law_most_right.nd rfl (by first | exact .inl rfl | exact .inr rfl)) (pss_cons (ps_set (i := 15) sc__law_most_right.nd rfl (by first | exact .inl rfl | exact .inr rfl) (pe_mk_AtMost fx fy (hr.mono (by decide)) (by rfl) (pa_cons (pv 14) (pa_cons (pv 10) (pa_cons (pv 7) pa_nil))))) (pss_one (ps_if (pt_cmpR (xNe K hr.units) (pe_m_AtMost_shows fx fy (hr.mono (by decide)) (pv 15) (pa_cons (pv 2) pa_nil)) (pe_callD (ok__law_is_most (P := P) (w := w) (base := base) fx) (hr.mono (by decide)) (by rfl) (pa_cons (pv 1) (pa_cons (pv 14) (pa_cons (pv 10) (pa_cons (pv 7) pa_nil))))) (nomark _)) (pss_one (ps_ret pe_bl)) (pss_nil))))))))))))))) (pss_one (ps_ret pe_bl))), ?_⟩
  obtain ⟨⟨ns, p, ss, hs0⟩, ⟨hns, hp, hex, hk0⟩, hAll, q⟩ := h
  have hns : ns.length ≤ 63 := hns
  have hp : p.Ok := hp
  have hex : Expl p ss := hex
  have hk0 : hs0.map (·.1) = ss := hk0
  have hAll : AAll [aL K (ns.map .num), aD K (plnD p), aPrg K ad p, aRw P w K p ss, aDW P w K (hK hs0), aRd P w K p ss] vs H := hAll
  have s0 : SOk _ _ H := SOk.entry (N := sc__law_most_right_N) hAll
  refine st_range1 (K := K) (n := 8) (ea_one ev_int) s0 (by decide) (fun i σ' H' => SOk [some (aL K (ns.map .num)), some (aD K (plnD p)), some (aPrg K ad p), some (aRw P w K p ss), some (aDW P w K (hK hs0)), some (aRd P w K p ss), none, none, none, none, none, none, none, none, none, none, none] σ' H' ∧ Ex H H') ?_ ?_ ?_
  · exact fun H1 e1 => ⟨(s0.ex e1).gle (by walk_at "gle"), e1⟩
  · rintro i σ' H' hi ⟨s', e'⟩
    have s1 := s'.set 6 (A := aD K (natD i)) (v := .int (i : Nat)) (.int _) (Nat.le_of_ble_eq_true rfl)
    refine st_setX (B := fun x : {hs : Hts // Hok p hs} => aDW P w K (hK x.1)) (ev_call (f := spf_bent P w K) (ns, 200 + i, p, ss, hs0) (ea_cons (ev_var rfl) (ea_cons (ev_plus rfl (ev_var rfl)) (ea_cons (ev_var rfl) (ea_one (ev_var rfl))))) ⟨hns, hp, hex, hk0⟩) s1 fun ⟨hs, hok⟩ σ2 H2 e2 s2 => ?_
    obtain ⟨v7, g7, c, rfl, dd2⟩ := s2.at_ 7 (aDW P w K (hK hs)) rfl
    have s2' : SOk [some (aL K (ns.map .num)), some (aD K (plnD p)), some (aPrg K ad p), some (aRw P w K p ss), some (aDW P w K (hK hs0)), some (aRd P w K p ss), some (aD K (natD i)), some (aV (.ref c)), none, none, none, none, none, none, none, none, none] σ2 H2 := (s2.pin g7).gle (by walk_at "gle")
    refine st_set (A := aD K (.num (numP ns ((230 + i : Nat) : Int)))) (ev_call (f := spf_number K) (ns, ((230 + i : Nat) : Int)) (ea_cons (ev_var rfl) (ea_one (ev_plus rfl (ev_var rfl)))) hns) s2' fun σ3 H3 e3 s3 => ?_
    generalize numP ns ((230 + i : Nat) : Int) = sd at *
    refine st_setX (B := fun path : {path : List Int // path.length ≤ 100} => aD K (.tup (path.1.map .num))) (ev_call (f := spf_somePath K) (ns, p, 300 + 30 * i) (ea_cons (ev_var rfl) (ea_cons (ev_var rfl) (ea_one (ev_lin rfl rfl (by decide) (ev_var rfl))))) ⟨hns, hp⟩) s3 fun ⟨path, hpl⟩ σ4 H4 e4 s4 => ?_
    refine st_set (A := aD K (.tup (path.map .num))) (ev_var rfl) s4 fun σ5 H5 e5 s5 => ?_
    have s5' : SOk [some (aL K (ns.map .num)), some (aD K (plnD p)), some (aPrg K ad p), some (aRw P w K p ss), some (aDW P w K (hK hs0)), some (aRd P w K p ss), none, some (aV (.ref c)), some (aD K (.num sd)), none, some (aD K (.tup (path.map .num))), none, none, none, none, none, none] σ5 H5 := s5.gle (by walk_at "gle")
    have e25 := (e3.trans e4).trans e5
    refine st_ifK (et_test (ev_eqI (ev_mod (ev_int1 (ev_fdiv (ev_var rfl) ev_int ⟨by decide, by decide⟩)) ev_int (by decide)) ev_int)) s5' (fun σ' H' => ∃ trail : List Int, SOk [some (aL K (ns.map .num)), some (aD K (plnD p)), some (aPrg K ad p), some (aRw P w K p ss), some (aDW P w K (hK hs0)), some (aRd P w K p ss), none, some (aV (.ref c)), some (aD K (.num sd)), none, some (aD K (.tup (trail.map .num))), none, none, none, none, none, none] σ' H' ∧ Ex H2 H' ∧ trail.length ≤ 100) (fun hb kk H6 e6 s6 => ?_) (fun hb kk H6 e6 s6 => kk _ _ ⟨path, s6, e25.trans e6, hpl⟩) ?_
    · obtain ⟨v5, g5, rd, rs, rfl, rd6⟩ := s6.at_ 5 (aRd P w K p ss) rfl
      have rd6 : RdIs P w K H6 p ss rd rs := rd6
      have s6' : SOk [some (aL K (ns.map .num)), some (aD K (plnD p)), some (aPrg K ad p), some (aRw P w K p ss), some (aDW P w K (hK hs0)), some (aV (.ref rd)), none, some (aV (.ref c)), some (aD K (.num sd)), none, some (aD K (.tup (path.map .num))), none, none, none, none, none, none] _ H6 := (s6.pin g5).gle (by walk_at "gle")
      have hrl : 0 < rs.length := List.length_pos_iff.mpr rd6.ne
      have hrf := rd6.few
      have hfew := hex.few
      have hm := modN_lt sd hrl
      have hat : ((rs.map (·.1)).map encS)[modN sd rs.length]? = some (encS rs[modN sd rs.length].1) := by simp [hm]
      have hqm : rs[modN sd rs.length] ∈ rs := List.getElem_mem hm
      obtain ⟨tr, hpd, hpl', l, hw, hlast⟩ := rd6.path _ hqm
      refine st_set (A := aD K (.tup (tr.map .num))) (ev_ofV (ev_getDD (ev_ddr (ev_var rfl) rd6.dd.r) (ev_ixL (ev_isL (ev_listDD (ev_ddr (ev_var rfl) rd6.dd.r)) (rdK_keys rs)) (ev_modN (ev_int1 (ev_var rfl)) (ev_is (ev_lenDD (ev_ddr (ev_var rfl) rd6.dd.r)) (by rw [rdK_len])) hrl) (atD hat)) (isTup_encS _) (dep_encS _) (rdK_get rd6.nd hqm)) hpd) s6' fun σ7 H7 e7 s7 => ?_
      obtain ⟨v5', g5', p5'⟩ := s7.at_ 5 (aV (.ref rd)) rfl
      have s7' : SOk [some (aL K (ns.map .num)), some (aD K (plnD p)), some (aPrg K ad p), some (aRw P w K p ss), some (aDW P w K (hK hs0)), some (aRd P w K p ss), none, some (aV (.ref c)), some (aD K (.num sd)), none, some (aD K (.tup (tr.map .num))), none, none, none, none, none, none] σ7 H7 := (s7.to (n := 5) (B := aRd P w K p ss) rfl fun v hv => by
        have ev : v = .ref rd := hv
        rw [ev]
        exact ⟨rd, rs, rfl, rd6.ex e7⟩).gle (by walk_at "gle")
      exact kk _ _ ⟨tr, s7', (e25.trans e6).trans e7, by omega⟩
    rintro σ6 H6 ⟨trail, s6, e26, htl⟩
    refine st_set (A := aOL K ((walkP p trail).map fun l : List SG => l.map encSGi)) (ev_lwalk hp (by omega) (ev_var rfl) (ev_var rfl)) s6 fun σ7 H7 e7 s7 => ?_
    dsimp only
    refine st_set (A := aD K (.num (numW p trail sd))) ?_ s7 fun σ8 H8 e8 s8 => ?_
    · unfold numW
      cases hw : walkP p trail with
      | none => exact ev_ifF (et_test (ev_notNV (A := aV .non) (ev_var rfl) noV_N)) rfl (ev_mod (ev_int1 (ev_fdiv (ev_var rfl) ev_int ⟨by decide, by decide⟩)) ev_int (by decide))
      | some l => exact ev_ifT (et_test (ev_notNV (A := aL K (l.map encSGi)) (ev_var rfl) noV_L)) rfl (ev_ixT (ev_ixL (ev_var (A := aL K (l.map encSGi)) rfl) (ev_neg ev_int) (lastW_at (walk_ne hw))) ev_int rfl)
    generalize numW p trail sd = n1 at *
    have e28 := (e26.trans e7).trans e8
    have dd8 := dd2.ex e28
    have s8' : SOk [some (aL K (ns.map .num)), some (aD K (plnD p)), some (aPrg K ad p), some (aRw P w K p ss), some (aDW P w K (hK hs0)), some (aRd P w K p ss), none, some (aV (.ref c)), none, none, some (aD K (.tup (trail.map .num))), none, some (aD K (.num n1)), none, none, none, none] σ8 H8 := s8.gle (by walk_at "gle")
    obtain ⟨xs, hx, kd⟩ := dd8
    have hvs : ∀ r ∈ hs, valV (hK hs) (encS r.1) = some (.int r.2) := fun r hr => by rw [valV_hK, hget_mem hok.nd hr]; rfl
    have hfewh := hok.few
    dsimp only
    refine st_setX (B := fun n : Int => aD K (.num n)) (ev_max (ns := 0 :: hs.map fun r => r.2 + (wasteP r.1 : Int)) ?_ (by simp)) s8' fun n2 σ9 H9 e9 s9 => ?_
    · have eqn : (0 :: hs.map fun r => r.2 + (wasteP r.1 : Int)).map NestedKey.num = [.num 0] ++ hs.map fun r => .num (r.2 + (wasteP r.1 : Int)) := by rw [List.map_cons, List.map_map]; rfl
      rw [eqn]
      refine en_catNN (ds := [.num 0]) (es := hs.map fun r => .num (r.2 + (wasteP r.1 : Int))) (ev_lst (ed_cons ev_int ed_nil) (by show 1 ≤ 100000; decide)) (en_lock (G1 := [none, none, none, none, none, none, none, some (aV (.ref c)), none, none, none, none, none, none, none, none, none]) c _ hx ddO_mut ddO_lockable ?_ fun od => ?_) (by rw [List.length_map]; show 1 + hs.length ≤ 100000; omega)
      · exact fun σ H1 od s e => SOk.le (s.gle (by walk_at "gle")) (le_lock (e _ _ hx) ddO_lockable) (by walk_at "gl")
      refine en_map (K := K) hs (fun q => encS q.1) _ (fun r => .num (r.2 + (wasteP r.1 : Int))) (ei_keysD (ev_var rfl) upd_same (kd.to (le_lock hx ddO_lockable).t)) (hK_keys hs) (by omega) (fun q _ => tg_name) fun r hr => ?_
      exact ev_int1 (ev_add (ev_to (ev_getDD (ev_ddr (ev_var rfl) (ddr_lock hx kd)) (ev_var rfl) (isTup_encS _) (dep_encS _) (hvs r hr)) fun _ _ z => num_of z) (ev_call (f := spf_llost K) r.1 (ea_one (ev_var rfl)) (SOk1.bx hp (hok.ok r hr))))
    have s9' : SOk [some (aL K (ns.map .num)), some (aD K (plnD p)), some (aPrg K ad p), some (aRw P w K p ss), some (aDW P w K (hK hs0)), some (aRd P w K p ss), none, some (aV (.ref c)), none, none, some (aD K (.tup (trail.map .num))), none, some (aD K (.num n1)), some (aD K (.num n2)), none, none, none] σ9 H9 := s9.gle (by walk_at "gle")
    have e29 := e28.trans e9
    refine st_for (K := K) (ds := [.num n1, .num n2, .num (n2 + 1)]) (it_tup (ev_tup (ed_cons (ev_var rfl) (ed_cons (ev_var rfl) (ed_cons (ev_add (ev_var rfl) ev_int) ed_nil))) (by show 3 ≤ 100000; decide))) s9' fun H10 e10 s10 => ⟨fun j σ' H' => SOk [some (aL K (ns.map .num)), some (aD K (plnD p)), some (aPrg K ad p), some (aRw P w K p ss), some (aDW P w K (hK hs0)), some (aRd P w K p ss), none, some (aV (.ref c)), none, none, some (aD K (.tup (trail.map .num))), none, none, none, none, none, none] σ' H' ∧ Ex H10 H', ⟨s10.gle (by walk_at "gle"), Evl.Ex.refl _⟩, fun j σ' H' z => tle_of_ex z.2, ?_, ?_⟩
    · rintro j d x σ11 H11 H12 hd ⟨s11, e11⟩ e12 hx12
      obtain ⟨n, rfl⟩ : ∃ n, d = .num n := by
        have hm := List.mem_of_getElem? hd
        simp only [List.mem_cons, List.not_mem_nil, or_false] at hm
        rcases hm with rfl | rfl | rfl <;> exact ⟨_, rfl⟩
      have s12 := (s11.ex e12).set 14 (A := aD K (.num n)) hx12 (Nat.le_of_ble_eq_true rfl)
      have s12' : SOk [some (aL K (ns.map .num)), some (aD K (plnD p)), some (aPrg K ad p), some (aRw P w K p ss), some (aDW P w K (hK hs0)), some (aRd P w K p ss), none, some (aV (.ref c)), none, none, some (aD K (.tup (trail.map .num))), none, none, none, some (aD K (.num n)), none, none] _ H12 := s12.gle (by walk_at "gle")
      have dd12 := dd2.ex (((e29.trans e10).trans e11).trans e12)
      have eH : ∀ {G : Gam} {H'}, Ex H12 H' → G[7]? = some (some (aV (.ref c))) → EvG (tVar 7) G H' (aDW P w K (hK hs)) := fun e g => ev_ofV (ev_var g) ⟨c, rfl, dd12.ex e⟩
      refine st_set (A := aAM P w K ad n trail hs) (ev_mkAtMost (ea_cons (ev_var rfl) (ea_cons (ev_var rfl) (ea_one (eH (Evl.Ex.refl _) rfl)))) hok.nd (by omega)) s12' fun σ13 H13 e13 s13 => ?_
      have hpre : p.Ok ∧ trail.length < 50000 ∧ (∀ q ∈ hs, SOk1 p q.1) ∧ (hs.map (·.1)).Nodup ∧ hs.length ≤ 1000 := ⟨hp, by omega, hok.ok, hok.nd, by omega⟩
      refine st_if (b := false) (et_is (et_test (ev_neB (ev_meth (f := spf_amShows P w K ad) (p, n, trail, hs) (ev_var (A := aAM P w K ad n trail hs) rfl) (fun v H' ⟨a, dx, pv, c, h1, h2, _⟩ => ⟨a, dx, _, h1, h2, rfl⟩) (ea_one (ev_var rfl)) rfl hpre) (ev_call (f := spf_lmost P w K) (p, n, trail, hs) (ea_cons (ev_var rfl) (ea_cons (ev_var rfl) (ea_cons (ev_var rfl) (ea_one (eH e13 rfl))))) hpre))) (by simp)) s13 (fun z => by cases z) fun _ H14 e14 s14 => ?_
      exact ⟨s14.gle (by walk_at "gle"), ((e11.trans e12).trans e13).trans e14⟩
    · rintro σ11 H11 ⟨s11, e11⟩
      exact ⟨s11.gle (by walk_at "gle"), (((e'.trans e2).trans e29).trans e10).trans e11⟩
  · rintro σ' H' ⟨s', e'⟩
    dsimp only
    refine st_ret (A := aB true) ev_bl s' fun v H9 e9 p9 => ?_
    exact q v H9 (e'.trans e9) p9
def spf_law (K : PySem.W.Frag) : Spf (List Int) := ⟨fun ns => [aL K (ns.map .num)], fun ns => ns.length ≤ 63, fun _ => aB true⟩
abbrev sc_law_N : List Str := ["_law_script", "_law_by", "_law_plain_here", "_law_rows", "_law_program", "_law_sums_here", "_law_roads_here"]
theorem sc_law : FnScope ["_law_script", "_law_by", "_law_plain_here", "_law_rows", "_law_program", "_law_sums_here", "_law_roads_here"] ["_law_script"] (defScope (topS 70)) := ⟨rfl, rfl, rfl, by decide +kernel, rfl, by decide +kernel, by decide +kernel⟩
theorem ok_law {P : Program} {w : World} {K : PySem.W.Frag} {mg : Str → Option Value} {ad : Ads} (fx : Fx K mg ad) (fy : Fy w K mg ad) : OkB P w K mg CX0 11 "law" ["_law_script"] ((spf_law K).sp) := by
  refine fx.d_law.okB sc_law (fun _ _ _ _ _ _ us hl => match us, hl with | [_], _ => rfl) (Spf.len fun _ => rfl) fun base f cdv A outer s H vs Q E hr hcd h => ?_
  refine ⟨_, PSs.nox (pss_cons (ps_for PassesOwn.never rfl (xSeq K (pe_tup (pa_cons pe_int (pa_cons pe_int pa_nil)))) (pg_name (i := 1) sc_law.nd rfl (by first | exact .inl rfl | exact .inr rfl)) (pss_cons (ps_set (i := 2) sc_law.nd rfl (by first | exact .inl rfl | exact .inr rfl) (pe_callD (ok__law_plain (P := P) (w := w) (base := base) fx) (hr.mono (by decide)) (by rfl) (pa_cons (pv 0) (pa_cons (pv 1) pa_nil)))) (pss_cons (ps_set (i := 3) sc_law.nd rfl (by first | exact .inl rfl | exact .inr rfl) (pe_callD (ok__law_explored (P := P) (w := w) (base := base) fx) (hr.mono (by decide)) (by rfl) (pa_cons (pv 2) (pa_cons pe_int pa_nil)))) (pss_one (ps_if (pt_cmpR op_notNo (pv 3) pe_non (nomark _)) (pss_cons (ps_set (i := 4) sc_law.nd rfl (by first | exact .inl rfl | exact .inr rfl) (pe_mk_Program fx fy (hr.mono (by decide)) (by rfl) (pa_cons (pe_ix (xIx P w K hr.units) (pv 2) pe_int (fun _ _ => rfl)) (pa_cons (pe_ix (xIx P w K hr.units) (pv 2) pe_int (fun _ _ => rfl)) (pa_cons (pe_ix (xIx P w K hr.units) (pv 2) pe_int (fun _ _ => rfl)) pa_nil))))) (pss_cons (ps_par (i := 5) (j := 6) (by rfl) sc_law.nd rfl rfl (by decide) rfl rfl (pa_cons (pe_callD (ok__law_sums (P := P) (w := w) (base := base) fx) (hr.mono (by decide)) (by rfl) (pa_cons (pv 2) (pa_cons (pv 3) pa_nil))) (pa_cons (pe_callD (ok__law_roads (P := P) (w := w) (base := base) fx) (hr.mono (by decide)) (by rfl) (pa_cons (pv 2) (pa_cons (pv 3) pa_nil))) pa_nil)) (by rfl)) (pss_cons (ps_if (pt_not (pt_val (pe_callD (ok__law_paths_right (P := P) (w := w) (base := base) fx fy) (hr.mono (by decide)) (by rfl) (pa_cons (pv 0) (pa_cons (pv 2) (pa_cons (pv 4) pa_nil)))))) (pss_one (ps_ret pe_bl)) (pss_nil)) (pss_cons (ps_if (pt_not (pt_val (pe_callD (ok__law_rings_right (P := P) (w := w) (base := base) fx fy) (hr.mono (by decide)) (by rfl) (pa_cons (pv 0) (pa_cons (pv 2) (pa_cons (pv 4) (pa_cons (pv 3) (pa_cons (pv 6) pa_nil)))))))) (pss_one (ps_ret pe_bl)) (pss_nil)) (pss_one (ps_if (pt_cmpR op_notNo (pv 5) pe_non (nomark _)) (pss_one (ps_if (pt_not (pt_val (pe_callD (ok__law_most_right (P := P) (w := w) (base := base) fx fy) (hr.mono (by decide)) (by rfl) (pa_cons (pv 0) (pa_cons (pv 2) (pa_cons (pv 4) (pa_cons (pv 3) (pa_cons (pv 5) (pa_cons (pv 6) pa_nil))))))))) (pss_one (ps_ret pe_bl)) (pss_nil))) (pss_nil))))))) (pss_nil)))))) (pss_one (ps_ret pe_bl))), ?_⟩
  obtain ⟨ns, hns, hAll, q⟩ := h
  have hns : ns.length ≤ 63 := hns
  have s0 : SOk _ _ H := SOk.entry (N := sc_law_N) (As := [aL K (ns.map .num)]) hAll
  refine st_for (K := K) (ds := [natD 0, natD 120]) (it_tup (ev_tup (ed_cons ev_int (ed_cons ev_int ed_nil)) (by show 2 ≤ 100000; decide))) s0 fun H1 e1 s1 => ⟨fun j σ' H' => SOk [some (aL K (ns.map .num)), none, none, none, none, none, none] σ' H' ∧ Ex H1 H', ⟨s1.gle (by walk_at "gle"), Evl.Ex.refl _⟩, fun j σ' H' z => tle_of_ex z.2, ?_, ?_⟩
  · rintro j d x σ2 H2 H3 hd ⟨s2, e2⟩ e3 hx3
    obtain ⟨by0, rfl⟩ : ∃ n : Nat, d = natD n := by
      have hm := List.mem_of_getElem? hd
      simp only [List.mem_cons, List.not_mem_nil, or_false] at hm
      rcases hm with rfl | rfl <;> exact ⟨_, rfl⟩
    have s3 := (s2.ex e3).set 1 (A := aD K (natD by0)) hx3 (Nat.le_of_ble_eq_true rfl)
    refine st_setX (B := fun p : {p : Pln // p.Ok} => aD K (plnD p.1)) (ev_call (f := spf_plain K) (ns, by0) (ea_cons (ev_var rfl) (ea_one (ev_var rfl))) hns) s3 fun ⟨p, hp⟩ σ4 H4 e4 s4 => ?_
    refine st_setX (B := aRwO P w K p) (ev_call (f := spf_explored P w K) p (ea_cons (ev_var rfl) (ea_one ev_int)) hp) s4 fun x σ5 H5 e5 s5 => ?_
    have e25 := (e3.trans e4).trans e5
    cases x with
    | none =>
      refine st_if (b := false) (et_test (ev_notNV (A := aV .non) (ev_var rfl) noV_N)) s5 (fun z => by cases z) fun _ H6 e6 s6 => ?_
      exact ⟨s6.gle (by walk_at "gle"), (e2.trans e25).trans e6⟩
    | some x =>
      obtain ⟨ss, hex⟩ := x
      have hnn : ∀ v H', (aRw P w K p ss).p v H' → decide (v = V.non) = false := fun v H' ⟨a, rs, ev, _⟩ => by rw [ev]; rfl
      refine st_if (b := true) (et_test (ev_notNV (A := aRw P w K p ss) (ev_var rfl) hnn)) s5 (fun _ H6 e6 s6 => ?_) (fun z => by cases z)
      have s6' : SOk [some (aL K (ns.map .num)), none, some (aD K (plnD p)), some (aRw P w K p ss), none, none, none] σ5 H6 := s6.gle (by walk_at "gle")
      refine st_set (A := aPrg K ad p) (ev_mkProgram (ea_cons (ev_ixT (ev_var rfl) ev_int rfl) (ea_cons (ev_ixT (ev_var rfl) ev_int rfl) (ea_one (ev_ixT (ev_var rfl) ev_int rfl)))) hp) s6' fun σ7 H7 e7 s7 => ?_
      refine st_par (A := aX (aHtO P w K ss)) (B := aRd P w K p ss) (ea_cons (ev_call (f := spf_sums P w K) (p, ss) (ea_cons (ev_var rfl) (ea_one (ev_var rfl))) ⟨hp, hex⟩) (ea_one (ev_call (f := spf_roads P w K) (p, ss) (ea_cons (ev_var rfl) (ea_one (ev_var rfl))) ⟨hp, hex⟩))) s7 fun σ8 H8 e8 s8 => ?_
      have s8' : SOk [some (aL K (ns.map .num)), none, some (aD K (plnD p)), some (aRw P w K p ss), some (aPrg K ad p), some (aX (aHtO P w K ss)), some (aRd P w K p ss)] σ8 H8 := s8.gle (by walk_at "gle")
      refine st_if (b := false) (et_not (b := true) (et_B (ev_call (f := spf_pathsR K ad) (ns, p) (ea_cons (ev_var rfl) (ea_cons (ev_var rfl) (ea_one (ev_var rfl)))) ⟨hns, hp⟩))) s8' (fun z => by cases z) fun _ H9 e9 s9 => ?_
      refine st_if (b := false) (et_not (b := true) (et_B (ev_call (f := spf_ringsR P w K ad) (ns, p, ss) (ea_cons (ev_var rfl) (ea_cons (ev_var rfl) (ea_cons (ev_var rfl) (ea_cons (ev_var rfl) (ea_one (ev_var rfl)))))) ⟨hns, hp, hex⟩))) s9 (fun z => by cases z) fun _ H10 e10 s10 => ?_
      have e210 := ((((e2.trans e25).trans e6).trans e7).trans e8).trans (e9.trans e10)
      obtain ⟨y, s10'⟩ := s10.elimX (n := 5) rfl
      cases y with
      | none =>
        refine st_if (b := false) (et_test (ev_notNV (A := aV .non) (ev_var rfl) noV_N)) s10' (fun z => by cases z) fun _ H11 e11 s11 => ?_
        exact ⟨s11.gle (by walk_at "gle"), e210.trans e11⟩
      | some y =>
        obtain ⟨hs0, hk0⟩ := y
        have hnn2 : ∀ v H', (aDW P w K (hK hs0)).p v H' → decide (v = V.non) = false := fun v H' ⟨a, ev, _⟩ => by rw [ev]; rfl
        refine st_if (b := true) (et_test (ev_notNV (A := aDW P w K (hK hs0)) (ev_var rfl) hnn2)) s10' (fun _ H11 e11 s11 => ?_) (fun z => by cases z)
        refine st_if (b := false) (et_not (b := true) (et_B (ev_call (f := spf_mostR P w K ad) (ns, p, ss, hs0) (ea_cons (ev_var rfl) (ea_cons (ev_var rfl) (ea_cons (ev_var rfl) (ea_cons (ev_var rfl) (ea_cons (ev_var rfl) (ea_one (ev_var rfl))))))) ⟨hns, hp, hex, hk0⟩))) s11 (fun z => by cases z) fun _ H12 e12 s12 => ?_
        exact ⟨s12.gle (by walk_at "gle"), (e210.trans e11).trans e12⟩
  · rintro σ2 H2 ⟨s2, e2⟩
    dsimp only
    refine st_ret (A := aB true) ev_bl s2 fun v H9 e9 p9 => ?_
    exact q v H9 ((e1.trans e2).trans e9) p9
namespace Hd
def adK (K : Frag) : Ads := ⟨He.ga K "NAMES", He.ga K "SHAPES", He.ga K "Program", He.ga K "BadPath", He.ga K "HoldError", He.ga K "Way", He.ga K "AtMost", He.ga K "NoBound", He.ga K "Over"⟩
section
variable {K : Frag} {w : World} {h : Heap} {mg : Str → Option Value}
theorem topDef_of (c : He5.SaysA fa fn K) {x : Str} {i : Nat} (j : Nat) (g : mg x = some (.ref (He.ga K x))) (hj : fn[j]? = some (dTop x i) := by rfl) : TopDef K mg x i := by
  obtain ⟨fd, F⟩ := c.def_ j hj
  exact ⟨_, fd, F, g⟩
theorem methD_of (c : He5.SaysA fa fn K) {C m qual : Str} {i k : Nat} (j : Nat) (hj : fn[j]? = some (dMeth C m qual i k) := by rfl) : ∃ fd, MethD K m qual i k (pa K C m) fd := c.def_ j hj
theorem propD_of (c : He5.SaysA fa fn K) {C m qual : Str} {i k : Nat} (j : Nat) (hj : fn[j]? = some (dProp C m qual i k) := by rfl) : ∃ fd, MethD K m qual i k (gt K C m) fd := c.def_ j hj
theorem names_of {a : Addr} (e : namesB K a = true) : KNames K a := by
  unfold namesB at e
  split at e
  · rename_i c its n sl q
    obtain ⟨h1, h2⟩ := He.ba e
    obtain ⟨h3, h4⟩ := He.ba h2
    have ec : c = "tuple" := of_decide_eq_true h1
    subst ec
    exact ⟨⟨_, q, rfl, rfl⟩, fun H => .inr ⟨_, its, n, q, rfl, rfl, of_decide_eq_true h3, He.relAll_ok h4⟩⟩
  · cases e
theorem ins_of {C : Addr} (e : insB K C = true) : InsTy K C := by
  obtain ⟨h1, e⟩ := He.ba e
  obtain ⟨h2, e⟩ := He.ba e
  obtain ⟨h3, e⟩ := He.ba e
  obtain ⟨h4, h5⟩ := He.ba e
  exact ⟨He.eqO_ok h1, He.eqO_ok h2, of_decide_eq_true h3, of_decide_eq_true h4, of_decide_eq_true h5⟩
theorem prop_of {C f : Str} (e : propB K C f = true) : PropOf K (He.ga K C) f (pa K C f) (gt K C f) := by
  obtain ⟨h1, e⟩ := He.ba e
  obtain ⟨h2, e⟩ := He.ba e
  obtain ⟨h3, h4⟩ := He.ba e
  refine ⟨He.eqO_ok h1, He.eqO_ok h2, of_decide_eq_true h3, ?_⟩
  unfold gt
  cases q : PySem.W.recIn K (pa K C f) "property" with
  | none => rw [q] at h4; cases h4
  | some l =>
    cases l with
    | nil => rw [q] at h4; cases h4
    | cons v r =>
      cases v <;> first | exact ⟨r, rfl⟩ | (rw [q] at h4; cases h4)
theorem init_of {C : Addr} {u : Value} (e : initB K C u = true) : InitOf K C u := by
  obtain ⟨h1, e⟩ := He.ba e
  obtain ⟨h2, h3⟩ := He.ba e
  refine ⟨.type "type", h1, He.eqO_ok h2, ?_⟩
  split at h3
  · rename_i v q
    rw [q, of_decide_eq_true h3]
  · cases h3
theorem oex_of {C : Addr} (e : oexB K C = true) : ∃ nm q N bs bm sn sub ab col dd k0 k1 k2 k3 k5, K.lookup C = some (excClassObj nm q C N bs bm true sn sub ab col dd k0 k1 k2 k3 k5 "ValueError.__new__") ∧ PySem.HandSPX.refsVE bm = true := by
  unfold oexB at e
  split at e
  · rename_i c dd cd sl ho
    split at e
    · rename_i C' bm k0 k1 k2 k3 n k5 hm hs
      obtain ⟨h1, e⟩ := He.ba e
      obtain ⟨h2, e⟩ := He.ba e
      obtain ⟨h3, e⟩ := He.ba e
      obtain ⟨h4, e⟩ := He.ba e
      obtain ⟨h5, h6⟩ := He.ba e
      have e1 := of_decide_eq_true h1
      have e2 := of_decide_eq_true h2
      have e3 := of_decide_eq_true h3
      rw [Bool.not_eq_true'] at h4
      subst e1 e2 e3
      obtain ⟨nm, bs, mro, ns, qn, hd, sn, sub, ab, col, del⟩ := cd
      dsimp only at hm h4 h5
      subst hm h4 h5
      have hsl : sl = #[k0, k1, k2, k3, some (.builtin "ValueError.__new__"), k5] := by
        obtain ⟨l⟩ := sl
        simp only at hs
        rw [hs]
      subst hsl
      exact ⟨nm, qn, ns, bs, bm, sn, sub, ab, col, dd, k0, k1, k2, k3, k5, ho, h6⟩
    · cases e
  · cases e
structure ExF (K : Frag) : Prop where
  names : KNames K (He.ga K "NAMES")
  ins : InsTy K (He.ga K "Program")
  p1 : PropOf K (He.ga K "Program") "width" (pa K "Program" "width") (gt K "Program" "width")
  p2 : PropOf K (He.ga K "Program") "many" (pa K "Program" "many") (gt K "Program" "many")
  p3 : PropOf K (He.ga K "Program") "steps" (pa K "Program" "steps") (gt K "Program" "steps")
  i1 : InitOf K (He.ga K "HoldError") (.builtin "ValueError.__init__")
  i2 : InitOf K (He.ga K "Way") (.ref (pa K "Way" "__init__"))
  oex : OexC K (He.ga K "BadPath")
  bi : PySem.W.findIn K (.ref (He.ga K "BadPath")) "__init__" = some (some (.ref (pa K "BadPath" "__init__")))
  bt : PySem.W.typeIn K (.ref (pa K "BadPath" "__init__")) = some (.type "function")
  vals : He.valsB K (He.ga K "SHAPES") (shapeL.map fun p => (p.1, He.Dv.str p.2)) = true
theorem exF_of (e : exB K = true) : ExF K := by
  obtain ⟨h1, e⟩ := He.ba e
  obtain ⟨h2, e⟩ := He.ba e
  obtain ⟨h3, e⟩ := He.ba e
  obtain ⟨h4, e⟩ := He.ba e
  obtain ⟨h5, e⟩ := He.ba e
  obtain ⟨h6, e⟩ := He.ba e
  obtain ⟨h7, e⟩ := He.ba e
  obtain ⟨h8, e⟩ := He.ba e
  obtain ⟨h9, e⟩ := He.ba e
  obtain ⟨h10, e⟩ := He.ba e
  obtain ⟨h11, e⟩ := He.ba e
  obtain ⟨h12, e⟩ := He.ba e
  obtain ⟨h13, e⟩ := He.ba e
  obtain ⟨h14, h15⟩ := He.ba e
  exact ⟨names_of h1, ins_of h2, prop_of h3, prop_of h4, prop_of h5, init_of h6, init_of h7, ⟨oex_of h8, He.eqO_ok h9, of_decide_eq_true h10, of_decide_eq_true h11, h12⟩, He.eqO_ok h13, of_decide_eq_true h14, h15⟩
theorem says_a (e : obsS K = valS w) : He5.SaysA fa fn K := congrArg (fun z : AlS => z.1) e
theorem says_x (e : obsS K = valS w) : ExF K := exF_of (congrArg (fun z : AlS => z.2.1) e)
theorem says_d (e : obsS K = valS w) : ∃ es n, KDict K w (He.ga K "SHAPES") es n := He.dicW_ok (congrArg (fun z : AlS => z.2.2) e)
theorem made_of (c : He5.SaysA fa fn K) {C qual : Str} {i : Nat} (j : Nat) (hm : (He.Fa.mkr C).ok K = true) (hj : fn[j]? = some (dMeth C "__init__" qual i 0) := by rfl) : MadeBy K (He.ga K C) qual i := by
  obtain ⟨fd, F⟩ := methD_of c j hj
  exact ⟨_, fd, He.mkr_ok hm, F⟩
theorem hasM_of (c : He5.SaysA fa fn K) {C m qual : Str} {i k : Nat} (j : Nat) (hm : (He.Fa.meth C m).ok K = true) (hj : fn[j]? = some (dMeth C m qual i k) := by rfl) : HasM K (He.ga K C) m qual i k := by
  obtain ⟨fd, F⟩ := methD_of c j hj
  exact ⟨_, fd, He.meth_ok hm, F⟩
theorem propFx_of (c : He5.SaysA fa fn K) {C m qual : Str} {i k : Nat} (j : Nat) (hp : PropOf K (He.ga K C) m (pa K C m) (gt K C m)) (hj : fn[j]? = some (dProp C m qual i k) := by rfl) : PropFx K (He.ga K C) m qual i k := by
  obtain ⟨fd, F⟩ := propD_of c j hj
  exact ⟨_, _, fd, hp, F⟩
theorem fx_of (X : K.In h) (G : h.Ns mainGlobals mg) (e : obsS K = valS w) : Fx K mg (adK K) := by
  have c := says_a e
  have x := says_x e
  exact {
    len_ := He.free_ok X G (c.fact 0 (f := .free "len") rfl)
    list_ := He.free_ok X G (c.fact 1 (f := .free "list") rfl)
    tuple_ := He.free_ok X G (c.fact 2 (f := .free "tuple") rfl)
    int_ := He.free_ok X G (c.fact 3 (f := .free "int") rfl)
    min_ := He.free_ok X G (c.fact 4 (f := .free "min") rfl)
    sum_ := He.free_ok X G (c.fact 5 (f := .free "sum") rfl)
    any_ := He.free_ok X G (c.fact 6 (f := .free "any") rfl)
    all_ := He.free_ok X G (c.fact 7 (f := .free "all") rfl)
    max_ := He.free_ok X G (c.fact 8 (f := .free "max") rfl)
    sorted_ := He.free_ok X G (c.fact 9 (f := .free "sorted") rfl)
    dict_ := He.free_ok X G (c.fact 10 (f := .free "dict") rfl)
    isinstance_ := He.free_ok X G (c.fact 11 (f := .free "isinstance") rfl)
    range_ := He.free_ok X G (c.fact 12 (f := .free "range") rfl)
    enumerate_ := He.free_ok X G (c.fact 13 (f := .free "enumerate") rfl)
    zip_ := He.free_ok X G (c.fact 14 (f := .free "zip") rfl)
    str_ := He.free_ok X G (c.fact 15 (f := .free "str") rfl)
    bool_ := He.free_ok X G (c.fact 16 (f := .free "bool") rfl)
    d_is_integer := topDef_of c 0 (He.glo_ok X G (c.fact 19 (f := .glo "is_integer") rfl))
    d_fits := topDef_of c 1 (He.glo_ok X G (c.fact 20 (f := .glo "fits") rfl))
    d_is_step := topDef_of c 2 (He.glo_ok X G (c.fact 21 (f := .glo "is_step") rfl))
    d_check_program := topDef_of c 3 (He.glo_ok X G (c.fact 22 (f := .glo "check_program") rfl))
    d_size_of := topDef_of c 4 (He.glo_ok X G (c.fact 23 (f := .glo "size_of") rfl))
    d_is_whole := topDef_of c 5 (He.glo_ok X G (c.fact 24 (f := .glo "is_whole") rfl))
    d_fresh := topDef_of c 6 (He.glo_ok X G (c.fact 25 (f := .glo "fresh") rfl))
    d_part := topDef_of c 7 (He.glo_ok X G (c.fact 26 (f := .glo "part") rfl))
    d_joined := topDef_of c 8 (He.glo_ok X G (c.fact 27 (f := .glo "joined") rfl))
    d_shelved := topDef_of c 9 (He.glo_ok X G (c.fact 28 (f := .glo "shelved") rfl))
    d_made := topDef_of c 10 (He.glo_ok X G (c.fact 29 (f := .glo "made") rfl))
    d_act := topDef_of c 11 (He.glo_ok X G (c.fact 30 (f := .glo "act") rfl))
    d_settled := topDef_of c 12 (He.glo_ok X G (c.fact 31 (f := .glo "settled") rfl))
    d_turns := topDef_of c 13 (He.glo_ok X G (c.fact 32 (f := .glo "turns") rfl))
    d_start_of := topDef_of c 14 (He.glo_ok X G (c.fact 33 (f := .glo "start_of") rfl))
    d_after := topDef_of c 15 (He.glo_ok X G (c.fact 34 (f := .glo "after") rfl))
    d_waste_of := topDef_of c 16 (He.glo_ok X G (c.fact 35 (f := .glo "waste_of") rfl))
    d_is_clear := topDef_of c 17 (He.glo_ok X G (c.fact 36 (f := .glo "is_clear") rfl))
    d_later_of := topDef_of c 18 (He.glo_ok X G (c.fact 37 (f := .glo "later_of") rfl))
    d_followed := topDef_of c 19 (He.glo_ok X G (c.fact 38 (f := .glo "followed") rfl))
    d_walked := topDef_of c 20 (He.glo_ok X G (c.fact 39 (f := .glo "walked") rfl))
    d_are_heights := topDef_of c 21 (He.glo_ok X G (c.fact 40 (f := .glo "are_heights") rfl))
    d_check_limit := topDef_of c 22 (He.glo_ok X G (c.fact 41 (f := .glo "check_limit") rfl))
    d__law_number := topDef_of c 23 (He.glo_ok X G (c.fact 42 (f := .glo "_law_number") rfl))
    d__law_step := topDef_of c 24 (He.glo_ok X G (c.fact 43 (f := .glo "_law_step") rfl))
    d__law_written := topDef_of c 25 (He.glo_ok X G (c.fact 44 (f := .glo "_law_written") rfl))
    d__law_plain := topDef_of c 26 (He.glo_ok X G (c.fact 45 (f := .glo "_law_plain") rfl))
    d__law_fresh := topDef_of c 27 (He.glo_ok X G (c.fact 46 (f := .glo "_law_fresh") rfl))
    d__law_box := topDef_of c 28 (He.glo_ok X G (c.fact 47 (f := .glo "_law_box") rfl))
    d__law_is_whole := topDef_of c 29 (He.glo_ok X G (c.fact 48 (f := .glo "_law_is_whole") rfl))
    d__law_joined := topDef_of c 30 (He.glo_ok X G (c.fact 49 (f := .glo "_law_joined") rfl))
    d__law_do := topDef_of c 31 (He.glo_ok X G (c.fact 50 (f := .glo "_law_do") rfl))
    d__law_stand := topDef_of c 32 (He.glo_ok X G (c.fact 51 (f := .glo "_law_stand") rfl))
    d__law_after := topDef_of c 33 (He.glo_ok X G (c.fact 52 (f := .glo "_law_after") rfl))
    d__law_first := topDef_of c 34 (He.glo_ok X G (c.fact 53 (f := .glo "_law_first") rfl))
    d__law_lost := topDef_of c 35 (He.glo_ok X G (c.fact 54 (f := .glo "_law_lost") rfl))
    d__law_is_clear := topDef_of c 36 (He.glo_ok X G (c.fact 55 (f := .glo "_law_is_clear") rfl))
    d__law_walk := topDef_of c 37 (He.glo_ok X G (c.fact 56 (f := .glo "_law_walk") rfl))
    d__law_explored := topDef_of c 38 (He.glo_ok X G (c.fact 57 (f := .glo "_law_explored") rfl))
    d__law_sums := topDef_of c 39 (He.glo_ok X G (c.fact 58 (f := .glo "_law_sums") rfl))
    d__law_are_heights := topDef_of c 40 (He.glo_ok X G (c.fact 59 (f := .glo "_law_are_heights") rfl))
    d__law_is_most := topDef_of c 41 (He.glo_ok X G (c.fact 60 (f := .glo "_law_is_most") rfl))
    d__law_is_ring := topDef_of c 42 (He.glo_ok X G (c.fact 61 (f := .glo "_law_is_ring") rfl))
    d__law_roads := topDef_of c 43 (He.glo_ok X G (c.fact 62 (f := .glo "_law_roads") rfl))
    d__law_some_path := topDef_of c 44 (He.glo_ok X G (c.fact 63 (f := .glo "_law_some_path") rfl))
    d__law_bent := topDef_of c 45 (He.glo_ok X G (c.fact 64 (f := .glo "_law_bent") rfl))
    d__law_most_right := topDef_of c 46 (He.glo_ok X G (c.fact 65 (f := .glo "_law_most_right") rfl))
    d__law_rings_right := topDef_of c 47 (He.glo_ok X G (c.fact 66 (f := .glo "_law_rings_right") rfl))
    d__law_paths_right := topDef_of c 48 (He.glo_ok X G (c.fact 67 (f := .glo "_law_paths_right") rfl))
    d_law := topDef_of c 49 (He.glo_ok X G (c.fact 68 (f := .glo "law") rfl))
    NAMES := ⟨(He.glo_ok X G (c.fact 69 (f := .glo "NAMES") rfl)), x.names⟩
    MAX_WIDTH := He.int_ok X G (c.fact 17 (f := .int "MAX_WIDTH" 6) rfl)
    MAX_STEPS := He.int_ok X G (c.fact 18 (f := .int "MAX_STEPS" 12) rfl)
    g_Program := (He.glo_ok X G (c.fact 71 (f := .glo "Program") rfl))
    c_program := He.cls_ok (c.fact 78 (f := .cls "Program") rfl)
    n_program := ⟨He.noat_ok (c.fact 83 (f := .noat "Program" "wide") rfl), He.noat_ok (c.fact 84 (f := .noat "Program" "count") rfl), He.noat_ok (c.fact 85 (f := .noat "Program" "rows") rfl)⟩
    t_program := x.ins
    p_width := propFx_of c 60 x.p1
    p_many := propFx_of c 61 x.p2
    p_steps := propFx_of c 62 x.p3
    g_HoldError := (He.glo_ok X G (c.fact 72 (f := .glo "HoldError") rfl))
    i_HoldError := x.i1
    g_BadPath := (He.glo_ok X G (c.fact 73 (f := .glo "BadPath") rfl))
    o_BadPath := x.oex
    n_BadPath := He.noat_ok (c.fact 86 (f := .noat "BadPath" "index") rfl)
    i_BadPath := by
      obtain ⟨fd, F⟩ := methD_of c (C := "BadPath") (m := "__init__") (qual := "BadPath.__init__") (i := 4) (k := 0) 51
      exact ⟨_, fd, x.bi, x.bt, F⟩
    x_BadPath := He.exm_ok (c.fact 103 (f := .exm "BadPath" "BadPath" true) rfl) }
theorem fy_of (X : K.In h) (G : h.Ns mainGlobals mg) (e : obsS K = valS w) : Fy w K mg (adK K) := by
  have c := says_a e
  have x := says_x e
  exact {
    shapes := (He.glo_ok X G (c.fact 70 (f := .glo "SHAPES") rfl))
    dict := says_d e
    vals := fun p hp => by
      obtain ⟨u, h1, t, h2⟩ := He.valsB_ok x.vals (List.mem_map.mpr ⟨p, hp, rfl⟩)
      exact ⟨t, h1.trans (by rw [h2])⟩
    m_program := made_of c 50 (c.fact 94 (f := .mkr "Program") rfl)
    g_way := (He.glo_ok X G (c.fact 74 (f := .glo "Way") rfl))
    g_atMost := (He.glo_ok X G (c.fact 75 (f := .glo "AtMost") rfl))
    g_noBound := (He.glo_ok X G (c.fact 76 (f := .glo "NoBound") rfl))
    g_over := (He.glo_ok X G (c.fact 77 (f := .glo "Over") rfl))
    m_way := made_of c 52 (c.fact 95 (f := .mkr "Way") rfl)
    m_atMost := made_of c 53 (c.fact 96 (f := .mkr "AtMost") rfl)
    m_noBound := made_of c 54 (c.fact 97 (f := .mkr "NoBound") rfl)
    m_over := made_of c 55 (c.fact 98 (f := .mkr "Over") rfl)
    c_way := He.cls_ok (c.fact 79 (f := .cls "Way") rfl)
    c_atMost := He.cls_ok (c.fact 80 (f := .cls "AtMost") rfl)
    c_noBound := He.cls_ok (c.fact 81 (f := .cls "NoBound") rfl)
    c_over := He.cls_ok (c.fact 82 (f := .cls "Over") rfl)
    n_way := He.noat_ok (c.fact 87 (f := .noat "Way" "path") rfl)
    n_atMost := ⟨He.noat_ok (c.fact 88 (f := .noat "AtMost" "path") rfl), He.noat_ok (c.fact 89 (f := .noat "AtMost" "number") rfl), He.noat_ok (c.fact 90 (f := .noat "AtMost" "heights") rfl)⟩
    n_noBound := ⟨He.noat_ok (c.fact 91 (f := .noat "NoBound" "path") rfl), He.noat_ok (c.fact 92 (f := .noat "NoBound" "ring") rfl)⟩
    n_over := He.noat_ok (c.fact 93 (f := .noat "Over" "path") rfl)
    i_way := by
      obtain ⟨fd, F⟩ := methD_of c (C := "Way") (m := "__init__") (qual := "Way.__init__") (i := 36) (k := 0) 52
      exact ⟨_, fd, x.i2, F⟩
    e_way := hasM_of c 56 (c.fact 99 (f := .meth "Way" "end") rfl)
    s_atMost := hasM_of c 57 (c.fact 100 (f := .meth "AtMost" "shows") rfl)
    s_noBound := hasM_of c 58 (c.fact 101 (f := .meth "NoBound" "shows") rfl)
    s_over := hasM_of c 59 (c.fact 102 (f := .meth "Over" "shows") rfl) }
end
end Hd
namespace Hd
theorem run (w : World) : HandSHeadRun.RunEq R (PySem.W.view R.prog [lawIx]) hk ob 6000 loose w := PySem.W.byRow2 "special-get-raises" (P := fun w => HandSHeadRun.RunEq R (PySem.W.view R.prog [lawIx]) hk ob 6000 loose w) run_false run_true w
end Hd
end Slv
open PySem PySem.W PySem.Calls PyProof.Rows
theorem PySem.Challenge.cw_sliverhold_k06_whole_shown_holds : PySem.Challenge.rw_sliverhold_k06_whole_shown.Holds := by
  w_on; o_law
  refine HandSHeadRun.head_any (r := OpenLaw.row PySem.Challenge.rw_sliverhold_k06_whole_shown) (q := view (OpenLaw.row PySem.Challenge.rw_sliverhold_k06_whole_shown).prog [Slv.Hd.lawIx]) (H := Slv.Hd.hk) (ob := Slv.Hd.ob) (M := 6000) (loose := Slv.Hd.loose) (d := HandSHeadRun.topDef (OpenLaw.row PySem.Challenge.rw_sliverhold_k06_whole_shown).prog Slv.Hd.lawIx) (kwd := []) Slv.Hd.ob_eq
    (by kernel_rfl) (fun s => by kernel_rfl) Slv.Hd.run (by kernel_rfl) (by kernel_rfl) (by kernel_rfl) (by rfl) (by first | assumption | decide +kernel) (by decide +kernel) ⟨rfl, rfl, rfl, rfl, rfl, by decide +kernel⟩ ?hw ?hc
  case hw => w_witness2
  case hc =>
    refine L2.walk_ofE (l := PySem.Challenge.rw_sliverhold_k06_whole_shown) (n := 63) (k := 11) (x := "_law_script") (CX := L2.CX0) rfl (by decide) (by kernel_rfl) ⟨rfl, by decide, by decide⟩ ?F (fun _ _ _ _ z => z)
    intro w mg fa h Y G hmg0
    obtain ⟨K, KX, c⟩ := Y
    have hmg : mg ("law" : PySem.Str) = some (.ref fa) := by
      have e : (HandSHeadRun.topDef (OpenLaw.row PySem.Challenge.rw_sliverhold_k06_whole_shown).prog Slv.Hd.lawIx).name = ("law" : PySem.Str) := by kernel_rfl
      rw [← e]
      exact hmg0
    have fx := Slv.Hd.fx_of KX G c
    have fy := Slv.Hd.fy_of KX G c
    obtain ⟨f, fd, F, g, b, b2⟩ := Slv.ok_law (P := (PySem.Challenge.rw_sliverhold_k06_whole_shown).prog) (w := w) fx fy
    have ef : f = fa := by
      have z := g.symm.trans hmg
      cases z; rfl
    subst ef
    refine ⟨K, fd, (Slv.spf_law K).sp, KX, fun s u => b2 s [u] rfl, fun H a ns hl _ hS => ⟨ns, hl, .cons ⟨a, _, rfl, hS, Slv.dall_ints ns⟩ .nil, fun v H' _ p => p⟩, fun base _ _ => F base⟩
