import PyProof.Rows.All
import HandS.ForMost
import HandS.TupAny
import HandS.Exc
import HandS.ExcOwn
import HandS.ExcInit
import HandS.Style
import HandS.Deep
import HandS.WordsExc
import HandS.IsInst
import HandS.Conv
import KE.GoesEnum
import HandS.DictComp
import HandS.Words
import PyProof.Rows.StrMul
import HandS.Small
import HandS.Flow
import Wide.All
import OpenK.AllK
import Wide.FinOn
import KE.KStateDown
import HandS.Defaults
import HandS.Head0
import HandS.Head1
import HandS.Head2
import HandS.HeadEnd
import HandS.HeadHook1
import HandS.HeadHook2
import HandS.ExcIs
import HandS.ExcField
import KE.KExcIs
import HandS.ExcValue
import OpenK.KCls
import PySem.Challenge.RW_downwords_k22_error_fields
set_option Elab.async false
set_option linter.all false
set_option maxRecDepth 100000
set_option maxHeartbeats 1000000
set_option autoImplicit false
namespace AL
open PySem PySem.Spec PyProof.Rows L2

/-! ### data without a heap -/
/-- a dict's key: an int, or a text by its codes -/
abbrev DKey := Sum Int (List Nat)
def mk (l : List Nat) : Str := ⟨l.toArray⟩
def toK : DKey → Key
  | .inl i => .inl i
  | .inr l => .inr (mk l)
theorem mk_inj {l m : List Nat} (h : mk l = mk m) : l = m := by
  have := congrArg (fun s : Str => s.cps.toList) h
  simpa [mk] using this
theorem mk_eq {l m : List Nat} : decide (mk l = mk m) = decide (l = m) := by
  by_cases h : l = m
  · subst h; simp
  · rw [decide_eq_false h, decide_eq_false fun e => h (mk_inj e)]
theorem mk_len (l : List Nat) : (mk l).length = l.length := by simp [mk, Str.length]
theorem mk_app (l m : List Nat) : mk l ++ mk m = mk (l ++ m) := by
  show (⟨_⟩ : Str) = ⟨_⟩
  simp [mk]
theorem mk_of (s : Str) : mk s.cps.toList = s := by simp [mk]
theorem toK_inj : ∀ {a b : DKey}, toK a = toK b → a = b
  | .inl _, .inl _, h => by cases h; rfl
  | .inr _, .inr _, h => by rw [mk_inj (Sum.inr.inj h)]
  | .inl _, .inr _, h => by cases h
  | .inr _, .inl _, h => by cases h
inductive D where
  | non | bl (b : Bool) | int (i : Int) | str (s : List Nat)
  | tup (ds : List D) | lst (ds : List D) | dct (kvs : List (DKey × D))
  | obj (c : String) (fs : List D)
  | opq (k : Nat)
  | exc (c : String) (fs : List D)

/-- the fixed things: the written part, the classes' addresses and fields, the opaque objects -/
structure Ct where
  K : PySem.W.Frag
  cls : String → Addr
  fnm : String → List Str
  tp : Option Addr

mutual
def Rp (C : Ct) (F : Hp) : D → V → Prop
  | .non, v => v = .non
  | .bl b, v => v = .bl b
  | .int i, v => v = .int i
  | .str s, v => v = .str (mk s)
  | .tup ds, v => ∃ a xs, v = .ref a ∧ SqT C.K F a xs ∧ Rps C F ds xs
  | .lst ds, v => ∃ a xs, v = .ref a ∧ F a = some (.lst xs) ∧ Rps C F ds xs
  | .dct kvs, v => ∃ a o vs, v = .ref a ∧ F a = some (.frz o (.dK vs)) ∧ Rpk C F kvs vs
  | .obj c fs, v => ∃ a dx xs, v = .ref a ∧ F a = some (.ins (C.cls c) dx ((C.fnm c).zip xs)) ∧ xs.length = (C.fnm c).length ∧ Rps C F fs xs
  | .opq _, v => ∃ T, C.tp = some T ∧ v = .ref T
  | .exc c fs, v => ∃ a d xs, v = .ref a ∧ F a = some (exo a (C.cls c) d) ∧ (match d with
    | none => fs = []
    | some dx => xs.length = (C.fnm c).length ∧ F dx = some (exd dx ((C.fnm c).zip xs))) ∧ Rps C F fs xs
def Rps (C : Ct) (F : Hp) : List D → List V → Prop
  | [], xs => xs = []
  | d :: ds, xs => ∃ x r, xs = x :: r ∧ Rp C F d x ∧ Rps C F ds r
def Rpk (C : Ct) (F : Hp) : List (DKey × D) → List (Key × V) → Prop
  | [], xs => xs = []
  | (k, d) :: ds, xs => ∃ x r, xs = (toK k, x) :: r ∧ Rp C F d x ∧ Rpk C F ds r
end

theorem Same.seqT {K : PySem.W.Frag} {H H' : Hp} {a : Addr} {xs : List V} (e : Same H H') (h : SqT K H a xs) : SqT K H' a xs := by
  rcases h with (h | ⟨o, h⟩) | h
  · exact .inl (.inl (e _ _ h))
  · exact .inl (.inr ⟨o, e _ _ h⟩)
  · exact .inr h
mutual
theorem Rp.mono {C : Ct} {F F' : Hp} (h : Same F F') : ∀ (d : D) (v : V), Rp C F d v → Rp C F' d v
  | .non, _, x => x
  | .bl _, _, x => x
  | .int _, _, x => x
  | .str _, _, x => x
  | .tup ds, v, x => by
    obtain ⟨a, xs, e, s, r⟩ := x
    exact ⟨a, xs, e, Same.seqT h s, Rps.mono h ds xs r⟩
  | .lst ds, v, x => by
    obtain ⟨a, xs, e, s, r⟩ := x
    exact ⟨a, xs, e, h _ _ s, Rps.mono h ds xs r⟩
  | .dct ds, v, x => by
    obtain ⟨a, o, xs, e, s, r⟩ := x
    exact ⟨a, o, xs, e, h _ _ s, Rpk.mono h ds xs r⟩
  | .obj c fs, v, x => by
    obtain ⟨a, dx, xs, e, s, l, r⟩ := x
    exact ⟨a, dx, xs, e, h _ _ s, l, Rps.mono h fs xs r⟩
  | .opq _, _, x => x
  | .exc c fs, v, x => by
    obtain ⟨a, d, xs, e, s, l, r⟩ := x
    refine ⟨a, d, xs, e, h _ _ s, ?_, Rps.mono h fs xs r⟩
    cases d with
    | none => exact l
    | some dx => exact ⟨l.1, h _ _ l.2⟩
theorem Rps.mono {C : Ct} {F F' : Hp} (h : Same F F') : ∀ (ds : List D) (xs : List V), Rps C F ds xs → Rps C F' ds xs
  | [], _, x => x
  | d :: ds, xs, x => by
    obtain ⟨y, r, e, p, q⟩ := x
    exact ⟨y, r, e, Rp.mono h d y p, Rps.mono h ds r q⟩
theorem Rpk.mono {C : Ct} {F F' : Hp} (h : Same F F') : ∀ (ds : List (DKey × D)) (xs : List (Key × V)), Rpk C F ds xs → Rpk C F' ds xs
  | [], _, x => x
  | (k, d) :: ds, xs, x => by
    obtain ⟨y, r, e, p, q⟩ := x
    exact ⟨y, r, e, Rp.mono h d y p, Rpk.mono h ds r q⟩
end

theorem Rps.append {C : Ct} {F : Hp} : ∀ {ds es : List D} {xs ys : List V}, Rps C F ds xs → Rps C F es ys → Rps C F (ds ++ es) (xs ++ ys)
  | [], _, _, _, h, k => by cases h; exact k
  | _ :: _, _, _, _, h, k => by
    obtain ⟨y, r, rfl, p, q⟩ := h
    exact ⟨y, _, rfl, p, Rps.append q k⟩
theorem Rps.length {C : Ct} {F : Hp} : ∀ {ds : List D} {xs : List V}, Rps C F ds xs → xs.length = ds.length
  | [], _, h => by cases h; rfl
  | _ :: _, _, h => by
    obtain ⟨y, r, rfl, p, q⟩ := h
    rw [List.length_cons, List.length_cons, Rps.length q]
theorem Rps.get {C : Ct} {F : Hp} : ∀ {ds : List D} {xs : List V} {i : Nat} {d : D}, Rps C F ds xs → ds[i]? = some d → ∃ x, xs[i]? = some x ∧ Rp C F d x
  | [], _, i, d, h, e => by simp at e
  | d :: ds, _, 0, _, h, e => by
    obtain ⟨y, r, rfl, p, q⟩ := h
    simp at e; subst e
    exact ⟨y, rfl, p⟩
  | d :: ds, _, i + 1, e', h, e => by
    obtain ⟨y, r, rfl, p, q⟩ := h
    simp at e
    obtain ⟨x, h1, h2⟩ := Rps.get q e
    exact ⟨x, by simpa using h1, h2⟩
theorem Rps.get' {C : Ct} {F : Hp} {ds : List D} {xs : List V} {i : Nat} {x : V} (h : Rps C F ds xs) (e : xs[i]? = some x) : ∃ d, ds[i]? = some d ∧ Rp C F d x := by
  have hi : i < xs.length := (List.getElem?_eq_some_iff.mp e).1
  rw [h.length] at hi
  obtain ⟨y, h1, h2⟩ := h.get (List.getElem?_eq_getElem hi)
  rw [h1] at e
  exact ⟨_, List.getElem?_eq_getElem hi, by cases e; exact h2⟩
theorem Rps.take {C : Ct} {F : Hp} : ∀ (n : Nat) {ds : List D} {xs : List V}, Rps C F ds xs → Rps C F (ds.take n) (xs.take n)
  | 0, _, _, _ => rfl
  | n + 1, [], _, h => by cases h; rfl
  | n + 1, _ :: _, _, h => by
    obtain ⟨y, r, rfl, p, q⟩ := h
    exact ⟨y, _, rfl, p, Rps.take n q⟩
theorem Rps.drop {C : Ct} {F : Hp} : ∀ (n : Nat) {ds : List D} {xs : List V}, Rps C F ds xs → Rps C F (ds.drop n) (xs.drop n)
  | 0, _, _, h => h
  | n + 1, [], _, h => by cases h; rfl
  | n + 1, _ :: _, _, h => by
    obtain ⟨y, r, rfl, p, q⟩ := h
    exact Rps.drop n q
theorem Rps.set {C : Ct} {F : Hp} {e : D} {z : V} (r : Rp C F e z) : ∀ {ds : List D} {xs : List V} (i : Nat), Rps C F ds xs → Rps C F (ds.set i e) (xs.set i z)
  | [], _, _, h => by cases h; rfl
  | _ :: _, _, 0, h => by
    obtain ⟨y, r', rfl, p, q⟩ := h
    exact ⟨z, _, rfl, r, q⟩
  | _ :: _, _, i + 1, h => by
    obtain ⟨y, r', rfl, p, q⟩ := h
    exact ⟨y, _, rfl, p, Rps.set r i q⟩
theorem Rps.reverse {C : Ct} {F : Hp} : ∀ {ds : List D} {xs : List V}, Rps C F ds xs → Rps C F ds.reverse xs.reverse
  | [], _, h => by cases h; rfl
  | _ :: _, _, h => by
    obtain ⟨y, r, rfl, p, q⟩ := h
    rw [List.reverse_cons, List.reverse_cons]
    exact (Rps.reverse q).append ⟨y, [], rfl, p, rfl⟩

/-! ### how heaps grow -/
/-- the tape: a dict of three entries, its cells a frozen list of ints -/
def TapeOk (C : Ct) (F H : Hp) : Prop := ∀ T, C.tp = some T → F T = none ∧ ∃ (A : Addr) (cs : List Int) (pl lf : Int),
  H T = some (.dK [(Sum.inr "cells", V.ref A), (Sum.inr "place", V.int pl), (Sum.inr "left", V.int lf)]) ∧ F A = some (.lst (cs.map V.int)) ∧ cs ≠ [] ∧ cs.length ≤ 63 ∧ 0 ≤ pl
structure Wf (C : Ct) (F H : Hp) : Prop where
  sub : Same F H
  tape : TapeOk C F H
/-- the tape's place -/
def plOf (C : Ct) (H : Hp) : Int := match C.tp with
  | none => 0
  | some T => (match H T with
    | some (.dK [_, (_, .int pl), _]) => pl
    | _ => 0)
theorem plOf_eq {C : Ct} {H H' : Hp} (h : ∀ T, C.tp = some T → H' T = H T) : plOf C H' = plOf C H := by
  unfold plOf
  cases e : C.tp with
  | none => rfl
  | some T => dsimp only; rw [h T e]
/-- how heaps grow, with at most n draws -/
structure Xt (C : Ct) (n : Nat) (F H F' H' : Hp) : Prop where
  frz : Same F F'
  wf : Wf C F' H'
  keep : ∀ b o, C.tp ≠ some b → H b = some o → H' b = some o
  new : ∀ a, H a ≠ none → F' a = F a
  tk : plOf C H' ≤ plOf C H + n
theorem Xt.refl {C : Ct} {F H : Hp} (w : Wf C F H) : Xt C 0 F H F H := ⟨.refl _, w, fun _ _ _ h => h, fun _ _ => rfl, by simp⟩
theorem Xt.le {C : Ct} {n m : Nat} {F H F' H' : Hp} (x : Xt C n F H F' H') (h : n ≤ m) : Xt C m F H F' H' := ⟨x.frz, x.wf, x.keep, x.new, by have := x.tk; omega⟩
theorem Xt.l {C : Ct} {n m : Nat} {F H F' H' : Hp} (x : Xt C n F H F' H') : Xt C (n + m) F H F' H' := x.le (Nat.le_add_right _ _)
theorem Xt.r {C : Ct} {n m : Nat} {F H F' H' : Hp} (x : Xt C m F H F' H') : Xt C (n + m) F H F' H' := x.le (Nat.le_add_left _ _)
theorem Xt.there {C : Ct} {n : Nat} {F H F' H' : Hp} (x : Xt C n F H F' H') {a : Addr} (h : H a ≠ none) : H' a ≠ none := by
  by_cases e : C.tp = some a
  · obtain ⟨_, A, cs, pl, lf, h1, _⟩ := x.wf.tape a e
    rw [h1]; simp
  · cases q : H a with
    | none => exact absurd q h
    | some o => rw [x.keep a o e q]; simp
theorem Xt.trans {C : Ct} {n m : Nat} {F H F1 H1 F2 H2 : Hp} (a : Xt C n F H F1 H1) (b : Xt C m F1 H1 F2 H2) : Xt C (n + m) F H F2 H2 :=
  ⟨a.frz.trans b.frz, b.wf, fun c o n h => b.keep c o n (a.keep c o n h), fun c h => (b.new c (a.there h)).trans (a.new c h), by have := a.tk; have := b.tk; omega⟩
theorem Xt.free {C : Ct} {n : Nat} {F H F' H' : Hp} (x : Xt C n F H F' H') {a : Addr} (h : H' a = none) : H a = none := by
  cases q : H a with
  | none => rfl
  | some o => exact absurd h (x.there (by rw [q]; simp))
/-- a new object that is frozen at once -/
theorem Wf.freeze {C : Ct} {F H : Hp} (w : Wf C F H) {p : Addr} {o : HO} (np : F p = none) (hp : H p = some o) (ht : C.tp ≠ some p) : Wf C (upd F p o) H := by
  refine ⟨fun b u e => ?_, fun T hT => ?_⟩
  · by_cases hb : b = p
    · subst hb; rw [upd_same] at e; cases e; exact hp
    · rw [upd_ne hb] at e; exact w.sub b u e
  · obtain ⟨n, A, cs, pl, lf, h1, h2, h3⟩ := w.tape T hT
    refine ⟨by rw [upd_ne (fun z => ht (by rw [← z]; exact hT))]; exact n, A, cs, pl, lf, h1, ?_, h3⟩
    rw [upd_ne (ne_of_none h2 np)]; exact h2
theorem Same.upd {F : Hp} {p : Addr} {o : HO} (np : F p = none) : Same F (upd F p o) := fun b u e => by
  rw [upd_ne (ne_of_none e np)]; exact e
/-- a new object laid -/
theorem Wf.lay {C : Ct} {F H : Hp} (w : Wf C F H) {p : Addr} {o : HO} (np : H p = none) : Wf C F (upd H p o) ∧ F p = none ∧ C.tp ≠ some p := by
  have nT : C.tp ≠ some p := fun e => by
    obtain ⟨_, A, cs, pl, lf, h1, _⟩ := w.tape p e
    rw [np] at h1; cases h1
  have nF : F p = none := w.sub.free np
  refine ⟨⟨fun b u e => ?_, fun T hT => ?_⟩, nF, nT⟩
  · rw [upd_ne (ne_of_none e nF)]; exact w.sub b u e
  · obtain ⟨n, A, cs, pl, lf, h1, h2⟩ := w.tape T hT
    refine ⟨n, A, cs, pl, lf, ?_, h2⟩
    rw [upd_ne (ne_of_none h1 np)]; exact h1
theorem pl_lay {C : Ct} {F H : Hp} (w : Wf C F H) {p : Addr} {o : HO} (np : H p = none) : plOf C (upd H p o) = plOf C H := plOf_eq fun T hT => by
  obtain ⟨_, A, cs, pl, lf, h1, _⟩ := w.tape T hT
  rw [upd_ne (ne_of_none h1 np)]
theorem Xt.lay {C : Ct} {F H : Hp} (w : Wf C F H) {p : Addr} {o : HO} (np : H p = none) : Xt C 0 F H F (upd H p o) :=
  ⟨.refl _, (w.lay np).1, fun b u _ e => by rw [upd_ne (ne_of_none e np)]; exact e, fun _ _ => rfl, by rw [pl_lay w np]; simp⟩
theorem Xt.frz1 {C : Ct} {n : Nat} {F H F1 H1 : Hp} (x : Xt C n F H F1 H1) {p : Addr} {o : HO} (np : H p = none) (nF : F1 p = none) (hp : H1 p = some o) (ht : C.tp ≠ some p) : Xt C n F H (upd F1 p o) H1 :=
  ⟨x.frz.trans (Same.upd nF), x.wf.freeze nF hp ht, x.keep, fun a h => by rw [upd_ne (fun z => h (by rw [z]; exact np))]; exact x.new a h, x.tk⟩
theorem Xt.layF {C : Ct} {F H : Hp} (w : Wf C F H) {p : Addr} {o : HO} (np : H p = none) : Xt C 0 F H (upd F p o) (upd H p o) :=
  (Xt.lay w np).frz1 np (w.lay (o := o) np).2.1 upd_same (w.lay (o := o) np).2.2

/-! ### slots -/
/-- what a slot holds: nothing known, a frozen value, an owned list, an owned dict, an owned instance -/
inductive AS where
  | un | pv (d : D) | ol (ds : List D) | od (kvs : List (DKey × D)) | oi (c : String) (fs : List (Str × D))
/-- an expression's value: frozen, a new list, a new dict; an owned list, dict that is only read -/
inductive R where
  | pv (d : D) | ol (ds : List D) | od (kvs : List (DKey × D)) | bo (ds : List D) | bd (kvs : List (DKey × D)) | bi (c : String) (fs : List (Str × D))

def Rpf (C : Ct) (F : Hp) : List (Str × D) → List (Str × V) → Prop
  | [], xs => xs = []
  | (k, d) :: ds, xs => ∃ x r, xs = (k, x) :: r ∧ Rp C F d x ∧ Rpf C F ds r
theorem Rpf.mono {C : Ct} {F F' : Hp} (h : Same F F') : ∀ (ds : List (Str × D)) (xs : List (Str × V)), Rpf C F ds xs → Rpf C F' ds xs
  | [], _, x => x
  | (k, d) :: ds, xs, x => by
    obtain ⟨y, r, e, p, q⟩ := x
    exact ⟨y, r, e, Rp.mono h d y p, Rpf.mono h ds r q⟩

def ownA (s : AS) (v : Option V) : Option Addr := match s, v with
  | .ol _, some (.ref a) => some a
  | .od _, some (.ref a) => some a
  | .oi _ _, some (.ref a) => some a
  | _, _ => none
def slotOk (C : Ct) (F H : Hp) (s : AS) (v : Option V) : Prop := match s with
  | .un => True
  | .pv d => ∃ x, v = some x ∧ Rp C F d x
  | .ol ds => ∃ a xs, v = some (.ref a) ∧ H a = some (.lst xs) ∧ F a = none ∧ C.tp ≠ some a ∧ Rps C F ds xs
  | .od kvs => ∃ a xs, v = some (.ref a) ∧ H a = some (.dK xs) ∧ F a = none ∧ C.tp ≠ some a ∧ Rpk C F kvs xs
  | .oi c fs => ∃ a dx xs, v = some (.ref a) ∧ H a = some (.ins (C.cls c) dx xs) ∧ F a = none ∧ C.tp ≠ some a ∧ Rpf C F fs xs
theorem slotOk.xt {C : Ct} {n : Nat} {F H F' H' : Hp} (x : Xt C n F H F' H') {s : AS} {v : Option V} (h : slotOk C F H s v) : slotOk C F' H' s v := by
  cases s with
  | un => trivial
  | pv d => obtain ⟨y, e, r⟩ := h; exact ⟨y, e, Rp.mono x.frz _ _ r⟩
  | ol ds => obtain ⟨a, xs, e, h1, h2, h3, r⟩ := h; exact ⟨a, xs, e, x.keep _ _ h3 h1, (x.new a (by rw [h1]; simp)).trans h2, h3, Rps.mono x.frz _ _ r⟩
  | od ds => obtain ⟨a, xs, e, h1, h2, h3, r⟩ := h; exact ⟨a, xs, e, x.keep _ _ h3 h1, (x.new a (by rw [h1]; simp)).trans h2, h3, Rpk.mono x.frz _ _ r⟩
  | oi c fs => obtain ⟨a, dx, xs, e, h1, h2, h3, r⟩ := h; exact ⟨a, dx, xs, e, x.keep _ _ h3 h1, (x.new a (by rw [h1]; simp)).trans h2, h3, Rpf.mono x.frz _ _ r⟩

/-- what may be drawn in all -/
def LIM : Int := 2 ^ 46
/-- the frame: F0, H0 at the def's entry; B its draws in all, n those that are left -/
structure Sat (C : Ct) (B : Nat) (F0 H0 : Hp) (n : Nat) (α : List AS) (F H : Hp) (σ : L2.St) : Prop where
  xt : Xt C B F0 H0 F H
  cr : plOf C H + n ≤ plOf C H0 + B
  lim : plOf C H0 + B ≤ LIM
  len : α.length = σ.length
  ok : ∀ (i : Nat) (s : AS) (v : Option V), α[i]? = some s → σ[i]? = some v → slotOk C F H s v
  apart : ∀ (i j : Nat) (s t : AS) (v u : Option V) (a : Addr), α[i]? = some s → σ[i]? = some v → α[j]? = some t → σ[j]? = some u → ownA s v = some a → ownA t u = some a → i = j
  fresh : ∀ (i : Nat) (s : AS) (v : Option V) (a : Addr), α[i]? = some s → σ[i]? = some v → ownA s v = some a → H0 a = none
section
variable {C : Ct} {B n m : Nat} {F0 H0 F H F' H' : Hp} {α : List AS} {σ : L2.St}
theorem Sat.le (s : Sat C B F0 H0 n α F H σ) (h : m ≤ n) : Sat C B F0 H0 m α F H σ := ⟨s.xt, by have := s.cr; omega, s.lim, s.len, s.ok, s.apart, s.fresh⟩
theorem Sat.l (s : Sat C B F0 H0 (n + m) α F H σ) : Sat C B F0 H0 n α F H σ := s.le (Nat.le_add_right _ _)
theorem Sat.r (s : Sat C B F0 H0 (n + m) α F H σ) : Sat C B F0 H0 m α F H σ := s.le (Nat.le_add_left _ _)
theorem Sat.as {k : Nat} (s : Sat C B F0 H0 (n + m + k) α F H σ) : Sat C B F0 H0 (n + (m + k)) α F H σ := s.le (by omega)
theorem Sat.xtm (s : Sat C B F0 H0 (n + m) α F H σ) (x : Xt C n F H F' H') : Xt C B F0 H0 F' H' :=
  ⟨s.xt.frz.trans x.frz, x.wf, (s.xt.trans x).keep, (s.xt.trans x).new, by have := s.cr; have := x.tk; omega⟩
theorem Sat.xt1 (s : Sat C B F0 H0 n α F H σ) (x : Xt C n F H F' H') : Xt C B F0 H0 F' H' := Sat.xtm (m := 0) s x
theorem Sat.go (s : Sat C B F0 H0 (n + m) α F H σ) (x : Xt C n F H F' H') : Sat C B F0 H0 m α F' H' σ :=
  ⟨s.xtm x, by have := s.cr; have := x.tk; omega, s.lim, s.len, fun i t v h1 h2 => (s.ok i t v h1 h2).xt x, s.apart, s.fresh⟩
theorem Sat.go0 (s : Sat C B F0 H0 n α F H σ) (x : Xt C 0 F H F' H') : Sat C B F0 H0 n α F' H' σ := Sat.go (n := 0) (s.le (by omega)) x
theorem Sat.at (s : Sat C B F0 H0 n α F H σ) {i : Nat} {t : AS} (h : α[i]? = some t) : ∃ v, σ[i]? = some v ∧ slotOk C F H t v := by
  have hi : i < σ.length := by rw [← s.len]; exact (List.getElem?_eq_some_iff.mp h).1
  exact ⟨_, List.getElem?_eq_getElem hi, s.ok i t _ h (List.getElem?_eq_getElem hi)⟩
end
/-- a slot is stored -/
theorem Sat.set {C : Ct} {B n : Nat} {F0 H0 F H : Hp} {α : List AS} {σ : L2.St} (s : Sat C B F0 H0 n α F H σ) {i : Nat} {t : AS} {v : V} (ok : slotOk C F H t (some v)) (hf : ∀ a, ownA t (some v) = some a → H0 a = none)
    (ha : ∀ a, ownA t (some v) = some a → ∀ (j : Nat) (u : AS) (w : Option V), j ≠ i → α[j]? = some u → σ[j]? = some w → ownA u w ≠ some a) : Sat C B F0 H0 n (α.set i t) F H (σ.set i (some v)) := by
  have split : ∀ {j : Nat} {u : AS} {w : Option V}, (α.set i t)[j]? = some u → (σ.set i (some v))[j]? = some w → (j = i ∧ u = t ∧ w = some v) ∨ (j ≠ i ∧ α[j]? = some u ∧ σ[j]? = some w) := fun {j u w} h1 h2 => by
    by_cases hj : j = i
    · subst hj
      have l1 : j < α.length := by
        have := (List.getElem?_eq_some_iff.mp h1).1
        rwa [List.length_set] at this
      rw [List.getElem?_set_self l1] at h1
      rw [List.getElem?_set_self (by rw [← s.len]; exact l1)] at h2
      cases h1; cases h2
      exact .inl ⟨rfl, rfl, rfl⟩
    · rw [List.getElem?_set_ne (Ne.symm hj)] at h1 h2
      exact .inr ⟨hj, h1, h2⟩
  refine ⟨s.xt, s.cr, s.lim, by rw [List.length_set, List.length_set]; exact s.len, fun j u w h1 h2 => ?_, fun j k u u' w w' a h1 h2 h3 h4 o1 o2 => ?_, fun j u w a h1 h2 o => ?_⟩
  · rcases split h1 h2 with ⟨rfl, rfl, rfl⟩ | ⟨_, h1, h2⟩
    · exact ok
    · exact s.ok j u w h1 h2
  · rcases split h1 h2 with ⟨e1, e2, e3⟩ | ⟨n1, k1, k2⟩ <;> rcases split h3 h4 with ⟨f1, f2, f3⟩ | ⟨n2, k3, k4⟩
    · exact e1.trans f1.symm
    · subst e2 e3; exact absurd o2 (ha a o1 k u' w' n2 k3 k4)
    · subst f2 f3; exact absurd o1 (ha a o2 j u w n1 k1 k2)
    · exact s.apart j k u u' w w' a k1 k2 k3 k4 o1 o2
  · rcases split h1 h2 with ⟨rfl, rfl, rfl⟩ | ⟨n1, h1, h2⟩
    · exact hf a o
    · exact s.fresh j u w a h1 h2 o
theorem Sat.setP {C : Ct} {B n : Nat} {F0 H0 F H : Hp} {α : List AS} {σ : L2.St} (s : Sat C B F0 H0 n α F H σ) {i : Nat} {d : D} {v : V} (r : Rp C F d v) : Sat C B F0 H0 n (α.set i (.pv d)) F H (σ.set i (some v)) :=
  s.set ⟨v, rfl, r⟩ (fun a e => by simp [ownA] at e) (fun a e => by simp [ownA] at e)
theorem ownA_ok {C : Ct} {F H : Hp} {s : AS} {v : Option V} {a : Addr} (h : slotOk C F H s v) (o : ownA s v = some a) : v = some (.ref a) ∧ H a ≠ none ∧ F a = none ∧ C.tp ≠ some a := by
  cases s with
  | un => simp [ownA] at o
  | pv d => simp [ownA] at o
  | ol ds => obtain ⟨b, xs, rfl, h1, h2, h3, _⟩ := h; simp [ownA] at o; subst o; exact ⟨rfl, by rw [h1]; simp, h2, h3⟩
  | od ds => obtain ⟨b, xs, rfl, h1, h2, h3, _⟩ := h; simp [ownA] at o; subst o; exact ⟨rfl, by rw [h1]; simp, h2, h3⟩
  | oi c ds => obtain ⟨b, dx, xs, rfl, h1, h2, h3, _⟩ := h; simp [ownA] at o; subst o; exact ⟨rfl, by rw [h1]; simp, h2, h3⟩
end AL

set_option Elab.async false
set_option linter.all false
set_option maxRecDepth 100000
set_option maxHeartbeats 1000000
set_option autoImplicit false
namespace AL
open PySem PySem.Spec PyProof.Rows L2

/-! ### values of expressions -/
structure Ex where
  c : String
  f : Option D
def XV (C : Ct) (F H : Hp) (x : Ex) (cl : Value) (d : Option Addr) : Prop :=
  cl = .ref (C.cls x.c) ∧ match x.f with
    | none => d = none
    | some v => ∃ dx n y, d = some dx ∧ C.fnm x.c = [n] ∧ H dx = some (.xd [(n, y)]) ∧ Rp C F v y

def RV (C : Ct) (H F' H' : Hp) (r : R) (v : V) : Prop := match r with
  | .pv d => Rp C F' d v
  | .ol ds => ∃ p xs, v = .ref p ∧ H' p = some (.lst xs) ∧ F' p = none ∧ H p = none ∧ C.tp ≠ some p ∧ Rps C F' ds xs
  | .od ds => ∃ p xs, v = .ref p ∧ H' p = some (.dK xs) ∧ F' p = none ∧ H p = none ∧ C.tp ≠ some p ∧ Rpk C F' ds xs
  | .bo ds => ∃ p xs, v = .ref p ∧ H' p = some (.lst xs) ∧ F' p = none ∧ C.tp ≠ some p ∧ Rps C F' ds xs
  | .bd ds => ∃ p xs, v = .ref p ∧ H' p = some (.dK xs) ∧ F' p = none ∧ C.tp ≠ some p ∧ Rpk C F' ds xs
  | .bi c fs => ∃ p dx xs, v = .ref p ∧ H' p = some (.ins (C.cls c) dx xs) ∧ F' p = none ∧ C.tp ≠ some p ∧ Rpf C F' fs xs
theorem RV.xt {C : Ct} {n : Nat} {H F1 H1 F2 H2 : Hp} (x : Xt C n F1 H1 F2 H2) {r : R} {v : V} (h : RV C H F1 H1 r v) : RV C H F2 H2 r v := by
  cases r with
  | pv d => exact Rp.mono x.frz _ _ h
  | ol ds => obtain ⟨p, xs, e, h1, h2, h3, h4, r⟩ := h; exact ⟨p, xs, e, x.keep _ _ h4 h1, (x.new p (by rw [h1]; simp)).trans h2, h3, h4, Rps.mono x.frz _ _ r⟩
  | od ds => obtain ⟨p, xs, e, h1, h2, h3, h4, r⟩ := h; exact ⟨p, xs, e, x.keep _ _ h4 h1, (x.new p (by rw [h1]; simp)).trans h2, h3, h4, Rpk.mono x.frz _ _ r⟩
  | bo ds => obtain ⟨p, xs, e, h1, h2, h4, r⟩ := h; exact ⟨p, xs, e, x.keep _ _ h4 h1, (x.new p (by rw [h1]; simp)).trans h2, h4, Rps.mono x.frz _ _ r⟩
  | bd ds => obtain ⟨p, xs, e, h1, h2, h4, r⟩ := h; exact ⟨p, xs, e, x.keep _ _ h4 h1, (x.new p (by rw [h1]; simp)).trans h2, h4, Rpk.mono x.frz _ _ r⟩
  | bi c fs => obtain ⟨p, dx, xs, e, h1, h2, h4, r⟩ := h; exact ⟨p, dx, xs, e, x.keep _ _ h4 h1, (x.new p (by rw [h1]; simp)).trans h2, h4, Rpf.mono x.frz _ _ r⟩
theorem RV.back {C : Ct} {n : Nat} {F H F1 H1 F' H' : Hp} (x : Xt C n F H F1 H1) {r : R} {v : V} (h : RV C H1 F' H' r v) : RV C H F' H' r v := by
  cases r with
  | pv d => exact h
  | ol ds => obtain ⟨p, xs, e, h1, h2, h3, h4, r⟩ := h; exact ⟨p, xs, e, h1, h2, x.free h3, h4, r⟩
  | od ds => obtain ⟨p, xs, e, h1, h2, h3, h4, r⟩ := h; exact ⟨p, xs, e, h1, h2, x.free h3, h4, r⟩
  | bo ds => exact h
  | bd ds => exact h
  | bi c fs => exact h
def R.frz : R → Option D
  | .pv d => some d
  | .ol ds => some (.lst ds)
  | _ => none
/-- the elements of a list, however it is held -/
def R.asL : R → Option (List D)
  | .pv (.lst ds) => some ds
  | .ol ds => some ds
  | .bo ds => some ds
  | _ => none
def R.asK : R → Option (List (DKey × D))
  | .pv (.dct ds) => some ds
  | .od ds => some ds
  | .bd ds => some ds
  | _ => none
theorem RV.list {C : Ct} {H F' H' : Hp} {r : R} {v : V} {ds : List D} (w : Wf C F' H') (h : RV C H F' H' r v) (e : r.asL = some ds) : ∃ p xs, v = .ref p ∧ H' p = some (.lst xs) ∧ Rps C F' ds xs := by
  cases r with
  | pv d =>
    cases d <;> simp [R.asL] at e
    subst e
    obtain ⟨p, xs, e, h1, r⟩ := h
    exact ⟨p, xs, e, w.sub _ _ h1, r⟩
  | ol d => simp [R.asL] at e; subst e; obtain ⟨p, xs, e, h1, h2, h3, h4, r⟩ := h; exact ⟨p, xs, e, h1, r⟩
  | bo d => simp [R.asL] at e; subst e; obtain ⟨p, xs, e, h1, h2, h3, r⟩ := h; exact ⟨p, xs, e, h1, r⟩
  | _ => simp [R.asL] at e
theorem RV.dict {C : Ct} {H F' H' : Hp} {r : R} {v : V} {ds : List (DKey × D)} (w : Wf C F' H') (h : RV C H F' H' r v) (e : r.asK = some ds) : ∃ p xs, v = .ref p ∧ Rd H' p (.dK xs) ∧ Rpk C F' ds xs := by
  cases r with
  | pv d =>
    cases d <;> simp [R.asK] at e
    subst e
    obtain ⟨p, o, xs, e, h1, r⟩ := h
    exact ⟨p, xs, e, .inr ⟨o, w.sub _ _ h1⟩, r⟩
  | od d => simp [R.asK] at e; subst e; obtain ⟨p, xs, e, h1, h2, h3, h4, r⟩ := h; exact ⟨p, xs, e, .inl h1, r⟩
  | bd d => simp [R.asK] at e; subst e; obtain ⟨p, xs, e, h1, h2, h3, r⟩ := h; exact ⟨p, xs, e, .inl h1, r⟩
  | _ => simp [R.asK] at e
/-- a value is frozen -/
theorem RV.fz {C : Ct} {n : Nat} {F H F' H' : Hp} {r : R} {v : V} {d : D} (x : Xt C n F H F' H') (h : RV C H F' H' r v) (e : r.frz = some d) : ∃ F2, Xt C n F H F2 H' ∧ Same F' F2 ∧ (∀ a, F2 a ≠ F' a → H a = none ∧ v = .ref a) ∧ Rp C F2 d v := by
  cases r with
  | pv d' => simp [R.frz] at e; subst e; exact ⟨F', x, .refl _, fun a h => absurd rfl h, h⟩
  | ol ds =>
    simp [R.frz] at e; subst e
    obtain ⟨p, xs, rfl, h1, h2, h3, h4, r⟩ := h
    refine ⟨upd F' p (.lst xs), x.frz1 h3 h2 h1 h4, Same.upd h2, fun a h => ?_, p, xs, rfl, upd_same, Rps.mono (Same.upd h2) _ _ r⟩
    by_cases ha : a = p
    · subst ha; exact ⟨h3, rfl⟩
    · exact absurd (upd_ne ha) h
  | _ => simp [R.frz] at e

/-! ### the transformers -/
structure AE where
  n : Nat
  run : List AS → (R → Prop) → (Ex → Prop) → Prop
structure AT where
  n : Nat
  run : List AS → (Bool → Prop) → (Ex → Prop) → Prop
structure AA where
  n : Nat
  run : List AS → (List D → Prop) → (Ex → Prop) → Prop
structure Pst where
  nx : List AS → Prop
  rt : R → Prop
  bk : List AS → Prop
  ct : List AS → Prop
  ex : Ex → Prop
structure AST where
  n : Nat
  run : List AS → Pst → Prop
instance : CoeFun AE (fun _ => List AS → (R → Prop) → (Ex → Prop) → Prop) := ⟨AE.run⟩
instance : CoeFun AT (fun _ => List AS → (Bool → Prop) → (Ex → Prop) → Prop) := ⟨AT.run⟩
instance : CoeFun AA (fun _ => List AS → (List D → Prop) → (Ex → Prop) → Prop) := ⟨AA.run⟩
instance : CoeFun AST (fun _ => List AS → Pst → Prop) := ⟨AST.run⟩

def exOk (C : Ct) (B : Nat) (F0 H0 : Hp) (E : XK) (PX : Ex → Prop) : Prop := ∀ x F' H' cl d, PX x → Xt C B F0 H0 F' H' → XV C F' H' x cl d → E cl d H'
def tE (C : Ct) (B : Nat) (F0 H0 : Hp) (E : XK) (a : AE) : TE := fun σ H Q => ∃ α F P PX, Sat C B F0 H0 a.n α F H σ ∧ a α P PX ∧ (∀ r v F' H', P r → Xt C a.n F H F' H' → RV C H F' H' r v → Q v H') ∧ exOk C B F0 H0 E PX
def tT (C : Ct) (B : Nat) (F0 H0 : Hp) (E : XK) (a : AT) : TT := fun σ H Q => ∃ α F P PX, Sat C B F0 H0 a.n α F H σ ∧ a α P PX ∧ (∀ b F' H', P b → Xt C a.n F H F' H' → Q b H') ∧ exOk C B F0 H0 E PX
def tA (C : Ct) (B : Nat) (F0 H0 : Hp) (E : XK) (a : AA) : TA := fun σ H Q => ∃ α F P PX, Sat C B F0 H0 a.n α F H σ ∧ a α P PX ∧ (∀ ds vs F' H', P ds → Xt C a.n F H F' H' → Rps C F' ds vs → Q vs H') ∧ exOk C B F0 H0 E PX
def tS (C : Ct) (B : Nat) (F0 H0 : Hp) (E : XK) (a : AST) : TS := fun D σ H => ∃ α F P m, Sat C B F0 H0 (a.n + m) α F H σ ∧ a α P ∧
  (∀ α' σ' F' H', P.nx α' → Sat C B F0 H0 m α' F' H' σ' → Same F F' → D.nx σ' H') ∧
  (∀ r v F' H', P.rt r → Xt C B F0 H0 F' H' → RV C H0 F' H' r v → D.rt v H') ∧
  (∀ α' σ' F' H', P.bk α' → Sat C B F0 H0 m α' F' H' σ' → Same F F' → D.bk σ' H') ∧
  (∀ α' σ' F' H', P.ct α' → Sat C B F0 H0 m α' F' H' σ' → Same F F' → D.ct σ' H') ∧ exOk C B F0 H0 E P.ex

theorem _root_.L2.PE.imp {X : Cx} {e : Expr} {t t' : TE} (h : PE X e t) (w : ∀ σ H Q, t' σ H Q → t σ H Q) : PE X e t' := ⟨fun pins s σ H Q I q => h.run pins s σ H Q I (w _ _ _ q)⟩
theorem _root_.L2.PT.imp {X : Cx} {e : Expr} {t t' : TT} (h : PT X e t) (w : ∀ σ H Q, t' σ H Q → t σ H Q) : PT X e t' := ⟨fun pins s σ H Q I q => h.run pins s σ H Q I (w _ _ _ q)⟩
theorem _root_.L2.PW.imp {X : Cx} {e : Expr} {t t' : TT} (h : PW X e t) (w : ∀ σ H Q, t' σ H Q → t σ H Q) : PW X e t' := ⟨fun wh pins s σ H Q I q => h.run wh pins s σ H Q I (w _ _ _ q)⟩
theorem _root_.L2.PA.imp {X : Cx} {e : List Expr} {t t' : TA} (h : PA X e t) (w : ∀ σ H Q, t' σ H Q → t σ H Q) : PA X e t' := ⟨fun pos pins s σ H Q I q => h.run pos pins s σ H Q I (w _ _ _ q)⟩
theorem _root_.L2.PS.imp {X : Cx} {e : Stmt} {t t' : TS} (h : PS X e t) (w : ∀ D σ H, t' D σ H → t D σ H) : PS X e t' := ⟨fun pins s σ H D I q => h.run pins s σ H D I (w _ _ _ q)⟩
theorem _root_.L2.PSs.imp {X : Cx} {e : List Stmt} {t t' : TS} (h : PSs X e t) (w : ∀ D σ H, t' D σ H → t D σ H) : PSs X e t' := ⟨fun pins s σ H D I q => h.run pins s σ H D I (w _ _ _ q)⟩

section
variable {X : Cx} {C : Ct} {B : Nat} {F0 H0 : Hp} {E : XK} {pos : Pos}
abbrev DE (X : Cx) (C : Ct) (B : Nat) (F0 H0 : Hp) (E : XK) (e : Expr) (a : AE) : Prop := PE X e (tE C B F0 H0 E a)
abbrev DT (X : Cx) (C : Ct) (B : Nat) (F0 H0 : Hp) (E : XK) (e : Expr) (a : AT) : Prop := PT X e (tT C B F0 H0 E a)
abbrev DW (X : Cx) (C : Ct) (B : Nat) (F0 H0 : Hp) (E : XK) (e : Expr) (a : AT) : Prop := PW X e (tT C B F0 H0 E a)
abbrev DA (X : Cx) (C : Ct) (B : Nat) (F0 H0 : Hp) (E : XK) (es : List Expr) (a : AA) : Prop := PA X es (tA C B F0 H0 E a)
abbrev DS (X : Cx) (C : Ct) (B : Nat) (F0 H0 : Hp) (E : XK) (st : Stmt) (a : AST) : Prop := PS X st (tS C B F0 H0 E a)
abbrev DSs (X : Cx) (C : Ct) (B : Nat) (F0 H0 : Hp) (E : XK) (st : List Stmt) (a : AST) : Prop := PSs X st (tS C B F0 H0 E a)

/-! ### names, constants -/
def aVar (i : Nat) : AE := ⟨0, fun α P _ => match α[i]? with
  | some (.pv d) => P (.pv d)
  | some (.ol ds) => P (.bo ds)
  | some (.od ds) => P (.bd ds)
  | some (.oi c fs) => P (.bi c fs)
  | _ => False⟩
def aC (d : D) : AE := ⟨0, fun _ P _ => P (.pv d)⟩
theorem de_var (i : Nat) {x : Str} {p : Pos} (h : PE X (.Name x p) (tVar i)) : DE X C B F0 H0 E (.Name x p) (aVar i) := h.imp fun σ H Q ⟨α, F, P, PX, s, a, q, _⟩ => by
  unfold aVar at a
  dsimp only at a
  split at a
  · rename_i d e
    obtain ⟨v, h1, y, rfl, r⟩ := s.at e
    exact ⟨y, h1, q _ _ F H a (.refl s.xt.wf) r⟩
  · rename_i ds e
    obtain ⟨v, h1, p, xs, rfl, r1, r2, r3, r4⟩ := s.at e
    exact ⟨_, h1, q _ _ F H a (.refl s.xt.wf) ⟨p, xs, rfl, r1, r2, r3, r4⟩⟩
  · rename_i ds e
    obtain ⟨v, h1, p, xs, rfl, r1, r2, r3, r4⟩ := s.at e
    exact ⟨_, h1, q _ _ F H a (.refl s.xt.wf) ⟨p, xs, rfl, r1, r2, r3, r4⟩⟩
  · rename_i c ds e
    obtain ⟨v, h1, p, dx, xs, rfl, r1, r2, r3, r4⟩ := s.at e
    exact ⟨_, h1, q _ _ F H a (.refl s.xt.wf) ⟨p, dx, xs, rfl, r1, r2, r3, r4⟩⟩
  · exact a.elim
theorem de_c {e : Expr} {v : V} {d : D} (h : PE X e (tC v)) (r : ∀ F, Rp C F d v) : DE X C B F0 H0 E e (aC d) := h.imp fun σ H Q ⟨α, F, P, PX, s, a, q, _⟩ => q _ _ F H a (.refl s.xt.wf) (r F)
theorem de_int {i : Int} {j p} : DE X C B F0 H0 E (.Constant (.int i) j p) (aC (.int i)) := de_c pe_int fun _ => rfl
theorem de_bl {i : Bool} {j p} : DE X C B F0 H0 E (.Constant (.bool i) j p) (aC (.bl i)) := de_c pe_bl fun _ => rfl
theorem de_non {j p} : DE X C B F0 H0 E (.Constant .none j p) (aC .non) := de_c pe_non fun _ => rfl
theorem de_str (l : List Nat) {i : Str} {j p} (h : i.cps.toList = l := by decide +kernel) : DE X C B F0 H0 E (.Constant (.str i) j p) (aC (.str l)) := de_c pe_str fun _ => by subst h; show V.str i = V.str _; rw [mk_of]
theorem de_gint {x : Str} {i : Int} {t : Tok} {p : Pos} (hm : X.mg x = some (.int i t)) (hg : Gl X x := by rfl) (hd : (x == ("__debug__" : Str)) = false := by decide) : DE X C B F0 H0 E (.Name x p) (aC (.int i)) := de_c (pe_glob hg hm (v := .int i) ⟨_, rfl⟩ hd) fun _ => rfl
theorem de_gstr {x : Str} {l : List Nat} {t : Tok} {p : Pos} (hm : X.mg x = some (.str (mk l) t)) (hg : Gl X x := by rfl) (hd : (x == ("__debug__" : Str)) = false := by decide) : DE X C B F0 H0 E (.Name x p) (aC (.str l)) := de_c (pe_glob hg hm (v := .str (mk l)) ⟨_, rfl⟩ hd) fun _ => rfl

/-! ### arguments, displays -/
def aNil : AA := ⟨0, fun _ P _ => P []⟩
def aCons (a : AE) (b : AA) : AA := ⟨a.n + b.n, fun α P PX => a α (fun r => ∃ d, r.frz = some d ∧ b α (fun ds => P (d :: ds)) PX) PX⟩
theorem da_nil : DA X C B F0 H0 E [] aNil := pa_nil.imp fun σ H Q ⟨α, F, P, PX, s, a, q, _⟩ => q _ _ F H a (.refl s.xt.wf) rfl
theorem da_cons {e : Expr} {es : List Expr} {a : AE} {b : AA} (ha : DE X C B F0 H0 E e a) (hb : DA X C B F0 H0 E es b) (hs : starEach (e :: es) X.env = (false, eval e X.env) :: starEach es X.env := by rfl) : DA X C B F0 H0 E (e :: es) (aCons a b) :=
  (pa_cons ha hb hs).imp fun σ H Q ⟨α, F, P, PX, s, h, q, x⟩ => by
    refine ⟨α, F, _, PX, s.l, h, fun r v F1 H1 ⟨d, e, h2⟩ x1 rv => ?_, x⟩
    obtain ⟨F2, x2, sm, _, rp⟩ := rv.fz x1 e
    refine ⟨α, F2, _, PX, s.go x2, h2, fun ds vs F' H' p x3 rs => ?_, x⟩
    exact q _ _ F' H' p (x2.trans x3) ⟨v, vs, rfl, Rp.mono x3.frz _ _ rp, rs⟩
def aTup (a : AA) : AE := ⟨a.n, fun α P PX => a α (fun ds => ds.length ≤ sizeLine ∧ P (.pv (.tup ds))) PX⟩
def aLst (a : AA) : AE := ⟨a.n, fun α P PX => a α (fun ds => ds.length ≤ sizeLine ∧ P (.ol ds)) PX⟩
theorem de_tup {es : List Expr} {a : AA} {x1} (h : DA X C B F0 H0 E es a) : DE X C B F0 H0 E (.Tuple es x1 pos) (aTup a) := (pe_tup h).imp fun σ H Q ⟨α, F, P, PX, s, h, q, x⟩ => by
  refine ⟨α, F, _, PX, s, h, fun ds vs F1 H1 ⟨l, p⟩ x1 rs => ⟨by rw [rs.length]; exact l, fun a na => ?_⟩, x⟩
  exact q _ _ _ _ p (x1.trans (Xt.layF x1.wf na)) ⟨a, vs, rfl, .inl (.inl upd_same), Rps.mono (Xt.layF (o := .tup vs) x1.wf na).frz _ _ rs⟩
theorem de_lst {es : List Expr} {a : AA} (h : DA X C B F0 H0 E es a) : DE X C B F0 H0 E (.List es pos) (aLst a) := (pe_lst h).imp fun σ H Q ⟨α, F, P, PX, s, h, q, x⟩ => by
  refine ⟨α, F, _, PX, s, h, fun ds vs F1 H1 ⟨l, p⟩ x1 rs => ⟨by rw [rs.length]; exact l, fun a na => ?_⟩, x⟩
  exact q _ _ _ _ p (x1.trans (Xt.lay x1.wf na)) ⟨a, vs, rfl, upd_same, (x1.wf.lay (o := .lst vs) na).2.1, x1.free na, (x1.wf.lay (o := .lst vs) na).2.2, rs⟩

/-! ### operators by values -/
/-- a rule of the layer serves a plain function of values -/
def OpS (C : Ct) (r : R2) (f : R → R → (R → Prop) → Prop) : Prop := ∀ (H F1 H1 : Hp) (x y : V) (a b : R) (P : R → Prop) (Q : VK), Wf C F1 H1 → RV C H F1 H1 a x → RV C H F1 H1 b y → f a b P →
  (∀ q v F' H', P q → Xt C 0 F1 H1 F' H' → RV C H1 F' H' q v → Q v H') → r x y H1 Q
def aOp (f : R → R → (R → Prop) → Prop) (a b : AE) : AE := ⟨a.n + b.n, fun α P PX => a α (fun x => b α (fun y => f x y P) PX) PX⟩
theorem op_run {r : R2} {f : R → R → (R → Prop) → Prop} (hs : OpS C r f) {a b : AE} {σ : L2.St} {H : Hp} {Q : VK} (h : tE C B F0 H0 E (aOp f a b) σ H Q) : tOp r (tE C B F0 H0 E a) (tE C B F0 H0 E b) σ H Q := by
  obtain ⟨α, F, P, PX, s, h, q, x⟩ := h
  refine ⟨α, F, _, PX, s.l, h, fun r1 v1 F1 H1 h1 x1 rv1 => ⟨α, F1, _, PX, s.go x1, h1, fun r2 v2 F2 H2 h2 x2 rv2 => ?_, x⟩, x⟩
  exact hs H F2 H2 v1 v2 r1 r2 P Q x2.wf (rv1.xt x2) (rv2.back x1) h2 fun z v F' H' p x3 rv => q _ _ _ _ p ((x1.trans x2).trans x3) (rv.back (x1.trans x2))
theorem de_op {op : Operator} {r : R2} {f : R → R → (R → Prop) → Prop} {e1 e2 : Expr} {a b : AE} (ho : OpR X (binaryOp op) r) (hs : OpS C r f) (ha : DE X C B F0 H0 E e1 a) (hb : DE X C B F0 H0 E e2 b) : DE X C B F0 H0 E (.BinOp e1 op e2 pos) (aOp f a b) :=
  (pe_op ho ha hb).imp fun σ H Q h => op_run hs h
/-- comparisons -/
def OpB (C : Ct) (r : R2) (f : R → R → (Bool → Prop) → Prop) : Prop := ∀ (H F1 H1 : Hp) (x y : V) (a b : R) (P : Bool → Prop) (Q : VK), Wf C F1 H1 → RV C H F1 H1 a x → RV C H F1 H1 b y → f a b P →
  (∀ k, P k → Q (.bl k) H1) → r x y H1 Q
def aCmp (f : R → R → (Bool → Prop) → Prop) (a b : AE) : AE := ⟨a.n + b.n, fun α P PX => a α (fun x => b α (fun y => f x y fun k => P (.pv (.bl k))) PX) PX⟩
def aCmpT (f : R → R → (Bool → Prop) → Prop) (a b : AE) : AT := ⟨a.n + b.n, fun α P PX => a α (fun x => b α (fun y => f x y P) PX) PX⟩
theorem de_cmp {op : CmpOp} {r : R2} {f : R → R → (Bool → Prop) → Prop} {e1 e2 : Expr} {a b : AE} (ho : OpR X (compareOp op) r) (hs : OpB C r f) (ha : DE X C B F0 H0 E e1 a) (hb : DE X C B F0 H0 E e2 b) (hm : behindInMarks op e2 = false) : DE X C B F0 H0 E (.Compare e1 [op] [e2] pos) (aCmp f a b) :=
  (pe_cmpR ho ha hb hm).imp fun σ H Q ⟨α, F, P, PX, s, h, q, x⟩ => by
    refine ⟨α, F, _, PX, s.l, h, fun r1 v1 F1 H1 h1 x1 rv1 => ⟨α, F1, _, PX, s.go x1, h1, fun r2 v2 F2 H2 h2 x2 rv2 => ?_, x⟩, x⟩
    exact hs H F2 H2 v1 v2 r1 r2 _ Q x2.wf (rv1.xt x2) (rv2.back x1) h2 fun k p => q _ _ F2 H2 p (x1.trans x2) rfl
theorem dt_cmp {op : CmpOp} {r : R2} {f : R → R → (Bool → Prop) → Prop} {e1 e2 : Expr} {a b : AE} (ho : OpR X (compareOp op) r) (hs : OpB C r f) (ha : DE X C B F0 H0 E e1 a) (hb : DE X C B F0 H0 E e2 b) (hm : behindInMarks op e2 = false) : DT X C B F0 H0 E (.Compare e1 [op] [e2] pos) (aCmpT f a b) :=
  (pt_cmpR ho ha hb hm).imp fun σ H Q ⟨α, F, P, PX, s, h, q, x⟩ => by
    refine ⟨α, F, _, PX, s.l, h, fun r1 v1 F1 H1 h1 x1 rv1 => ⟨α, F1, _, PX, s.go x1, h1, fun r2 v2 F2 H2 h2 x2 rv2 => ?_, x⟩, x⟩
    exact hs H F2 H2 v1 v2 r1 r2 P _ x2.wf (rv1.xt x2) (rv2.back x1) h2 fun k p => ⟨k, rfl, q _ F2 H2 p (x1.trans x2)⟩

/-! ### tests -/
def aTru (a : AE) : AT := ⟨a.n, fun α P PX => a α (fun r => ∃ b, r = .pv (.bl b) ∧ P b) PX⟩
theorem dt_val {e : Expr} {a : AE} (h : DE X C B F0 H0 E e a) (he : ∀ whole, isTrue e X.env whole = (do let v ← whole; standAt e.pos; holding [v] (truthy v)) := by intro _; rfl) : DT X C B F0 H0 E e (aTru a) :=
  (pt_val h he).imp fun σ H Q ⟨α, F, P, PX, s, h, q, x⟩ => ⟨α, F, _, PX, s, h, fun r v F' H' ⟨b, e, p⟩ x1 rv => by
    subst e
    exact ⟨b, rv, q _ F' H' p x1⟩, x⟩
def aAnd (a b : AT) : AT := ⟨a.n + b.n, fun α P PX => a α (fun c => if c = true then b α P PX else P false) PX⟩
def aOr (a b : AT) : AT := ⟨a.n + b.n, fun α P PX => a α (fun c => if c = true then P true else b α P PX) PX⟩
def aNot (a : AT) : AT := ⟨a.n, fun α P PX => a α (fun c => P (!c)) PX⟩
theorem dw_and1 {a : Expr} {t : AT} (h : DT X C B F0 H0 E a t) : DW X C B F0 H0 E (.BoolOp .And [a] pos) t := pw_and1 h
theorem dw_or1 {a : Expr} {t : AT} (h : DT X C B F0 H0 E a t) : DW X C B F0 H0 E (.BoolOp .Or [a] pos) t := pw_or1 h
theorem dw_and {a b : Expr} {rest : List Expr} {t u : AT} (ha : DT X C B F0 H0 E a t) (hb : DW X C B F0 H0 E (.BoolOp .And (b :: rest) pos) u) : DW X C B F0 H0 E (.BoolOp .And (a :: b :: rest) pos) (aAnd t u) :=
  (pw_and ha hb).imp fun σ H Q ⟨α, F, P, PX, s, h, q, x⟩ => ⟨α, F, _, PX, s.l, h, fun c F1 H1 h1 x1 => by
    cases c with
    | true => exact ⟨α, F1, P, PX, s.go x1, h1, fun b F' H' p x2 => q _ _ _ p (x1.trans x2), x⟩
    | false => exact q _ F1 H1 h1 x1.l, x⟩
theorem dw_or {a b : Expr} {rest : List Expr} {t u : AT} (ha : DT X C B F0 H0 E a t) (hb : DW X C B F0 H0 E (.BoolOp .Or (b :: rest) pos) u) : DW X C B F0 H0 E (.BoolOp .Or (a :: b :: rest) pos) (aOr t u) :=
  (pw_or ha hb).imp fun σ H Q ⟨α, F, P, PX, s, h, q, x⟩ => ⟨α, F, _, PX, s.l, h, fun c F1 H1 h1 x1 => by
    cases c with
    | false => exact ⟨α, F1, P, PX, s.go x1, h1, fun b F' H' p x2 => q _ _ _ p (x1.trans x2), x⟩
    | true => exact q _ F1 H1 h1 x1.l, x⟩
theorem dt_bop {op} {es : List Expr} {t : AT} (h : DW X C B F0 H0 E (.BoolOp op es pos) t) : DT X C B F0 H0 E (.BoolOp op es pos) t := PW.pt h
theorem dt_not {a : Expr} {t : AT} (ha : DT X C B F0 H0 E a t) : DT X C B F0 H0 E (.UnaryOp .Not a pos) (aNot t) :=
  (pt_not ha).imp fun σ H Q ⟨α, F, P, PX, s, h, q, x⟩ => ⟨α, F, _, PX, s, h, fun c F1 H1 h1 x1 => q _ F1 H1 h1 x1, x⟩
/-- as values -/
def aAndV (a b : AE) : AE := ⟨a.n + b.n, fun α P PX => a α (fun r => ∃ c, r = .pv (.bl c) ∧ if c = true then b α P PX else P (.pv (.bl false))) PX⟩
def aOrV (a b : AE) : AE := ⟨a.n + b.n, fun α P PX => a α (fun r => ∃ c, r = .pv (.bl c) ∧ if c = true then P (.pv (.bl true)) else b α P PX) PX⟩
def aNotV (a : AE) : AE := ⟨a.n, fun α P PX => a α (fun r => ∃ c, r = .pv (.bl c) ∧ P (.pv (.bl (!c)))) PX⟩
theorem de_one {op} {a : Expr} {t : AE} (h : DE X C B F0 H0 E a t) : DE X C B F0 H0 E (.BoolOp op [a] pos) t := pe_one h
theorem de_and {a b : Expr} {rest : List Expr} {t u : AE} (ha : DE X C B F0 H0 E a t) (hb : DE X C B F0 H0 E (.BoolOp .And (b :: rest) pos) u) : DE X C B F0 H0 E (.BoolOp .And (a :: b :: rest) pos) (aAndV t u) :=
  (pe_and ha hb).imp fun σ H Q ⟨α, F, P, PX, s, h, q, x⟩ => ⟨α, F, _, PX, s.l, h, fun r v F1 H1 ⟨c, e, h1⟩ x1 rv => by
    subst e
    refine ⟨c, rv, ?_⟩
    cases c with
    | true => exact ⟨α, F1, P, PX, s.go x1, h1, fun b v F' H' p x2 rv => q _ _ _ _ p (x1.trans x2) (rv.back x1), x⟩
    | false => exact q _ _ F1 H1 h1 x1.l rfl, x⟩
theorem de_or {a b : Expr} {rest : List Expr} {t u : AE} (ha : DE X C B F0 H0 E a t) (hb : DE X C B F0 H0 E (.BoolOp .Or (b :: rest) pos) u) : DE X C B F0 H0 E (.BoolOp .Or (a :: b :: rest) pos) (aOrV t u) :=
  (pe_or ha hb).imp fun σ H Q ⟨α, F, P, PX, s, h, q, x⟩ => ⟨α, F, _, PX, s.l, h, fun r v F1 H1 ⟨c, e, h1⟩ x1 rv => by
    subst e
    refine ⟨c, rv, ?_⟩
    cases c with
    | false => exact ⟨α, F1, P, PX, s.go x1, h1, fun b v F' H' p x2 rv => q _ _ _ _ p (x1.trans x2) (rv.back x1), x⟩
    | true => exact q _ _ F1 H1 h1 x1.l rfl, x⟩
theorem de_not {a : Expr} {t : AE} (ha : DE X C B F0 H0 E a t) : DE X C B F0 H0 E (.UnaryOp .Not a pos) (aNotV t) :=
  (pe_not ha).imp fun σ H Q ⟨α, F, P, PX, s, h, q, x⟩ => ⟨α, F, _, PX, s, h, fun r v F1 H1 ⟨c, e, h1⟩ x1 rv => by
    subst e
    exact ⟨c, rv, q _ _ F1 H1 h1 x1 rfl⟩, x⟩
def aIf (c : AT) (a b : AE) : AE := ⟨c.n + (a.n + b.n), fun α P PX => c α (fun k => if k = true then a α P PX else b α P PX) PX⟩
theorem de_if {c a b : Expr} {t : AT} {u v : AE} (hc : DT X C B F0 H0 E c t) (ha : DE X C B F0 H0 E a u) (hb : DE X C B F0 H0 E b v) : DE X C B F0 H0 E (.IfExp c a b pos) (aIf t u v) :=
  (pe_ifExp hc ha hb).imp fun σ H Q ⟨α, F, P, PX, s, h, q, x⟩ => ⟨α, F, _, PX, s.l, h, fun k F1 H1 h1 x1 => by
    cases k with
    | true => exact ⟨α, F1, P, PX, (s.go x1).l, h1, fun b v F' H' p x2 rv => q _ _ _ _ p (x1.trans x2.l) (rv.back x1), x⟩
    | false => exact ⟨α, F1, P, PX, (s.go x1).r, h1, fun b v F' H' p x2 rv => q _ _ _ _ p (x1.trans x2.r) (rv.back x1), x⟩, x⟩
end
end AL

set_option Elab.async false
set_option linter.all false
set_option maxRecDepth 100000
set_option maxHeartbeats 1000000
set_option autoImplicit false
namespace AL
open PySem PySem.Spec PyProof.Rows L2

/-! ### arithmetic, + -/
def addR (a b : R) (P : R → Prop) : Prop := match a, b with
  | .pv (.int i), .pv (.int j) => P (.pv (.int (i + j)))
  | .pv (.str s), .pv (.str t) => s.length + t.length ≤ sizeLine ∧ P (.pv (.str (s ++ t)))
  | .pv (.tup s), .pv (.tup t) => s.length + t.length ≤ sizeLine ∧ P (.pv (.tup (s ++ t)))
  | a, b => ∃ xs ys, a.asL = some xs ∧ b.asL = some ys ∧ xs.length + ys.length ≤ sizeLine ∧ P (.ol (xs ++ ys))
section
variable {X : Cx} {C : Ct} {B : Nat} {F0 H0 : Hp} {E : XK} {pos : Pos}
def rAddR (K : PySem.W.Frag) : R2 := fun x y H Q => ((rI0 fun i j => .int (i + j)) x y H Q ∨ (∃ i j, x = .str i ∧ y = .str j ∧ i.length + j.length ≤ sizeLine ∧ Q (.str (i ++ j)) H)) ∨ (rCat x y H Q ∨ rCatA K x y H Q)
theorem op_addR : OpR X (binaryOp .Add) (rAddR X.K) := (op_add.or op_add_str).or (op_cat.or op_catA)
theorem SqT.wf {C : Ct} {F H : Hp} {K : PySem.W.Frag} (w : Wf C F H) {a : Addr} {xs : List V} (h : SqT K F a xs) : SqT K H a xs := Same.seqT w.sub h
theorem catL {H F1 H1 : Hp} {x y : V} {a b : R} {xs ys : List D} {P : R → Prop} {Q : VK} (w : Wf C F1 H1) (ha : RV C H F1 H1 a x) (hb : RV C H F1 H1 b y) (e1 : a.asL = some xs) (e2 : b.asL = some ys) (l : xs.length + ys.length ≤ sizeLine) (p : P (.ol (xs ++ ys)))
    (q : ∀ q v F' H', P q → Xt C 0 F1 H1 F' H' → RV C H1 F' H' q v → Q v H') : rCat x y H1 Q := by
  obtain ⟨p1, vs, rfl, h1, r1⟩ := ha.list w e1
  obtain ⟨p2, us, rfl, h2, r2⟩ := hb.list w e2
  refine ⟨p1, p2, vs, us, rfl, rfl, h1, h2, by rw [r1.length, r2.length]; exact l, fun z nz => ?_⟩
  exact q _ _ _ _ p (Xt.lay w nz) ⟨z, _, rfl, upd_same, (w.lay (o := .lst (vs ++ us)) nz).2.1, nz, (w.lay (o := .lst (vs ++ us)) nz).2.2, r1.append r2⟩
theorem add_s {K : PySem.W.Frag} (hK : C.K = K) : OpS C (rAddR K) addR := by
  intro H F1 H1 x y a b P Q w ha hb h q
  subst hK
  unfold addR at h
  split at h
  · cases ha; cases hb
    exact .inl (.inl ⟨_, _, rfl, rfl, q _ _ F1 H1 h (.refl w) rfl⟩)
  · cases ha; cases hb
    rename_i s t
    exact .inl (.inr ⟨_, _, rfl, rfl, by rw [mk_len, mk_len]; exact h.1, q _ _ F1 H1 h.2 (.refl w) (by rw [mk_app]; rfl)⟩)
  · rename_i s t
    obtain ⟨a1, vs, rfl, s1, r1⟩ := ha
    obtain ⟨a2, us, rfl, s2, r2⟩ := hb
    have e1 := SqT.wf w s1
    have e2 := SqT.wf w s2
    refine .inr (.inr ⟨a1, a2, vs, us, rfl, rfl, e1, e2, by rw [r1.length, r2.length]; exact h.1, fun z => ?_, fun z1 z => ?_, fun z1 z2 p np => ?_⟩)
    · subst z
      have : s = [] := List.length_eq_zero_iff.mp (by rw [← r1.length]; rfl)
      subst this
      exact q _ _ F1 H1 h.2 (.refl w) ⟨a2, us, rfl, s2, r2⟩
    · subst z
      have : t = [] := List.length_eq_zero_iff.mp (by rw [← r2.length]; rfl)
      subst this
      exact q _ _ F1 H1 h.2 (.refl w) ⟨a1, vs, rfl, s1, by rw [List.append_nil]; exact r1⟩
    · exact q _ _ _ _ h.2 (Xt.layF w np) ⟨p, vs ++ us, rfl, .inl (.inl upd_same), Rps.mono (Xt.layF (o := .tup (vs ++ us)) w np).frz _ _ (r1.append r2)⟩
  · obtain ⟨xs, ys, e1, e2, l, p⟩ := h
    exact .inr (.inl (catL w ha hb e1 e2 l p q))
theorem de_add {e1 e2 : Expr} {a b : AE} (hK : C.K = X.K) (ha : DE X C B F0 H0 E e1 a) (hb : DE X C B F0 H0 E e2 b) : DE X C B F0 H0 E (.BinOp e1 .Add e2 pos) (aOp addR a b) := de_op op_addR (add_s hK) ha hb

def intR (c : Int → Int → Prop) (f : Int → Int → Int) (a b : R) (P : R → Prop) : Prop := match a, b with
  | .pv (.int i), .pv (.int j) => c i j ∧ P (.pv (.int (f i j)))
  | _, _ => False
def intR0 (f : Int → Int → Int) (a b : R) (P : R → Prop) : Prop := match a, b with
  | .pv (.int i), .pv (.int j) => P (.pv (.int (f i j)))
  | _, _ => False
theorem int_s {c : Int → Int → Prop} {f : Int → Int → Int} : OpS C (rI c fun i j => .int (f i j)) (intR c f) := by
  intro H F1 H1 x y a b P Q w ha hb h q
  unfold intR at h
  split at h
  · cases ha; cases hb
    exact ⟨_, _, rfl, rfl, h.1, q _ _ F1 H1 h.2 (.refl w) rfl⟩
  · exact h.elim
theorem int_s0 {f : Int → Int → Int} : OpS C (rI0 fun i j => .int (f i j)) (intR0 f) := by
  intro H F1 H1 x y a b P Q w ha hb h q
  unfold intR0 at h
  split at h
  · cases ha; cases hb
    exact ⟨_, _, rfl, rfl, q _ _ F1 H1 h (.refl w) rfl⟩
  · exact h.elim
def subR := intR0 fun i j => i - j
def modR := intR (fun _ j => 0 < j) fun i j => i % j
def fdivR := intR CDiv fun i j => i / j
def powR := intR CPow fun i j => i ^ j.toNat
theorem de_sub {e1 e2 : Expr} {a b : AE} (ha : DE X C B F0 H0 E e1 a) (hb : DE X C B F0 H0 E e2 b) : DE X C B F0 H0 E (.BinOp e1 .Sub e2 pos) (aOp subR a b) := de_op op_sub int_s0 ha hb
theorem de_mod {e1 e2 : Expr} {a b : AE} (ha : DE X C B F0 H0 E e1 a) (hb : DE X C B F0 H0 E e2 b) : DE X C B F0 H0 E (.BinOp e1 .Mod e2 pos) (aOp modR a b) := de_op op_mod int_s ha hb
theorem de_fdiv {e1 e2 : Expr} {a b : AE} (ha : DE X C B F0 H0 E e1 a) (hb : DE X C B F0 H0 E e2 b) : DE X C B F0 H0 E (.BinOp e1 .FloorDiv e2 pos) (aOp fdivR a b) := de_op op_fdiv int_s ha hb
theorem de_pow {e1 e2 : Expr} {a b : AE} (ha : DE X C B F0 H0 E e1 a) (hb : DE X C B F0 H0 E e2 b) : DE X C B F0 H0 E (.BinOp e1 .Pow e2 pos) (aOp powR a b) := de_op op_pow int_s ha hb
/-- a * b: ints; a text by an int -/
def repT (s : List Nat) (n : Int) : List Nat := (List.replicate n.toNat s).flatten
def mulR (a b : R) (P : R → Prop) : Prop := match a, b with
  | .pv (.int i), .pv (.int j) => CMul i j ∧ P (.pv (.int (i * j)))
  | .pv (.str s), .pv (.int n) => -(2 ^ 63) ≤ n ∧ n < 2 ^ 20 ∧ s.length * n.toNat ≤ 16777216 ∧ P (.pv (.str (repT s n)))
  | a, .pv (.int n) => ∃ xs, a.asL = some xs ∧ -(2 ^ 63) ≤ n ∧ n < 2 ^ 63 ∧ xs.length * n.toNat ≤ sizeLine ∧ P (.ol (List.replicate n.toNat xs).flatten)
  | _, _ => False

/-! ### negation -/
def aNeg (a : AE) : AE := ⟨a.n, fun α P PX => a α (fun r => ∃ i, r = .pv (.int i) ∧ P (.pv (.int (-i)))) PX⟩
theorem de_neg {e : Expr} {a : AE} (h : DE X C B F0 H0 E e a) : DE X C B F0 H0 E (.UnaryOp .USub e pos) (aNeg a) :=
  (pe_un un_neg h).imp fun σ H Q ⟨α, F, P, PX, s, h, q, x⟩ => ⟨α, F, _, PX, s, h, fun r v F1 H1 ⟨i, e, p⟩ x1 rv => by
    subst e
    exact ⟨i, rv, q _ _ F1 H1 p x1 rfl⟩, x⟩

/-! ### comparisons -/
mutual
def toP : D → PyData
  | .non => .none
  | .bl b => .bool b
  | .int i => .int i
  | .str s => .str (mk s)
  | .tup ds => .tuple (toPs ds)
  | .lst ds => .list (toPs ds)
  | .dct _ => .dict []
  | .obj _ _ => .dict []
  | .opq _ => .dict []
  | .exc _ _ => .dict []
def toPs : List D → List PyData
  | [] => []
  | d :: ds => toP d :: toPs ds
end
mutual
def isP : D → Bool
  | .non => true
  | .bl _ => true
  | .int _ => true
  | .str _ => true
  | .tup ds => isPs ds
  | .lst ds => isPs ds
  | .dct _ => false
  | .obj _ _ => false
  | .opq _ => false
  | .exc _ _ => false
def isPs : List D → Bool
  | [] => true
  | d :: ds => isP d && isPs ds
end
mutual
theorem Rp.dp {F H : Hp} (w : Wf C F H) : ∀ (d : D) (v : V), isP d = true → Rp C F d v → Dp C.K H v (toP d)
  | .non, _, _, h => by cases h; exact .non
  | .bl _, _, _, h => by cases h; exact .bl _
  | .int _, _, _, h => by cases h; exact .int _
  | .str _, _, _, h => by cases h; exact .str _
  | .tup ds, v, o, h => by
    obtain ⟨a, xs, rfl, s, r⟩ := h
    exact .tup (SqT.wf w s) (Rps.dp w ds xs o r)
  | .lst ds, v, o, h => by
    obtain ⟨a, xs, rfl, s, r⟩ := h
    exact .lst (.inl (.inl (w.sub _ _ s))) (Rps.dp w ds xs o r)
theorem Rps.dp {F H : Hp} (w : Wf C F H) : ∀ (ds : List D) (vs : List V), isPs ds = true → Rps C F ds vs → DpAll C.K H vs (toPs ds)
  | [], _, _, h => by cases h; exact .nil
  | d :: ds, _, o, h => by
    obtain ⟨y, r, rfl, p, q⟩ := h
    rw [isPs, Bool.and_eq_true] at o
    exact .cons (Rp.dp w d y o.1 p) (Rps.dp w ds r o.2 q)
end
def R.dat : R → Option D
  | .pv d => some d
  | .ol ds => some (.lst ds)
  | .bo ds => some (.lst ds)
  | _ => none
theorem RV.dp {H F1 H1 : Hp} {r : R} {v : V} {d : D} (w : Wf C F1 H1) (h : RV C H F1 H1 r v) (e : r.dat = some d) (o : isP d = true) : Dp C.K H1 v (toP d) := by
  cases r with
  | pv d' => simp [R.dat] at e; subst e; exact Rp.dp w _ _ o h
  | ol ds =>
    simp [R.dat] at e; subst e
    obtain ⟨p, xs, rfl, h1, h2, h3, h4, r⟩ := h
    exact .lst (.inl (.inl h1)) (Rps.dp w _ _ o r)
  | bo ds =>
    simp [R.dat] at e; subst e
    obtain ⟨p, xs, rfl, h1, h2, h3, r⟩ := h
    exact .lst (.inl (.inl h1)) (Rps.dp w _ _ o r)
  | _ => simp [R.dat] at e
def dEq (d e : D) : Bool := PyData.eqv (toP d) (toP e)
def dOk (d : D) : Bool := isP d && SeqAt.shaped (toP d)
def eqR (a b : R) (P : Bool → Prop) : Prop := match a, b with
  | .pv (.str s), .pv (.str t) => P (decide (s = t))
  | .pv (.int i), .pv (.int j) => P (decide (i = j))
  | a, b => ∃ d e, a.dat = some d ∧ b.dat = some e ∧ dOk d = true ∧ dOk e = true ∧ P (dEq d e)
def neR (a b : R) (P : Bool → Prop) : Prop := eqR a b fun k => P (!k)
def rEqR (K : PySem.W.Frag) : R2 := fun x y H Q => rEq x y H Q ∨ rEqD K x y H Q
def rNeR (K : PySem.W.Frag) : R2 := fun x y H Q => rNe x y H Q ∨ rNeD K x y H Q
theorem op_eqR (hu : X.A.units + 64 < cLine) : OpR X (compareOp .Eq) (rEqR X.K) := op_eq.or (op_eqD hu)
theorem op_neR (hu : X.A.units + 64 < cLine) : OpR X (compareOp .NotEq) (rNeR X.K) := op_ne.or (op_neD hu)
theorem dec_v {s t : List Nat} : decide (V.str (mk s) = V.str (mk t)) = decide (s = t) := by
  rw [← mk_eq]
  by_cases h : mk s = mk t
  · rw [h]; simp
  · rw [decide_eq_false h, decide_eq_false fun e => h (V.str.inj e)]
theorem dec_i {s t : Int} : decide (V.int s = V.int t) = decide (s = t) := by
  by_cases h : s = t
  · rw [h]; simp
  · rw [decide_eq_false h, decide_eq_false fun e => h (V.int.inj e)]
theorem eq_s {K : PySem.W.Frag} (hK : C.K = K) : OpB C (rEqR K) eqR := by
  intro H F1 H1 x y a b P Q w ha hb h q
  subst hK
  unfold eqR at h
  split at h
  · cases ha; cases hb
    exact .inl ⟨rfl, by rw [dec_v]; exact q _ h⟩
  · cases ha; cases hb
    exact .inl ⟨rfl, by rw [dec_i]; exact q _ h⟩
  · obtain ⟨d, e, e1, e2, o1, o2, p⟩ := h
    rw [dOk, Bool.and_eq_true] at o1 o2
    exact .inr ⟨_, _, ha.dp w e1 o1.1, hb.dp w e2 o2.1, o1.2, o2.2, q _ p⟩
theorem ne_s {K : PySem.W.Frag} (hK : C.K = K) : OpB C (rNeR K) neR := by
  intro H F1 H1 x y a b P Q w ha hb h q
  subst hK
  unfold neR eqR at h
  split at h
  · cases ha; cases hb
    exact .inl ⟨rfl, by rw [dec_v]; exact q _ h⟩
  · cases ha; cases hb
    exact .inl ⟨rfl, by rw [dec_i]; exact q _ h⟩
  · obtain ⟨d, e, e1, e2, o1, o2, p⟩ := h
    rw [dOk, Bool.and_eq_true] at o1 o2
    exact .inr ⟨_, _, ha.dp w e1 o1.1, hb.dp w e2 o2.1, o1.2, o2.2, q _ p⟩
theorem de_eq {e1 e2 : Expr} {a b : AE} {k : Nat} (hK : C.K = X.K) (hr : Room k X.A) (ha : DE X C B F0 H0 E e1 a) (hb : DE X C B F0 H0 E e2 b) : DE X C B F0 H0 E (.Compare e1 [.Eq] [e2] pos) (aCmp eqR a b) := de_cmp (op_eqR hr.units) (eq_s hK) ha hb (nomark _)
theorem dt_eq {e1 e2 : Expr} {a b : AE} {k : Nat} (hK : C.K = X.K) (hr : Room k X.A) (ha : DE X C B F0 H0 E e1 a) (hb : DE X C B F0 H0 E e2 b) : DT X C B F0 H0 E (.Compare e1 [.Eq] [e2] pos) (aCmpT eqR a b) := dt_cmp (op_eqR hr.units) (eq_s hK) ha hb (nomark _)
theorem de_ne {e1 e2 : Expr} {a b : AE} {k : Nat} (hK : C.K = X.K) (hr : Room k X.A) (ha : DE X C B F0 H0 E e1 a) (hb : DE X C B F0 H0 E e2 b) : DE X C B F0 H0 E (.Compare e1 [.NotEq] [e2] pos) (aCmp neR a b) := de_cmp (op_neR hr.units) (ne_s hK) ha hb (nomark _)
theorem dt_ne {e1 e2 : Expr} {a b : AE} {k : Nat} (hK : C.K = X.K) (hr : Room k X.A) (ha : DE X C B F0 H0 E e1 a) (hb : DE X C B F0 H0 E e2 b) : DT X C B F0 H0 E (.Compare e1 [.NotEq] [e2] pos) (aCmpT neR a b) := dt_cmp (op_neR hr.units) (ne_s hK) ha hb (nomark _)
/-- orders of ints and of texts -/
def ordR (fi : Int → Int → Bool) (fs : List Nat → List Nat → Bool) (a b : R) (P : Bool → Prop) : Prop := match a, b with
  | .pv (.int i), .pv (.int j) => P (fi i j)
  | .pv (.str s), .pv (.str t) => P (fs s t)
  | _, _ => False
theorem mk_cps (l : List Nat) : (mk l).cps.toList = l := by simp [mk]
theorem ord_s {fi : Int → Int → Bool} {fs : List Nat → List Nat → Bool} {r1 r2 : R2} (h1 : ∀ i j H (Q : VK), Q (.bl (fi i j)) H → r1 (.int i) (.int j) H Q) (h2 : ∀ s t H (Q : VK), Q (.bl (fs s t)) H → r2 (.str (mk s)) (.str (mk t)) H Q) :
    OpB C (fun x y H Q => r1 x y H Q ∨ r2 x y H Q) (ordR fi fs) := by
  intro H F1 H1 x y a b P Q w ha hb h q
  unfold ordR at h
  split at h
  · cases ha; cases hb; exact .inl (h1 _ _ _ _ (q _ h))
  · cases ha; cases hb; exact .inr (h2 _ _ _ _ (q _ h))
  · exact h.elim
def ltR := ordR (fun i j => decide (i < j)) fun s t => decide (s < t)
def leR := ordR (fun i j => decide (i ≤ j)) fun s t => !decide (t < s)
def gtR := ordR (fun i j => decide (j < i)) fun s t => decide (t < s)
def geR := ordR (fun i j => decide (j ≤ i)) fun s t => !decide (s < t)
theorem lt_s : OpB C (fun x y H Q => rI0 (fun i j => .bl (decide (i < j))) x y H Q ∨ ∃ i j, x = .str i ∧ y = .str j ∧ Q (.bl (decide (i.cps.toList < j.cps.toList))) H) ltR := ord_s (fun i j H Q q => ⟨i, j, rfl, rfl, q⟩) fun s t H Q q => ⟨_, _, rfl, rfl, by rw [mk_cps, mk_cps]; exact q⟩
theorem le_s : OpB C (fun x y H Q => rI0 (fun i j => .bl (decide (i ≤ j))) x y H Q ∨ ∃ i j, x = .str i ∧ y = .str j ∧ Q (.bl (!decide (j.cps.toList < i.cps.toList))) H) leR := ord_s (fun i j H Q q => ⟨i, j, rfl, rfl, q⟩) fun s t H Q q => ⟨_, _, rfl, rfl, by rw [mk_cps, mk_cps]; exact q⟩
theorem gt_s : OpB C (fun x y H Q => rI0 (fun i j => .bl (decide (j < i))) x y H Q ∨ ∃ i j, x = .str i ∧ y = .str j ∧ Q (.bl (decide (j.cps.toList < i.cps.toList))) H) gtR := ord_s (fun i j H Q q => ⟨i, j, rfl, rfl, q⟩) fun s t H Q q => ⟨_, _, rfl, rfl, by rw [mk_cps, mk_cps]; exact q⟩
theorem ge_s : OpB C (fun x y H Q => rI0 (fun i j => .bl (decide (j ≤ i))) x y H Q ∨ ∃ i j, x = .str i ∧ y = .str j ∧ Q (.bl (!decide (i.cps.toList < j.cps.toList))) H) geR := ord_s (fun i j H Q q => ⟨i, j, rfl, rfl, q⟩) fun s t H Q q => ⟨_, _, rfl, rfl, by rw [mk_cps, mk_cps]; exact q⟩
theorem op_ltR : OpR X (compareOp .Lt) (fun x y H Q => rI0 (fun i j => .bl (decide (i < j))) x y H Q ∨ ∃ i j, x = .str i ∧ y = .str j ∧ Q (.bl (decide (i.cps.toList < j.cps.toList))) H) := op_lt.or op_lt_str
theorem op_leR : OpR X (compareOp .LtE) (fun x y H Q => rI0 (fun i j => .bl (decide (i ≤ j))) x y H Q ∨ ∃ i j, x = .str i ∧ y = .str j ∧ Q (.bl (!decide (j.cps.toList < i.cps.toList))) H) := op_le.or op_le_str
theorem op_gtR : OpR X (compareOp .Gt) (fun x y H Q => rI0 (fun i j => .bl (decide (j < i))) x y H Q ∨ ∃ i j, x = .str i ∧ y = .str j ∧ Q (.bl (decide (j.cps.toList < i.cps.toList))) H) := op_gt.or op_gt_str
theorem op_geR : OpR X (compareOp .GtE) (fun x y H Q => rI0 (fun i j => .bl (decide (j ≤ i))) x y H Q ∨ ∃ i j, x = .str i ∧ y = .str j ∧ Q (.bl (!decide (i.cps.toList < j.cps.toList))) H) := op_ge.or op_ge_str
theorem de_lt {e1 e2 : Expr} {a b : AE} (ha : DE X C B F0 H0 E e1 a) (hb : DE X C B F0 H0 E e2 b) : DE X C B F0 H0 E (.Compare e1 [.Lt] [e2] pos) (aCmp ltR a b) := de_cmp op_ltR lt_s ha hb (nomark _)
theorem dt_lt {e1 e2 : Expr} {a b : AE} (ha : DE X C B F0 H0 E e1 a) (hb : DE X C B F0 H0 E e2 b) : DT X C B F0 H0 E (.Compare e1 [.Lt] [e2] pos) (aCmpT ltR a b) := dt_cmp op_ltR lt_s ha hb (nomark _)
theorem de_le {e1 e2 : Expr} {a b : AE} (ha : DE X C B F0 H0 E e1 a) (hb : DE X C B F0 H0 E e2 b) : DE X C B F0 H0 E (.Compare e1 [.LtE] [e2] pos) (aCmp leR a b) := de_cmp op_leR le_s ha hb (nomark _)
theorem dt_le {e1 e2 : Expr} {a b : AE} (ha : DE X C B F0 H0 E e1 a) (hb : DE X C B F0 H0 E e2 b) : DT X C B F0 H0 E (.Compare e1 [.LtE] [e2] pos) (aCmpT leR a b) := dt_cmp op_leR le_s ha hb (nomark _)
theorem de_gt {e1 e2 : Expr} {a b : AE} (ha : DE X C B F0 H0 E e1 a) (hb : DE X C B F0 H0 E e2 b) : DE X C B F0 H0 E (.Compare e1 [.Gt] [e2] pos) (aCmp gtR a b) := de_cmp op_gtR gt_s ha hb (nomark _)
theorem dt_gt {e1 e2 : Expr} {a b : AE} (ha : DE X C B F0 H0 E e1 a) (hb : DE X C B F0 H0 E e2 b) : DT X C B F0 H0 E (.Compare e1 [.Gt] [e2] pos) (aCmpT gtR a b) := dt_cmp op_gtR gt_s ha hb (nomark _)
theorem de_ge {e1 e2 : Expr} {a b : AE} (ha : DE X C B F0 H0 E e1 a) (hb : DE X C B F0 H0 E e2 b) : DE X C B F0 H0 E (.Compare e1 [.GtE] [e2] pos) (aCmp geR a b) := de_cmp op_geR ge_s ha hb (nomark _)
theorem dt_ge {e1 e2 : Expr} {a b : AE} (ha : DE X C B F0 H0 E e1 a) (hb : DE X C B F0 H0 E e2 b) : DT X C B F0 H0 E (.Compare e1 [.GtE] [e2] pos) (aCmpT geR a b) := dt_cmp op_geR ge_s ha hb (nomark _)
/-- is None -/
def R.isN : R → Bool
  | .pv .non => true
  | _ => false
def isnR (a b : R) (P : Bool → Prop) : Prop := b = .pv .non ∧ P a.isN
def isnnR (a b : R) (P : Bool → Prop) : Prop := b = .pv .non ∧ P (!a.isN)
theorem RV.isN {H F1 H1 : Hp} {r : R} {v : V} (h : RV C H F1 H1 r v) : decide (v = .non) = r.isN := by
  cases r with
  | pv d => 
    cases d with
    | non => cases h; rfl
    | bl => cases h; rfl
    | int => cases h; rfl
    | str => cases h; rfl
    | tup => obtain ⟨_, _, rfl, _⟩ := h; rfl
    | lst => obtain ⟨_, _, rfl, _⟩ := h; rfl
    | dct => obtain ⟨_, _, _, rfl, _⟩ := h; rfl
    | obj => obtain ⟨_, _, _, rfl, _⟩ := h; rfl
    | opq => obtain ⟨_, _, rfl⟩ := h; rfl
    | exc => obtain ⟨_, _, _, rfl, _⟩ := h; rfl
  | ol => obtain ⟨_, _, rfl, _⟩ := h; rfl
  | od => obtain ⟨_, _, rfl, _⟩ := h; rfl
  | bo => obtain ⟨_, _, rfl, _⟩ := h; rfl
  | bd => obtain ⟨_, _, rfl, _⟩ := h; rfl
  | bi => obtain ⟨_, _, _, rfl, _⟩ := h; rfl
theorem isn_s : OpB C (fun x y H Q => y = .non ∧ Q (.bl (decide (x = .non))) H) isnR := by
  intro H F1 H1 x y a b P Q w ha hb h q
  obtain ⟨rfl, h⟩ := h
  exact ⟨hb, by rw [ha.isN]; exact q _ h⟩
theorem isnn_s : OpB C (fun x y H Q => y = .non ∧ Q (.bl (!decide (x = .non))) H) isnnR := by
  intro H F1 H1 x y a b P Q w ha hb h q
  obtain ⟨rfl, h⟩ := h
  exact ⟨hb, by rw [ha.isN]; exact q _ h⟩
theorem de_is {e1 e2 : Expr} {a b : AE} (ha : DE X C B F0 H0 E e1 a) (hb : DE X C B F0 H0 E e2 b) : DE X C B F0 H0 E (.Compare e1 [.Is] [e2] pos) (aCmp isnR a b) := de_cmp op_isN isn_s ha hb (nomark _)
theorem dt_is {e1 e2 : Expr} {a b : AE} (ha : DE X C B F0 H0 E e1 a) (hb : DE X C B F0 H0 E e2 b) : DT X C B F0 H0 E (.Compare e1 [.Is] [e2] pos) (aCmpT isnR a b) := dt_cmp op_isN isn_s ha hb (nomark _)
theorem de_isnot {e1 e2 : Expr} {a b : AE} (ha : DE X C B F0 H0 E e1 a) (hb : DE X C B F0 H0 E e2 b) : DE X C B F0 H0 E (.Compare e1 [.IsNot] [e2] pos) (aCmp isnnR a b) := de_cmp op_notN isnn_s ha hb (nomark _)
theorem dt_isnot {e1 e2 : Expr} {a b : AE} (ha : DE X C B F0 H0 E e1 a) (hb : DE X C B F0 H0 E e2 b) : DT X C B F0 H0 E (.Compare e1 [.IsNot] [e2] pos) (aCmpT isnnR a b) := dt_cmp op_notN isnn_s ha hb (nomark _)
end
end AL

set_option Elab.async false
set_option linter.all false
set_option maxRecDepth 100000
set_option maxHeartbeats 1000000
set_option autoImplicit false
namespace AL
open PySem PySem.Spec PyProof.Rows L2

/-! ### texts, ints in lists -/
def asStrs : List D → Option (List (List Nat))
  | [] => some []
  | .str s :: r => (asStrs r).map (s :: ·)
  | _ => none
def asInts : List D → Option (List Int)
  | [] => some []
  | .int s :: r => (asInts r).map (s :: ·)
  | _ => none
def asBls : List D → Option (List Bool)
  | [] => some []
  | .bl s :: r => (asBls r).map (s :: ·)
  | _ => none
theorem asStrs_map : ∀ ls : List (List Nat), asStrs (ls.map D.str) = some ls
  | [] => rfl
  | s :: r => by rw [List.map_cons, asStrs, asStrs_map r]; rfl
theorem asInts_map : ∀ ls : List Int, asInts (ls.map D.int) = some ls
  | [] => rfl
  | s :: r => by rw [List.map_cons, asInts, asInts_map r]; rfl
theorem asBls_map : ∀ ls : List Bool, asBls (ls.map D.bl) = some ls
  | [] => rfl
  | s :: r => by rw [List.map_cons, asBls, asBls_map r]; rfl
theorem asStrs_eq : ∀ {ds : List D} {ls : List (List Nat)}, asStrs ds = some ls → ds = ls.map D.str
  | [], _, h => by cases h; rfl
  | d :: r, ls, h => by
    cases d <;> simp [asStrs] at h
    obtain ⟨l, h1, rfl⟩ := h
    rw [asStrs_eq h1]; rfl
theorem asInts_eq : ∀ {ds : List D} {ls : List Int}, asInts ds = some ls → ds = ls.map D.int
  | [], _, h => by cases h; rfl
  | d :: r, ls, h => by
    cases d <;> simp [asInts] at h
    obtain ⟨l, h1, rfl⟩ := h
    rw [asInts_eq h1]; rfl
theorem asBls_eq : ∀ {ds : List D} {ls : List Bool}, asBls ds = some ls → ds = ls.map D.bl
  | [], _, h => by cases h; rfl
  | d :: r, ls, h => by
    cases d <;> simp [asBls] at h
    obtain ⟨l, h1, rfl⟩ := h
    rw [asBls_eq h1]; rfl
theorem Rps.strs {C : Ct} {F : Hp} : ∀ {ls : List (List Nat)} {xs : List V}, Rps C F (ls.map D.str) xs → xs = (ls.map mk).map V.str
  | [], _, h => by cases h; rfl
  | _ :: _, _, h => by
    obtain ⟨y, r, rfl, p, q⟩ := h
    cases p; rw [Rps.strs q]; rfl
theorem Rps.ints {C : Ct} {F : Hp} : ∀ {ls : List Int} {xs : List V}, Rps C F (ls.map D.int) xs → xs = ls.map V.int
  | [], _, h => by cases h; rfl
  | _ :: _, _, h => by
    obtain ⟨y, r, rfl, p, q⟩ := h
    cases p; rw [Rps.ints q]; rfl
theorem Rps.bls {C : Ct} {F : Hp} : ∀ {ls : List Bool} {xs : List V}, Rps C F (ls.map D.bl) xs → xs = ls.map V.bl
  | [], _, h => by cases h; rfl
  | _ :: _, _, h => by
    obtain ⟨y, r, rfl, p, q⟩ := h
    cases p; rw [Rps.bls q]; rfl
theorem rps_strs {C : Ct} {F : Hp} : ∀ (ls : List (List Nat)), Rps C F (ls.map D.str) ((ls.map mk).map V.str)
  | [] => rfl
  | l :: ls => ⟨_, _, rfl, rfl, rps_strs ls⟩
theorem rps_ints {C : Ct} {F : Hp} : ∀ (ls : List Int), Rps C F (ls.map D.int) (ls.map V.int)
  | [] => rfl
  | l :: ls => ⟨_, _, rfl, rfl, rps_ints ls⟩

def R.asT : R → Option (List D)
  | .pv (.tup ds) => some ds
  | _ => none
def R.asSeq (r : R) : Option (List D) := match r.asL with
  | some ds => some ds
  | none => r.asT
section
variable {X : Cx} {C : Ct} {B : Nat} {F0 H0 : Hp} {E : XK} {pos : Pos}
theorem RV.seq {H F' H' : Hp} {r : R} {v : V} {ds : List D} (w : Wf C F' H') (h : RV C H F' H' r v) (e : r.asSeq = some ds) : ∃ p xs, v = .ref p ∧ (SqL C.K H' p xs ∨ SqT C.K H' p xs) ∧ Rps C F' ds xs := by
  unfold R.asSeq at e
  split at e
  · rename_i d e1
    cases e
    obtain ⟨p, xs, e, h1, r1⟩ := h.list w e1
    exact ⟨p, xs, e, .inl (.inl (.inl h1)), r1⟩
  · cases r with
    | pv d =>
      cases d <;> simp [R.asT] at e
      subst e
      obtain ⟨p, xs, e, h1, r1⟩ := h
      exact ⟨p, xs, e, .inr (SqT.wf w h1), r1⟩
    | _ => simp [R.asT] at e

/-! ### in -/
def inR (a b : R) (P : Bool → Prop) : Prop := match a, b with
  | .pv (.str c), .pv (.str s) => ∃ k, c = [k] ∧ P (decide (k ∈ s))
  | .pv (.str s), b => ∃ ls, b.asSeq.bind asStrs = some ls ∧ P (decide (s ∈ ls))
  | a, b => ∃ d ds, a.dat = some d ∧ b.asL = some ds ∧ dOk d = true ∧ dOk (.lst ds) = true ∧ P (ds.any fun z => dEq z d)
def ninR (a b : R) (P : Bool → Prop) : Prop := inR a b fun k => P (!k)
def rInR (K : PySem.W.Frag) : R2 := fun x y H Q => (∃ (c : Nat) (z : Str), x = .str ⟨#[c]⟩ ∧ y = .str z ∧ Q (.bl (decide (c ∈ z.cps.toList))) H) ∨ (rIn K false x y H Q ∨ rInD K x y H Q)
def rNinR (K : PySem.W.Frag) : R2 := fun x y H Q => (∃ (c : Nat) (z : Str), x = .str ⟨#[c]⟩ ∧ y = .str z ∧ Q (.bl (!decide (c ∈ z.cps.toList))) H) ∨ (rIn K true x y H Q ∨ rNotInD K x y H Q)
theorem op_inR (hu : X.A.units + 65 < cLine) : OpR X (compareOp .In) (rInR X.K) := op_in_sign.or (op_in_seq.or (op_inD hu))
theorem op_ninR (hu : X.A.units + 65 < cLine) : OpR X (compareOp .NotIn) (rNinR X.K) := op_notIn_sign.or (op_notIn_seq.or (op_notInD hu))
theorem inV_strs (s : List Nat) : ∀ ls : List (List Nat), inV (.str (mk s)) ((ls.map mk).map V.str) = decide (s ∈ ls)
  | [] => by simp [inV]
  | l :: ls => by
    have ih := inV_strs s ls
    unfold inV at ih ⊢
    rw [List.map_cons, List.map_cons, List.any_cons, ih]
    have e : eqV (.str (mk l)) (.str (mk s)) = decide (l = s) := by
      show (mk l == mk s) = _
      rw [← mk_eq]
      by_cases h : mk l = mk s
      · rw [h]; simp
      · rw [decide_eq_false h]; exact beq_eq_false_iff_ne.mpr h
    rw [e]
    by_cases h : l = s
    · subst h; simp
    · simp [h, Ne.symm h]
theorem flat_strs : ∀ ls : List (List Nat), ((ls.map mk).map V.str).all flatV = true
  | [] => rfl
  | l :: ls => by rw [List.map_cons, List.map_cons, List.all_cons, flat_strs ls]; rfl
theorem toPs_any (d : D) : ∀ ds : List D, (toPs ds).any (fun z => PyData.eqv z (toP d)) = ds.any fun z => dEq z d
  | [] => rfl
  | e :: ds => by rw [toPs, List.any_cons, List.any_cons, toPs_any d ds]; rfl
theorem in_s {K : PySem.W.Frag} (hK : C.K = K) : OpB C (rInR K) inR := by
  intro H F1 H1 x y a b P Q w ha hb h q
  subst hK
  unfold inR at h
  split at h
  · cases ha; cases hb
    obtain ⟨k, rfl, h⟩ := h
    exact .inl ⟨k, _, rfl, rfl, by rw [mk_cps]; exact q _ h⟩
  · cases ha
    obtain ⟨ls, e, h⟩ := h
    cases e1 : b.asSeq with
    | none => rw [e1] at e; cases e
    | some ds =>
      rw [e1] at e
      obtain ⟨p, xs, rfl, hs, r⟩ := hb.seq w e1
      have : ds = ls.map D.str := asStrs_eq e
      subst this
      have := r.strs
      subst this
      exact .inr (.inl ⟨p, _, rfl, hs, rfl, flat_strs _, by rw [if_neg Bool.false_ne_true, inV_strs]; exact q _ h⟩)
  · obtain ⟨d, ds, e1, e2, o1, o2, h⟩ := h
    rw [dOk, Bool.and_eq_true] at o1 o2
    obtain ⟨p, xs, rfl, h1, r⟩ := hb.list w e2
    exact .inr (.inr ⟨_, _, ha.dp w e1 o1.1, .lst (.inl (.inl h1)) (Rps.dp w _ _ o2.1 r), o1.2, o2.2, by rw [toPs_any]; exact q _ h⟩)
theorem nin_s {K : PySem.W.Frag} (hK : C.K = K) : OpB C (rNinR K) ninR := by
  intro H F1 H1 x y a b P Q w ha hb h q
  subst hK
  unfold ninR inR at h
  split at h
  · cases ha; cases hb
    obtain ⟨k, rfl, h⟩ := h
    exact .inl ⟨k, _, rfl, rfl, by rw [mk_cps]; exact q _ h⟩
  · cases ha
    obtain ⟨ls, e, h⟩ := h
    cases e1 : b.asSeq with
    | none => rw [e1] at e; cases e
    | some ds =>
      rw [e1] at e
      obtain ⟨p, xs, rfl, hs, r⟩ := hb.seq w e1
      have : ds = ls.map D.str := asStrs_eq e
      subst this
      have := r.strs
      subst this
      exact .inr (.inl ⟨p, _, rfl, hs, rfl, flat_strs _, by rw [if_pos rfl, inV_strs]; exact q _ h⟩)
  · obtain ⟨d, ds, e1, e2, o1, o2, h⟩ := h
    rw [dOk, Bool.and_eq_true] at o1 o2
    obtain ⟨p, xs, rfl, h1, r⟩ := hb.list w e2
    exact .inr (.inr ⟨_, _, ha.dp w e1 o1.1, .lst (.inl (.inl h1)) (Rps.dp w _ _ o2.1 r), o1.2, o2.2, by rw [toPs_any]; exact q _ h⟩)
theorem Room.u65 {k : Nat} {A : Around} (r : Room (k + 1) A) : A.units + 65 < cLine := by have := r.un; omega
theorem de_in {e1 e2 : Expr} {a b : AE} {k : Nat} (hK : C.K = X.K) (hr : Room (k + 1) X.A) (ha : DE X C B F0 H0 E e1 a) (hb : DE X C B F0 H0 E e2 b) (hm : behindInMarks .In e2 = false := by rfl) : DE X C B F0 H0 E (.Compare e1 [.In] [e2] pos) (aCmp inR a b) := de_cmp (op_inR (Room.u65 hr)) (in_s hK) ha hb hm
theorem dt_in {e1 e2 : Expr} {a b : AE} {k : Nat} (hK : C.K = X.K) (hr : Room (k + 1) X.A) (ha : DE X C B F0 H0 E e1 a) (hb : DE X C B F0 H0 E e2 b) (hm : behindInMarks .In e2 = false := by rfl) : DT X C B F0 H0 E (.Compare e1 [.In] [e2] pos) (aCmpT inR a b) := dt_cmp (op_inR (Room.u65 hr)) (in_s hK) ha hb hm
theorem de_nin {e1 e2 : Expr} {a b : AE} {k : Nat} (hK : C.K = X.K) (hr : Room (k + 1) X.A) (ha : DE X C B F0 H0 E e1 a) (hb : DE X C B F0 H0 E e2 b) (hm : behindInMarks .NotIn e2 = false := by rfl) : DE X C B F0 H0 E (.Compare e1 [.NotIn] [e2] pos) (aCmp ninR a b) := de_cmp (op_ninR (Room.u65 hr)) (nin_s hK) ha hb hm
theorem dt_nin {e1 e2 : Expr} {a b : AE} {k : Nat} (hK : C.K = X.K) (hr : Room (k + 1) X.A) (ha : DE X C B F0 H0 E e1 a) (hb : DE X C B F0 H0 E e2 b) (hm : behindInMarks .NotIn e2 = false := by rfl) : DT X C B F0 H0 E (.Compare e1 [.NotIn] [e2] pos) (aCmpT ninR a b) := dt_cmp (op_ninR (Room.u65 hr)) (nin_s hK) ha hb hm

/-! ### subscripts -/
theorem Rps.atI {F : Hp} {ds : List D} {xs : List V} {i : Int} {d : D} (r : Rps C F ds xs) (e : atI ds i = some d) : ∃ x, L2.atI xs i = some x ∧ Rp C F d x := by
  unfold L2.atI at e ⊢
  rw [r.length]
  cases q : ixN ds.length i with
  | none => rw [q] at e; cases e
  | some j =>
    rw [q] at e
    exact r.get (by simpa using e)
def ixR (a b : R) (P : R → Prop) : Prop := match a, b with
  | .pv (.str s), .pv (.int i) => s.length ≤ sizeLine ∧ ∃ c, atI s i = some c ∧ P (.pv (.str [c]))
  | a, .pv (.int i) => ∃ ds d, a.asSeq = some ds ∧ atI ds i = some d ∧ P (.pv d)
  | _, _ => False
theorem ix_s {K : PySem.W.Frag} (hK : C.K = K) : OpS C (rIx K) ixR := by
  intro H F1 H1 x y a b P Q w ha hb h q
  subst hK
  unfold ixR at h
  split at h
  · cases ha; cases hb
    obtain ⟨l, c, e, p⟩ := h
    exact .inr (.inr ⟨_, _, c, rfl, rfl, by rw [mk_len]; exact l, by rw [mk_cps]; exact e, q _ _ F1 H1 p (.refl w) rfl⟩)
  · cases hb
    obtain ⟨ds, d, e1, e2, p⟩ := h
    obtain ⟨t, xs, rfl, hs, r⟩ := ha.seq w e1
    obtain ⟨z, h1, h2⟩ := Rps.atI r e2
    rcases hs with hs | hs
    · exact .inl ⟨t, xs, _, z, rfl, rfl, hs, h1, q _ _ F1 H1 p (.refl w) h2⟩
    · exact .inr (.inl ⟨t, xs, _, z, rfl, rfl, hs, h1, q _ _ F1 H1 p (.refl w) h2⟩)
  · exact h.elim
theorem de_ix {e1 e2 : Expr} {a b : AE} (hK : C.K = X.K) (ha : DE X C B F0 H0 E e1 a) (hb : DE X C B F0 H0 E e2 b) (hs : PlainIx e2 := by exact fun _ _ => rfl) : DE X C B F0 H0 E (.Subscript e1 e2 pos) (aOp ixR a b) :=
  (pe_ix ix_seq ha hb hs).imp fun σ H Q h => op_run (ix_s hK) h

/-! ### dicts -/
def lookK (kvs : List (DKey × D)) (k : DKey) : Option D := (kvs.find? fun p => decide (p.1 = k)).map (·.2)
def keyOf : R → Option DKey
  | .pv (.str s) => some (.inr s)
  | .pv (.int i) => some (.inl i)
  | _ => none
theorem toK_dec (a b : DKey) : decide (toK a = toK b) = decide (a = b) := by
  by_cases h : a = b
  · subst h; simp
  · rw [decide_eq_false h, decide_eq_false fun e => h (toK_inj e)]
theorem DGet_rd {H : Hp} {a : Addr} {kvs : List (Key × V)} {k : Key} (e : Rd H a (.dK kvs)) : DGet H a (kV k) (valV kvs k) := .inl ⟨kvs, k, e, rfl, rfl⟩
theorem Rpk.look {F : Hp} (k : DKey) : ∀ {kvs : List (DKey × D)} {xs : List (Key × V)}, Rpk C F kvs xs → match lookK kvs k with
    | some d => ∃ x, valV xs (toK k) = some x ∧ Rp C F d x
    | none => valV xs (toK k) = none
  | [], _, h => by cases h; rfl
  | (k', d) :: r, _, h => by
    obtain ⟨x, r', rfl, p, q⟩ := h
    have ih := Rpk.look k q
    by_cases e : k' = k
    · subst e
      simp only [lookK, List.find?_cons, decide_true, Option.map_some]
      exact ⟨x, valV_pos rfl, p⟩
    · simp only [lookK, List.find?_cons, decide_eq_false e] at ih ⊢
      rw [valV_neg (p := (toK k', x)) fun z => e (toK_inj z)]
      exact ih
theorem key_v {H F1 H1 : Hp} {r : R} {v : V} {k : DKey} (h : RV C H F1 H1 r v) (e : keyOf r = some k) : v = kV (toK k) := by
  unfold keyOf at e
  split at e
  · cases e; exact h
  · cases e; exact h
  · cases e
def dgetR (a b : R) (P : R → Prop) : Prop := ∃ kvs k d, a.asK = some kvs ∧ keyOf b = some k ∧ lookK kvs k = some d ∧ P (.pv d)
def dinR (a b : R) (P : Bool → Prop) : Prop := ∃ kvs k, b.asK = some kvs ∧ keyOf a = some k ∧ P (lookK kvs k).isSome
theorem de_dget {e1 e2 : Expr} {a b : AE} {k : Nat} (hr : Room k X.A) (ha : DE X C B F0 H0 E e1 a) (hb : DE X C B F0 H0 E e2 b) (hs : NoSl e2 := by exact fun _ _ => rfl) : DE X C B F0 H0 E (.Subscript e1 e2 pos) (aOp dgetR a b) :=
  (pe_dget (hu_of hr) ha hb hs).imp fun σ H Q ⟨α, F, P, PX, s, h, q, x⟩ => by
    refine ⟨α, F, _, PX, s.l, h, fun r1 v1 F1 H1 h1 x1 rv1 => ⟨α, F1, _, PX, s.go x1, h1, fun r2 v2 F2 H2 h2 x2 rv2 => ?_, x⟩, x⟩
    obtain ⟨kvs, k, d, e1, e2, e3, p⟩ := h2
    obtain ⟨pa, xs, rfl, h1, r⟩ := (rv1.xt x2).dict x2.wf e1
    have ek := key_v rv2 e2
    subst ek
    have hl := Rpk.look k r
    rw [e3] at hl
    obtain ⟨y, hy, ry⟩ := hl
    exact ⟨pa, y, rfl, by rw [← hy]; exact DGet_rd h1, q _ _ F2 H2 p (x1.trans x2) ry⟩
theorem de_din {e1 e2 : Expr} {a b : AE} {k : Nat} (hr : Room k X.A) (ha : DE X C B F0 H0 E e1 a) (hb : DE X C B F0 H0 E e2 b) (hm : behindInMarks .In e2 = false := by rfl) : DE X C B F0 H0 E (.Compare e1 [.In] [e2] pos) (aCmp dinR a b) :=
  (pe_cmp (pc_din (hu_of hr) ha hb) hm).imp fun σ H Q ⟨α, F, P, PX, s, h, q, x⟩ => by
    refine ⟨α, F, _, PX, s.l, h, fun r1 v1 F1 H1 h1 x1 rv1 => ⟨α, F1, _, PX, s.go x1, h1, fun r2 v2 F2 H2 h2 x2 rv2 => ?_, x⟩, x⟩
    obtain ⟨kvs, k, e1, e2, p⟩ := h2
    obtain ⟨pa, xs, rfl, h1, r⟩ := rv2.dict x2.wf e1
    have ek := key_v (rv1.xt x2) e2
    subst ek
    have hl := Rpk.look k r
    refine ⟨pa, valV xs (toK k), rfl, DGet_rd h1, ?_⟩
    have : (valV xs (toK k)).isSome = (lookK kvs k).isSome := by
      cases e : lookK kvs k with
      | none => rw [e] at hl; rw [hl]; rfl
      | some d => rw [e] at hl; obtain ⟨y, hy, _⟩ := hl; rw [hy]; rfl
    rw [this]
    exact q _ _ F2 H2 p (x1.trans x2) rfl
theorem dt_din {e1 e2 : Expr} {a b : AE} {k : Nat} (hr : Room k X.A) (ha : DE X C B F0 H0 E e1 a) (hb : DE X C B F0 H0 E e2 b) (hm : behindInMarks .In e2 = false := by rfl) : DT X C B F0 H0 E (.Compare e1 [.In] [e2] pos) (aCmpT dinR a b) :=
  (pt_cmp (pc_din (hu_of hr) ha hb) hm).imp fun σ H Q ⟨α, F, P, PX, s, h, q, x⟩ => by
    refine ⟨α, F, _, PX, s.l, h, fun r1 v1 F1 H1 h1 x1 rv1 => ⟨α, F1, _, PX, s.go x1, h1, fun r2 v2 F2 H2 h2 x2 rv2 => ?_, x⟩, x⟩
    obtain ⟨kvs, k, e1, e2, p⟩ := h2
    obtain ⟨pa, xs, rfl, h1, r⟩ := rv2.dict x2.wf e1
    have ek := key_v (rv1.xt x2) e2
    subst ek
    have hl := Rpk.look k r
    refine ⟨pa, valV xs (toK k), rfl, DGet_rd h1, _, rfl, ?_⟩
    have : (valV xs (toK k)).isSome = (lookK kvs k).isSome := by
      cases e : lookK kvs k with
      | none => rw [e] at hl; rw [hl]; rfl
      | some d => rw [e] at hl; obtain ⟨y, hy, _⟩ := hl; rw [hy]; rfl
    rw [this]
    exact q _ F2 H2 p (x1.trans x2)
def dninR (a b : R) (P : Bool → Prop) : Prop := dinR a b fun k => P (!k)
theorem de_dnin {e1 e2 : Expr} {a b : AE} {k : Nat} (hr : Room k X.A) (ha : DE X C B F0 H0 E e1 a) (hb : DE X C B F0 H0 E e2 b) (hm : behindInMarks .NotIn e2 = false := by rfl) : DE X C B F0 H0 E (.Compare e1 [.NotIn] [e2] pos) (aCmp dninR a b) :=
  (pe_cmp (pc_dnotin (hu_of hr) ha hb) hm).imp fun σ H Q ⟨α, F, P, PX, s, h, q, x⟩ => by
    refine ⟨α, F, _, PX, s.l, h, fun r1 v1 F1 H1 h1 x1 rv1 => ⟨α, F1, _, PX, s.go x1, h1, fun r2 v2 F2 H2 h2 x2 rv2 => ?_, x⟩, x⟩
    obtain ⟨kvs, k, e1, e2, p⟩ := h2
    obtain ⟨pa, xs, rfl, h1, r⟩ := rv2.dict x2.wf e1
    have ek := key_v (rv1.xt x2) e2
    subst ek
    have hl := Rpk.look k r
    refine ⟨pa, valV xs (toK k), rfl, DGet_rd h1, ?_⟩
    have : (valV xs (toK k)).isSome = (lookK kvs k).isSome := by
      cases e : lookK kvs k with
      | none => rw [e] at hl; rw [hl]; rfl
      | some d => rw [e] at hl; obtain ⟨y, hy, _⟩ := hl; rw [hy]; rfl
    rw [this]
    exact q _ _ F2 H2 p (x1.trans x2) rfl
theorem dt_dnin {e1 e2 : Expr} {a b : AE} {k : Nat} (hr : Room k X.A) (ha : DE X C B F0 H0 E e1 a) (hb : DE X C B F0 H0 E e2 b) (hm : behindInMarks .NotIn e2 = false := by rfl) : DT X C B F0 H0 E (.Compare e1 [.NotIn] [e2] pos) (aCmpT dninR a b) :=
  (pt_cmp (pc_dnotin (hu_of hr) ha hb) hm).imp fun σ H Q ⟨α, F, P, PX, s, h, q, x⟩ => by
    refine ⟨α, F, _, PX, s.l, h, fun r1 v1 F1 H1 h1 x1 rv1 => ⟨α, F1, _, PX, s.go x1, h1, fun r2 v2 F2 H2 h2 x2 rv2 => ?_, x⟩, x⟩
    obtain ⟨kvs, k, e1, e2, p⟩ := h2
    obtain ⟨pa, xs, rfl, h1, r⟩ := rv2.dict x2.wf e1
    have ek := key_v (rv1.xt x2) e2
    subst ek
    have hl := Rpk.look k r
    refine ⟨pa, valV xs (toK k), rfl, DGet_rd h1, _, rfl, ?_⟩
    have : (valV xs (toK k)).isSome = (lookK kvs k).isSome := by
      cases e : lookK kvs k with
      | none => rw [e] at hl; rw [hl]; rfl
      | some d => rw [e] at hl; obtain ⟨y, hy, _⟩ := hl; rw [hy]; rfl
    rw [this]
    exact q _ F2 H2 p (x1.trans x2)

/-! ### slices -/
def cutD {β : Type} (xs : List β) (lo hi : Option Int) : List β := (xs.drop (HT.sIx xs.length 0 lo)).take (HT.sIx xs.length xs.length hi - HT.sIx xs.length 0 lo)
theorem Rps.cut {F : Hp} {ds : List D} {xs : List V} (r : Rps C F ds xs) (lo hi : Option Int) : Rps C F (cutD ds lo hi) (cutV xs lo hi) := by
  unfold cutD cutV
  rw [r.length]
  exact (r.drop _).take _
structure AO where
  n : Nat
  run : List AS → (Option Int → Prop) → (Ex → Prop) → Prop
instance : CoeFun AO (fun _ => List AS → (Option Int → Prop) → (Ex → Prop) → Prop) := ⟨AO.run⟩
def tOA (C : Ct) (B : Nat) (F0 H0 : Hp) (E : XK) (a : AO) : TO := fun σ H Q => ∃ α F P PX, Sat C B F0 H0 a.n α F H σ ∧ a α P PX ∧ (∀ b F' H', P b → Xt C a.n F H F' H' → Q b H') ∧ exOk C B F0 H0 E PX
abbrev DO (X : Cx) (C : Ct) (B : Nat) (F0 H0 : Hp) (E : XK) (e : Option Expr) (a : AO) : Prop := PO X e (tOA C B F0 H0 E a)
theorem PO.imp {e : Option Expr} {t t' : TO} (h : PO X e t) (w : ∀ σ H Q, t' σ H Q → t σ H Q) : PO X e t' := ⟨fun pins s σ H Q I q => h.run pins s σ H Q I (w _ _ _ q)⟩
def aNoP : AO := ⟨0, fun _ P _ => P none⟩
def aPart (a : AE) : AO := ⟨a.n, fun α P PX => a α (fun r => ∃ i, r = .pv (.int i) ∧ P (some i)) PX⟩
theorem do_none : DO X C B F0 H0 E none aNoP := PO.imp po_none fun σ H Q ⟨α, F, P, PX, s, h, q, x⟩ => q _ F H h (.refl s.xt.wf)
theorem do_some {e : Expr} {a : AE} (h : DE X C B F0 H0 E e a) : DO X C B F0 H0 E (some e) (aPart a) := PO.imp (po_some h) fun σ H Q ⟨α, F, P, PX, s, h, q, x⟩ =>
  ⟨α, F, _, PX, s, h, fun r v F1 H1 ⟨i, e, p⟩ x1 rv => by subst e; exact ⟨i, rv, q _ F1 H1 p x1⟩, x⟩
def slR (a : R) (lo hi : Option Int) (P : R → Prop) : Prop := match a with
  | .pv (.str s) => s.length ≤ sizeLine ∧ P (.pv (.str (cutD s lo hi)))
  | .pv (.tup ds) => P (.pv (.tup (cutD ds lo hi)))
  | a => ∃ ds, a.asL = some ds ∧ P (.ol (cutD ds lo hi))
def aSl (a : AE) (l h : AO) : AE := ⟨a.n + l.n + h.n, fun α P PX => a α (fun r => l α (fun lo => h α (fun hi => slR r lo hi P) PX) PX) PX⟩
theorem sl_any : SlR X (fun x lo hi H Q => rSlS x lo hi H Q ∨ (rSlA X.K x lo hi H Q ∨ rSlL X.K x lo hi H Q)) := sl_str.or (sl_tupA.or sl_list)
theorem cutS_mk (s : List Nat) (lo hi : Option Int) : cutS (mk s) lo hi = mk (cutD s lo hi) := by
  unfold cutS cutD mk
  simp [Str.length]
theorem de_slice {e : Expr} {lo hi : Option Expr} {p2 : Pos} {a : AE} {l h : AO} (hK : C.K = X.K) (he : DE X C B F0 H0 E e a) (hl : DO X C B F0 H0 E lo l) (hh : DO X C B F0 H0 E hi h) : DE X C B F0 H0 E (.Subscript e (.Slice lo hi none p2) pos) (aSl a l h) :=
  (pe_slice sl_any he hl hh).imp fun σ H Q ⟨α, F, P, PX, s, hh, q, x⟩ => by
    refine ⟨α, F, _, PX, s.l.l, hh, fun r v F1 H1 h1 x1 rv => ⟨α, F1, _, PX, (s.as.go x1).l, h1, fun lo F2 H2 h2 x2 => ⟨α, F2, _, PX, (s.as.go x1).go x2, h2, fun hi F3 H3 h3 x3 => ?_, x⟩, x⟩, x⟩
    have rv3 := (rv.xt x2).xt x3
    have x13 := (x1.trans x2).trans x3
    unfold slR at h3
    split at h3
    · cases rv3
      exact .inl ⟨_, rfl, by rw [mk_len]; exact h3.1, by rw [cutS_mk]; exact q _ _ F3 H3 h3.2 x13 rfl⟩
    · obtain ⟨a1, xs, rfl, sq, r1⟩ := rv3
      rename_i ds
      refine .inr (.inl ⟨a1, xs, rfl, by rw [← hK]; exact SqT.wf x3.wf sq, fun ⟨z1, z2⟩ => ?_, fun _ p np => ?_⟩)
      · refine q _ _ F3 H3 h3 x13 ⟨a1, xs, rfl, sq, ?_⟩
        have := r1.cut lo hi
        unfold cutV at this
        rw [z1, z2] at this
        simpa using this
      · exact q _ _ _ _ h3 (x13.trans (Xt.layF x3.wf np)) ⟨p, cutV xs lo hi, rfl, .inl (.inl upd_same), Rps.mono (Xt.layF (o := .tup (cutV xs lo hi)) x3.wf np).frz _ _ (r1.cut lo hi)⟩
    · obtain ⟨ds, e1, h3⟩ := h3
      obtain ⟨a1, xs, rfl, h1, r1⟩ := rv3.list x3.wf e1
      refine .inr (.inr ⟨a1, xs, rfl, .inl (.inl h1), fun p np => ?_⟩)
      exact q _ _ _ _ h3 (x13.trans (Xt.lay x3.wf np)) ⟨p, _, rfl, upd_same, (x3.wf.lay (o := .lst (cutV xs lo hi)) np).2.1, x13.free np, (x3.wf.lay (o := .lst (cutV xs lo hi)) np).2.2, r1.cut lo hi⟩
/-- xs[::-1] -/
def aRev (a : AE) : AE := ⟨a.n, fun α P PX => a α (fun r => ∃ ds, r.asL = some ds ∧ P (.ol ds.reverse)) PX⟩
theorem de_rev {e : Expr} {a : AE} {k : Nat} {p1 p2 p3 : Pos} (he : DE X C B F0 H0 E e a) : DE X C B F0 H0 E (.Subscript e (.Slice none none (some (.UnaryOp .USub (.Constant (.int 1) k p1) p2)) p3) pos) (aRev a) :=
  (pe_revL he).imp fun σ H Q ⟨α, F, P, PX, s, h, q, x⟩ => by
    refine ⟨α, F, _, PX, s, h, fun r v F1 H1 ⟨ds, e, p⟩ x1 rv => ?_, x⟩
    obtain ⟨a1, xs, rfl, h1, r1⟩ := rv.list x1.wf e
    refine ⟨a1, xs, rfl, .inl (.inl h1), fun z nz => ?_⟩
    exact q _ _ _ _ p (x1.trans (Xt.lay x1.wf nz)) ⟨z, _, rfl, upd_same, (x1.wf.lay (o := .lst xs.reverse) nz).2.1, x1.free nz, (x1.wf.lay (o := .lst xs.reverse) nz).2.2, r1.reverse⟩

/-! ### built-ins -/
def CalS (C : Ct) (r : List V → Hp → VK → Prop) (f : R → (R → Prop) → Prop) : Prop := ∀ (H F1 H1 : Hp) (x : V) (a : R) (P : R → Prop) (Q : VK), Wf C F1 H1 → RV C H F1 H1 a x → f a P →
  (∀ q v F' H', P q → Xt C 0 F1 H1 F' H' → RV C H1 F' H' q v → Q v H') → r [x] H1 Q
def aB (f : R → (R → Prop) → Prop) (a : AE) : AE := ⟨a.n, fun α P PX => a α (fun r => f r P) PX⟩
theorem b_run {r : List V → Hp → VK → Prop} {f : R → (R → Prop) → Prop} (hs : CalS C r f) {a : AE} {σ : L2.St} {H : Hp} {Q : VK} (h : tE C B F0 H0 E (aB f a) σ H Q) : tCB r (tCons (tE C B F0 H0 E a) tNil) σ H Q := by
  obtain ⟨α, F, P, PX, s, h, q, x⟩ := h
  exact ⟨α, F, _, PX, s, h, fun r1 v1 F1 H1 h1 x1 rv1 => hs H F1 H1 v1 r1 P Q x1.wf rv1 h1 fun z v F' H' p x2 rv => q _ _ _ _ p (x1.trans x2) (rv.back x1), x⟩
theorem de_b {id : String} {x : Str} {p : Pos} {e : Expr} {a : AE} {r : List V → Hp → VK → Prop} {f : R → (R → Prop) → Prop} (hc : CallR X (.builtin id) r) (hs : CalS C r f) (hm : X.mg x = none) (ha : DE X C B F0 H0 E e a) (hg : Gl X x := by rfl) (hv : bootBuiltins x = some (.builtin id) := by decide +kernel) (hn : x ≠ "__name__" := by decide) (hdb : (x == ("__debug__" : Str)) = false := by decide)
    (hs1 : starEach [e] X.env = (false, eval e X.env) :: starEach [] X.env := by rfl) (hpl : (backTo pos (starEach [] X.env)).any (·.1) = false := by rfl) : DE X C B F0 H0 E (.Call (.Name x p) [e] [] pos) (aB f a) :=
  (pe_callB hc hg hm hv (pa_cons ha pa_nil hs1) hn hdb hs1 hpl).imp fun σ H Q h => b_run hs h
theorem de_ty {T : String} {x : Str} {p : Pos} {e : Expr} {a : AE} {r : List V → Hp → VK → Prop} {f : R → (R → Prop) → Prop} (hc : CallR X (.type T) r) (hs : CalS C r f) (hm : X.mg x = none) (ha : DE X C B F0 H0 E e a) (hg : Gl X x := by rfl) (hv : bootBuiltins x = some (.type T) := by decide +kernel) (hn : x ≠ "__name__" := by decide) (hdb : (x == ("__debug__" : Str)) = false := by decide)
    (hs1 : starEach [e] X.env = (false, eval e X.env) :: starEach [] X.env := by rfl) (hpl : (backTo pos (starEach [] X.env)).any (·.1) = false := by rfl) : DE X C B F0 H0 E (.Call (.Name x p) [e] [] pos) (aB f a) :=
  (pe_callTy hc hg hm hv (pa_cons ha pa_nil hs1) hn hdb hs1 hpl).imp fun σ H Q h => b_run hs h
/-- len -/
def lenR (a : R) (P : R → Prop) : Prop := match a with
  | .pv (.str s) => s.length ≤ sizeLine ∧ P (.pv (.int s.length))
  | a => ∃ ds, a.asSeq = some ds ∧ P (.pv (.int ds.length))
theorem len_s {K : PySem.W.Frag} (hK : C.K = K) : CalS C (fun xs H Q => ∃ x n, xs = [x] ∧ LenV K x H n ∧ Q (.int n) H) lenR := by
  intro H F1 H1 x a P Q w ha h q
  subst hK
  unfold lenR at h
  split at h
  · cases ha
    exact ⟨_, _, rfl, ⟨by rw [mk_len]; exact h.1, rfl⟩, by rw [mk_len]; exact q _ _ F1 H1 h.2 (.refl w) rfl⟩
  · obtain ⟨ds, e, h⟩ := h
    obtain ⟨t, xs, rfl, hs, r⟩ := ha.seq w e
    refine ⟨_, xs.length, rfl, ?_, by rw [r.length]; exact q _ _ F1 H1 h (.refl w) rfl⟩
    rcases hs with hs | hs
    · exact .inl ⟨_, hs, rfl⟩
    · exact .inr ⟨_, hs, rfl⟩
theorem de_len {e : Expr} {p : Pos} {a : AE} (hK : C.K = X.K) (hm : X.mg "len" = none) (ha : DE X C B F0 H0 E e a) (hg : Gl X "len" := by rfl) (hs1 : starEach [e] X.env = (false, eval e X.env) :: starEach [] X.env := by rfl) (hpl : (backTo pos (starEach [] X.env)).any (·.1) = false := by rfl) : DE X C B F0 H0 E (.Call (.Name "len" p) [e] [] pos) (aB lenR a) :=
  de_b call_len (len_s hK) hm ha hg PySem.boot_len (by decide) (by decide) hs1 hpl
end
end AL

set_option Elab.async false
set_option linter.all false
set_option maxRecDepth 100000
set_option maxHeartbeats 1000000
set_option autoImplicit false
namespace AL
open PySem PySem.Spec PyProof.Rows L2
section
variable {X : Cx} {C : Ct} {B : Nat} {F0 H0 : Hp} {E : XK} {pos : Pos}
/-! ### statements -/
def sNil : AST := ⟨0, fun α P => P.nx α⟩
def sSeq (a b : AST) : AST := ⟨a.n + b.n, fun α P => a α { P with nx := fun α' => b α' P }⟩
theorem dss_nil : DSs X C B F0 H0 E [] sNil := pss_nil.imp fun D σ H ⟨α, F, P, m, s, h, q, _⟩ => q α σ F H h s.r (.refl _)
theorem dss_cons {st : Stmt} {rest : List Stmt} {a b : AST} (h1 : DS X C B F0 H0 E st a) (h2 : DSs X C B F0 H0 E rest b) : DSs X C B F0 H0 E (st :: rest) (sSeq a b) :=
  (pss_cons h1 h2).imp fun D σ H ⟨α, F, P, m, s, h, q, q2, q3, q4, q5⟩ => ⟨α, F, _, b.n + m, Sat.as s, h, fun α' σ' F' H' h2 s2 sm => ⟨α', F', P, m, s2, h2, fun a b c d e f g => q a b c d e f (sm.trans g), q2, fun a b c d e f g => q3 a b c d e f (sm.trans g), fun a b c d e f g => q4 a b c d e f (sm.trans g), q5⟩, q2, fun a b c d e f g => q3 a b c d e f.r g, fun a b c d e f g => q4 a b c d e f.r g, q5⟩
theorem dss_one {st : Stmt} {a : AST} (h : DS X C B F0 H0 E st a) : DSs X C B F0 H0 E [st] a := pss_one h
theorem ds_pass : DS X C B F0 H0 E (.Pass pos) sNil := ps_pass.imp fun D σ H ⟨α, F, P, m, s, h, q, _⟩ => q α σ F H h s.r (.refl _)
def sBreak : AST := ⟨0, fun α P => P.bk α⟩
def sCont : AST := ⟨0, fun α P => P.ct α⟩
theorem ds_break : DS X C B F0 H0 E (.Break pos) sBreak := ps_break.imp fun D σ H ⟨α, F, P, m, s, h, q, q2, q3, _⟩ => q3 α σ F H h s.r (.refl _)
theorem ds_continue : DS X C B F0 H0 E (.Continue pos) sCont := ps_continue.imp fun D σ H ⟨α, F, P, m, s, h, q, q2, q3, q4, _⟩ => q4 α σ F H h s.r (.refl _)
/-- a value handed back: an owned thing of the frame goes out as a new one -/
def R.out : R → R
  | .bo ds => .ol ds
  | .bd ds => .od ds
  | r => r
def sRet (a : AE) : AST := ⟨a.n, fun α P => a α P.rt P.ex⟩
theorem ds_ret {e : Expr} {a : AE} (h : DE X C B F0 H0 E e a) : DS X C B F0 H0 E (.Return (some e) pos) (sRet a) :=
  (ps_ret h).imp fun D σ H ⟨α, F, P, m, s, h, q, q2, q3, q4, q5⟩ => ⟨α, F, _, _, s.l, h, fun r v F' H' p x rv => q2 r v F' H' p (s.xtm x) (rv.back s.xt), q5⟩
/-- return x, x a slot that owns a list -/
def sRetO (i : Nat) : AST := ⟨0, fun α P => match α[i]? with
  | some (.ol ds) => P.rt (.ol ds)
  | some (.od ds) => P.rt (.od ds)
  | _ => False⟩
theorem ds_retO (i : Nat) {x : Str} {p : Pos} (h : PE X (.Name x p) (tVar i)) : DS X C B F0 H0 E (.Return (some (.Name x p)) pos) (sRetO i) :=
  (ps_ret h).imp fun D σ H ⟨α, F, P, m, s, h, q, q2, q3, q4, q5⟩ => by
    unfold sRetO at h
    dsimp only at h
    split at h
    · rename_i ds e
      obtain ⟨v, h1, p, xs, rfl, r1, r2, r3, r4⟩ := s.at e
      exact ⟨_, h1, q2 _ _ F H h s.xt ⟨p, xs, rfl, r1, r2, s.fresh i _ _ p e h1 rfl, r3, r4⟩⟩
    · rename_i ds e
      obtain ⟨v, h1, p, xs, rfl, r1, r2, r3, r4⟩ := s.at e
      exact ⟨_, h1, q2 _ _ F H h s.xt ⟨p, xs, rfl, r1, r2, s.fresh i _ _ p e h1 rfl, r3, r4⟩⟩
    · exact h.elim
def sRetN : AST := ⟨0, fun _ P => P.rt (.pv .non)⟩
theorem ds_retN : DS X C B F0 H0 E (.Return none pos) sRetN := ps_retN.imp fun D σ H ⟨α, F, P, m, s, h, q, q2, q3, q4, q5⟩ => q2 _ _ F H h s.xt rfl
def sIf (c : AT) (a b : AST) : AST := ⟨c.n + (a.n + b.n), fun α P => c α (fun k => if k = true then a α P else b α P) P.ex⟩
theorem sgo {D : Ends} {σ : L2.St} {H' : Hp} {a : AST} {α : List AS} {P : Pst} {F F' : Hp} {m : Nat} (s : Sat C B F0 H0 (a.n + m) α F' H' σ) (x : Same F F') (h : a α P) (q : ∀ α' σ' F' H', P.nx α' → Sat C B F0 H0 m α' F' H' σ' → Same F F' → D.nx σ' H')
    (q2 : ∀ r v F' H', P.rt r → Xt C B F0 H0 F' H' → RV C H0 F' H' r v → D.rt v H') (q3 : ∀ α' σ' F' H', P.bk α' → Sat C B F0 H0 m α' F' H' σ' → Same F F' → D.bk σ' H') (q4 : ∀ α' σ' F' H', P.ct α' → Sat C B F0 H0 m α' F' H' σ' → Same F F' → D.ct σ' H')
    (q5 : exOk C B F0 H0 E P.ex) : tS C B F0 H0 E a D σ H' :=
  ⟨α, F', P, m, s, h, fun a b c d e f g => q a b c d e f (x.trans g), q2, fun a b c d e f g => q3 a b c d e f (x.trans g), fun a b c d e f g => q4 a b c d e f (x.trans g), q5⟩
theorem ds_if {c : Expr} {a b : List Stmt} {t : AT} {u v : AST} (hc : DT X C B F0 H0 E c t) (ha : DSs X C B F0 H0 E a u) (hb : DSs X C B F0 H0 E b v) : DS X C B F0 H0 E (.If c a b pos) (sIf t u v) :=
  (ps_if hc ha hb).imp fun D σ H ⟨α, F, P, m, s, h, q, q2, q3, q4, q5⟩ => by
    have s : Sat C B F0 H0 (t.n + (u.n + v.n + m)) α F H σ := Sat.as s
    exact ⟨α, F, _, _, s.l, h, fun k F' H' h2 x => by
    cases k with
    | true => exact sgo ((s.go x).le (by omega)) x.frz h2 q q2 q3 q4 q5
    | false => exact sgo ((s.go x).le (by omega)) x.frz h2 q q2 q3 q4 q5, q5⟩
def sExpr (a : AE) : AST := ⟨a.n, fun α P => a α (fun _ => P.nx α) P.ex⟩
theorem ds_expr {e : Expr} {a : AE} (h : DE X C B F0 H0 E e a) (hs : swapsWith e none pos.line X.env = pure false := by rfl) : DS X C B F0 H0 E (.Expr e pos) (sExpr a) :=
  (ps_expr h hs).imp fun D σ H ⟨α, F, P, m, s, h, q, q2, q3, q4, q5⟩ => ⟨α, F, _, _, s.l, h, fun r v F' H' p x rv => q α σ F' H' p (s.go x) x.frz, q5⟩

/-! ### targets -/
abbrev AG := D → List AS → (List AS → Prop) → Prop
abbrev AGs := List D → List AS → (List AS → Prop) → Prop
/-- only the slots of W were stored -/
def Only (W : List Nat) (σ σ' : L2.St) : Prop := σ'.length = σ.length ∧ ∀ i, i ∉ W → σ'[i]? = σ[i]?
theorem Only.trans {W W' : List Nat} {a b c : L2.St} (h : Only W a b) (k : Only W' b c) : Only (W ++ W') a c := ⟨k.1.trans h.1, fun i hi => by
  rw [List.mem_append] at hi
  exact (k.2 i fun z => hi (.inr z)).trans (h.2 i fun z => hi (.inl z))⟩
def tG (C : Ct) (B : Nat) (F0 H0 : Hp) (W : List Nat) (a : AG) : TG := fun v σ H Q => ∃ α F d P m, Sat C B F0 H0 m α F H σ ∧ Rp C F d v ∧ a d α P ∧ ∀ α' σ', P α' → Sat C B F0 H0 m α' F H σ' → Only W σ σ' → Q σ' H
def tGs (C : Ct) (B : Nat) (F0 H0 : Hp) (W : List Nat) (a : AGs) : TGs := fun vs σ H Q => ∃ α F d P m, Sat C B F0 H0 m α F H σ ∧ Rps C F d vs ∧ a d α P ∧ ∀ α' σ', P α' → Sat C B F0 H0 m α' F H σ' → Only W σ σ' → Q σ' H
theorem PG.imp {e : Expr} {t t' : TG} (h : PG X e t) (w : ∀ v σ H Q, t' v σ H Q → t v σ H Q) : PG X e t' := ⟨fun pins s σ H v u Q I r q => h.run pins s σ H v u Q I r (w _ _ _ _ q)⟩
theorem PGs.imp {e : List Expr} {t t' : TGs} (h : PGs X e t) (w : ∀ v σ H Q, t' v σ H Q → t v σ H Q) : PGs X e t' := ⟨fun pins s σ H v u Q I r q => h.run pins s σ H v u Q I r (w _ _ _ _ q)⟩
def gN (i : Nat) : AG := fun d α P => P (α.set i (.pv d))
theorem dg_name {i : Nat} {x : Str} (h : PG X (.Name x pos) (gName i)) : PG X (.Name x pos) (tG C B F0 H0 [i] (gN i)) := PG.imp h fun v σ H Q ⟨α, F, d, P, m, s, r, h, q⟩ => q _ _ h (s.setP r) ⟨List.length_set, fun j hj => by rw [List.getElem?_set_ne]; intro z; subst z; exact hj List.mem_cons_self⟩
def gNl : AGs := fun ds α P => ds = [] ∧ P α
def gCs (a : AG) (b : AGs) : AGs := fun ds α P => match ds with
  | d :: r => a d α (fun α' => b r α' P)
  | [] => False
theorem dgs_nil : PGs X [] (tGs C B F0 H0 [] gNl) := PGs.imp pgs_nil fun v σ H Q ⟨α, F, d, P, m, s, r, ⟨e, h⟩, q⟩ => by subst e; exact ⟨r, q _ _ h s ⟨rfl, fun _ _ => rfl⟩⟩
theorem dgs_cons {e : Expr} {es : List Expr} {a : AG} {b : AGs} {W W' : List Nat} (h1 : PG X e (tG C B F0 H0 W a)) (h2 : PGs X es (tGs C B F0 H0 W' b)) (hs : (assignEach (e :: es) X.env).map (·.2) = assign e X.env :: (assignEach es X.env).map (·.2) := by rfl) : PGs X (e :: es) (tGs C B F0 H0 (W ++ W') (gCs a b)) := PGs.imp (pgs_cons h1 h2 hs) fun v σ H Q ⟨α, F, d, P, m, s, r, h, q⟩ => by
  unfold gCs at h
  split at h
  · obtain ⟨y, r', rfl, r1, r2⟩ := r
    exact ⟨y, r', rfl, α, F, _, _, m, s, r1, h, fun α' σ' h2 s2 o => ⟨α', F, _, P, m, s2, r2, h2, fun a b c d e => q a b c d (o.trans e)⟩⟩
  · exact h.elim
def gT (n : Nat) (b : AGs) : AG := fun d α P => match d with
  | .tup ds => ds.length = n ∧ b ds α P
  | _ => False
theorem dg_tup {es : List Expr} {k : Nat} {b : AGs} {n : Nat} (hK : C.K = X.K) {W : List Nat} (hc : X.calm = true) (h : PGs X es (tGs C B F0 H0 W b)) (hl : PG X (.Tuple es k pos) (gTup X.K n (tGs C B F0 H0 W b))) : PG X (.Tuple es k pos) (tG C B F0 H0 W (gT n b)) :=
  PG.imp hl fun v σ H Q ⟨α, F, d, P, m, s, r, h, q⟩ => by
    unfold gT at h
    split at h
    · obtain ⟨a, xs, rfl, sq, r1⟩ := r
      exact ⟨a, xs, rfl, by rw [← hK]; exact SqT.wf s.xt.wf sq, by rw [r1.length]; exact h.1, α, F, _, P, m, s, r1, h.2, q⟩
    · exact h.elim
def sAsg (a : AE) (g : AG) : AST := ⟨a.n, fun α P => a α (fun r => ∃ d, r.frz = some d ∧ g d α P.nx) P.ex⟩
theorem asg_run {W : List Nat} {a : AE} {g : AG} {D : Ends} {σ : L2.St} {H : Hp} (h : tS C B F0 H0 E (sAsg a g) D σ H) : tAsg (tE C B F0 H0 E a) (tG C B F0 H0 W g) D σ H := by
  obtain ⟨α, F, P, m, s, h, q, q2, q3, q4, q5⟩ := h
  refine ⟨α, F, _, _, s.l, h, fun r v F' H' ⟨d, e, h2⟩ x rv => ?_, q5⟩
  obtain ⟨F2, x2, sm, _, rp⟩ := rv.fz x e
  exact ⟨α, F2, d, _, m, s.go x2, rp, h2, fun α' σ' p s' _ => q α' σ' F2 H' p s' x2.frz⟩
theorem ds_asg {W : List Nat} {tg e : Expr} {a : AE} {g : AG} (he : DE X C B F0 H0 E e a) (hg : PG X tg (tG C B F0 H0 W g)) (hs : swapsWithSole [tg] e pos.line X.env = pure false := by rfl) (hw : swappedStores [tg] e X.env = pure none := by rfl) (h1 : (assignEach [tg] X.env).map (·.2) = [assign tg X.env] := by rfl) : DS X C B F0 H0 E (.Assign [tg] e pos) (sAsg a g) :=
  (ps_asg he hg hs hw h1).imp fun D σ H h => asg_run h
/-- a name becomes the owner of a new list, dict -/
def sOwn (a : AE) (i : Nat) : AST := ⟨a.n, fun α P => a α (fun r => match r with
  | .ol ds => P.nx (α.set i (.ol ds))
  | .od ds => P.nx (α.set i (.od ds))
  | _ => False) P.ex⟩
theorem own_run {a : AE} {i : Nat} {D : Ends} {σ : L2.St} {H : Hp} (h : tS C B F0 H0 E (sOwn a i) D σ H) : tAsg (tE C B F0 H0 E a) (gName i) D σ H := by
  obtain ⟨α, F, P, m, s, h, q, q2, q3, q4, q5⟩ := h
  refine ⟨α, F, _, _, s.l, h, fun r v F' H' h2 x rv => ?_, q5⟩
  have s' := s.go x
  have nw : ∀ (p : Addr), H p = none → ∀ (j : Nat) (u : AS) (w : Option V), j ≠ i → α[j]? = some u → σ[j]? = some w → ownA u w ≠ some p := fun p np j u w _ h1 h2 o => (ownA_ok (s.ok j u w h1 h2) o).2.1 np
  split at h2
  · obtain ⟨p, xs, rfl, h1, h3, h4, h5, r⟩ := rv
    exact q _ _ F' H' h2 (s'.set ⟨p, xs, rfl, h1, h3, h5, r⟩ (fun a e => by cases e; exact s.xt.free h4) fun a e => by cases e; exact nw p h4) x.frz
  · obtain ⟨p, xs, rfl, h1, h3, h4, h5, r⟩ := rv
    exact q _ _ F' H' h2 (s'.set ⟨p, xs, rfl, h1, h3, h5, r⟩ (fun a e => by cases e; exact s.xt.free h4) fun a e => by cases e; exact nw p h4) x.frz
  · exact h2.elim
theorem ds_own {x : Str} {e : Expr} {a : AE} {i : Nat} {p' : Pos} (he : DE X C B F0 H0 E e a) (hN : X.N.Nodup) (hi : X.N[i]? = some x) (hx : Loc X.env.scope x) (hs : swapsWith e (some (.Name x p')) pos.line X.env = pure false := by rfl) (hf : X.fn x = true ∨ X.env.scope.names.lookup x = some .local := by first | exact .inl rfl | exact .inr rfl | assumption) :
    DS X C B F0 H0 E (.Assign [.Name x p'] e pos) (sOwn a i) := (ps_set hN hi hx he hs hf).imp fun D σ H h => own_run h

/-! ### loops -/
def sWhile (c : AT) (b : AST) : AST := ⟨0, fun α P => ∃ W : Nat → List AS → Prop, (∃ m, W m α) ∧ ∀ m α, W m α →
  c α (fun k => if k = true then b α { P with nx := fun α' => ∃ m', m' < m ∧ W m' α', ct := fun α' => ∃ m', m' < m ∧ W m' α', bk := P.nx } else P.nx α) P.ex⟩
theorem ds_while {c : Expr} {body : List Stmt} {t : AT} {b : AST} (hp : PassesOwn (model X.prog X.w) X.A X.env X.xe) (hc : DT X C B F0 H0 E c t) (hb : DSs X C B F0 H0 E body b) (z1 : t.n = 0 := by rfl) (z2 : b.n = 0 := by rfl) : DS X C B F0 H0 E (.While c body [] pos) (sWhile t b) :=
  (ps_while hp hc hb).imp fun D σ H ⟨α, F, P, l, s, ⟨W, ⟨m0, w0⟩, turn⟩, q, q2, q3, q4, q5⟩ => by
    refine ⟨fun m σ' H' => ∃ α' F', Sat C B F0 H0 l α' F' H' σ' ∧ Same F F' ∧ W m α', ⟨m0, α, F, s.r, .refl _, w0⟩, fun m σ' H' ⟨α', F', s', sm, w⟩ => ?_⟩
    refine ⟨α', F', _, _, s'.le (by omega), turn m α' w, fun k F1 H1 h x => ?_, q5⟩
    have x : Xt C 0 F' H' F1 H1 := x.le (by omega)
    cases k with
    | false => exact q _ _ _ _ h (s'.go0 x) (sm.trans x.frz)
    | true =>
      refine ⟨fun σ2 H2 => ∃ m', m' < m ∧ ∃ α2 F2, Sat C B F0 H0 l α2 F2 H2 σ2 ∧ Same F F2 ∧ W m' α2, fun σ2 H2 h => h, α', F1, _, l, (s'.go0 x).le (by omega), h, ?_, q2, ?_, ?_, q5⟩
      · rintro α2 σ2 F2 H2 ⟨m', l, w'⟩ s2 sm2
        exact ⟨m', l, α2, F2, s2, (sm.trans x.frz).trans sm2, w'⟩
      · intro α2 σ2 F2 H2 w' s2 sm2
        exact q _ _ _ _ w' s2 ((sm.trans x.frz).trans sm2)
      · rintro α2 σ2 F2 H2 ⟨m', l, w'⟩ s2 sm2
        exact ⟨m', l, α2, F2, s2, (sm.trans x.frz).trans sm2, w'⟩
/-- what is walked: its items, whatever is frozen more (F), whatever is made more (X) -/
def ItF (C : Ct) (F : Hp) (J : It) (ds : List D) : Prop := ∀ (i : Nat) (F' H' : Hp), Same F F' → Wf C F' H' →
  (∀ d, ds[i]? = some d → J.go i H' ∧ ∀ x H'', J.yld i H' x H'' → ∃ F'', Xt C 0 F' H' F'' H'' ∧ Rp C F'' d x) ∧ (ds.length ≤ i → J.stop i H')
def ItX (C : Ct) (F H : Hp) (J : It) (ds : List D) : Prop := ∀ (i n : Nat) (F' H' : Hp), Xt C n F H F' H' →
  (∀ d, ds[i]? = some d → J.go i H' ∧ ∀ x H'', J.yld i H' x H'' → ∃ F'', Xt C 0 F' H' F'' H'' ∧ Rp C F'' d x) ∧ (ds.length ≤ i → J.stop i H')
theorem ItF.x {F H : Hp} {J : It} {ds : List D} (h : ItF C F J ds) : ItX C F H J ds := fun i n F' H' x => h i F' H' x.frz x.wf
structure AI where
  n : Nat
  run : List AS → (List D → Prop) → (Ex → Prop) → Prop
instance : CoeFun AI (fun _ => List AS → (List D → Prop) → (Ex → Prop) → Prop) := ⟨AI.run⟩
def tI (C : Ct) (B : Nat) (F0 H0 : Hp) (E : XK) (a : AI) : TI := fun σ H R => ∃ α F P PX, Sat C B F0 H0 a.n α F H σ ∧ a α P PX ∧ (∀ J ds F' H', P ds → Xt C a.n F H F' H' → ItF C F' J ds → R J H') ∧ exOk C B F0 H0 E PX
def tIX (C : Ct) (B : Nat) (F0 H0 : Hp) (E : XK) (a : AI) : TI := fun σ H R => ∃ α F P PX, Sat C B F0 H0 a.n α F H σ ∧ a α P PX ∧ (∀ J ds F' H', P ds → Xt C a.n F H F' H' → ItX C F' H' J ds → R J H') ∧ exOk C B F0 H0 E PX
theorem PI.imp {tg e : Expr} {t t' : TI} (h : PI X tg e t) (w : ∀ σ H Q, t' σ H Q → t σ H Q) : PI X tg e t' := ⟨fun pins s σ H R I q => h.run pins s σ H R I (w _ _ _ q)⟩
theorem di_x {tg e : Expr} {a : AI} (h : PI X tg e (tI C B F0 H0 E a)) : PI X tg e (tIX C B F0 H0 E a) := PI.imp h fun σ H R ⟨α, F, P, PX, s, h, q, x⟩ => ⟨α, F, P, PX, s, h, fun J ds F' H' p x i => q J ds F' H' p x i.x, x⟩
def forL (g : AG) (b : AST) (P : Pst) : List D → List AS → Prop
  | [], α => P.nx α
  | d :: ds, α => g d α fun α' => b α' { P with nx := forL g b P ds, ct := forL g b P ds, bk := P.nx }
def sFor (i : AI) (g : AG) (b : AST) : AST := ⟨i.n, fun α P => i α (fun ds => forL g b P ds α) P.ex⟩
/-- a loop whose turns draw: at most M turns -/
def sForD (M : Nat) (i : AI) (g : AG) (b : AST) : AST := ⟨i.n + M * b.n, fun α P => i α (fun ds => ds.length ≤ M ∧ forL g b P ds α) P.ex⟩
theorem for_rest {W : List Nat} {g : AG} {b : AST} {Dn : Ends} {σ : L2.St} {F F1 H1 : Hp} {m : Nat} {α : List AS} {P : Pst} {J : It} {ds : List D} (s : Sat C B F0 H0 (ds.length * b.n + m) α F1 H1 σ) (x1 : Same F F1) (it : ItF C F1 J ds) (h1 : forL g b P ds α)
    (q : ∀ α' σ' F' H', P.nx α' → Sat C B F0 H0 m α' F' H' σ' → Same F F' → Dn.nx σ' H') (q2 : ∀ r v F' H', P.rt r → Xt C B F0 H0 F' H' → RV C H0 F' H' r v → Dn.rt v H') (q5 : exOk C B F0 H0 E P.ex) :
    ∃ W2 : Nat → Nat → L2.St → Hp → Prop, (∃ m, W2 0 m σ H1) ∧ ∀ i m σ H, W2 i m σ H → (J.stop i H ∧ Dn.nx σ H) ∨ (J.go i H ∧ ∃ N : L2.St → Hp → Prop, (∀ σ' H', N σ' H' → ∃ m', m' < m ∧ W2 (i + 1) m' σ' H') ∧
      ∀ x H', J.yld i H x H' → tG C B F0 H0 W g x σ H' fun σ2 H2 => tS C B F0 H0 E b { Dn with nx := N, ct := N, bk := Dn.nx } σ2 H2) := by
  refine ⟨fun i k σ' H' => ∃ α' F', Sat C B F0 H0 ((ds.length - i) * b.n + m) α' F' H' σ' ∧ Same F1 F' ∧ i ≤ ds.length ∧ k = ds.length - i ∧ forL g b P (ds.drop i) α', ⟨ds.length, α, F1, s, .refl _, Nat.zero_le _, rfl, h1⟩, ?_⟩
  rintro i k σ' H' ⟨α', F', s', sm, hi, rfl, hf⟩
  have t := it i F' H' sm s'.xt.wf
  by_cases hlt : i < ds.length
  · rw [List.drop_eq_getElem_cons hlt] at hf
    obtain ⟨hgo, hy⟩ := t.1 _ (List.getElem?_eq_getElem hlt)
    have e1 : (ds.length - i) * b.n = b.n + (ds.length - (i + 1)) * b.n := by
      have : ds.length - i = (ds.length - (i + 1)) + 1 := by omega
      rw [this, Nat.succ_mul, Nat.add_comm]
    rw [e1, Nat.add_assoc] at s'
    refine .inr ⟨hgo, fun σ2 H2 => ∃ α2 F2, Sat C B F0 H0 ((ds.length - (i + 1)) * b.n + m) α2 F2 H2 σ2 ∧ Same F1 F2 ∧ forL g b P (ds.drop (i + 1)) α2, fun σ2 H2 ⟨α2, F2, s2, sm2, hf2⟩ => ⟨ds.length - (i + 1), by omega, α2, F2, s2, sm2, hlt, rfl, hf2⟩, fun x H2 y => ?_⟩
    obtain ⟨F2, x2, r⟩ := hy x H2 y
    refine ⟨α', F2, _, _, _, s'.go0 x2, r, hf, fun α3 σ3 h3 s3 _ => ?_⟩
    have sm3 : Same F1 F2 := sm.trans x2.frz
    refine ⟨α3, F2, _, _, s3, h3, fun α4 σ4 F4 H4 h4 s4 sm4 => ⟨α4, F4, s4, sm3.trans sm4, h4⟩, q2, fun α4 σ4 F4 H4 h4 s4 sm4 => q _ _ _ _ h4 s4.r ((x1.trans sm3).trans sm4), fun α4 σ4 F4 H4 h4 s4 sm4 => ⟨α4, F4, s4, sm3.trans sm4, h4⟩, q5⟩
  · have e : i = ds.length := by omega
    subst e
    rw [List.drop_eq_nil_of_le (Nat.le_refl _)] at hf
    exact .inl ⟨t.2 (Nat.le_refl _), q _ _ _ _ hf s'.r (x1.trans sm)⟩
theorem ds_for {W : List Nat} {tg iter : Expr} {body : List Stmt} {ai : AI} {g : AG} {b : AST} (hp : PassesOwn (model X.prog X.w) X.A X.env X.xe) (hc : X.calm = true) (hi : PI X tg iter (tI C B F0 H0 E ai)) (hg : PG X tg (tG C B F0 H0 W g)) (hb : DSs X C B F0 H0 E body b) (z : b.n = 0 := by rfl)
    (hs : ∀ x, foldedSetIterable iter X.env x = pure x := by intro _; rfl) : DS X C B F0 H0 E (.For tg iter body [] pos) (sFor ai g b) :=
  (ps_for hp hc hi hg hb hs).imp fun D σ H ⟨α, F, P, m, s, h, q, q2, q3, q4, q5⟩ =>
    ⟨α, F, _, _, s.l, h, fun J ds F1 H1 h1 x1 it => for_rest (m := m) ((s.go x1).le (by rw [z]; omega)) x1.frz it h1 q q2 q5, q5⟩
theorem ds_forD (M : Nat) {W : List Nat} {tg iter : Expr} {body : List Stmt} {ai : AI} {g : AG} {b : AST} (hp : PassesOwn (model X.prog X.w) X.A X.env X.xe) (hc : X.calm = true) (hi : PI X tg iter (tI C B F0 H0 E ai)) (hg : PG X tg (tG C B F0 H0 W g)) (hb : DSs X C B F0 H0 E body b)
    (hs : ∀ x, foldedSetIterable iter X.env x = pure x := by intro _; rfl) : DS X C B F0 H0 E (.For tg iter body [] pos) (sForD M ai g b) :=
  (ps_for hp hc hi hg hb hs).imp fun D σ H ⟨α, F, P, m, s, h, q, q2, q3, q4, q5⟩ => by
    have s : Sat C B F0 H0 (ai.n + (M * b.n + m)) α F H σ := Sat.as s
    exact ⟨α, F, _, _, s.l, h, fun J ds F1 H1 ⟨hM, h1⟩ x1 it => for_rest (m := m) ((s.go x1).le (by have := Nat.mul_le_mul_right b.n hM; omega)) x1.frz it h1 q q2 q5, q5⟩

/-! ### what is walked -/
def aIL (a : AE) : AI := ⟨a.n, fun α P PX => a α (fun r => ∃ ds, r.frz = some (.lst ds) ∧ P ds) PX⟩
def aIT (a : AE) : AI := ⟨a.n, fun α P PX => a α (fun r => ∃ ds, r = .pv (.tup ds) ∧ P ds) PX⟩
def aIS (a : AE) : AI := ⟨a.n, fun α P PX => a α (fun r => ∃ s, r = .pv (.str s) ∧ P (s.map fun c => .str [c])) PX⟩
def aIX (a : AE) : AI := ⟨a.n, fun α P PX => a α (fun r => ∃ ds, r.asL = some ds ∧ P ds) PX⟩
theorem it_list {F : Hp} {a : Addr} {xs : List V} {ds : List D} (h : F a = some (.lst xs)) (r : Rps C F ds xs) : ItF C F (Itl C.K a) ds := fun i F' H' sm w => by
  have hq : SqL C.K H' a xs := .inl (.inl (w.sub _ _ (sm _ _ h)))
  refine ⟨fun d e => ?_, fun l => ⟨xs, hq, by rw [r.length]; exact l⟩⟩
  obtain ⟨x, h1, h2⟩ := r.get e
  refine ⟨⟨xs, x, hq, h1⟩, fun y H'' ⟨e1, e2⟩ => ⟨F', by rw [e1]; exact .refl w, ?_⟩⟩
  have := e2 xs hq
  rw [h1] at this
  cases this
  exact Rp.mono sm _ _ h2
theorem it_listX {F H : Hp} {a : Addr} {xs : List V} {ds : List D} (h : H a = some (.lst xs)) (ht : C.tp ≠ some a) (r : Rps C F ds xs) : ItX C F H (Itl C.K a) ds := fun i n F' H' x => by
  have hq : SqL C.K H' a xs := .inl (.inl (x.keep _ _ ht h))
  refine ⟨fun d e => ?_, fun l => ⟨xs, hq, by rw [r.length]; exact l⟩⟩
  obtain ⟨z, h1, h2⟩ := r.get e
  refine ⟨⟨xs, z, hq, h1⟩, fun y H'' ⟨e1, e2⟩ => ⟨F', by rw [e1]; exact .refl x.wf, ?_⟩⟩
  have := e2 xs hq
  rw [h1] at this
  cases this
  exact Rp.mono x.frz _ _ h2
theorem it_tup {F : Hp} {a : Addr} {xs : List V} {ds : List D} (h : SqT C.K F a xs) (r : Rps C F ds xs) : ItF C F (Itt C.K a) ds := fun i F' H' sm w => by
  have hq : SqT C.K H' a xs := SqT.wf w (Same.seqT sm h)
  refine ⟨fun d e => ?_, fun l => ⟨xs, hq, by rw [r.length]; exact l⟩⟩
  obtain ⟨x, h1, h2⟩ := r.get e
  refine ⟨⟨xs, x, hq, h1⟩, fun y H'' ⟨e1, e2⟩ => ⟨F', by rw [e1]; exact .refl w, ?_⟩⟩
  have := e2 xs hq
  rw [h1] at this
  cases this
  exact Rp.mono sm _ _ h2
theorem di_list {tg e : Expr} {a : AE} (hK : C.K = X.K) (h : DE X C B F0 H0 E e a) : PI X tg e (tI C B F0 H0 E (aIL a)) := PI.imp (pi_list h) fun σ H R ⟨α, F, P, PX, s, h, q, x⟩ => by
  refine ⟨α, F, _, _, s, h, fun r v F1 H1 ⟨ds, e, p⟩ x1 rv => ?_, x⟩
  obtain ⟨F2, x2, sm, _, a1, xs, rfl, h1, rp⟩ := rv.fz x1 e
  refine ⟨a1, rfl, ⟨xs, .inl (.inl (x2.wf.sub _ _ h1))⟩, ?_⟩
  rw [← hK]
  exact q _ ds F2 H1 p x2 (it_list h1 rp)
theorem di_listX {tg e : Expr} {a : AE} (hK : C.K = X.K) (h : DE X C B F0 H0 E e a) : PI X tg e (tIX C B F0 H0 E (aIX a)) := PI.imp (pi_list h) fun σ H R ⟨α, F, P, PX, s, h, q, x⟩ => by
  refine ⟨α, F, _, _, s, h, fun r v F1 H1 ⟨ds, e, p⟩ x1 rv => ?_, x⟩
  have ok : ∃ a1 xs, v = .ref a1 ∧ H1 a1 = some (.lst xs) ∧ C.tp ≠ some a1 ∧ Rps C F1 ds xs := by
    cases r with
    | pv d =>
      cases d <;> simp [AL.R.asL] at e
      subst e
      obtain ⟨p, xs, e, h1, r⟩ := rv
      refine ⟨p, xs, e, x1.wf.sub _ _ h1, fun z => ?_, r⟩
      obtain ⟨n, _⟩ := x1.wf.tape p z
      rw [n] at h1; cases h1
    | ol d => simp [AL.R.asL] at e; subst e; obtain ⟨p, xs, e, h1, h2, h3, h4, r⟩ := rv; exact ⟨p, xs, e, h1, h4, r⟩
    | bo d => simp [AL.R.asL] at e; subst e; obtain ⟨p, xs, e, h1, h2, h4, r⟩ := rv; exact ⟨p, xs, e, h1, h4, r⟩
    | _ => simp [AL.R.asL] at e
  obtain ⟨a1, xs, rfl, h1, ht, rp⟩ := ok
  refine ⟨a1, rfl, ⟨xs, .inl (.inl h1)⟩, ?_⟩
  rw [← hK]
  exact q _ ds F1 H1 p x1 (it_listX h1 ht rp)
theorem di_tup {tg e : Expr} {a : AE} (hK : C.K = X.K) (h : DE X C B F0 H0 E e a) : PI X tg e (tI C B F0 H0 E (aIT a)) := PI.imp (pi_tup h) fun σ H R ⟨α, F, P, PX, s, h, q, x⟩ => by
  refine ⟨α, F, _, _, s, h, fun r v F1 H1 ⟨ds, e, p⟩ x1 rv => ?_, x⟩
  subst e
  obtain ⟨a1, xs, rfl, sq, rp⟩ := rv
  rw [← hK]
  exact ⟨a1, rfl, ⟨xs, SqT.wf x1.wf sq⟩, q _ ds F1 H1 p x1 (it_tup sq rp)⟩
theorem di_str {tg e : Expr} {a : AE} (h : DE X C B F0 H0 E e a) : PI X tg e (tI C B F0 H0 E (aIS a)) := PI.imp (pi_str h) fun σ H R ⟨α, F, P, PX, s, h, q, x⟩ => by
  refine ⟨α, F, _, _, s, h, fun r v F1 H1 ⟨l, e, p⟩ x1 rv => ?_, x⟩
  subst e
  cases rv
  refine ⟨mk l, rfl, q _ _ F1 H1 p x1 fun i F' H' sm w => ⟨fun d e => ?_, fun hl => ?_⟩⟩
  · rw [List.getElem?_map] at e
    cases hc : l[i]? with
    | none => rw [hc] at e; cases e
    | some c =>
      rw [hc] at e; cases e
      have hi : i < l.length := (List.getElem?_eq_some_iff.mp hc).1
      refine ⟨by show i < (mk l).cps.size; simpa [mk] using hi, fun y H'' ⟨e1, k, e2, e3⟩ => ⟨F', by rw [e1]; exact .refl w, ?_⟩⟩
      have : l[i]? = some k := by simpa [mk] using e2
      rw [hc] at this; cases this
      subst e3; rfl
  · rw [List.length_map] at hl
    show (mk l).cps.size ≤ i
    simpa [mk] using hl
def aIR1 (a : AE) : AI := ⟨a.n, fun α P PX => a α (fun r => ∃ j : Int, r = .pv (.int j) ∧ -(2 ^ 62) ≤ j ∧ j < 2 ^ 62 ∧ P ((List.range j.toNat).map fun (i : Nat) => D.int (i : Int))) PX⟩
theorem di_range1 {tg e : Expr} {a : AE} {p : Pos} (hm : X.mg "range" = none) (h : DE X C B F0 H0 E e a) (hg : Gl X "range" := by rfl) (hs : starEach [e] X.env = [(false, eval e X.env)] := by rfl) (hs1 : starEach [e] X.env = (false, eval e X.env) :: starEach [] X.env := by rfl) : PI X tg (.Call (.Name "range" p) [e] [] pos) (tI C B F0 H0 E (aIR1 a)) :=
  PI.imp (pi_range1 hg hm (pa_cons h pa_nil hs1) hs) fun σ H R ⟨α, F, P, PX, s, h, q, x⟩ => by
    refine ⟨α, F, _, _, s, h, fun r v F1 H1 ⟨j, e, l1, l2, p⟩ x1 rv => ?_, x⟩
    subst e
    cases rv
    refine ⟨j, rfl, l1, l2, q _ _ F1 H1 p x1 fun i F' H' sm w => ⟨fun d e => ?_, fun hl => by rw [List.length_map, List.length_range] at hl; exact hl⟩⟩
    rw [List.getElem?_map] at e
    by_cases hi : i < j.toNat
    · rw [List.getElem?_range hi] at e
      cases e
      refine ⟨hi, fun y H'' ⟨e1, e2⟩ => ⟨F', by rw [e1]; exact .refl w, ?_⟩⟩
      subst e2
      show V.int (0 + (i : Int)) = .int i
      rw [Int.zero_add]
    · rw [List.getElem?_eq_none (by simpa using hi)] at e; cases e
def aIR2 (a b : AE) : AI := ⟨a.n + b.n, fun α P PX => a α (fun r => b α (fun r' => ∃ i j : Int, r = .pv (.int i) ∧ r' = .pv (.int j) ∧ (-(2 ^ 62) ≤ i ∧ i < 2 ^ 62 ∧ -(2 ^ 62) ≤ j ∧ j < 2 ^ 62) ∧ P ((List.range (j - i).toNat).map fun (k : Nat) => D.int (i + (k : Int)))) PX) PX⟩
theorem di_range2 {tg e e' : Expr} {a b : AE} {p : Pos} (hm : X.mg "range" = none) (h : DE X C B F0 H0 E e a) (h' : DE X C B F0 H0 E e' b) (hg : Gl X "range" := by rfl) (hs : starEach [e, e'] X.env = [(false, eval e X.env), (false, eval e' X.env)] := by rfl) (hs2 : starEach [e'] X.env = [(false, eval e' X.env)] := by rfl)
    (hs1 : starEach [e, e'] X.env = (false, eval e X.env) :: starEach [e'] X.env := by rfl) (hs3 : starEach [e'] X.env = (false, eval e' X.env) :: starEach [] X.env := by rfl) : PI X tg (.Call (.Name "range" p) [e, e'] [] pos) (tI C B F0 H0 E (aIR2 a b)) :=
  PI.imp (pi_range2 hg hm (pa_cons h (pa_cons h' pa_nil hs3) hs1) hs hs2) fun σ H R ⟨α, F, P, PX, s, h, q, x⟩ => by
    refine ⟨α, F, _, _, s.l, h, fun r v F1 H1 h2 x1 rv => ⟨α, F1, _, _, s.go x1, h2, fun r' v' F2 H2 ⟨i, j, e, e', l, p⟩ x2 rv' => ?_, x⟩, x⟩
    subst e e'
    cases rv
    cases rv'
    refine ⟨i, j, rfl, l, q _ _ F2 H2 p (x1.trans x2) fun k F' H' sm w => ⟨fun d e => ?_, fun hl => by rw [List.length_map, List.length_range] at hl; exact hl⟩⟩
    rw [List.getElem?_map] at e
    by_cases hi : k < (j - i).toNat
    · rw [List.getElem?_range hi] at e
      cases e
      exact ⟨hi, fun y H'' ⟨e1, e2⟩ => ⟨F', by rw [e1]; exact .refl w, e2⟩⟩
    · rw [List.getElem?_eq_none (by simpa using hi)] at e; cases e
end
end AL

set_option Elab.async false
set_option linter.all false
set_option maxRecDepth 100000
set_option maxHeartbeats 1000000
set_option autoImplicit false
namespace AL
open PySem PySem.Spec PyProof.Rows L2
section
variable {X : Cx} {C : Ct} {B : Nat} {F0 H0 : Hp} {E : XK} {pos : Pos}
/-! ### list comprehensions -/
def wipeA (α : List AS) : List Nat → List AS
  | [] => α
  | v :: vs => (wipeA α vs).set v .un
theorem wipe_get (σ : L2.St) (i : Nat) : ∀ vs : List Nat, (wipe σ vs)[i]? = if i ∈ vs then (σ[i]?).map (fun _ => none) else σ[i]?
  | [] => by simp [wipe]
  | v :: vs => by
    unfold wipe
    rw [List.getElem?_set]
    by_cases h : v = i
    · subst h
      rw [if_pos rfl, if_pos List.mem_cons_self, wipe_length]
      by_cases l : v < σ.length
      · rw [if_pos l, List.getElem?_eq_getElem l]; rfl
      · rw [if_neg l, List.getElem?_eq_none (by omega)]; rfl
    · rw [if_neg h, wipe_get σ i vs]
      by_cases m : i ∈ vs
      · rw [if_pos m, if_pos (List.mem_cons_of_mem _ m)]
      · rw [if_neg m, if_neg (fun z => (List.mem_cons.mp z).elim (fun e => h e.symm) m)]
theorem wipeA_get (σ : List AS) (i : Nat) : ∀ vs : List Nat, (wipeA σ vs)[i]? = if i ∈ vs then (σ[i]?).map (fun _ => .un) else σ[i]?
  | [] => by simp [wipeA]
  | v :: vs => by
    have hl : (wipeA σ vs).length = σ.length := by
      clear i
      induction vs with
      | nil => rfl
      | cons a r ih => unfold wipeA; rw [List.length_set, ih]
    unfold wipeA
    rw [List.getElem?_set]
    by_cases h : v = i
    · subst h
      rw [if_pos rfl, if_pos List.mem_cons_self, hl]
      by_cases l : v < σ.length
      · rw [if_pos l, List.getElem?_eq_getElem l]; rfl
      · rw [if_neg l, List.getElem?_eq_none (by omega)]; rfl
    · rw [if_neg h, wipeA_get σ i vs]
      by_cases m : i ∈ vs
      · rw [if_pos m, if_pos (List.mem_cons_of_mem _ m)]
      · rw [if_neg m, if_neg (fun z => (List.mem_cons.mp z).elim (fun e => h e.symm) m)]
theorem wipeA_length (α : List AS) : ∀ vs : List Nat, (wipeA α vs).length = α.length
  | [] => rfl
  | v :: vs => by unfold wipeA; rw [List.length_set, wipeA_length α vs]
theorem Only.wipe {W vs : List Nat} {σ σ' : L2.St} (h : Only W (L2.wipe σ vs) σ') (s : ∀ i ∈ W, i ∈ vs) : L2.wipe σ' vs = L2.wipe σ vs := by
  apply List.ext_getElem?
  intro i
  rw [wipe_get, wipe_get]
  by_cases m : i ∈ vs
  · rw [if_pos m, if_pos m]
    have l : σ'.length = σ.length := by rw [h.1, wipe_length]
    by_cases hi : i < σ.length
    · rw [List.getElem?_eq_getElem hi, List.getElem?_eq_getElem (by rw [l]; exact hi)]; rfl
    · rw [List.getElem?_eq_none (by omega), List.getElem?_eq_none (by omega)]
  · rw [if_neg m, if_neg m, h.2 i fun z => m (s i z), wipe_get, if_neg m]
theorem Sat.wipe {n : Nat} {F H : Hp} {α : List AS} {σ : L2.St} (s : Sat C B F0 H0 n α F H σ) (vs : List Nat) : Sat C B F0 H0 n (wipeA α vs) F H (L2.wipe σ vs) := by
  have back : ∀ {i : Nat} {t : AS} {v : Option V}, (wipeA α vs)[i]? = some t → (L2.wipe σ vs)[i]? = some v → t = .un ∨ (α[i]? = some t ∧ σ[i]? = some v) := fun {i t v} h1 h2 => by
    rw [wipeA_get] at h1
    rw [wipe_get] at h2
    by_cases m : i ∈ vs
    · rw [if_pos m] at h1
      cases e : α[i]? with
      | none => rw [e] at h1; cases h1
      | some u => rw [e] at h1; cases h1; exact .inl rfl
    · rw [if_neg m] at h1 h2
      exact .inr ⟨h1, h2⟩
  refine ⟨s.xt, s.cr, s.lim, by rw [wipeA_length, wipe_length]; exact s.len, fun i t v h1 h2 => ?_, fun i j t t' v v' a h1 h2 h3 h4 o1 o2 => ?_, fun i t v a h1 h2 o => ?_⟩
  · rcases back h1 h2 with rfl | ⟨h1, h2⟩
    · trivial
    · exact s.ok i t v h1 h2
  · rcases back h1 h2 with rfl | ⟨h1, h2⟩
    · cases o1
    · rcases back h3 h4 with rfl | ⟨h3, h4⟩
      · cases o2
      · exact s.apart i j t t' v v' a h1 h2 h3 h4 o1 o2
  · rcases back h1 h2 with rfl | ⟨h1, h2⟩
    · cases o
    · exact s.fresh i t v a h1 h2 o
abbrev noX : Ex → Prop := fun _ => False
theorem exOk_no {F0 H0 : Hp} {E : XK} : exOk C B F0 H0 E noX := fun _ _ _ _ _ h => h.elim
def lcL (g : AG) (t : AT) (e : AE) (α : List AS) (P : List D → Prop) : List D → List D → Prop
  | [], acc => P acc
  | d :: ds, acc => acc.length < sizeLine ∧ g d α fun α' => t α' (fun b => if b = true then e α' (fun r => ∃ y, r.frz = some y ∧ lcL g t e α P ds (acc ++ [y])) noX else lcL g t e α P ds acc) noX
def aLc (i : AI) (g : AG) (t : AT) (e : AE) (vs : List Nat) : AE := ⟨i.n, fun α P PX => i α (fun ds => lcL g t e (wipeA α vs) (fun acc => P (.ol acc)) ds []) PX⟩
/-- one whose turns draw: at most M turns -/
def aLcD (M : Nat) (i : AI) (g : AG) (t : AT) (e : AE) (vs : List Nat) : AE := ⟨i.n + M * (t.n + e.n), fun α P PX => i α (fun ds => ds.length ≤ M ∧ lcL g t e (wipeA α vs) (fun acc => P (.ol acc)) ds []) PX⟩
abbrev DTs (X : Cx) (C : Ct) (B : Nat) (F0 H0 : Hp) (E : XK) (es : List Expr) (a : AT) : Prop := PTs X es (tT C B F0 H0 E a)
def aYes : AT := ⟨0, fun _ P _ => P true⟩
theorem PTs.imp {e : List Expr} {t t' : TT} (h : PTs X e t) (w : ∀ σ H Q, t' σ H Q → t σ H Q) : PTs X e t' := ⟨fun pins s σ H Q I q => h.run pins s σ H Q I (w _ _ _ q)⟩
theorem dts_nil : DTs X C B F0 H0 E [] aYes := PTs.imp pts_nil fun σ H Q ⟨α, F, P, PX, s, h, q, x⟩ => q _ F H h (.refl s.xt.wf)
theorem dts_one {e : Expr} {a : AT} (h : DT X C B F0 H0 E e a) : DTs X C B F0 H0 E [e] a := pts_one h
theorem pl_at {H : Hp} {p : Addr} {o : HO} (h : C.tp ≠ some p) : plOf C (upd H p o) = plOf C H := plOf_eq fun T hT => upd_ne fun z => h (by rw [← z]; exact hT)
theorem mul_step {k n i : Nat} (h : i < n) : (n - i) * k = k + (n - (i + 1)) * k := by
  have : n - i = (n - (i + 1)) + 1 := by omega
  rw [this, Nat.succ_mul, Nat.add_comm]
theorem mul_step2 {k n i : Nat} (h : i ≤ n) : n * k = i * k + (n - i) * k := by
  rw [← Nat.add_mul]
  congr 1
  omega
theorem lc_rest {g : AG} {t : AT} {e : AE} {vs W : List Nat} (hW : ∀ i ∈ W, i ∈ vs) {σ : L2.St} {F1 H1 : Hp} {Q : VK} {α : List AS} {P : R → Prop} {J : It} {ds : List D}
    (s : Sat C B F0 H0 (ds.length * (t.n + e.n)) α F1 H1 σ) (it : ItX C F1 H1 J ds) (h1 : lcL g t e (wipeA α vs) (fun acc => P (.ol acc)) ds [])
    (q : ∀ acc F' H' v, P (.ol acc) → Xt C (ds.length * (t.n + e.n)) F1 H1 F' H' → RV C H1 F' H' (.ol acc) v → Q v H') :
    ∀ Dn, H1 Dn = none → ∃ W2 : Nat → Nat → Hp → Prop, (∃ m, W2 0 m (upd H1 Dn (.lst []))) ∧ ∀ i m H, W2 i m H →
      (J.stop i H ∧ Q (.ref Dn) H) ∨ (J.go i H ∧ ∃ Nx : Hp → Prop, (∀ H', Nx H' → ∃ m', m' < m ∧ W2 (i + 1) m' H') ∧ ∀ x H', J.yld i H x H' → tG C B F0 H0 W g x (wipe σ vs) H' fun σ2 H2 => wipe σ2 vs = wipe σ vs ∧ tT C B F0 H0 E0 t σ2 H2 fun b H3 =>
        if b = true then tE C B F0 H0 E0 e σ2 H3 fun y H4 => ∃ acc, H4 Dn = some (.lst acc) ∧ acc.length < sizeLine ∧ Nx (upd H4 Dn (.lst (acc ++ [y]))) else Nx H3) := by
  intro Dn nD
  have wD := s.xt.wf.lay (o := .lst []) nD
  refine ⟨fun i m H' => ∃ acc xs F', Xt C (i * (t.n + e.n)) F1 H1 F' H' ∧ H' Dn = some (.lst xs) ∧ F' Dn = none ∧ Rps C F' acc xs ∧ i ≤ ds.length ∧ m = ds.length - i ∧ lcL g t e (wipeA α vs) (fun acc => P (.ol acc)) (ds.drop i) acc,
    ⟨ds.length, [], [], F1, (Xt.lay s.xt.wf nD).le (Nat.zero_le _), upd_same, wD.2.1, rfl, Nat.zero_le _, rfl, h1⟩, ?_⟩
  rintro i m H' ⟨acc, xs, F', x2, hD, fD, ra, hi, rfl, hl⟩
  have tr := it i _ F' H' x2
  by_cases hlt : i < ds.length
  · rw [List.drop_eq_getElem_cons hlt] at hl
    obtain ⟨hgo, hy⟩ := tr.1 _ (List.getElem?_eq_getElem hlt)
    obtain ⟨hz, hl⟩ := hl
    refine .inr ⟨hgo, fun H' => ∃ acc xs F', Xt C ((i + 1) * (t.n + e.n)) F1 H1 F' H' ∧ H' Dn = some (.lst xs) ∧ F' Dn = none ∧ Rps C F' acc xs ∧ lcL g t e (wipeA α vs) (fun acc => P (.ol acc)) (ds.drop (i + 1)) acc,
      fun H' ⟨acc, xs, F', a, b, c, d, e⟩ => ⟨ds.length - (i + 1), by omega, acc, xs, F', a, b, c, d, hlt, rfl, e⟩, fun z H2 y => ?_⟩
    obtain ⟨F2, x3, rz⟩ := hy z H2 y
    have kD : ∀ {n : Nat} {Fa Ha Fb Hb : Hp} {ys : List V}, Xt C n Fa Ha Fb Hb → Ha Dn = some (.lst ys) → Fa Dn = none → Hb Dn = some (.lst ys) ∧ Fb Dn = none := fun xx h1 h2 => ⟨xx.keep _ _ wD.2.2 h1, (xx.new Dn (by rw [h1]; simp)).trans h2⟩
    obtain ⟨hD2, fD2⟩ := kD x3 hD fD
    have sb : Sat C B F0 H0 (t.n + e.n) (wipeA α vs) F2 H2 (wipe σ vs) := by
      refine Sat.wipe ?_ vs
      have s1 : Sat C B F0 H0 (i * (t.n + e.n) + (ds.length - i) * (t.n + e.n)) α F1 H1 σ := s.le (by rw [mul_step2 (Nat.le_of_lt hlt)]; exact Nat.le_refl _)
      exact ((s1.go x2).go0 x3).le (by rw [mul_step hlt]; omega)
    have e3 : (i + 1) * (t.n + e.n) = i * (t.n + e.n) + (t.n + e.n) := Nat.succ_mul _ _
    refine ⟨wipeA α vs, F2, _, _, _, sb, rz, hl, fun α3 σ3 h3 s3 on => ⟨on.wipe hW, α3, F2, _, _, s3.l, h3, fun b F3 H3 h4 x4 => ?_, exOk_no⟩⟩
    obtain ⟨hD3, fD3⟩ := kD x4 hD2 fD2
    cases b with
    | false => exact ⟨acc, xs, F3, ((x2.trans x3).trans x4).le (by omega), hD3, fD3, Rps.mono (x3.trans x4).frz _ _ ra, h4⟩
    | true =>
      refine ⟨α3, F3, _, _, s3.go x4, h4, fun r v F4 H4 ⟨y, e1, h5⟩ x5 rv => ?_, exOk_no⟩
      obtain ⟨F5, x6, sm, nw, rp⟩ := rv.fz x5 e1
      have hD5 := kD x6 hD3 fD3
      refine ⟨xs, hD5.1, by rw [ra.length]; exact hz, acc ++ [y], xs ++ [v], F5, ?_, upd_same, hD5.2, (Rps.mono ((x3.trans x4).trans x6).frz _ _ ra).append ⟨v, [], rfl, rp, rfl⟩, h5⟩
      have xx := ((x2.trans x3).trans x4).trans x6
      refine ⟨xx.frz, ⟨fun b u q => ?_, fun T hT => ?_⟩, fun b u n q => ?_, xx.new, ?_⟩
      · rw [upd_ne (ne_of_none q hD5.2)]; exact xx.wf.sub b u q
      · obtain ⟨n, A, cs, pl, lf, h1, h2⟩ := xx.wf.tape T hT
        refine ⟨n, A, cs, pl, lf, ?_, h2⟩
        rw [upd_ne (fun z => wD.2.2 (by rw [← z]; exact hT))]; exact h1
      · rw [upd_ne (ne_of_none q nD)]; exact xx.keep b u n q
      · rw [pl_at wD.2.2]
        have := xx.tk
        omega
  · have e : i = ds.length := by omega
    subst e
    rw [List.drop_eq_nil_of_le (Nat.le_refl _)] at hl
    exact .inl ⟨tr.2 (Nat.le_refl _), q _ _ _ _ hl x2 ⟨Dn, xs, rfl, hD, fD, nD, wD.2.2, ra⟩⟩
theorem lc_run {ai : AI} {g : AG} {t : AT} {e : AE} {vs W : List Nat} (hW : ∀ i ∈ W, i ∈ vs) (z1 : t.n = 0) (z2 : e.n = 0) {σ : L2.St} {H : Hp} {Q : VK} (h : tE C B F0 H0 E (aLc ai g t e vs) σ H Q) :
    tLc (tIX C B F0 H0 E ai) (tG C B F0 H0 W g) (tT C B F0 H0 E0 t) (tE C B F0 H0 E0 e) vs σ H Q := by
  obtain ⟨α, F, P, PX, s, h, q, x⟩ := h
  have z : ∀ n, n * (t.n + e.n) = 0 := fun n => by rw [z1, z2] <;> rfl
  exact ⟨α, F, _, PX, s, h, fun J ds F1 H1 h1 x1 it => lc_rest (P := P) hW ((Sat.go (m := 0) s x1).le (by rw [z] <;> exact Nat.le_refl _)) it h1 fun acc F' H' v p x2 rv => q _ _ _ _ p ((x1.trans x2).le (by rw [z] <;> exact Nat.le_refl _)) (rv.back x1), x⟩
theorem lc_runD {M : Nat} {ai : AI} {g : AG} {t : AT} {e : AE} {vs W : List Nat} (hW : ∀ i ∈ W, i ∈ vs) {σ : L2.St} {H : Hp} {Q : VK} (h : tE C B F0 H0 E (aLcD M ai g t e vs) σ H Q) :
    tLc (tIX C B F0 H0 E ai) (tG C B F0 H0 W g) (tT C B F0 H0 E0 t) (tE C B F0 H0 E0 e) vs σ H Q := by
  obtain ⟨α, F, P, PX, s, h, q, x⟩ := h
  refine ⟨α, F, _, PX, s.l, h, fun J ds F1 H1 ⟨hM, h1⟩ x1 it => ?_, x⟩
  have hm := Nat.mul_le_mul_right (t.n + e.n) hM
  exact lc_rest (P := P) hW ((s.go x1).le hm) it h1 fun acc F' H' v p x2 rv => q _ _ _ _ p (x1.trans (x2.le hm)) (rv.back x1)
theorem de_lc {elt tg iter : Expr} {ifs : List Expr} {scope : Scope} {own : List (Str × Nat)} {ai : AI} {g : AG} {t : AT} {e : AE} {W : List Nat} (hc : X.calm = true) (hN : X.N.Nodup) (ok : BlkOk X.N X.env.scope scope own) (hi : PI X tg iter (tIX C B F0 H0 E ai))
    (hg : ∀ (s : Shared) (H : Hp) (Q : Addr) (cl : List (Str × Addr)) (fp : List Addr), PG (X.blk s H scope (compEnvC scope cl Q X.env) fp) tg (tG C B F0 H0 W g)) (ht : ∀ (s : Shared) (H : Hp) (Q : Addr) (cl : List (Str × Addr)) (fp : List Addr), DTs (X.blk s H scope (compEnvC scope cl Q X.env) fp) C B F0 H0 E0 ifs t)
    (he : ∀ (s : Shared) (H : Hp) (Q : Addr) (cl : List (Str × Addr)) (fp : List Addr), DE (X.blk s H scope (compEnvC scope cl Q X.env) fp) C B F0 H0 E0 elt e) (hW : ∀ i ∈ W, i ∈ own.map (·.2) := by decide) (z1 : t.n = 0 := by rfl) (z2 : e.n = 0 := by rfl) (hs : ∀ x, foldedSetIterable iter X.env x = pure x := by intro _; rfl) :
    DE X C B F0 H0 E (.ListComp elt [⟨tg, iter, ifs, 0⟩] scope pos) (aLc ai g t e (own.map (·.2))) := (pe_lc hc hN hi ok hg ht he hs).imp fun σ H Q h => lc_run hW z1 z2 h
/-- name = [..]: the value is frozen, or the name owns it -/
theorem ds_setLc {i : Nat} {y : Str} {py spos : Pos} {elt tg iter : Expr} {ifs : List Expr} {scope : Scope} {own : List (Str × Nat)} {ai : AI} {g : AG} {t : AT} {e : AE} {W : List Nat} (hc : X.calm = true) (hN : X.N.Nodup) (ok : BlkOk X.N X.env.scope scope own) (hy : X.N[i]? = some y) (hyl : X.env.scope.names.lookup y = some .local)
    (hsw : swapsWith (.ListComp elt [⟨tg, iter, ifs, 0⟩] scope pos) (some (.Name y py)) spos.line X.env = pure true) (hi : PI X tg iter (tIX C B F0 H0 E ai))
    (hg : ∀ (s : Shared) (H : Hp) (Q : Addr) (cl : List (Str × Addr)) (fp : List Addr), PG (X.blk s H scope (compEnvC scope cl Q X.env) fp) tg (tG C B F0 H0 W g)) (ht : ∀ (s : Shared) (H : Hp) (Q : Addr) (cl : List (Str × Addr)) (fp : List Addr), DTs (X.blk s H scope (compEnvC scope cl Q X.env) fp) C B F0 H0 E0 ifs t)
    (he : ∀ (s : Shared) (H : Hp) (Q : Addr) (cl : List (Str × Addr)) (fp : List Addr), DE (X.blk s H scope (compEnvC scope cl Q X.env) fp) C B F0 H0 E0 elt e) (hW : ∀ i ∈ W, i ∈ own.map (·.2) := by decide) (z1 : t.n = 0 := by rfl) (z2 : e.n = 0 := by rfl) (hs : ∀ x, foldedSetIterable iter X.env x = pure x := by intro _; rfl) :
    DS X C B F0 H0 E (.Assign [.Name y py] (.ListComp elt [⟨tg, iter, ifs, 0⟩] scope pos) spos) (sAsg (aLc ai g t e (own.map (·.2))) (gN i)) :=
  (ps_setLc hc hN hy hyl hsw hi ok hg ht he hs).imp fun D σ H h => by
    have h1 := asg_run (W := [i]) h
    refine lc_run hW z1 z2 ?_
    obtain ⟨α, F, P, PX, s, h2, q, x⟩ := h1
    refine ⟨α, F, P, PX, s, h2, fun r v F' H' p xx rv => ?_, x⟩
    obtain ⟨α2, F2, d, P2, m2, s2, r2, h3, q2⟩ := q r v F' H' p xx rv
    exact q2 _ _ h3 (s2.setP r2) ⟨List.length_set, fun j hj => by rw [List.getElem?_set_ne]; intro z; subst z; exact hj List.mem_cons_self⟩
theorem ds_ownLc {i : Nat} {y : Str} {py spos : Pos} {elt tg iter : Expr} {ifs : List Expr} {scope : Scope} {own : List (Str × Nat)} {ai : AI} {g : AG} {t : AT} {e : AE} {W : List Nat} (hc : X.calm = true) (hN : X.N.Nodup) (ok : BlkOk X.N X.env.scope scope own) (hy : X.N[i]? = some y) (hyl : X.env.scope.names.lookup y = some .local)
    (hsw : swapsWith (.ListComp elt [⟨tg, iter, ifs, 0⟩] scope pos) (some (.Name y py)) spos.line X.env = pure true) (hi : PI X tg iter (tIX C B F0 H0 E ai))
    (hg : ∀ (s : Shared) (H : Hp) (Q : Addr) (cl : List (Str × Addr)) (fp : List Addr), PG (X.blk s H scope (compEnvC scope cl Q X.env) fp) tg (tG C B F0 H0 W g)) (ht : ∀ (s : Shared) (H : Hp) (Q : Addr) (cl : List (Str × Addr)) (fp : List Addr), DTs (X.blk s H scope (compEnvC scope cl Q X.env) fp) C B F0 H0 E0 ifs t)
    (he : ∀ (s : Shared) (H : Hp) (Q : Addr) (cl : List (Str × Addr)) (fp : List Addr), DE (X.blk s H scope (compEnvC scope cl Q X.env) fp) C B F0 H0 E0 elt e) (hW : ∀ i ∈ W, i ∈ own.map (·.2) := by decide) (z1 : t.n = 0 := by rfl) (z2 : e.n = 0 := by rfl) (hs : ∀ x, foldedSetIterable iter X.env x = pure x := by intro _; rfl) :
    DS X C B F0 H0 E (.Assign [.Name y py] (.ListComp elt [⟨tg, iter, ifs, 0⟩] scope pos) spos) (sOwn (aLc ai g t e (own.map (·.2))) i) :=
  (ps_setLc hc hN hy hyl hsw hi ok hg ht he hs).imp fun D σ H h => lc_run hW z1 z2 (own_run h)

theorem de_lcD (M : Nat) {elt tg iter : Expr} {ifs : List Expr} {scope : Scope} {own : List (Str × Nat)} {ai : AI} {g : AG} {t : AT} {e : AE} {W : List Nat} (hc : X.calm = true) (hN : X.N.Nodup) (ok : BlkOk X.N X.env.scope scope own) (hi : PI X tg iter (tIX C B F0 H0 E ai))
    (hg : ∀ (s : Shared) (H : Hp) (Q : Addr) (cl : List (Str × Addr)) (fp : List Addr), PG (X.blk s H scope (compEnvC scope cl Q X.env) fp) tg (tG C B F0 H0 W g)) (ht : ∀ (s : Shared) (H : Hp) (Q : Addr) (cl : List (Str × Addr)) (fp : List Addr), DTs (X.blk s H scope (compEnvC scope cl Q X.env) fp) C B F0 H0 E0 ifs t)
    (he : ∀ (s : Shared) (H : Hp) (Q : Addr) (cl : List (Str × Addr)) (fp : List Addr), DE (X.blk s H scope (compEnvC scope cl Q X.env) fp) C B F0 H0 E0 elt e) (hW : ∀ i ∈ W, i ∈ own.map (·.2) := by decide) (hs : ∀ x, foldedSetIterable iter X.env x = pure x := by intro _; rfl) :
    DE X C B F0 H0 E (.ListComp elt [⟨tg, iter, ifs, 0⟩] scope pos) (aLcD M ai g t e (own.map (·.2))) := (pe_lc hc hN hi ok hg ht he hs).imp fun σ H Q h => lc_runD hW h
theorem ds_setLcD (M : Nat) {i : Nat} {y : Str} {py spos : Pos} {elt tg iter : Expr} {ifs : List Expr} {scope : Scope} {own : List (Str × Nat)} {ai : AI} {g : AG} {t : AT} {e : AE} {W : List Nat} (hc : X.calm = true) (hN : X.N.Nodup) (ok : BlkOk X.N X.env.scope scope own) (hy : X.N[i]? = some y) (hyl : X.env.scope.names.lookup y = some .local)
    (hsw : swapsWith (.ListComp elt [⟨tg, iter, ifs, 0⟩] scope pos) (some (.Name y py)) spos.line X.env = pure true) (hi : PI X tg iter (tIX C B F0 H0 E ai))
    (hg : ∀ (s : Shared) (H : Hp) (Q : Addr) (cl : List (Str × Addr)) (fp : List Addr), PG (X.blk s H scope (compEnvC scope cl Q X.env) fp) tg (tG C B F0 H0 W g)) (ht : ∀ (s : Shared) (H : Hp) (Q : Addr) (cl : List (Str × Addr)) (fp : List Addr), DTs (X.blk s H scope (compEnvC scope cl Q X.env) fp) C B F0 H0 E0 ifs t)
    (he : ∀ (s : Shared) (H : Hp) (Q : Addr) (cl : List (Str × Addr)) (fp : List Addr), DE (X.blk s H scope (compEnvC scope cl Q X.env) fp) C B F0 H0 E0 elt e) (hW : ∀ i ∈ W, i ∈ own.map (·.2) := by decide) (hs : ∀ x, foldedSetIterable iter X.env x = pure x := by intro _; rfl) :
    DS X C B F0 H0 E (.Assign [.Name y py] (.ListComp elt [⟨tg, iter, ifs, 0⟩] scope pos) spos) (sAsg (aLcD M ai g t e (own.map (·.2))) (gN i)) :=
  (ps_setLc hc hN hy hyl hsw hi ok hg ht he hs).imp fun D σ H h => by
    have h1 := asg_run (W := [i]) h
    refine lc_runD (M := M) hW ?_
    obtain ⟨α, F, P, PX, s, h2, q, x⟩ := h1
    refine ⟨α, F, P, PX, s, h2, fun r v F' H' p xx rv => ?_, x⟩
    obtain ⟨α2, F2, d, P2, m2, s2, r2, h3, q2⟩ := q r v F' H' p xx rv
    exact q2 _ _ h3 (s2.setP r2) ⟨List.length_set, fun j hj => by rw [List.getElem?_set_ne]; intro z; subst z; exact hj List.mem_cons_self⟩
theorem ds_ownLcD (M : Nat) {i : Nat} {y : Str} {py spos : Pos} {elt tg iter : Expr} {ifs : List Expr} {scope : Scope} {own : List (Str × Nat)} {ai : AI} {g : AG} {t : AT} {e : AE} {W : List Nat} (hc : X.calm = true) (hN : X.N.Nodup) (ok : BlkOk X.N X.env.scope scope own) (hy : X.N[i]? = some y) (hyl : X.env.scope.names.lookup y = some .local)
    (hsw : swapsWith (.ListComp elt [⟨tg, iter, ifs, 0⟩] scope pos) (some (.Name y py)) spos.line X.env = pure true) (hi : PI X tg iter (tIX C B F0 H0 E ai))
    (hg : ∀ (s : Shared) (H : Hp) (Q : Addr) (cl : List (Str × Addr)) (fp : List Addr), PG (X.blk s H scope (compEnvC scope cl Q X.env) fp) tg (tG C B F0 H0 W g)) (ht : ∀ (s : Shared) (H : Hp) (Q : Addr) (cl : List (Str × Addr)) (fp : List Addr), DTs (X.blk s H scope (compEnvC scope cl Q X.env) fp) C B F0 H0 E0 ifs t)
    (he : ∀ (s : Shared) (H : Hp) (Q : Addr) (cl : List (Str × Addr)) (fp : List Addr), DE (X.blk s H scope (compEnvC scope cl Q X.env) fp) C B F0 H0 E0 elt e) (hW : ∀ i ∈ W, i ∈ own.map (·.2) := by decide) (hs : ∀ x, foldedSetIterable iter X.env x = pure x := by intro _; rfl) :
    DS X C B F0 H0 E (.Assign [.Name y py] (.ListComp elt [⟨tg, iter, ifs, 0⟩] scope pos) spos) (sOwn (aLcD M ai g t e (own.map (·.2))) i) :=
  (ps_setLc hc hN hy hyl hsw hi ok hg ht he hs).imp fun D σ H h => lc_runD (M := M) hW (own_run h)

/-! ### defs -/
abbrev WF := List D → (R → Prop) → (Ex → Prop) → Prop
def spF (K : PySem.W.Frag) (cls : String → Addr) (fnm : String → List Str) (c n : Nat) (w : WF) : Sp := fun vs H Q E => ∃ (tp : Option Addr) (F : Hp) (ds : List D) (P : R → Prop) (PX : Ex → Prop),
  Wf ⟨K, cls, fnm, tp⟩ F H ∧ plOf ⟨K, cls, fnm, tp⟩ H + c ≤ LIM ∧ Rps ⟨K, cls, fnm, tp⟩ F ds vs ∧ ds.length = n ∧ w ds P PX ∧ (∀ r v F' H', P r → Xt ⟨K, cls, fnm, tp⟩ c F H F' H' → RV ⟨K, cls, fnm, tp⟩ H F' H' r v → Q v H') ∧ exOk ⟨K, cls, fnm, tp⟩ c F H E PX
theorem spF_len {K : PySem.W.Frag} {cls : String → Addr} {fnm : String → List Str} {c n : Nat} {w : WF} {ps : List Str} (hn : ps.length = n) : ∀ vs H Q E, spF K cls fnm c n w vs H Q E → vs.length = ps.length := fun vs H Q E ⟨tp, F, ds, P, PX, _, _, r, l, _⟩ => by rw [r.length, l, hn]
/-- a call of a def -/
def aCall (c n : Nat) (w : WF) (a : AA) : AE := ⟨a.n + c, fun α P PX => a α (fun ds => ds.length = n ∧ w ds P PX) PX⟩
theorem de_call {k c n : Nat} {f : Addr} {fd : FuncData} {ps : List Str} {w : WF} {x : Str} {p : Pos} {e : Expr} {es : List Expr} {a : AA} (tk : Takes X (fun c d _ H => E c d H)) (F : FnOk X.prog X.w X.K X.mg X.base (L2.CX X.prog X.w) k f fd ps (spF C.K C.cls C.fnm c n w)) (hr : Room k X.A) (hm : X.mg x = some (.ref f)) (hk : PySem.W.keepIn X.K (.ref f) = true) (hb : Binds X.K fd ps [])
    (ha : DA X C B F0 H0 E (e :: es) a) (hg : Gl X x := by rfl) (hdb : (x == ("__debug__" : Str)) = false := by decide) (he : starEach (e :: es) X.env = (false, eval e X.env) :: starEach es X.env := by rfl) (hpl : (backTo pos (starEach es X.env)).any (·.1) = false := by rfl) :
    DE X C B F0 H0 E (.Call (.Name x p) (e :: es) [] pos) (aCall c n w a) :=
  (pe_call F hr hg hm hk hb .nil (passes_call tk fun _ _ _ _ h => h) ha hdb he hpl).imp fun σ H Q ⟨α, F, P, PX, s, h, q, x⟩ => by
    refine ⟨α, F, _, PX, s.l, h, fun ds vs F1 H1 ⟨l, h1⟩ x1 rs => ?_, x⟩
    show spF C.K C.cls C.fnm c n w (vs ++ []) H1 Q E
    rw [List.append_nil]
    have s1 : Sat C B F0 H0 c α F1 H1 σ := s.go x1
    exact ⟨C.tp, F1, ds, P, PX, x1.wf, Int.le_trans s1.cr s1.lim, rs, l, h1, fun r v F' H' p x2 rv => q r v F' H' p (x1.trans x2) (rv.back x1), fun y F' H' cl d p x2 xv => x y F' H' cl d p (s1.xt1 x2) xv⟩
theorem de_call0 {k c n : Nat} {f : Addr} {fd : FuncData} {ps : List Str} {w : WF} {x : Str} {p : Pos} (tk : Takes X (fun c d _ H => E c d H)) (F : FnOk X.prog X.w X.K X.mg X.base (L2.CX X.prog X.w) k f fd ps (spF C.K C.cls C.fnm c n w)) (hr : Room k X.A) (hm : X.mg x = some (.ref f)) (hk : PySem.W.keepIn X.K (.ref f) = true) (hb : Binds X.K fd ps [])
    (hg : Gl X x := by rfl) (hdb : (x == ("__debug__" : Str)) = false := by decide) :
    DE X C B F0 H0 E (.Call (.Name x p) [] [] pos) (aCall c n w aNil) :=
  (pe_call0 F hr hg hm hk hb .nil (passes_call tk fun _ _ _ _ h => h) hdb).imp fun σ H Q ⟨α, F, P, PX, s, ⟨l, h⟩, q, x⟩ => by
    have s1 : Sat C B F0 H0 c α F H σ := s.r
    exact ⟨C.tp, F, [], P, PX, s1.xt.wf, Int.le_trans s1.cr s1.lim, rfl, l, h, fun r v F' H' p x2 rv => q r v F' H' p x2.r rv, fun y F' H' cl d p x2 xv => x y F' H' cl d p (s1.xt1 x2) xv⟩
/-- a def's body -/
def bodyW (N : Nat) (b : AST) : WF := fun ds P PX => b (ds.map .pv ++ List.replicate (N - ds.length) .un) ⟨fun _ => P (.pv .non), P, fun _ => False, fun _ => False, PX⟩
theorem Sat.start {c : Nat} {F H : Hp} {ds : List D} {vs : List V} {N : List Str} (w : Wf C F H) (hc : plOf C H + c ≤ LIM) (r : Rps C F ds vs) : Sat C c F H c (ds.map .pv ++ List.replicate (N.length - ds.length) .un) F H (L2.start N vs) := by
  have lv : vs.length = ds.length := r.length
  have own : ∀ {i : Nat} {s : AS} {v : Option V}, (ds.map AS.pv ++ List.replicate (N.length - ds.length) .un)[i]? = some s → ownA s v = none := fun {i s v} h => by
    rcases List.mem_append.mp (List.mem_of_getElem? h) with m | m
    · obtain ⟨d, _, rfl⟩ := List.mem_map.mp m; rfl
    · rw [List.eq_of_mem_replicate m]; rfl
  refine ⟨(Xt.refl w).le (Nat.zero_le _), Int.le_refl _, hc, ?_, fun i s v h1 h2 => ?_, fun i j s t v u a h1 _ _ _ o _ => ?_, fun i s v a h1 _ o => ?_⟩
  · unfold L2.start
    rw [List.length_append, List.length_append, List.length_map, List.length_map, List.length_replicate, List.length_replicate, lv]
  · unfold L2.start at h2
    by_cases hi : i < ds.length
    · rw [List.getElem?_append_left (by simpa using hi), List.getElem?_map] at h1
      rw [List.getElem?_append_left (by simpa [lv] using hi), List.getElem?_map] at h2
      cases e : ds[i]? with
      | none => rw [e] at h1; cases h1
      | some d =>
        rw [e] at h1; cases h1
        obtain ⟨y, h3, h4⟩ := r.get e
        rw [h3] at h2; cases h2
        exact ⟨y, rfl, h4⟩
    · rw [List.getElem?_append_right (by simpa using hi), List.getElem?_replicate] at h1
      split at h1
      · cases h1; trivial
      · cases h1
  · rw [own h1] at o; cases o
  · rw [own h1] at o; cases o
section
variable {P : Program} {w : World} {K : PySem.W.Frag} {mg : Str → Option Value} {base : Heap} {cls : String → Addr} {fnm : String → List Str}
/-- THE RULE for a def -/
theorem okA {x qual : Str} {st : Stmt} {f : Addr} {fd : FuncData} {N ps : List Str} {k c n m : Nat} {b : AST} {wf : WF} (F : Fun K x qual st f fd) (S : FnScope N ps (defScope st)) (hn : ps.length = n) (hN : N.length = m) (hw : ∀ ds P PX, ds.length = n → wf ds P PX → bodyW m b ds P PX)
    (hbody : ∀ (cdv : Value) (A : Around) (outer : List Env) (s : Shared) (H : Hp) (E : XK) (tp : Option Addr) (F0 : Hp), Room k (A.deeper (envOfC qual (defScope st) s.heap.objs.size f cdv)) →
      Takes (cxOf (L2.CX P w) P w K mg base N qual (defScope st) f cdv A outer s H E) (fun c d _ H => E c d H) →
      DSs (cxOf (L2.CX P w) P w K mg base N qual (defScope st) f cdv A outer s H E) ⟨K, cls, fnm, tp⟩ c F0 H E (defBody st) b) (hc : b.n ≤ c := by decide) : FnOk P w K mg base (L2.CX P w) (k + 1) f fd ps (spF K cls fnm c n wf) := by
  refine F.okX S (spF_len hn) fun cdv A outer s H vs Q E hr h => ?_
  obtain ⟨tp, F0, ds, Pq, PX, wfF, hl, rs, l, hh, q, x⟩ := h
  refine ⟨_, hbody cdv A outer s H E tp F0 hr (takes_of rfl rfl rfl rfl), ?_⟩
  refine ⟨_, F0, ⟨fun _ => Pq (.pv .non), Pq, fun _ => False, fun _ => False, PX⟩, c - b.n, (Sat.start wfF hl rs).le (by omega), by rw [hN]; exact hw ds Pq PX l hh, fun α' σ' F' H' p s' _ => q (.pv .non) .non F' H' p s'.xt rfl, fun r v F' H' p x1 rv => q r v F' H' p x1 rv, fun _ _ _ _ h => h.elim, fun _ _ _ _ h => h.elim, x⟩
end
end
end AL

set_option Elab.async false
set_option linter.all false
set_option maxRecDepth 100000
set_option maxHeartbeats 1000000
set_option autoImplicit false
namespace AL
open PySem PySem.Spec PyProof.Rows L2
section
variable {X : Cx} {C : Ct} {B : Nat} {F0 H0 : Hp} {E : XK} {pos : Pos}
/-! ### built-ins over lists -/
theorem newL {F1 H1 : Hp} {ds : List D} {xs : List V} {p : Addr} (w : Wf C F1 H1) (np : H1 p = none) (r : Rps C F1 ds xs) : Xt C 0 F1 H1 F1 (upd H1 p (.lst xs)) ∧ RV C H1 F1 (upd H1 p (.lst xs)) (.ol ds) (.ref p) :=
  ⟨Xt.lay w np, p, xs, rfl, upd_same, (w.lay (o := .lst xs) np).2.1, np, (w.lay (o := .lst xs) np).2.2, r⟩
def allR (a : R) (P : R → Prop) : Prop := ∃ bs, a.asL.bind asBls = some bs ∧ P (.pv (.bl (bs.all id)))
def anyR (a : R) (P : R → Prop) : Prop := ∃ bs, a.asL.bind asBls = some bs ∧ P (.pv (.bl (bs.any id)))
theorem RV.bls {H F1 H1 : Hp} {a : R} {x : V} {bs : List Bool} (w : Wf C F1 H1) (h : RV C H F1 H1 a x) (e : a.asL.bind asBls = some bs) : ∃ p, x = .ref p ∧ H1 p = some (.lst (bs.map V.bl)) := by
  cases e1 : a.asL with
  | none => rw [e1] at e; cases e
  | some ds =>
    rw [e1] at e
    obtain ⟨p, xs, rfl, h1, r⟩ := h.list w e1
    have := asBls_eq e
    subst this
    exact ⟨p, rfl, by rw [h1, r.bls]⟩
theorem RV.ints {H F1 H1 : Hp} {a : R} {x : V} {bs : List Int} (w : Wf C F1 H1) (h : RV C H F1 H1 a x) (e : a.asL.bind asInts = some bs) : ∃ p, x = .ref p ∧ H1 p = some (.lst (bs.map V.int)) := by
  cases e1 : a.asL with
  | none => rw [e1] at e; cases e
  | some ds =>
    rw [e1] at e
    obtain ⟨p, xs, rfl, h1, r⟩ := h.list w e1
    have := asInts_eq e
    subst this
    exact ⟨p, rfl, by rw [h1, r.ints]⟩
theorem RV.strs {H F1 H1 : Hp} {a : R} {x : V} {bs : List (List Nat)} (w : Wf C F1 H1) (h : RV C H F1 H1 a x) (e : a.asL.bind asStrs = some bs) : ∃ p, x = .ref p ∧ H1 p = some (.lst ((bs.map mk).map V.str)) := by
  cases e1 : a.asL with
  | none => rw [e1] at e; cases e
  | some ds =>
    rw [e1] at e
    obtain ⟨p, xs, rfl, h1, r⟩ := h.list w e1
    have := asStrs_eq e
    subst this
    exact ⟨p, rfl, by rw [h1, r.strs]⟩
theorem all_s {K : PySem.W.Frag} : CalS C (rAll K) allR := by
  intro H F1 H1 x a P Q w ha ⟨bs, e, h⟩ q
  obtain ⟨p, rfl, h1⟩ := ha.bls w e
  exact ⟨p, bs, rfl, .inl (.inl h1), q _ _ F1 H1 h (.refl w) rfl⟩
theorem any_s {K : PySem.W.Frag} : CalS C (rAny K) anyR := by
  intro H F1 H1 x a P Q w ha ⟨bs, e, h⟩ q
  obtain ⟨p, rfl, h1⟩ := ha.bls w e
  exact ⟨p, bs, rfl, .inl (.inl h1), q _ _ F1 H1 h (.refl w) rfl⟩
def sumR (a : R) (P : R → Prop) : Prop := ∃ bs, a.asL.bind asInts = some bs ∧ P (.pv (.int bs.sum))
theorem sum_s {K : PySem.W.Frag} : CalS C (rSum K) sumR := by
  intro H F1 H1 x a P Q w ha ⟨bs, e, h⟩ q
  obtain ⟨p, rfl, h1⟩ := ha.ints w e
  exact ⟨p, bs, rfl, .inl (.inl h1), q _ _ F1 H1 h (.refl w) rfl⟩
def maxR (a : R) (P : R → Prop) : Prop := ∃ bs, a.asL.bind asInts = some bs ∧ 0 < bs.length ∧ ∀ m, m ∈ bs → (∀ y, y ∈ bs → y ≤ m) → P (.pv (.int m))
def minR (a : R) (P : R → Prop) : Prop := ∃ bs, a.asL.bind asInts = some bs ∧ 0 < bs.length ∧ ∀ m, m ∈ bs → (∀ y, y ∈ bs → m ≤ y) → P (.pv (.int m))
theorem max_s {K : PySem.W.Frag} : CalS C (rMax K) maxR := by
  intro H F1 H1 x a P Q w ha ⟨bs, e, l, h⟩ q
  obtain ⟨p, rfl, h1⟩ := ha.ints w e
  exact ⟨p, bs, rfl, .inl (.inl h1), l, fun m a b => q _ _ F1 H1 (h m a b) (.refl w) rfl⟩
theorem min_s {K : PySem.W.Frag} : CalS C (rMin K) minR := by
  intro H F1 H1 x a P Q w ha ⟨bs, e, l, h⟩ q
  obtain ⟨p, rfl, h1⟩ := ha.ints w e
  exact ⟨p, bs, rfl, .inl (.inl h1), l, fun m a b => q _ _ F1 H1 (h m a b) (.refl w) rfl⟩
/-- sorted of texts -/
def sortR (a : R) (P : R → Prop) : Prop := ∃ ls, a.asL.bind asStrs = some ls ∧ ls.length < 64 ∧ ∀ ys : List (List Nat), ys.Perm ls → ys.Pairwise (fun a b => ¬ b < a) → P (.ol (ys.map .str))
theorem rising_pw : ∀ (r : List Str) (p : Str), risingS p r = true → (p :: r).Pairwise fun a b => ¬ b.cps.toList < a.cps.toList
  | [], p, _ => List.pairwise_singleton _ _
  | x :: r, p, h => by
    rw [risingS, Bool.and_eq_true] at h
    obtain ⟨h1, h2⟩ := h
    have ih := rising_pw r x h2
    have h1' : ¬ x.cps.toList < p.cps.toList := by
      rw [ltCps_eq] at h1
      simpa using h1
    refine List.pairwise_cons.mpr ⟨fun y hy => ?_, ih⟩
    rcases List.mem_cons.mp hy with rfl | hy
    · exact h1'
    · have h3 := (List.pairwise_cons.mp ih).1 y hy
      intro z
      have t1 : p.cps.toList ≤ x.cps.toList := List.not_lt.mp h1'
      have t2 : x.cps.toList ≤ y.cps.toList := List.not_lt.mp h3
      exact absurd z (List.not_lt.mpr (List.le_trans t1 t2))
theorem sorted_pw : ∀ (r : List Str), sortedS r = true → r.Pairwise fun a b => ¬ b.cps.toList < a.cps.toList
  | [], _ => .nil
  | x :: r, h => rising_pw r x h
theorem mk_list : ∀ (ys : List Str), ys = (ys.map fun s => s.cps.toList).map mk
  | [] => rfl
  | s :: r => by rw [List.map_cons, List.map_cons, mk_of, ← mk_list r]
theorem sort_s {K : PySem.W.Frag} : CalS C (rSortedS K) sortR := by
  intro H F1 H1 x a P Q w ha ⟨ls, e, l, h⟩ q
  obtain ⟨p, rfl, h1⟩ := ha.strs w e
  refine ⟨p, ls.map mk, rfl, .inl (.inl h1), by rw [List.length_map]; exact l, fun ys z pm so nz => ?_⟩
  have e1 := mk_list ys
  have pm2 : (ys.map fun s => s.cps.toList).Perm ls := by
    have := pm.map fun s => s.cps.toList
    rw [List.map_map] at this
    have e2 : (ls.map ((fun s : Str => s.cps.toList) ∘ mk)) = ls := by
      rw [show ((fun s : Str => s.cps.toList) ∘ mk) = id from funext mk_cps, List.map_id]
    rwa [e2] at this
  have hp := h (ys.map fun s => s.cps.toList) pm2 (List.pairwise_map.mpr (sorted_pw ys so))
  have rr : Rps C F1 ((ys.map fun s => s.cps.toList).map .str) (ys.map V.str) := by
    have := rps_strs (C := C) (F := F1) (ys.map fun s => s.cps.toList)
    rwa [← e1] at this
  obtain ⟨x2, rv⟩ := newL w nz rr
  exact q _ _ _ _ hp x2 rv
/-- list(xs), tuple(xs) -/
def listR (a : R) (P : R → Prop) : Prop := ∃ ds, a.asSeq = some ds ∧ P (.ol ds)
theorem list_s {K : PySem.W.Frag} (hK : C.K = K) : CalS C (fun xs H Q => ∃ p ys, xs = [.ref p] ∧ (SqL K H p ys ∨ SqT K H p ys) ∧ ∀ l, H l = none → Q (.ref l) (upd H l (.lst ys))) listR := by
  intro H F1 H1 x a P Q w ha ⟨ds, e, h⟩ q
  subst hK
  obtain ⟨p, xs, rfl, hs, r⟩ := ha.seq w e
  refine ⟨p, xs, rfl, hs, fun z nz => ?_⟩
  obtain ⟨x2, rv⟩ := newL w nz r
  exact q _ _ _ _ h x2 rv
def tupR (a : R) (P : R → Prop) : Prop := ∃ ds, a.asSeq = some ds ∧ P (.pv (.tup ds))
theorem tup_s {K : PySem.W.Frag} (hK : C.K = K) : CalS C (fun xs H Q => ∃ p ys, xs = [.ref p] ∧ ((SqL K H p ys ∧ ∀ l, H l = none → Q (.ref l) (upd H l (.tup ys))) ∨ (SqT K H p ys ∧ Q (.ref p) H))) tupR := by
  intro H F1 H1 x a P Q w ha ⟨ds, e, h⟩ q
  subst hK
  unfold R.asSeq at e
  split at e
  · rename_i d e1
    cases e
    obtain ⟨p, xs, rfl, h1, r1⟩ := ha.list w e1
    exact ⟨p, xs, rfl, .inl ⟨.inl (.inl h1), fun z nz => q _ _ _ _ h (Xt.layF w nz) ⟨z, xs, rfl, .inl (.inl upd_same), Rps.mono (Xt.layF (o := .tup xs) w nz).frz _ _ r1⟩⟩⟩
  · cases a with
    | pv d =>
      cases d <;> simp [R.asT] at e
      subst e
      obtain ⟨p, xs, rfl, h1, r1⟩ := ha
      exact ⟨p, xs, rfl, .inr ⟨SqT.wf w h1, q _ _ F1 H1 h (.refl w) ⟨p, xs, rfl, h1, r1⟩⟩⟩
    | _ => simp [R.asT] at e
theorem de_all {e : Expr} {p : Pos} {a : AE} (hc : X.calm = true) (hm : X.mg "all" = none) (ha : DE X C B F0 H0 E e a) (hg : Gl X "all" := by rfl) (hs1 : starEach [e] X.env = (false, eval e X.env) :: starEach [] X.env := by rfl) (hpl : (backTo pos (starEach [] X.env)).any (·.1) = false := by rfl) : DE X C B F0 H0 E (.Call (.Name "all" p) [e] [] pos) (aB allR a) :=
  de_b (cr_all hc) all_s hm ha hg (by decide +kernel) (by decide) (by decide) hs1 hpl
theorem de_any {e : Expr} {p : Pos} {a : AE} (hc : X.calm = true) (hm : X.mg "any" = none) (ha : DE X C B F0 H0 E e a) (hg : Gl X "any" := by rfl) (hs1 : starEach [e] X.env = (false, eval e X.env) :: starEach [] X.env := by rfl) (hpl : (backTo pos (starEach [] X.env)).any (·.1) = false := by rfl) : DE X C B F0 H0 E (.Call (.Name "any" p) [e] [] pos) (aB anyR a) :=
  de_b (cr_any hc) any_s hm ha hg (by decide +kernel) (by decide) (by decide) hs1 hpl
theorem de_sum {e : Expr} {p : Pos} {a : AE} (hc : X.calm = true) (hm : X.mg "sum" = none) (ha : DE X C B F0 H0 E e a) (hg : Gl X "sum" := by rfl) (hs1 : starEach [e] X.env = (false, eval e X.env) :: starEach [] X.env := by rfl) (hpl : (backTo pos (starEach [] X.env)).any (·.1) = false := by rfl) : DE X C B F0 H0 E (.Call (.Name "sum" p) [e] [] pos) (aB sumR a) :=
  de_b (cr_sum hc) sum_s hm ha hg (by decide +kernel) (by decide) (by decide) hs1 hpl
theorem de_max {e : Expr} {p : Pos} {a : AE} (hc : X.calm = true) (hm : X.mg "max" = none) (ha : DE X C B F0 H0 E e a) (hg : Gl X "max" := by rfl) (hs1 : starEach [e] X.env = (false, eval e X.env) :: starEach [] X.env := by rfl) (hpl : (backTo pos (starEach [] X.env)).any (·.1) = false := by rfl) : DE X C B F0 H0 E (.Call (.Name "max" p) [e] [] pos) (aB maxR a) :=
  de_b (cr_max hc) max_s hm ha hg (by decide +kernel) (by decide) (by decide) hs1 hpl
theorem de_min {e : Expr} {p : Pos} {a : AE} (hc : X.calm = true) (hm : X.mg "min" = none) (ha : DE X C B F0 H0 E e a) (hg : Gl X "min" := by rfl) (hs1 : starEach [e] X.env = (false, eval e X.env) :: starEach [] X.env := by rfl) (hpl : (backTo pos (starEach [] X.env)).any (·.1) = false := by rfl) : DE X C B F0 H0 E (.Call (.Name "min" p) [e] [] pos) (aB minR a) :=
  de_b (cr_min hc) min_s hm ha hg (by decide +kernel) (by decide) (by decide) hs1 hpl
theorem de_sorted {e : Expr} {p : Pos} {a : AE} (hm : X.mg "sorted" = none) (ha : DE X C B F0 H0 E e a) (hg : Gl X "sorted" := by rfl) (hs1 : starEach [e] X.env = (false, eval e X.env) :: starEach [] X.env := by rfl) (hpl : (backTo pos (starEach [] X.env)).any (·.1) = false := by rfl) : DE X C B F0 H0 E (.Call (.Name "sorted" p) [e] [] pos) (aB sortR a) :=
  de_b cr_sortedS sort_s hm ha hg (by decide +kernel) (by decide) (by decide) hs1 hpl
theorem de_list {e : Expr} {p : Pos} {a : AE} (hK : C.K = X.K) (hm : X.mg "list" = none) (ha : DE X C B F0 H0 E e a) (hg : Gl X "list" := by rfl) (hs1 : starEach [e] X.env = (false, eval e X.env) :: starEach [] X.env := by rfl) (hpl : (backTo pos (starEach [] X.env)).any (·.1) = false := by rfl) : DE X C B F0 H0 E (.Call (.Name "list" p) [e] [] pos) (aB listR a) :=
  de_ty call_list_of (list_s hK) hm ha hg (by decide +kernel) (by decide) (by decide) hs1 hpl
theorem de_tuple {e : Expr} {p : Pos} {a : AE} (hK : C.K = X.K) (hm : X.mg "tuple" = none) (ha : DE X C B F0 H0 E e a) (hg : Gl X "tuple" := by rfl) (hs1 : starEach [e] X.env = (false, eval e X.env) :: starEach [] X.env := by rfl) (hpl : (backTo pos (starEach [] X.env)).any (·.1) = false := by rfl) : DE X C B F0 H0 E (.Call (.Name "tuple" p) [e] [] pos) (aB tupR a) :=
  de_ty call_tuple_of (tup_s hK) hm ha hg (by decide +kernel) (by decide) (by decide) hs1 hpl
/-- int(a bool), int(an int) -/
def intcR (a : R) (P : R → Prop) : Prop := match a with
  | .pv (.int i) => P (.pv (.int i))
  | .pv (.bl k) => P (.pv (.int (if k then 1 else 0)))
  | _ => False
theorem intc_s : CalS C (fun xs H Q => (∃ i, xs = [.int i] ∧ Q (.int i) H) ∨ ∃ k, xs = [.bl k] ∧ Q (.int (if k then 1 else 0)) H) intcR := by
  intro H F1 H1 x a P Q w ha h q
  unfold intcR at h
  split at h
  · cases ha; exact .inl ⟨_, rfl, q _ _ F1 H1 h (.refl w) rfl⟩
  · cases ha; exact .inr ⟨_, rfl, q _ _ F1 H1 h (.refl w) rfl⟩
  · exact h.elim
theorem de_intc {e : Expr} {p : Pos} {a : AE} (hm : X.mg "int" = none) (ha : DE X C B F0 H0 E e a) (hg : Gl X "int" := by rfl) (hs1 : starEach [e] X.env = (false, eval e X.env) :: starEach [] X.env := by rfl) (hpl : (backTo pos (starEach [] X.env)).any (·.1) = false := by rfl) : DE X C B F0 H0 E (.Call (.Name "int" p) [e] [] pos) (aB intcR a) :=
  de_ty call_int1 intc_s hm ha hg (by decide +kernel) (by decide) (by decide) hs1 hpl
/-- sep.join(xs) -/
def joinL (s : List Nat) : List (List Nat) → List Nat
  | [] => []
  | [x] => x
  | x :: r => x ++ s ++ joinL s r
theorem join_mk (s : List Nat) : ∀ ls : List (List Nat), Txt.join (mk s) (ls.map mk) = mk (joinL s ls) := by
  intro ls
  unfold Txt.join
  rw [StrLaws.glued_eq_join]
  induction ls with
  | nil => rfl
  | cons x r ih =>
    cases r with
    | nil => rfl
    | cons y r =>
      rw [List.map_cons, List.map_cons]
      show mk x ++ mk s ++ Str.join (mk s) (mk y :: r.map mk) = _
      rw [List.map_cons] at ih
      rw [ih, mk_app, mk_app]
      rfl
def aJoin (a b : AE) : AE := ⟨a.n + b.n, fun α P PX => a α (fun r => ∃ s, r = .pv (.str s) ∧ b α (fun y => ∃ ls, y.asL.bind asStrs = some ls ∧ (ls.map List.length).sum + ls.length * s.length ≤ 16777216 ∧ P (.pv (.str (joinL s ls)))) PX) PX⟩
theorem map_len (ls : List (List Nat)) : (ls.map mk).map (·.length) = ls.map List.length := by
  rw [List.map_map]
  exact List.map_congr_left fun l _ => mk_len l
theorem de_join {o e : Expr} {apos : Pos} {a b : AE} (ho : DE X C B F0 H0 E o a) (he : DE X C B F0 H0 E e b) (hs : starEach [e] X.env = [(false, eval e X.env)] := by rfl) (hbase : attributeBase o "join" X.env (eval o X.env) = eval o X.env := by rfl) (hline : (apos.endLine == pos.line) = true := by rfl) :
    DE X C B F0 H0 E (.Call (.Attribute o "join" apos) [e] [] pos) (aJoin a b) :=
  (pe_join ho he hs hbase hline).imp fun σ H Q ⟨α, F, P, PX, s, h, q, x⟩ => by
    refine ⟨α, F, _, PX, s.l, h, fun r1 v1 F1 H1 ⟨l, e1, h1⟩ x1 rv1 => ?_, x⟩
    subst e1
    cases rv1
    refine ⟨⟨_, rfl⟩, α, F1, _, PX, s.go x1, h1, fun r2 v2 F2 H2 ⟨ls, e2, lz, p⟩ x2 rv2 => ?_, x⟩
    obtain ⟨z, rfl, h2⟩ := rv2.strs x2.wf e2
    exact ⟨_, z, ls.map mk, rfl, rfl, .inl (.inl (.inl h2)), by rw [map_len, List.length_map, mk_len]; exact lz, q _ _ F2 H2 p (x1.trans x2) (by rw [join_mk]; rfl)⟩

/-! ### isinstance with a built-in class -/
def R.ty : R → Option String
  | .pv .non => some "NoneType"
  | .pv (.bl _) => some "bool"
  | .pv (.int _) => some "int"
  | .pv (.str _) => some "str"
  | .pv (.tup _) => some "tuple"
  | .pv (.lst _) => some "list"
  | .pv (.dct _) => some "dict"
  | .ol _ => some "list"
  | .bo _ => some "list"
  | .od _ => some "dict"
  | .bd _ => some "dict"
  | _ => none
theorem RV.tyx {H F1 H1 : Hp} {r : R} {v : V} {t : String} (w : Wf C F1 H1) (h : RV C H F1 H1 r v) (e : r.ty = some t) : TyX C.K H1 v (.type t) := by
  cases r with
  | pv d =>
    cases d with
    | non => simp [R.ty] at e; subst e; cases h; exact .base .non
    | bl => simp [R.ty] at e; subst e; cases h; exact .base (.bl _)
    | int => simp [R.ty] at e; subst e; cases h; exact .base (.int _)
    | str => simp [R.ty] at e; subst e; cases h; exact .base (.str _)
    | tup =>
      simp [R.ty] at e; subst e
      obtain ⟨a, xs, rfl, s, _⟩ := h
      rcases SqT.wf w s with (s | ⟨o, s⟩) | ⟨o, its, n, s1, s2, _⟩
      · exact .base (.tup s)
      · exact .fTuple s
      · exact .kTuple s1 s2
    | lst => simp [R.ty] at e; subst e; obtain ⟨a, xs, rfl, s, _⟩ := h; exact .base (.lst (w.sub _ _ s))
    | dct => simp [R.ty] at e; subst e; obtain ⟨a, o, xs, rfl, s, _⟩ := h; exact .fDict (w.sub _ _ s)
    | obj => simp [R.ty] at e
    | opq => simp [R.ty] at e
    | exc => simp [R.ty] at e
  | ol => simp [R.ty] at e; subst e; obtain ⟨a, xs, rfl, s, _⟩ := h; exact .base (.lst s)
  | bo => simp [R.ty] at e; subst e; obtain ⟨a, xs, rfl, s, _⟩ := h; exact .base (.lst s)
  | od => simp [R.ty] at e; subst e; obtain ⟨a, xs, rfl, s, _⟩ := h; exact .base (.dK s)
  | bd => simp [R.ty] at e; subst e; obtain ⟨a, xs, rfl, s, _⟩ := h; exact .base (.dK s)
  | bi => simp [R.ty] at e
def aIsi (T : String) (a : AE) : AE := ⟨a.n, fun α P PX => a α (fun r => ∃ t k, r.ty = some t ∧ kitB t T = some k ∧ P (.pv (.bl k))) PX⟩
theorem de_isi (T : String) {x : Str} {e : Expr} {p p2 : Pos} {a : AE} (hK : C.K = X.K) (hm : X.mg "isinstance" = none) (hT : X.mg x = none) (ha : DE X C B F0 H0 E e a) (hv : bootBuiltins x = some (.type T) := by decide +kernel) (hg : Gl X "isinstance" := by rfl) (hgT : Gl X x := by rfl) (hn : x ≠ "__name__" := by decide) (hdb : (x == ("__debug__" : Str)) = false := by decide)
    (hs1 : starEach [e, .Name x p2] X.env = (false, eval e X.env) :: starEach [.Name x p2] X.env := by rfl) (hs2 : starEach [.Name x p2] X.env = (false, eval (.Name x p2) X.env) :: starEach [] X.env := by rfl) (hpl : (backTo pos (starEach [.Name x p2] X.env)).any (·.1) = false := by rfl) :
    DE X C B F0 H0 E (.Call (.Name "isinstance" p) [e, .Name x p2] [] pos) (aIsi T a) :=
  (pe_callB call_isi hg hm (by decide +kernel) (pa_cons ha (pa_cons (pe_bltn (v := .ty T) hgT hT hv rfl hn hdb) pa_nil hs2) hs1) (by decide) (by decide) hs1 hpl).imp fun σ H Q ⟨α, F, P, PX, s, h, q, x⟩ => by
    refine ⟨α, F, _, PX, s, h, fun r1 v1 F1 H1 ⟨t, k, e1, e2, p⟩ x1 rv1 => ?_, x⟩
    refine ⟨v1, .ty T, .type t, .type T, k, rfl, .ty T, ?_, kit_ty e2, q _ _ F1 H1 p x1 rfl⟩
    rw [← hK]
    exact rv1.tyx x1.wf e1

/-! ### owned lists change -/
theorem Sat.mut {n : Nat} {F H : Hp} {α : List AS} {σ : L2.St} (s : Sat C B F0 H0 n α F H σ) {i : Nat} {t : AS} {p : Addr} {o : HO} {u : AS} (h1 : α[i]? = some u) (h2 : σ[i]? = some (some (.ref p))) (ou : ownA u (some (.ref p)) = some p) (ot : ownA t (some (.ref p)) = some p)
    (ok : slotOk C F (upd H p o) t (some (.ref p))) : Sat C B F0 H0 n (α.set i t) F (upd H p o) σ := by
  obtain ⟨_, np, fp, tp⟩ := ownA_ok (s.ok i u _ h1 h2) ou
  have n0 : H0 p = none := s.fresh i u _ p h1 h2 ou
  have xt : Xt C B F0 H0 F (upd H p o) := by
    refine ⟨s.xt.frz, ⟨fun b u q => ?_, fun T hT => ?_⟩, fun b u n q => ?_, s.xt.new, by rw [pl_at tp]; exact s.xt.tk⟩
    · rw [upd_ne (ne_of_none q fp)]; exact s.xt.wf.sub b u q
    · obtain ⟨n, A, cs, pl, lf, g1, g2⟩ := s.xt.wf.tape T hT
      refine ⟨n, A, cs, pl, lf, ?_, g2⟩
      rw [upd_ne (fun z => tp (by rw [← z]; exact hT))]; exact g1
    · rw [upd_ne (ne_of_none q n0)]; exact s.xt.keep b u n q
  have li : i < α.length := (List.getElem?_eq_some_iff.mp h1).1
  have at' : ∀ {j : Nat} {w : AS}, (α.set i t)[j]? = some w → (j = i ∧ w = t) ∨ (j ≠ i ∧ α[j]? = some w) := fun {j w} e => by
    by_cases hj : j = i
    · subst hj; rw [List.getElem?_set_self li] at e; cases e; exact .inl ⟨rfl, rfl⟩
    · rw [List.getElem?_set_ne (Ne.symm hj)] at e; exact .inr ⟨hj, e⟩
  refine ⟨xt, by rw [pl_at tp]; exact s.cr, s.lim, by rw [List.length_set]; exact s.len, fun j w v e1 e2 => ?_, fun j k w w' v v' a e1 e2 e3 e4 o1 o2 => ?_, fun j w v a e1 e2 o1 => ?_⟩
  · rcases at' e1 with ⟨rfl, rfl⟩ | ⟨hj, e1⟩
    · rw [h2] at e2; cases e2; exact ok
    · have old := s.ok j w v e1 e2
      have far : ∀ a, ownA w v = some a → a ≠ p := fun a o1 z => by
        subst z
        exact hj (s.apart j i w u v _ a e1 e2 h1 h2 o1 ou)
      cases w with
      | un => trivial
      | pv d => exact old
      | ol ds => obtain ⟨a, xs, rfl, g1, g2⟩ := old; exact ⟨a, xs, rfl, by rw [upd_ne (far a rfl)]; exact g1, g2⟩
      | od ds => obtain ⟨a, xs, rfl, g1, g2⟩ := old; exact ⟨a, xs, rfl, by rw [upd_ne (far a rfl)]; exact g1, g2⟩
      | oi c ds => obtain ⟨a, dx, xs, rfl, g1, g2⟩ := old; exact ⟨a, dx, xs, rfl, by rw [upd_ne (far a rfl)]; exact g1, g2⟩
  · have own_t : ∀ {v : Option V} {a : Addr}, σ[i]? = some v → ownA t v = some a → a = p := fun {v a} e o1 => by
      rw [h2] at e; cases e; rw [ot] at o1; cases o1; rfl
    rcases at' e1 with ⟨x1, x2⟩ | ⟨hj, k1⟩ <;> rcases at' e3 with ⟨y1, y2⟩ | ⟨hk, k3⟩
    · exact x1.trans y1.symm
    · rw [x2] at o1; rw [x1] at e2
      have := own_t e2 o1; subst this
      exact absurd (s.apart k i w' u v' _ a k3 e4 h1 h2 o2 ou) hk
    · rw [y2] at o2; rw [y1] at e4
      have := own_t e4 o2; subst this
      exact absurd (s.apart j i w u v _ a k1 e2 h1 h2 o1 ou) hj
    · exact s.apart j k w w' v v' a k1 e2 k3 e4 o1 o2
  · rcases at' e1 with ⟨rfl, rfl⟩ | ⟨hj, e1⟩
    · rw [h2] at e2; cases e2; rw [ot] at o1; cases o1; exact n0
    · exact s.fresh j w v a e1 e2 o1
theorem Sat.own {n : Nat} {F H : Hp} {α : List AS} {σ : L2.St} (s : Sat C B F0 H0 n α F H σ) {i : Nat} {ds : List D} (h : α[i]? = some (.ol ds)) : ∃ p xs, σ[i]? = some (some (.ref p)) ∧ H p = some (.lst xs) ∧ F p = none ∧ C.tp ≠ some p ∧ Rps C F ds xs := by
  obtain ⟨v, h1, p, xs, rfl, r⟩ := s.at h
  exact ⟨p, xs, h1, r⟩
theorem Sat.mutL {n : Nat} {F H : Hp} {α : List AS} {σ : L2.St} (s : Sat C B F0 H0 n α F H σ) {i : Nat} {ds es : List D} {p : Addr} {ys : List V} (h : α[i]? = some (.ol ds)) (h2 : σ[i]? = some (some (.ref p))) (r : Rps C F es ys) : Sat C B F0 H0 n (α.set i (.ol es)) F (upd H p (.lst ys)) σ := by
  obtain ⟨p', xs, h3, h4, h5, h6, _⟩ := s.own h
  rw [h2] at h3; cases h3
  exact s.mut h h2 rfl rfl ⟨p, ys, rfl, upd_same, h5, h6, r⟩
/-- x.append(e) -/
def sApp (i : Nat) (a : AE) : AST := ⟨a.n, fun α P => ∃ ds, α[i]? = some (.ol ds) ∧ a α (fun r => ∃ d, r.frz = some d ∧ ds.length < sizeLine ∧ P.nx (α.set i (.ol (ds ++ [d])))) P.ex⟩
theorem ds_app {i : Nat} {x : Str} {p1 : Pos} {e : Expr} {apos p2 : Pos} {a : AE} (he : DE X C B F0 H0 E e a) (h : PE X (.Call (.Attribute (.Name x p1) "append" apos) [e] [] p2) (tBM X.K "list" rAppend (tVar i) (tCons (tE C B F0 H0 E a) tNil)))
    (hs : swapsWith (.Call (.Attribute (.Name x p1) "append" apos) [e] [] p2) none pos.line X.env = pure false := by rfl) : DS X C B F0 H0 E (.Expr (.Call (.Attribute (.Name x p1) "append" apos) [e] [] p2) pos) (sApp i a) :=
  (ps_expr h hs).imp fun D σ H ⟨α, F, P, m, s, ⟨ds, ha, h⟩, q, q2, q3, q4, q5⟩ => by
    obtain ⟨p, xs, h1, h2, h3, h4, r⟩ := s.own ha
    refine ⟨_, h1, .inl ⟨rfl, xs, .inl (.inl h2)⟩, α, F, _, _, s.l, h, fun r1 v1 F1 H1 ⟨d, e1, lz, h5⟩ x1 rv1 => ?_, q5⟩
    obtain ⟨F2, x2, sm, nw, rp⟩ := rv1.fz x1 e1
    have s2 := s.go x2
    obtain ⟨p', xs', g1, g2, g3, g4, r'⟩ := s2.own ha
    rw [h1] at g1; cases g1
    refine ⟨p, xs', v1, rfl, rfl, g2, by rw [r'.length]; exact lz, ?_⟩
    exact q _ σ F2 _ h5 (s2.mutL ha h1 (r'.append ⟨v1, [], rfl, rp, rfl⟩)) x2.frz
/-- x.extend(ys) -/
def sExt (i : Nat) (a : AE) : AST := ⟨a.n, fun α P => ∃ ds, α[i]? = some (.ol ds) ∧ a α (fun r => ∃ es, r.asL = some es ∧ ds.length + es.length ≤ sizeLine ∧ P.nx (α.set i (.ol (ds ++ es)))) P.ex⟩
theorem ds_ext {i : Nat} {x : Str} {p1 : Pos} {e : Expr} {apos p2 : Pos} {a : AE} (he : DE X C B F0 H0 E e a) (h : PE X (.Call (.Attribute (.Name x p1) "extend" apos) [e] [] p2) (tBM X.K "list" rExtend (tVar i) (tCons (tE C B F0 H0 E a) tNil)))
    (hs : swapsWith (.Call (.Attribute (.Name x p1) "extend" apos) [e] [] p2) none pos.line X.env = pure false := by rfl) : DS X C B F0 H0 E (.Expr (.Call (.Attribute (.Name x p1) "extend" apos) [e] [] p2) pos) (sExt i a) :=
  (ps_expr h hs).imp fun D σ H ⟨α, F, P, m, s, ⟨ds, ha, h⟩, q, q2, q3, q4, q5⟩ => by
    obtain ⟨p, xs, h1, h2, h3, h4, r⟩ := s.own ha
    refine ⟨_, h1, .inl ⟨rfl, xs, .inl (.inl h2)⟩, α, F, _, _, s.l, h, fun r1 v1 F1 H1 ⟨es, e1, lz, h5⟩ x1 rv1 => ?_, q5⟩
    obtain ⟨b, zs, rfl, hb, rb⟩ := rv1.list x1.wf e1
    have s2 := s.go x1
    obtain ⟨p', xs', g1, g2, g3, g4, r'⟩ := s2.own ha
    rw [h1] at g1; cases g1
    refine ⟨p, b, xs', zs, rfl, rfl, g2, hb, by rw [r'.length, rb.length]; exact lz, ?_⟩
    exact q _ σ F1 _ h5 (s2.mutL ha h1 (r'.append rb)) x1.frz
/-- x.pop() as a statement -/
def sPop (i : Nat) : AST := ⟨0, fun α P => ∃ ds, α[i]? = some (.ol ds) ∧ ds ≠ [] ∧ P.nx (α.set i (.ol ds.dropLast))⟩
theorem Rps.dropLast {F : Hp} {ds : List D} {xs : List V} (r : Rps C F ds xs) : Rps C F ds.dropLast xs.dropLast := by
  rw [List.dropLast_eq_take, List.dropLast_eq_take, r.length]
  exact r.take _
theorem ds_pop {i : Nat} {x : Str} {p1 : Pos} {apos p2 : Pos} (h : PE X (.Call (.Attribute (.Name x p1) "pop" apos) [] [] p2) (tBM0 X.K "list" rPop (tVar i)))
    (hs : swapsWith (.Call (.Attribute (.Name x p1) "pop" apos) [] [] p2) none pos.line X.env = pure false := by rfl) : DS X C B F0 H0 E (.Expr (.Call (.Attribute (.Name x p1) "pop" apos) [] [] p2) pos) (sPop i) :=
  (ps_expr h hs).imp fun D σ H ⟨α, F, P, m, s, ⟨ds, ha, hne, h⟩, q, q2, q3, q4, q5⟩ => by
    obtain ⟨p, xs, h1, h2, h3, h4, r⟩ := s.own ha
    have lx : xs.length = ds.length := r.length
    have l0 : 0 < ds.length := List.length_pos_iff.mpr hne
    refine ⟨_, h1, .inl ⟨rfl, xs, .inl (.inl h2)⟩, p, xs, xs[xs.length - 1]'(by omega), rfl, rfl, h2, List.getElem?_eq_getElem (by omega), ?_⟩
    exact q _ σ F _ h (s.r.mutL ha h1 r.dropLast) (.refl _)
end
end AL

set_option Elab.async false
set_option linter.all false
set_option maxRecDepth 100000
set_option maxHeartbeats 1000000
set_option autoImplicit false
namespace AL
open PySem PySem.Spec PyProof.Rows L2

/-! ### enumerate of anything that begins and draws -/
theorem enNew {v : Value} {o : Obj} {G : Heap → Prop} (B : Begins v o G) :
    Meets (Builtin.«enumerate.__new__» ⟨[.type "enumerate", v], []⟩) (fun _ R s => G s.heap ∧
      R (.ok (.ret (.ref (s.heap.push o).objs.size))) { s with heap := (s.heap.push o).push { cls := .type "enumerate", data := .fields #[.none, .bool false, .ref s.heap.objs.size, rawInt 0, .none, .none] } }) :=
  .of_wp fun prog w A R s h => by
    obtain ⟨hp, g, d, tk, os⟩ := s
    obtain ⟨hG, h⟩ := h
    have isSub := sub_enumerate
    have st : ∀ {A' : Around} {E : Value → Shared → Prop} {Q : Value → Shared → Prop}, Q (.ref hp.objs.size) ⟨hp.push o, g, d, tk, os⟩ → wpAny (model prog w) A' (pyIter v) Q E ⟨hp, g, d, tk, os⟩ :=
      fun {A' E Q} q => B.iter prog w A' E ⟨hp, g, d, tk, os⟩ Q hG q
    wp_walk using st
    refine wpAny_stack_any fun fr => wpAny_pure ?_
    split
    · rename_i c _ _ _ _ _
      cases (c == Value.type "enumerate") <;> (wp_walk using st; exact ⟨_, rfl, h⟩)
    · (wp_walk using st; exact ⟨_, rfl, h⟩)
theorem enCall {prog : Program} {w : World} {A : Around} {E : Value → Shared → Prop} {s : Shared} {v : Value} {o : Obj} {G : Heap → Prop} {Q : Value → Shared → Prop} (B : Begins v o G) (hG : G s.heap)
    (h : ∀ h', IsEnum h' (s.heap.objs.size + 1) s.heap.objs.size 0 .none → h'.get? s.heap.objs.size = some o → (∀ b u, s.heap.get? b = some u → h'.get? b = some u) → Q (.ref (s.heap.objs.size + 1)) { s with heap := h' }) :
    wpAny (model prog w) A (call (.type "enumerate") [v]) Q E s := by
  refine callType_new F.called_enumerate (by decide) (F.typeCall_enumerate_1 _) (F.newCall_enumerate_1 _) (fun z => F.args_object_init_2 z _) F.entry_enumerate_new (enNew B) ⟨hG, ?_⟩
  have sz : (s.heap.push o).objs.size = s.heap.objs.size + 1 := Heap.size_push ..
  have ie : IsEnum ((s.heap.push o).push { cls := .type "enumerate", data := .fields #[.none, .bool false, .ref s.heap.objs.size, rawInt 0, .none, .none] }) (s.heap.objs.size + 1) s.heap.objs.size 0 .none := by
    have q := Heap.get?_push_size (s.heap.push o) (o := { cls := .type "enumerate", data := .fields #[.none, .bool false, .ref s.heap.objs.size, rawInt 0, .none, .none] }) rfl
    rwa [sz] at q
  show _ ∧ _
  rw [sz]
  exact ⟨⟨_, ie, rfl⟩, h _ ie (Heap.get?_push_of_some _ (Heap.get?_push_size _ B.free)) fun b u e => Heap.get?_push_of_some _ (Heap.get?_push_of_some _ e)⟩

/-- what is drawn: n items, where rd stands -/
structure Src (P : Program) (w : World) (K : PySem.W.Frag) (n : Nat) (rd : Hp → Prop) (item : Nat → V → Prop) (it : Addr) (tn : Nat → Heap → Prop) : Prop where
  obj : ∀ i h, tn i h → ∃ o, h.get? it = some o ∧ ∀ v, o.data ≠ .cell v
  keep : ∀ i h h', tn i h → (∀ o, h.get? it = some o → h'.get? it = some o) → tn i h'
  draws : ∀ (X : Cx), X.prog = P → X.w = w → X.K = K → X.calm = true → ∀ (pins : List (Addr × Obj)) (σ : L2.St) (H : Hp) (s : Shared), Inv X pins σ H s → H it = none → rd H →
    ∃ (fp : List Addr) (D : Nat → Value → Prop) (S : Nat → Heap → Prop), Draws P w X.A.in1 it fp n D S ∧ (∀ b ∈ fp, b = it ∨ H b ≠ none ∨ ∃ o, s.heap.get? b = some o ∧ o.cls = .type "tuple") ∧ (∀ i, tn i s.heap → S i s.heap) ∧ (∀ i h, S i h → tn i h) ∧ ∀ i x, D i x → ∃ v, RelV v x ∧ item i v
def ItE (n : Nat) (rd : Hp → Prop) (item : Nat → V → Prop) : It :=
  ⟨fun i H => rd H ∧ i < n, fun i H v H' => ∃ T x, v = .ref T ∧ H T = none ∧ H' = upd H T (.tup [.int (i : Nat), x]) ∧ item i x, fun i H => rd H ∧ n ≤ i⟩
theorem turnE {P : Program} {w : World} {K : PySem.W.Frag} {elts : List Expr} {kk : Nat} {tpos : Pos} {n : Nat} {rd : Hp → Prop} {item : Nat → V → Prop} {it : Addr} {tn : Nat → Heap → Prop} (S : Src P w K n rd item it tn) (e : Addr) :
    Turn P w K (.Tuple elts kk tpos) (ItE n rd item) [e, it] e (fun i h => (∃ old, IsEnum h e it ((i : Nat) : Int) old) ∧ tn i h ∧ e ≠ it ∧ i ≤ n) where
  mem := List.mem_cons_self
  obj := fun i h st b hb => by
    obtain ⟨⟨old, he⟩, ht, _, _⟩ := st
    rcases List.mem_cons.mp hb with rfl | hb
    · exact ⟨_, he, fun v q => nomatch q⟩
    · rw [List.mem_singleton.mp hb]; exact S.obj i h ht
  keep := fun i h h' ⟨⟨old, he⟩, ht, ne, l⟩ k => ⟨⟨old, k e List.mem_cons_self _ he⟩, S.keep i h h' ht fun o q => k it (List.mem_cons_of_mem _ List.mem_cons_self) o q, ne, l⟩
  item := by
    intro X hP hw hK hc i pins s σ H E I hf st hg
    obtain ⟨⟨old, he⟩, ht, ne, _⟩ := st
    obtain ⟨hrd, hlt⟩ := hg
    have fit := hf it (List.mem_cons_of_mem _ List.mem_cons_self)
    have fe := hf e List.mem_cons_self
    obtain ⟨fp, D, S', dr, hfp, s1, s2, di⟩ := S.draws X hP hw hK hc pins σ H s I fit.1 hrd
    have enf : e ∉ fp := fun z => by
      rcases hfp e z with z | z | ⟨o, z, zc⟩
      · exact ne z
      · exact z fe.1
      · rw [show s.heap.get? e = some _ from he] at z; cases z; exact absurd (show Value.type "enumerate" = Value.type "tuple" from zc) (by decide)
    subst hP hw hK
    refine wpAny_pyNext_enum_itemD dr he (s1 i ht) hlt ne enf fun x h' tk hx ho hs' hT hsz hk => ?_
    obtain ⟨v, rv, iv⟩ := di i x hx
    have el : e < s.heap.objs.size := Heap.lt_size he
    refine ⟨_, rfl, wpAny_letOwnedTupleGo_enum (s := { s with heap := h', toks := tk + 1 }) ho fun h2 he2 sb => ?_⟩
    have hT2 : h2.get? s.heap.objs.size = some { cls := .type "tuple", data := .seq #[.int i tk, x] } := (sb.2 _ (Nat.ne_of_gt el)).trans hT
    have fresh : H s.heap.objs.size = none := I.hok.fresh (Nat.le_refl _)
    have nw : ObjOk X.prog X.w (upd H s.heap.objs.size (.tup [.int (i : Nat), v])) h2 s.heap.objs.size (.tup [.int (i : Nat), v]) :=
      ⟨by show 2 ≤ sizeLine; decide, [.int i tk, x], .cons ⟨_, rfl⟩ (.cons rv .nil), ⟨_, hT2, rfl, _, rfl⟩⟩
    have I2 : Inv X pins σ (upd H s.heap.objs.size (.tup [.int (i : Nat), v])) { s with heap := h2, toks := tk + 1 } :=
      I.turnedNew (ch := [e, it]) (fun b u hb q => (sb.2 b (fun z => hb (by rw [z]; exact List.mem_cons_self))).trans (hk b u (fun z => hb (by rw [z]; exact List.mem_cons_self)) (fun z => hb (by rw [z]; exact List.mem_cons_of_mem _ List.mem_cons_self)) q)) hf (Nat.le_refl _) nw
    refine ⟨.ref s.heap.objs.size, _, I2, rfl, ⟨_, v, rfl, fresh, rfl, iv⟩, ⟨⟨x, ?_⟩, S.keep _ _ _ (s2 _ _ hs') fun o q => (sb.2 it (Ne.symm ne)).trans q, ne, hlt⟩, fun b hb => ?_⟩
    · rw [show ((i + 1 : Nat) : Int) = (i : Int) + 1 by omega]; exact he2
    · have lt : b < s.heap.objs.size := by
        rcases List.mem_cons.mp hb with rfl | hb
        · exact el
        · rw [List.mem_singleton.mp hb]
          obtain ⟨o, q, _⟩ := S.obj i _ ht
          exact Heap.lt_size q
      rw [upd_ne (Nat.ne_of_lt lt)]
      exact (hf b hb).1
  done := by
    intro X hP hw hK hc i pins s σ H E I hf st hg
    obtain ⟨⟨old, he⟩, ht, ne, l⟩ := st
    obtain ⟨hrd, hle⟩ := hg
    obtain rfl : i = n := Nat.le_antisymm l hle
    obtain ⟨f0, f1, f2, f3, f4, f5⟩ := hf it (List.mem_cons_of_mem _ List.mem_cons_self)
    obtain ⟨fp, D, S', dr, hfp, s1, s2, di⟩ := S.draws X hP hw hK hc pins σ H s I f0 hrd
    subst hP hw hK
    exact wpAny_pyNext_enum_endD dr he (s1 _ ht) fun h' eb => ⟨rfl, I.turned (t' := s.toks) (fun b o hb q => eb b o hb q) f0 f1 f3 f4 f5⟩
  self := fun A i s Q E st h => let ⟨⟨_, he⟩, _⟩ := st; wpAny_pyIter_enum he h
/-- the items of a tuple; the signs of a text -/
theorem src_tup {P : Program} {w : World} {K : PySem.W.Frag} (a it : Addr) (xs : List V) : Src P w K xs.length (fun H => SqT K H a xs) (fun i v => xs[i]? = some v) it (fun i h => a ≠ it ∧ h.IsTupleIter it a i) where
  obj := fun i h ⟨_, o, ho, hc, hd⟩ => ⟨o, ho, fun v q => by rw [hd] at q; cases q⟩
  keep := fun i h h' ⟨n, st⟩ k => ⟨n, st.at fun o e => k o e⟩
  draws := by
    intro X hP hw hK hc pins σ H s I hit hrd
    subst hK
    obtain ⟨its, r, p, z⟩ := I.tuple hrd
    have le : its.toArray.size = xs.length := by rw [List.size_toArray]; exact r.length.symm
    by_cases ne : a = it
    · refine ⟨[], fun _ _ => False, fun _ _ => False, ?_, (fun b hb => nomatch hb), fun i ⟨n, _⟩ => absurd ne n, fun _ _ h => h.elim, fun _ _ h => h.elim⟩
      exact ⟨fun _ _ h => h.elim, fun _ _ _ h _ => h, fun _ _ _ _ _ h _ => h.elim, fun _ _ _ h _ => h.elim⟩
    · have dr := Draws.tuple (prog := P) (w := w) (A := X.A.in1) (show X.A.in1.handled = none from I.ok.hd hc) it a ne its.toArray
      rw [le] at dr
      refine ⟨[it, a], _, _, dr, fun b hb => ?_, fun i ⟨_, st⟩ => ⟨st, p⟩, fun i h ⟨st, _⟩ => ⟨ne, st⟩, fun i x hx => ?_⟩
      · rcases List.mem_cons.mp hb with rfl | hb
        · exact .inl rfl
        · rw [List.mem_singleton.mp hb]
          obtain ⟨o, ho, hc', _⟩ := p
          exact .inr (.inr ⟨o, ho, hc'⟩)
      · have hx : its[i]? = some x := by simpa using hx
        have li : i < xs.length := by rw [← le, List.size_toArray]; exact (List.getElem?_eq_some_iff.mp hx).1
        obtain ⟨u, hu, ru⟩ := r.get (List.getElem?_eq_getElem li)
        rw [hx] at hu; cases hu
        exact ⟨_, ru, List.getElem?_eq_getElem li⟩
theorem src_str {P : Program} {w : World} {K : PySem.W.Frag} (it : Addr) (x : Str) (t : Tok) : Src P w K x.cps.size (fun _ => True) (fun i v => ∃ c, x.cps[i]? = some c ∧ v = .str ⟨#[c]⟩) it (fun i h => h.IsStrIter it (strIterType x) x t i) where
  obj := fun i h ⟨o, ho, hc, hd⟩ => ⟨o, ho, fun v q => by rw [hd] at q; cases q⟩
  keep := fun i h h' ⟨o, ho, r⟩ k => ⟨o, k o ho, r⟩
  draws := by
    intro X hP hw hK hc pins σ H s I hit hrd
    refine ⟨[it], _, _, Draws.text (prog := P) (w := w) (A := X.A.in1) (show X.A.in1.handled = none from I.ok.hd hc) it x t, (fun b hb => .inl (List.mem_singleton.mp hb)), fun i st => st, fun i h st => st, fun i y hy => ?_⟩
    obtain ⟨c, u, h1, rfl⟩ := hy
    exact ⟨.str ⟨#[c]⟩, ⟨u, rfl⟩, c, h1, rfl⟩
section
variable {X : Cx} {C : Ct} {B : Nat} {F0 H0 : Hp} {E : XK} {pos : Pos}
theorem pairP {F' H' : Hp} {i : Nat} {d : D} {v : V} {T : Addr} (w : Wf C F' H') (nT : H' T = none) (r : Rp C F' d v) : ∃ F'', Xt C 0 F' H' F'' (upd H' T (.tup [.int (i : Nat), v])) ∧ Rp C F'' (.tup [.int (i : Nat), d]) (.ref T) :=
  ⟨_, Xt.layF w nT, T, _, rfl, .inl (.inl upd_same), _, _, rfl, rfl, _, _, rfl, Rp.mono (Xt.layF (o := .tup [.int (i : Nat), v]) w nT).frz _ _ r, rfl⟩
def numD : Nat → List D → List D
  | _, [] => []
  | i, d :: r => .tup [.int (i : Nat), d] :: numD (i + 1) r
theorem numD_get : ∀ (ds : List D) (j i : Nat) (e : D), (numD j ds)[i]? = some e → ∃ d, ds[i]? = some d ∧ e = .tup [.int ((j + i : Nat) : Int), d]
  | [], _, _, _, h => by simp [numD] at h
  | d :: r, j, 0, e, h => by simp [numD] at h; subst h; exact ⟨d, rfl, rfl⟩
  | d :: r, j, i + 1, e, h => by
    rw [numD, List.getElem?_cons_succ] at h
    obtain ⟨d', h1, h2⟩ := numD_get r (j + 1) i e h
    exact ⟨d', by simpa using h1, by rw [h2, show j + 1 + i = j + (i + 1) by omega]⟩
theorem numD_length : ∀ (ds : List D) (j : Nat), (numD j ds).length = ds.length
  | [], _ => rfl
  | d :: r, j => by rw [numD, List.length_cons, List.length_cons, numD_length r]
/-- one that enumerate may take -/
def EnOk (X : Cx) (R : It → Hp → Prop) (x : V) (H1 : Hp) : Prop := ∀ (pins : List (Addr × Obj)) (σ : L2.St) (s : Shared) (u : Value), Inv X pins σ H1 s → RelV x u → ∃ (o : Obj) (G : Heap → Prop) (n : Nat) (rd : Hp → Prop) (item : Nat → V → Prop) (tn : Nat → Heap → Prop),
  Begins u o G ∧ G s.heap ∧ Src X.prog X.w X.K n rd item s.heap.objs.size tn ∧ (∀ h' : Heap, h'.get? s.heap.objs.size = some o → tn 0 h') ∧ R (ItE n rd item) H1
def EnOks (X : Cx) (R : It → Hp → Prop) : List V → Hp → Prop
  | [x], H1 => EnOk X R x H1
  | _, _ => False
def iEn (X : Cx) (te : TE) : TI := fun σ H R => te σ H fun x H1 => EnOk X R x H1
theorem pi_en {e : Expr} {te : TE} {p tpos : Pos} {elts : List Expr} {kk : Nat} (he : PE X e te) (hm : X.mg "enumerate" = none) (hg : Gl X "enumerate" := by rfl) (hs : starEach [e] X.env = [(false, eval e X.env)] := by rfl) (hs1 : starEach [e] X.env = (false, eval e X.env) :: starEach [] X.env := by rfl) :
    PI X (.Tuple elts kk tpos) (.Call (.Name "enumerate" p) [e] [] pos) (iEn X te) := by
  refine ⟨fun pins s σ H R I h => ?_⟩
  refine Call_ (ld_blt I hg hm boot_enumerate (PyProof.Rows.callWith_type1 (thn ((pa_cons he pa_nil hs1).run pos pins s σ H (EnOks X R) I h) fun us s1 ⟨vs, H1, I1, r1, q⟩ => ?_) hs rfl))
  unfold EnOks at q
  split at q
  · obtain ⟨u, rfl, ru⟩ := vals1 r1
    obtain ⟨o, G, n, rd, item, tn, B, hG, S, h0, q⟩ := q pins σ s1 u I1 ru
    refine enCall B hG fun h' he ho hk => wpAny_pyIter_enum he ?_
    have I2 : Inv X pins σ _ { s1 with heap := h' } := I1.kept (t' := s1.toks) hk
    refine ⟨s1.heap.objs.size + 1, [s1.heap.objs.size + 1, s1.heap.objs.size], _, _, _, rfl, I2, turnE S (s1.heap.objs.size + 1), ⟨⟨.none, he⟩, h0 h' ho, Nat.succ_ne_self _, Nat.zero_le _⟩, fun b hb => ?_, q⟩
    have le : s1.heap.objs.size ≤ b := by
      rcases List.mem_cons.mp hb with rfl | hb
      · exact Nat.le_succ _
      · rw [List.mem_singleton.mp hb]; exact Nat.le_refl _
    exact I1.fpOk le (I1.hok.fresh le)
  · exact q.elim
def aIET (a : AE) : AI := ⟨a.n, fun α P PX => a α (fun r => ∃ ds, r = .pv (.tup ds) ∧ P (numD 0 ds)) PX⟩
def aIES (a : AE) : AI := ⟨a.n, fun α P PX => a α (fun r => ∃ s, r = .pv (.str s) ∧ P (numD 0 (s.map fun c => D.str [c]))) PX⟩
def aIEL (a : AE) : AI := ⟨a.n, fun α P PX => a α (fun r => ∃ ds, r.frz = some (.lst ds) ∧ P (numD 0 ds)) PX⟩
theorem itE_ok {F : Hp} {n : Nat} {rd : Hp → Prop} {item : Nat → V → Prop} {ds : List D} (hn : n = ds.length) (hr : ∀ F' H', Same F F' → Wf C F' H' → rd H') (hi : ∀ i x F', Same F F' → item i x → ∃ d, ds[i]? = some d ∧ Rp C F' d x) : ItF C F (ItE n rd item) (numD 0 ds) := fun i F' H' sm w => by
  refine ⟨fun d e => ?_, fun l => ⟨hr F' H' sm w, by rw [numD_length] at l; rw [hn]; exact l⟩⟩
  obtain ⟨d', h1, rfl⟩ := numD_get ds 0 i d e
  refine ⟨⟨hr F' H' sm w, by rw [hn]; exact (List.getElem?_eq_some_iff.mp h1).1⟩, fun y H'' ⟨T, x, e1, e2, e3, e4⟩ => ?_⟩
  subst e1 e3
  obtain ⟨d2, h2, r2⟩ := hi i x F' sm e4
  rw [h1] at h2; cases h2
  obtain ⟨F2, x2, r3⟩ := pairP (i := i) w e2 r2
  exact ⟨F2, x2, by rw [Nat.zero_add]; exact r3⟩
theorem di_enumT {e : Expr} {a : AE} {p tpos : Pos} {elts : List Expr} {kk : Nat} (hK : C.K = X.K) (hm : X.mg "enumerate" = none) (h : DE X C B F0 H0 E e a) (hg : Gl X "enumerate" := by rfl) (hs : starEach [e] X.env = [(false, eval e X.env)] := by rfl) (hs1 : starEach [e] X.env = (false, eval e X.env) :: starEach [] X.env := by rfl) :
    PI X (.Tuple elts kk tpos) (.Call (.Name "enumerate" p) [e] [] pos) (tI C B F0 H0 E (aIET a)) := PI.imp (pi_en h hm hg hs hs1) fun σ H R ⟨α, F, P, PX, s, h, q, x⟩ => by
  refine ⟨α, F, _, _, s, h, fun r v F1 H1 ⟨ds, e, p⟩ x1 rv => ?_, x⟩
  subst e
  obtain ⟨a1, xs, rfl, sq, rp⟩ := rv
  intro pins σ' s' u I ru
  cases ru
  obtain ⟨its, r, pt, z⟩ := I.tuple (show SqT X.K H1 a1 xs by rw [← hK]; exact SqT.wf x1.wf sq)
  refine ⟨_, _, xs.length, _, _, _, begins_tuple a1 its.toArray, pt, src_tup a1 _ xs, fun h' hh => ⟨fun z => ?_, _, hh, rfl, rfl⟩, q _ _ F1 H1 p x1 (itE_ok rp.length (fun F' H' sm w => ?_) fun i y F' sm e => ?_)⟩
  · obtain ⟨o, ho, _⟩ := pt
    rw [z] at ho
    exact absurd (Heap.lt_size ho) (Nat.lt_irrefl _)
  · rw [← hK]; exact SqT.wf w (Same.seqT sm sq)
  · obtain ⟨d, h1, h2⟩ := rp.get' e
    exact ⟨d, h1, Rp.mono sm _ _ h2⟩
theorem di_enumS {e : Expr} {a : AE} {p tpos : Pos} {elts : List Expr} {kk : Nat} (hK : C.K = X.K) (hm : X.mg "enumerate" = none) (h : DE X C B F0 H0 E e a) (hg : Gl X "enumerate" := by rfl) (hs : starEach [e] X.env = [(false, eval e X.env)] := by rfl) (hs1 : starEach [e] X.env = (false, eval e X.env) :: starEach [] X.env := by rfl) :
    PI X (.Tuple elts kk tpos) (.Call (.Name "enumerate" p) [e] [] pos) (tI C B F0 H0 E (aIES a)) := PI.imp (pi_en h hm hg hs hs1) fun σ H R ⟨α, F, P, PX, s, h, q, x⟩ => by
  refine ⟨α, F, _, _, s, h, fun r v F1 H1 ⟨l, e, p⟩ x1 rv => ?_, x⟩
  subst e
  cases rv
  intro pins σ' s' u I ru
  obtain ⟨t, rfl⟩ := ru
  refine ⟨_, _, (mk l).cps.size, _, _, _, begins_text (mk l) t, trivial, src_str _ (mk l) t, fun h' hh => ⟨_, hh, rfl, rfl⟩, q _ _ F1 H1 p x1 (itE_ok (by simp [mk]) (fun F' H' sm w => trivial) fun i y F' sm ⟨c, h1, h2⟩ => ?_)⟩
  have h1 : l[i]? = some c := by simpa [mk] using h1
  exact ⟨.str [c], by rw [List.getElem?_map, h1]; rfl, h2⟩
theorem di_enumL {e : Expr} {a : AE} {p tpos : Pos} {elts : List Expr} {kk : Nat} (hK : C.K = X.K) (hm : X.mg "enumerate" = none) (h : DE X C B F0 H0 E e a) (hg : Gl X "enumerate" := by rfl) (hs : starEach [e] X.env = [(false, eval e X.env)] := by rfl) (hs1 : starEach [e] X.env = (false, eval e X.env) :: starEach [] X.env := by rfl) :
    PI X (.Tuple elts kk tpos) (.Call (.Name "enumerate" p) [e] [] pos) (tI C B F0 H0 E (aIEL a)) := PI.imp (pi_enum hg hm (pa_cons h pa_nil hs1) hs) fun σ H R ⟨α, F, P, PX, s, h, q, x⟩ => by
  refine ⟨α, F, _, _, s, h, fun r v F1 H1 ⟨ds, e, p⟩ x1 rv => ?_, x⟩
  obtain ⟨F2, x2, sm, _, a1, xs, rfl, h1, rp⟩ := rv.fz x1 e
  refine ⟨a1, xs, rfl, .inl (.inl (x2.wf.sub _ _ h1)), q _ _ F2 H1 p x2 fun i F' H' sm w => ?_⟩
  have hq : SqL X.K H' a1 xs := .inl (.inl (w.sub _ _ (sm _ _ h1)))
  refine ⟨fun d e => ?_, fun l => ⟨xs, hq, by rw [numD_length] at l; rw [rp.length]; exact l⟩⟩
  obtain ⟨d', h2, rfl⟩ := numD_get ds 0 i d e
  obtain ⟨y, h3, r3⟩ := rp.get h2
  refine ⟨⟨xs, y, hq, h3⟩, fun z H'' ⟨T, x', e1, e2, e3, e4⟩ => ?_⟩
  subst e1 e3
  have := e4 xs hq
  rw [h3] at this; cases this
  obtain ⟨F3, x3, r4⟩ := pairP (i := i) w e2 (Rp.mono sm _ _ r3)
  exact ⟨F3, x3, by rw [Nat.zero_add]; exact r4⟩
end
end AL

set_option Elab.async false
set_option linter.all false
set_option maxRecDepth 100000
set_option maxHeartbeats 1000000
set_option autoImplicit false
namespace AL
open PySem PySem.Spec PyProof.Rows L2
section
variable {X : Cx} {C : Ct} {B : Nat} {F0 H0 : Hp} {E : XK} {pos : Pos}
/-! ### a < b < c -/
def aChain (f g : R → R → (Bool → Prop) → Prop) (a b c : AE) : AE := ⟨a.n + (b.n + c.n), fun α P PX => a α (fun x => b α (fun y => f x y fun k => if k = true then c α (fun z => g y z fun j => P (.pv (.bl j))) PX else P (.pv (.bl false))) PX) PX⟩
def aChainT (f g : R → R → (Bool → Prop) → Prop) (a b c : AE) : AT := ⟨a.n + (b.n + c.n), fun α P PX => a α (fun x => b α (fun y => f x y fun k => if k = true then c α (fun z => g y z P) PX else P false) PX) PX⟩
theorem dt_chain {op op' : CmpOp} {r r' : R2} {f g : R → R → (Bool → Prop) → Prop} {e1 e2 e3 : Expr} {a b c : AE} (ho : OpR X (compareOp op) r) (hs : OpB C r f) (ho' : OpR X (compareOp op') r') (hs' : OpB C r' g) (ha : DE X C B F0 H0 E e1 a) (hb : DE X C B F0 H0 E e2 b) (hc : DE X C B F0 H0 E e3 c)
    (hm : lastMarks [op, op'] [e2, e3] = false := by with_unfolding_all rfl) : DT X C B F0 H0 E (.Compare e1 [op, op'] [e2, e3] pos) (aChainT f g a b c) :=
  (pt_chain ho ho' ha hb hc hm).imp fun σ H Q ⟨α, F, P, PX, s, h, q, x⟩ => by
    refine ⟨α, F, _, PX, s.l, h, fun r1 v1 F1 H1 h1 x1 rv1 => ⟨α, F1, _, PX, (s.go x1).l, h1, fun r2 v2 F2 H2 h2 x2 rv2 => ?_, x⟩, x⟩
    refine hs H F2 H2 v1 v2 r1 r2 _ _ x2.wf (rv1.xt x2) (rv2.back x1) h2 fun k h3 => ⟨k, rfl, ?_⟩
    cases k with
    | false => exact ⟨false, rfl, q _ F2 H2 h3 (x1.trans x2.l)⟩
    | true => exact ⟨α, F2, _, PX, (s.go x1).go x2, h3, fun r3 v3 F3 H3 h4 x3 rv3 => hs' H1 F3 H3 v2 v3 r2 r3 P _ x3.wf (rv2.xt x3) (rv3.back x2) h4 fun j p => ⟨j, rfl, q _ F3 H3 p (x1.trans (x2.trans x3))⟩, x⟩
theorem de_chain {op op' : CmpOp} {r r' : R2} {f g : R → R → (Bool → Prop) → Prop} {e1 e2 e3 : Expr} {a b c : AE} (ho : OpR X (compareOp op) r) (hs : OpB C r f) (ho' : OpR X (compareOp op') r') (hs' : OpB C r' g) (ha : DE X C B F0 H0 E e1 a) (hb : DE X C B F0 H0 E e2 b) (hc : DE X C B F0 H0 E e3 c)
    (hm : lastMarks [op, op'] [e2, e3] = false := by with_unfolding_all rfl) : DE X C B F0 H0 E (.Compare e1 [op, op'] [e2, e3] pos) (aChain f g a b c) :=
  (pe_chain ho ho' ha hb hc hm).imp fun σ H Q ⟨α, F, P, PX, s, h, q, x⟩ => by
    refine ⟨α, F, _, PX, s.l, h, fun r1 v1 F1 H1 h1 x1 rv1 => ⟨α, F1, _, PX, (s.go x1).l, h1, fun r2 v2 F2 H2 h2 x2 rv2 => ?_, x⟩, x⟩
    refine hs H F2 H2 v1 v2 r1 r2 _ _ x2.wf (rv1.xt x2) (rv2.back x1) h2 fun k h3 => ⟨k, rfl, ?_⟩
    cases k with
    | false => exact q _ _ F2 H2 h3 (x1.trans x2.l) rfl
    | true => exact ⟨α, F2, _, PX, (s.go x1).go x2, h3, fun r3 v3 F3 H3 h4 x3 rv3 => hs' H1 F3 H3 v2 v3 r2 r3 _ _ x3.wf (rv2.xt x3) (rv3.back x2) h4 fun j p => q _ _ F3 H3 p (x1.trans (x2.trans x3)) rfl, x⟩


/-! ### a, b = x, y -/
def slotOf (k : Bool) (r : R) : Option AS := if k = true then (match r with
  | .ol ds => some (.ol ds)
  | .od ds => some (.od ds)
  | _ => none) else r.frz.map .pv
/-- a value as it is going to be stored -/
theorem RV.slot {n : Nat} {Fs Hs F H : Hp} {k : Bool} {r : R} {v : V} {t : AS} (x : Xt C n Fs Hs F H) (rv : RV C Hs F H r v) (e : slotOf k r = some t) :
    ∃ F2, Xt C n Fs Hs F2 H ∧ Same F F2 ∧ slotOk C F2 H t (some v) ∧ ∀ a, ownA t (some v) = some a → Hs a = none ∧ H a ≠ none := by
  cases k with
  | true =>
    unfold slotOf at e
    rw [if_pos rfl] at e
    split at e
    · cases e
      obtain ⟨p, xs, rfl, h1, h3, h4, h5, r⟩ := rv
      exact ⟨F, x, .refl _, ⟨p, xs, rfl, h1, h3, h5, r⟩, fun a o => by cases o; exact ⟨h4, by rw [h1]; simp⟩⟩
    · cases e
      obtain ⟨p, xs, rfl, h1, h3, h4, h5, r⟩ := rv
      exact ⟨F, x, .refl _, ⟨p, xs, rfl, h1, h3, h5, r⟩, fun a o => by cases o; exact ⟨h4, by rw [h1]; simp⟩⟩
    · cases e
  | false =>
    unfold slotOf at e
    rw [if_neg Bool.false_ne_true] at e
    cases e1 : r.frz with
    | none => rw [e1] at e; cases e
    | some d =>
      rw [e1] at e; cases e
      obtain ⟨F2, x2, sm, _, rp⟩ := rv.fz x e1
      exact ⟨F2, x2, sm, ⟨v, rfl, rp⟩, fun a o => by cases o⟩
theorem Sat.put {n : Nat} {F H : Hp} {α : List AS} {σ : L2.St} (s : Sat C B F0 H0 n α F H σ) {i : Nat} {t : AS} {v : V} (ok : slotOk C F H t (some v)) (nw : ∀ a, ownA t (some v) = some a → H0 a = none ∧ ∀ (j : Nat) (u : AS) (w : Option V), α[j]? = some u → σ[j]? = some w → ownA u w ≠ some a) :
    Sat C B F0 H0 n (α.set i t) F H (σ.set i (some v)) := s.set ok (fun a o => (nw a o).1) fun a o j u w _ h1 h2 => (nw a o).2 j u w h1 h2
/-- a thing that was not there at H is no slot's -/
theorem Sat.far {n : Nat} {F H : Hp} {α : List AS} {σ : L2.St} (s : Sat C B F0 H0 n α F H σ) {a : Addr} (h : H a = none) : H0 a = none ∧ ∀ (j : Nat) (u : AS) (w : Option V), α[j]? = some u → σ[j]? = some w → ownA u w ≠ some a :=
  ⟨s.xt.free h, fun j u w h1 h2 o => (ownA_ok (s.ok j u w h1 h2) o).2.1 h⟩
theorem own_set {α : List AS} {σ : L2.St} {i : Nat} {t : AS} {v : V} {a : Addr} (h0 : ownA t (some v) ≠ some a) (h : ∀ (j : Nat) (u : AS) (w : Option V), α[j]? = some u → σ[j]? = some w → ownA u w ≠ some a) (l : α.length = σ.length) :
    ∀ (j : Nat) (u : AS) (w : Option V), (α.set i t)[j]? = some u → (σ.set i (some v))[j]? = some w → ownA u w ≠ some a := fun j u w h1 h2 => by
  by_cases hj : j = i
  · subst hj
    have l1 : j < α.length := by have := (List.getElem?_eq_some_iff.mp h1).1; rwa [List.length_set] at this
    rw [List.getElem?_set_self l1] at h1
    rw [List.getElem?_set_self (by rw [← l]; exact l1)] at h2
    cases h1; cases h2
    exact h0
  · rw [List.getElem?_set_ne (Ne.symm hj)] at h1 h2
    exact h j u w h1 h2
def sPar2 (a b : AE) (i : Nat) (k : Bool) (j : Nat) (l : Bool) : AST := ⟨a.n + b.n, fun α P => a α (fun r => ∃ t, slotOf k r = some t ∧ b α (fun r' => ∃ t', slotOf l r' = some t' ∧ P.nx ((α.set i t).set j t')) P.ex) P.ex⟩
theorem ds_par2 {i j : Nat} {k l : Bool} {x y : Str} {e1 e2 : Expr} {a b : AE} {px py pt : Pos} {kt k2 pt2} (hN : X.N.Nodup) (h1 : DE X C B F0 H0 E e1 a) (h2 : DE X C B F0 H0 E e2 b) (hc : X.calm = true := by rfl) (hi : X.N[i]? = some x := by rfl) (hj : X.N[j]? = some y := by rfl) (hij : i ≠ j := by decide)
    (hx : X.env.scope.names.lookup x = some .local := by rfl) (hy : X.env.scope.names.lookup y = some .local := by rfl)
    (hw : swappedStores [.Tuple [.Name x px, .Name y py] kt pt] (.Tuple [e1, e2] k2 pt2) X.env = pure (some [x, y]) := by rfl)
    (hs : swapsWithSole [.Tuple [.Name x px, .Name y py] kt pt] (.Tuple [e1, e2] k2 pt2) pos.line X.env = pure false := by rfl) (hs1 : starEach [e1, e2] X.env = (false, eval e1 X.env) :: starEach [e2] X.env := by rfl) (hs2 : starEach [e2] X.env = (false, eval e2 X.env) :: starEach [] X.env := by rfl) :
    DS X C B F0 H0 E (.Assign [.Tuple [.Name x px, .Name y py] kt pt] (.Tuple [e1, e2] k2 pt2) pos) (sPar2 a b i k j l) :=
  (ps_par hc hN hi hj hij hx hy (pa_cons h1 (pa_cons h2 pa_nil hs2) hs1) hw hs).imp fun D σ H ⟨α, F, P, m, s, h, q, q2, q3, q4, q5⟩ => by
    have s : Sat C B F0 H0 (a.n + (b.n + m)) α F H σ := Sat.as s
    refine ⟨α, F, _, _, s.l, h, fun r v F1 H1 ⟨t, et, h3⟩ x1 rv => ?_, q5⟩
    obtain ⟨F1', x1', sm1, ok1, nw1⟩ := rv.slot x1 et
    have s1 := s.go x1'
    refine ⟨α, F1', _, _, s1.l, h3, fun r' v' F2 H2 ⟨t', et', h4⟩ x2 rv' => ?_, q5⟩
    obtain ⟨F2', x2', sm2, ok2, nw2⟩ := rv'.slot x2 et'
    have s2 := s1.go x2'
    refine ⟨v, v', rfl, ?_⟩
    refine q _ _ F2' H2 h4 ((s2.put (ok1.xt x2') fun z o => ?_).put ok2 fun z o => ?_) (x1'.frz.trans x2'.frz)
    · have hz := s.far (nw1 z o).1
      exact ⟨hz.1, hz.2⟩
    · have hz := s1.far (nw2 z o).1
      exact ⟨hz.1, own_set (fun o' => (nw1 z o').2 (nw2 z o).1) hz.2 s.len⟩
def sPar3 (a b c : AE) (i : Nat) (k : Bool) (j : Nat) (l : Bool) (g : Nat) (f : Bool) : AST := ⟨a.n + (b.n + c.n), fun α P => a α (fun r => ∃ t, slotOf k r = some t ∧ b α (fun r' => ∃ t', slotOf l r' = some t' ∧ c α (fun r'' => ∃ t'', slotOf f r'' = some t'' ∧ P.nx (((α.set i t).set j t').set g t'')) P.ex) P.ex) P.ex⟩
theorem ds_par3 {i j g : Nat} {k l f : Bool} {x y z : Str} {e1 e2 e3 : Expr} {a b c : AE} {px py pz pt : Pos} {kt k2 pt2} (hN : X.N.Nodup) (h1 : DE X C B F0 H0 E e1 a) (h2 : DE X C B F0 H0 E e2 b) (h3 : DE X C B F0 H0 E e3 c) (hc : X.calm = true := by rfl) (hi : X.N[i]? = some x := by rfl) (hj : X.N[j]? = some y := by rfl) (hg : X.N[g]? = some z := by rfl) (hij : i ≠ j := by decide) (hig : i ≠ g := by decide) (hjg : j ≠ g := by decide)
    (hx : X.env.scope.names.lookup x = some .local := by rfl) (hy : X.env.scope.names.lookup y = some .local := by rfl) (hz : X.env.scope.names.lookup z = some .local := by rfl)
    (hw : swappedStores [.Tuple [.Name x px, .Name y py, .Name z pz] kt pt] (.Tuple [e1, e2, e3] k2 pt2) X.env = pure (some [x, y, z]) := by rfl)
    (hs : swapsWithSole [.Tuple [.Name x px, .Name y py, .Name z pz] kt pt] (.Tuple [e1, e2, e3] k2 pt2) pos.line X.env = pure false := by rfl) (hs1 : starEach [e1, e2, e3] X.env = (false, eval e1 X.env) :: starEach [e2, e3] X.env := by rfl) (hs2 : starEach [e2, e3] X.env = (false, eval e2 X.env) :: starEach [e3] X.env := by rfl) (hs3 : starEach [e3] X.env = (false, eval e3 X.env) :: starEach [] X.env := by rfl) :
    DS X C B F0 H0 E (.Assign [.Tuple [.Name x px, .Name y py, .Name z pz] kt pt] (.Tuple [e1, e2, e3] k2 pt2) pos) (sPar3 a b c i k j l g f) :=
  (ps_par3 hc hN hi hj hg hij hig hjg hx hy hz (pa_cons h1 (pa_cons h2 (pa_cons h3 pa_nil hs3) hs2) hs1) hw hs).imp fun D σ H ⟨α, F, P, m, s, h, q, q2, q3, q4, q5⟩ => by
    have s : Sat C B F0 H0 (a.n + (b.n + (c.n + m))) α F H σ := Sat.le s (by show _ ≤ a.n + (b.n + c.n) + m; omega)
    refine ⟨α, F, _, _, s.l, h, fun r v F1 H1 ⟨t, et, h3⟩ x1 rv => ?_, q5⟩
    obtain ⟨F1', x1', sm1, ok1, nw1⟩ := rv.slot x1 et
    have s1 := s.go x1'
    refine ⟨α, F1', _, _, s1.l, h3, fun r' v' F2 H2 ⟨t', et', h4⟩ x2 rv' => ?_, q5⟩
    obtain ⟨F2', x2', sm2, ok2, nw2⟩ := rv'.slot x2 et'
    have s2 := s1.go x2'
    refine ⟨α, F2', _, _, s2.l, h4, fun r'' v'' F3 H3 ⟨t'', et'', h5⟩ x3 rv'' => ?_, q5⟩
    obtain ⟨F3', x3', sm3, ok3, nw3⟩ := rv''.slot x3 et''
    have s3 := s2.go x3'
    refine ⟨v, v', v'', rfl, ?_⟩
    refine q _ _ F3' H3 h5 (((s3.put ((ok1.xt x2').xt x3') fun z o => ?_).put (ok2.xt x3') fun z o => ?_).put ok3 fun z o => ?_) ((x1'.frz.trans x2'.frz).trans x3'.frz)
    · have hz := s.far (nw1 z o).1
      exact ⟨hz.1, hz.2⟩
    · have hz := s1.far (nw2 z o).1
      exact ⟨hz.1, own_set (fun o' => (nw1 z o').2 (nw2 z o).1) hz.2 s.len⟩
    · have hz := s2.far (nw3 z o).1
      refine ⟨hz.1, own_set (fun o' => (nw2 z o').2 (nw3 z o).1) (own_set (fun o' => x2'.there (nw1 z o').2 (nw3 z o).1) hz.2 s.len) (by rw [List.length_set, List.length_set]; exact s.len)⟩

/-! ### name op= e -/
def ipO (f : R → R → (R → Prop) → Prop) (i : Nat) (a : AE) : AST := ⟨a.n, fun α P => ∃ d, α[i]? = some (.pv d) ∧ a α (fun r => f (.pv d) r fun z => ∃ y, z = .pv (.int y) ∧ P.nx (α.set i (.pv (.int y)))) P.ex⟩
def sAugA (i : Nat) (a : AE) : AST := ⟨a.n, fun α P => ∃ j, α[i]? = some (.pv (.int j)) ∧ a α (fun r => ∃ k, r = .pv (.int k) ∧ P.nx (α.set i (.pv (.int (j + k))))) P.ex⟩
def sAugS (i : Nat) (a : AE) : AST := ⟨a.n, fun α P => ∃ j, α[i]? = some (.pv (.int j)) ∧ a α (fun r => ∃ k, r = .pv (.int k) ∧ P.nx (α.set i (.pv (.int (j - k))))) P.ex⟩
theorem ds_augA {i : Nat} {x : Str} {e : Expr} {a : AE} {pos' : Pos} (hN : X.N.Nodup) (he : DE X C B F0 H0 E e a) (hi : X.N[i]? = some x := by rfl) (hx : Loc X.env.scope x := by first | exact .inl rfl | exact .inr rfl) (hf : X.fn x = true ∨ X.env.scope.names.lookup x = some .local := by first | exact .inl rfl | exact .inr rfl | assumption) : DS X C B F0 H0 E (.AugAssign (.Name x pos') .Add e pos) (sAugA i a) :=
  (ps_aug hN hi hx he ip_add hf).imp fun D σ H ⟨α, F, P, m, s, ⟨j, ej, h⟩, q, q2, q3, q4, q5⟩ => by
    obtain ⟨v, h1, y, rfl, r⟩ := s.at ej
    cases r
    refine ⟨_, h1, α, F, _, _, s.l, h, fun r1 v1 F1 H1 ⟨k, ek, h2⟩ x1 rv1 => ?_, q5⟩
    subst ek
    cases rv1
    exact ⟨_, _, rfl, rfl, q _ _ F1 H1 h2 ((s.go x1).setP rfl) x1.frz⟩
theorem ds_augS {i : Nat} {x : Str} {e : Expr} {a : AE} {pos' : Pos} (hN : X.N.Nodup) (he : DE X C B F0 H0 E e a) (hi : X.N[i]? = some x := by rfl) (hx : Loc X.env.scope x := by first | exact .inl rfl | exact .inr rfl) (hf : X.fn x = true ∨ X.env.scope.names.lookup x = some .local := by first | exact .inl rfl | exact .inr rfl | assumption) : DS X C B F0 H0 E (.AugAssign (.Name x pos') .Sub e pos) (sAugS i a) :=
  (ps_aug hN hi hx he ip_sub hf).imp fun D σ H ⟨α, F, P, m, s, ⟨j, ej, h⟩, q, q2, q3, q4, q5⟩ => by
    obtain ⟨v, h1, y, rfl, r⟩ := s.at ej
    cases r
    refine ⟨_, h1, α, F, _, _, s.l, h, fun r1 v1 F1 H1 ⟨k, ek, h2⟩ x1 rv1 => ?_, q5⟩
    subst ek
    cases rv1
    exact ⟨_, _, rfl, rfl, q _ _ F1 H1 h2 ((s.go x1).setP rfl) x1.frz⟩

/-! ### a * b -/
def rMulS : R2 := fun x y H Q => ∃ z n, x = .str z ∧ y = .int n ∧ MulOk z n ∧ Q (.str (Txt.mul z n)) H
theorem op_mulS : OpR X (binaryOp .Mult) rMulS := by
  intro pins s σ H x y v u Q I rx ry ⟨z, n, e1, e2, ok, q⟩
  subst e1 e2
  obtain ⟨t, rfl⟩ := rx
  obtain ⟨t', rfl⟩ := ry
  exact SB.mul ok fun t' k => ⟨.str (Txt.mul z n), H, I.tok k, ⟨_, rfl⟩, q⟩
theorem mul_mk (s : List Nat) (n : Int) : Txt.mul (mk s) n = mk (repT s n) := by
  unfold Txt.mul repT
  by_cases h : n < 1
  · rw [if_pos h]
    have : n.toNat = 0 := by omega
    rw [this]; rfl
  · rw [if_neg h]
    split
    · rename_i h2
      rcases Bool.or_eq_true_iff.mp h2 with h3 | h3
      · have : n = 1 := beq_iff_eq.mp h3
        subst this
        show mk s = mk (List.replicate 1 s).flatten
        simp
      · have h4 : (mk s).length = 0 := beq_iff_eq.mp h3
        rw [mk_len] at h4
        have : s = [] := List.length_eq_zero_iff.mp h4
        subst this
        show mk [] = mk _
        congr 1
        simp
    · have key : ∀ (k : Nat) (a : Array Nat), ((List.replicate k (mk s).cps).foldl (· ++ ·) a).toList = a.toList ++ (List.replicate k s).flatten := by
        intro k
        induction k with
        | zero => intro a; simp
        | succ k ih =>
          intro a
          rw [List.replicate_succ, List.foldl_cons, ih, List.replicate_succ, List.flatten_cons]
          simp [mk]
      have := key n.toNat #[]
      show (⟨_⟩ : Str) = ⟨_⟩
      congr 1
      apply Array.toList_inj.mp
      rw [this]
      simp
def rMulR : R2 := fun x y H Q => (rI CMul fun i j => .int (i * j)) x y H Q ∨ (rMulS x y H Q ∨ rRep x y H Q)
theorem mul_s : OpS C rMulR mulR := by
  intro H F1 H1 x y a b P Q w ha hb h q
  unfold mulR at h
  split at h
  · cases ha; cases hb
    exact .inl ⟨_, _, rfl, rfl, h.1, q _ _ F1 H1 h.2 (.refl w) rfl⟩
  · cases ha; cases hb
    rename_i s n
    obtain ⟨h1, h2, h3, h4⟩ := h
    refine .inr (.inl ⟨_, _, rfl, rfl, ?_, ?_⟩)
    · exact mulOk_of (mk s).length n.toNat (Nat.le_refl _) (by omega) h1 (by omega) (by rw [mk_len]; exact h3)
    · rw [mul_mk]; exact q _ _ F1 H1 h4 (.refl w) rfl
  · rename_i n _ _
    cases hb
    obtain ⟨xs, e1, l1, l2, l3, p⟩ := h
    obtain ⟨p1, vs, rfl, h1, r1⟩ := ha.list w e1
    refine .inr (.inr ⟨p1, n, vs, rfl, rfl, h1, l1, l2, by rw [r1.length]; exact l3, fun z nz => ?_⟩)
    have rep : ∀ k, Rps C F1 (List.replicate k xs).flatten (List.replicate k vs).flatten := by
      intro k
      induction k with
      | zero => exact rfl
      | succ k ih => rw [List.replicate_succ, List.replicate_succ, List.flatten_cons, List.flatten_cons]; exact r1.append ih
    obtain ⟨x2, rv⟩ := newL w nz (rep n.toNat)
    exact q _ _ _ _ p x2 rv
  · exact h.elim
theorem de_mul {e1 e2 : Expr} {a b : AE} (ha : DE X C B F0 H0 E e1 a) (hb : DE X C B F0 H0 E e2 b) : DE X C B F0 H0 E (.BinOp e1 .Mult e2 pos) (aOp mulR a b) := de_op (op_mul.or (op_mulS.or op_rep)) mul_s ha hb
end
end AL

set_option Elab.async false
set_option linter.all false
set_option maxRecDepth 100000
set_option maxHeartbeats 1000000
set_option autoImplicit false
namespace AL
open PySem PySem.Spec PyProof.Rows L2
/-! ### the tape: _law_begin, _law_draw -/
def tpk (A : Addr) (pl lf : Int) : List (Key × V) := [(Sum.inr "cells", .ref A), (Sum.inr "place", .int pl), (Sum.inr "left", .int lf)]
abbrev sCells : Str := "cells"
theorem tp_cells (A : Addr) (pl lf : Int) : valV (tpk A pl lf) (Sum.inr "cells") = some (.ref A) := by rfl
theorem tp_place (A : Addr) (pl lf : Int) : valV (tpk A pl lf) (Sum.inr "place") = some (.int pl) := by rfl
theorem tp_left (A : Addr) (pl lf : Int) : valV (tpk A pl lf) (Sum.inr "left") = some (.int lf) := by rfl
theorem tp_setP (A : Addr) (pl lf x : Int) : putK (tpk A pl lf) (Sum.inr "place") (.int x) = tpk A x lf := by rfl
theorem tp_setL (A : Addr) (pl lf x : Int) : putK (tpk A pl lf) (Sum.inr "left") (.int x) = tpk A pl x := by rfl
theorem upd_upd {H : Hp} {p : Addr} {x y : HO} : upd (upd H p x) p y = upd H p y := by
  funext b
  by_cases h : b = p
  · subst h; rw [upd_same, upd_same]
  · rw [upd_ne h, upd_ne h, upd_ne h]
abbrev rLenK (K : PySem.W.Frag) : List V → Hp → VK → Prop := fun xs H Q => ∃ x n, xs = [x] ∧ LenV K x H n ∧ Q (.int n) H
theorem ifT {c : Bool} {P Q : Prop} (e : c = true) (h : P) : if c = true then P else Q := by rw [if_pos e]; exact h
theorem ifF {c : Bool} {P Q : Prop} (e : c = false) (h : Q) : if c = true then P else Q := by rw [if_neg (by rw [e]; decide)]; exact h
abbrev tKey (s : Str) : TE := tC (.str s)
abbrev tTp (s : Str) : TE := tDGet (tVar 0) (tKey s)
abbrev rAddI : R2 := rI0 fun i j => .int (i + j)
abbrev rSubI : R2 := rI0 fun i j => .int (i - j)
abbrev rModI : R2 := rI (fun _ j => 0 < j) fun i j => .int (i % j)
abbrev rDivI : R2 := rI CDiv fun i j => .int (i / j)
abbrev rPowI : R2 := rI CPow fun i j => .int (i ^ j.toNat)
abbrev rMulI : R2 := rI CMul fun i j => .int (i * j)
abbrev rLtI : R2 := rI0 fun i j => .bl (decide (i < j))
abbrev rGeI : R2 := rI0 fun i j => .bl (decide (j ≤ i))
abbrev tI' (i : Int) : TE := tC (.int i)
/-- slots: tape, many, place, count, cell, found -/
def t_draw (K : PySem.W.Frag) (ip ic icell ifd : Nat) : TS :=
  tSeq (tIfS (tTest (tOp rLtI (tTp "left") (tVar 1)))
    (tSeq (tPar ip ic (tCons (tTp "place") (tCons (tCB (rLenK K) (tCons (tTp "cells") tNil)) tNil)))
    (tSeq (tAsg (tTup (tCons (tOp (rIx K) (tTp "cells") (tOp rModI (tVar ip) (tVar ic))) (tCons (tOp rAddI (tVar ip) (tI' 1)) tNil))) (gTup K 2 (gCons (gName icell) (gCons (gSub (tVar 0) (tKey "place") rSetD) gNil))))
    (tSeq (sDPut (tVar 0) (tKey "left") (tOp rModI (tOp rPowI (tOp rAddI (tOp rAddI (tOp rModI (tVar icell) (tI' 2147483647)) (tOp rMulI (tI' 69621) (tVar ip))) (tI' 48271)) (tI' 17)) (tOp rAddI (tOp rPowI (tI' 10) (tI' 50)) (tI' 151))))
      (tIfS (tAnd (tTest (tOp rGeI (tVar icell) (tOp rPowI (tI' 10) (tI' 18)))) (tTest (tOp rLtI (tVar ip) (tVar ic)))) (sDPut (tVar 0) (tKey "left") (tOp rSubI (tVar icell) (tOp rPowI (tI' 10) (tI' 18)))) tNext))))
    tNext)
  (tSeq (tAsg (tTup (tCons (tOp rModI (tTp "left") (tVar 1)) (tCons (tOp rDivI (tTp "left") (tVar 1)) tNil))) (gTup K 2 (gCons (gName ifd) (gCons (gSub (tVar 0) (tKey "left") rSetD) gNil))))
    (tRet (tVar ifd)))
def w_draw : WF := fun ds P _ => ∃ k m, ds = [.opq k, .int m] ∧ 1 ≤ m ∧ m < 1073741824 ∧ ∀ r, 0 ≤ r → r < m → P (.pv (.int r))
theorem pow18 : (10 : Int) ^ (18 : Int).toNat = 1000000000000000000 := by decide
theorem atI_mod {cs : List Int} (h : cs ≠ []) (i : Int) : ∃ z, atI (cs.map V.int) (i % ((cs.map V.int).length : Nat)) = some (.int z) := by
  have hl : 0 < cs.length := List.length_pos_iff.mpr h
  have h1 : 0 ≤ i % ((cs.map V.int).length : Nat) := Int.emod_nonneg _ (by rw [List.length_map]; omega)
  have h2 : i % ((cs.map V.int).length : Nat) < ((cs.map V.int).length : Nat) := Int.emod_lt_of_pos _ (by rw [List.length_map]; omega)
  generalize hj : i % ((cs.map V.int).length : Nat) = j at *
  have h3 : ixN (cs.map V.int).length j = some j.toNat := by
    unfold ixN
    rw [if_pos h1, if_pos (by omega)]
  unfold atI
  rw [h3]
  have h4 : j.toNat < cs.length := by rw [List.length_map] at h2; omega
  refine ⟨cs[j.toNat], ?_⟩
  show (cs.map V.int)[j.toNat]? = _
  rw [List.getElem?_map, List.getElem?_eq_getElem h4]
  rfl
/-- the tape's turn -/
theorem xt_tape {C : Ct} {F H : Hp} {T A : Addr} {cs : List Int} {pl lf : Int} (w : Wf C F H) (hT : C.tp = some T) (h : H T = some (.dK (tpk A pl lf))) (hA : F A = some (.lst (cs.map V.int))) (c1 : cs ≠ []) (c2 : cs.length ≤ 63) {pl' lf' : Int} (h0 : 0 ≤ pl') (hp : pl' ≤ pl + 1) :
    Xt C 1 F H F (upd H T (.dK (tpk A pl' lf'))) := by
  have nT : F T = none := (w.tape T hT).1
  refine ⟨.refl _, ⟨fun b u e => ?_, fun T' hT' => ?_⟩, fun b u n e => ?_, fun _ _ => rfl, ?_⟩
  · rw [upd_ne (ne_of_none e nT)]; exact w.sub b u e
  · rw [hT] at hT'; cases hT'
    exact ⟨nT, A, cs, pl', lf', upd_same, hA, c1, c2, h0⟩
  · rw [upd_ne (fun z => n (by rw [z]; exact hT))]; exact e
  · have e1 : plOf C (upd H T (.dK (tpk A pl' lf'))) = pl' := by unfold plOf; rw [hT]; dsimp only; rw [upd_same]; rfl
    have e2 : plOf C H = pl := by unfold plOf; rw [hT]; dsimp only; rw [h]; rfl
    rw [e1, e2]; exact hp
theorem pure_draw {K : PySem.W.Frag} {cls : String → Addr} {fnm : String → List Str} {vs : List V} {H : Hp} {Q : VK} {E : XK} (h : spF K cls fnm 1 2 w_draw vs H Q E) :
    t_draw K 2 3 4 5 { nx := fun _ H' => Q .non H', rt := Q } (start ["_law_tape", "_law_many", "_law_place", "_law_count", "_law_cell", "_law_found"] vs) H := by
  obtain ⟨tp, F, ds, P, PX, wf, hl, rs, _, ⟨k, m, rfl, m1, m2, hP⟩, q, _⟩ := h
  obtain ⟨_, _, rfl, ⟨T, hT, rfl⟩, _, _, rfl, em, rfl⟩ := rs
  cases em
  obtain ⟨nT, A, cs, pl, lf, h1, h2, c1, c2, h0⟩ := wf.tape T hT
  have h1 : H T = some (.dK (tpk A pl lf)) := h1
  have tT : tp = some T := hT
  have epl : plOf ⟨K, cls, fnm, tp⟩ H = pl := by subst tT; unfold plOf; dsimp only; rw [h1]; rfl
  have hpl : pl + 1 ≤ 2 ^ 46 := by rw [epl] at hl; exact hl
  have nTA : T ≠ A := fun z => by subst z; rw [nT] at h2; cases h2
  have hA : ∀ x : HO, (upd H T x) A = some (.lst (cs.map V.int)) := fun x => by rw [upd_ne (Ne.symm nTA)]; exact wf.sub _ _ h2
  have gT : ∀ (G : Hp) (p : Addr) (x : HO) (pl' lf' : Int), upd G T (.dK (tpk A pl' lf')) p = none → p ≠ T ∧ G p = none ∧ (upd (upd G T (.dK (tpk A pl' lf'))) p x) T = some (.dK (tpk A pl' lf')) ∧
      ∀ o, upd (upd (upd G T (.dK (tpk A pl' lf'))) p x) T o = upd (upd G p x) T o := fun G p x pl' lf' np => by
    have nTp : p ≠ T := fun z => by subst z; rw [upd_same] at np; cases np
    refine ⟨nTp, by rw [upd_ne nTp] at np; exact np, by rw [upd_ne (Ne.symm nTp), upd_same], fun o => ?_⟩
    funext b
    by_cases hb : b = T
    · subst hb; rw [upd_same, upd_same]
    · by_cases hp : b = p
      · subst hp; rw [upd_ne hb, upd_same, upd_ne hb, upd_same]
      · rw [upd_ne hb, upd_ne hp, upd_ne hb, upd_ne hb, upd_ne hp]
  -- the rest, whatever place and left are
  have rest : ∀ (σ : L2.St) (G : Hp) (pl' lf' : Int), σ.length = 6 → σ[0]? = some (some (.ref T)) → σ[1]? = some (some (.int m)) → Xt ⟨K, cls, fnm, tp⟩ 0 F H F G → G T = some (.dK (tpk A pl lf)) → 0 ≤ pl' → pl' ≤ pl + 1 →
      tSeq (tAsg (tTup (tCons (tOp rModI (tTp "left") (tVar 1)) (tCons (tOp rDivI (tTp "left") (tVar 1)) tNil))) (gTup K 2 (gCons (gName 5) (gCons (gSub (tVar 0) (tKey "left") rSetD) gNil)))) (tRet (tVar 5)) { nx := fun _ H' => Q .non H', rt := Q } σ (upd G T (.dK (tpk A pl' lf'))) := by
    intro σ G pl' lf' len s0 s1 xG hG p0 p1
    refine ⟨_, s0, T, _, rfl, .inl ⟨_, _, .inl upd_same, rfl, (tp_left A pl' lf').symm⟩, _, s1, lf', m, rfl, rfl, by omega, ?_⟩
    refine ⟨_, s0, T, _, rfl, .inl ⟨_, _, .inl upd_same, rfl, (tp_left A pl' lf').symm⟩, _, s1, lf', m, rfl, rfl, ⟨by omega, m2⟩, ?_⟩
    refine ⟨by show 2 ≤ sizeLine; decide, fun p np => ?_⟩
    obtain ⟨nTp, npG, g1, g2⟩ := gT G p (.tup [.int (lf' % m), .int (lf' / m)]) pl' lf' np
    refine ⟨p, _, rfl, .inl (.inl upd_same), rfl, _, _, rfl, _, _, rfl, _, by rw [List.getElem?_set_ne (by decide)]; exact s0, T, _, rfl, .inl ⟨_, .inr "left", g1, rfl, by show 3 < sizeLine; decide, rfl⟩, rfl, ?_⟩
    refine ⟨.int (lf' % m), by rw [List.getElem?_set_self (by omega)], ?_⟩
    rw [tp_setL, g2]
    have x2 := Xt.lay (o := .tup [.int (lf' % m), .int (lf' / m)]) xG.wf npG
    have x3 := xt_tape (C := ⟨K, cls, fnm, tp⟩) (lf' := lf' / m) x2.wf hT (by rw [upd_ne (Ne.symm nTp)]; exact hG) h2 c1 c2 p0 p1
    exact q _ _ F _ (hP (lf' % m) (Int.emod_nonneg _ (by omega)) (Int.emod_lt_of_pos _ (by omega))) (((xG.trans x2).trans x3).le (by omega)) rfl
  have hA0 : H A = some (.lst (cs.map V.int)) := wf.sub _ _ h2
  have base : H = upd H T (.dK (tpk A pl lf)) := by
    funext b
    by_cases hb : b = T
    · subst hb; rw [upd_same, h1]
    · rw [upd_ne hb]
  refine ⟨_, rfl, T, _, rfl, .inl ⟨_, _, .inl h1, rfl, (tp_left A pl lf).symm⟩, _, rfl, lf, m, rfl, rfl, _, rfl, ?_⟩
  by_cases c : lf < m
  · refine ifT (decide_eq_true c) ?_
    refine ⟨_, rfl, T, _, rfl, .inl ⟨_, _, .inl h1, rfl, (tp_place A pl lf).symm⟩, ?_⟩
    refine ⟨_, rfl, T, _, rfl, .inl ⟨_, _, .inl h1, rfl, (tp_cells A pl lf).symm⟩, _, _, rfl, .inl ⟨_, .inl (.inl hA0), rfl⟩, _, _, rfl, ?_⟩
    obtain ⟨z, hz⟩ := atI_mod c1 pl
    have lpos : (0 : Int) < ((cs.map V.int).length : Nat) := by rw [List.length_map]; have := List.length_pos_iff.mpr c1; omega
    refine ⟨_, rfl, T, _, rfl, .inl ⟨_, _, .inl h1, rfl, (tp_cells A pl lf).symm⟩, _, rfl, _, rfl, pl, _, rfl, rfl, lpos, .inl ⟨A, _, _, _, rfl, rfl, .inl (.inl hA0), hz, ?_⟩⟩
    refine ⟨_, rfl, pl, 1, rfl, rfl, ?_⟩
    refine ⟨by show 2 ≤ sizeLine; decide, fun p np => ?_⟩
    have nTp : p ≠ T := fun e => by subst e; rw [h1] at np; cases np
    refine ⟨p, _, rfl, .inl (.inl upd_same), rfl, _, _, rfl, _, _, rfl, _, rfl, T, _, rfl, .inl ⟨_, .inr "place", by rw [upd_ne (Ne.symm nTp)]; exact h1, rfl, by show 3 < sizeLine; decide, rfl⟩, rfl, ?_⟩
    rw [tp_setP]
    have xG : Xt ⟨K, cls, fnm, tp⟩ 0 F H F (upd H p (.tup [.int z, .int (pl + 1)])) := Xt.lay wf np
    have hG : (upd H p (.tup [.int z, .int (pl + 1)])) T = some (.dK (tpk A pl lf)) := by rw [upd_ne (Ne.symm nTp)]; exact h1
    generalize upd H p (.tup [.int z, .int (pl + 1)]) = G at xG hG ⊢
    have r1 := Int.emod_nonneg z (by decide : (2147483647 : Int) ≠ 0)
    have r2 := Int.emod_lt_of_pos z (by decide : (0 : Int) < 2147483647)
    refine ⟨_, rfl, z, 2147483647, rfl, rfl, (by decide : (0 : Int) < 2147483647), _, rfl, 69621, pl, rfl, rfl, .inl ⟨by decide, by decide⟩, _, _, rfl, rfl, _, 48271, rfl, rfl, _, 17, rfl, rfl, ⟨by decide, by decide, ?_⟩, 10, 50, rfl, rfl, ⟨by decide, by decide, by decide⟩, _, 151, rfl, rfl, _, _, rfl, rfl, (by decide : (0 : Int) < 10 ^ Int.toNat 50 + 151), ?_⟩
    · generalize z % 2147483647 = y at r1 r2 ⊢
      omega
    refine ⟨_, rfl, T, _, rfl, .inl ⟨_, .inr "left", upd_same, rfl, by show 3 < sizeLine; decide, rfl⟩, ?_⟩
    rw [tp_setL, upd_upd]
    generalize (z % 2147483647 + 69621 * pl + 48271) ^ (17 : Int).toNat % (10 ^ (50 : Int).toNat + 151) = lf2
    refine ⟨_, rfl, 10, 18, rfl, rfl, ⟨by decide, by decide, by decide⟩, z, _, rfl, rfl, _, rfl, ?_⟩
    have done := fun lf3 => rest (((start ["_law_tape", "_law_many", "_law_place", "_law_count", "_law_cell", "_law_found"] [V.ref T, V.int m]).set 2 (some (.int pl))).set 3 (some (.int ((cs.map V.int).length : Nat))) |>.set 4 (some (.int z))) G (pl + 1) lf3 rfl rfl rfl xG hG (by omega) (Int.le_refl _)
    refine ite2 (fun _ => ?_) fun _ => ?_
    · refine ⟨_, rfl, _, rfl, pl, _, rfl, rfl, _, rfl, ?_⟩
      refine ite2 (fun _ => ?_) fun _ => done lf2
      refine ⟨_, rfl, 10, 18, rfl, rfl, ⟨by decide, by decide, by decide⟩, z, _, rfl, rfl, _, rfl, T, _, rfl, .inl ⟨_, .inr "left", upd_same, rfl, by show 3 < sizeLine; decide, rfl⟩, ?_⟩
      rw [tp_setL, upd_upd]
      exact done _
    · exact done lf2
  · refine ifF (decide_eq_false c) ?_
    have := rest (start ["_law_tape", "_law_many", "_law_place", "_law_count", "_law_cell", "_law_found"] [V.ref T, V.int m]) H pl lf rfl rfl rfl (.refl wf) h1 h0 (by omega)
    rw [← base] at this
    exact this
/-! ### _law_begin -/
def t_begin (K : PySem.W.Frag) : TS := tRet (tDisp [(tKey "cells", tOrT K (tSl (rSlL K) (tVar 0) tNoPart (tPart (tI' 63))) (tLst (tCons (tI' 0) tNil))), (tKey "place", tI' 0), (tKey "left", tI' 0)])
def spBegin (K : PySem.W.Frag) : Sp := fun vs H Q _ => ∃ (a : Addr) (ns : List Int), vs = [.ref a] ∧ SqL K H a (ns.map V.int) ∧ ∀ (H' : Hp) (T A : Addr) (cs : List Int), Same H H' → H' T = some (.dK (tpk A 0 0)) → H' A = some (.lst (cs.map V.int)) → cs ≠ [] → cs.length ≤ 63 → T ≠ A → Q (.ref T) H'
theorem cut63 (ns : List Int) : cutV (ns.map V.int) none (some 63) = (ns.take (min 63 ns.length)).map V.int := by
  unfold cutV
  have e : HT.sIx (ns.map V.int).length (ns.map V.int).length (some 63) = min 63 (ns.map V.int).length := HT.sIx_nat _ _ 63
  rw [e, HT.sIx_none, List.drop_zero, List.length_map, Nat.sub_zero, List.map_take]
theorem pure_begin {K : PySem.W.Frag} {vs : List V} {H : Hp} {Q : VK} {E : XK} (h : spBegin K vs H Q E) : t_begin K { nx := fun _ H' => Q .non H', rt := Q } (start ["_law_script"] vs) H := by
  obtain ⟨a, ns, rfl, hs, q⟩ := h
  intro T nT
  have fin : ∀ (H2 : Hp) (A : Addr) (cs : List Int), Same H H2 → H2 T = some (.dK []) → H2 A = some (.lst (cs.map V.int)) → cs ≠ [] → cs.length ≤ 63 → T ≠ A → H2 T = some (.dK []) ∧ ∃ kvs : List (Key × V), [(V.str "cells", V.ref A), (V.str "place", V.int 0), (V.str "left", V.int 0)] = kvs.map (fun kv => (kV kv.1, kv.2)) ∧ kvs.length ≤ 15 ∧ Q (.ref T) (upd H2 T (.dK (mergeK [] kvs))) := by
    intro H2 A cs sm hT hA c1 c2 nTA
    refine ⟨hT, tpk A 0 0, rfl, by show 3 ≤ 15; decide, q _ T A cs (fun b o e => ?_) ?_ (by rw [upd_ne (Ne.symm nTA)]; exact hA) c1 c2 nTA⟩
    · rw [upd_ne (ne_of_none e nT)]; exact sm b o e
    · rw [upd_same]; rfl
  have sm0 : Same H (upd H T (.dK [])) := Same.upd nT
  refine ⟨_, rfl, 63, rfl, a, ns.map V.int, rfl, ?_, fun p np => ?_⟩
  · rcases hs with (hs | ⟨o, hs⟩) | hs
    · exact .inl (.inl (sm0 _ _ hs))
    · exact .inl (.inr ⟨o, sm0 _ _ hs⟩)
    · exact .inr hs
  rw [cut63]
  have nTp : T ≠ p := fun z => by subst z; rw [upd_same] at np; cases np
  have sm1 : Same H (upd (upd H T (.dK [])) p (.lst ((ns.take (min 63 ns.length)).map V.int))) := sm0.trans (Same.upd np)
  have hT1 : (upd (upd H T (.dK [])) p (.lst ((ns.take (min 63 ns.length)).map V.int))) T = some (.dK []) := by rw [upd_ne nTp, upd_same]
  have hp1 : (upd (upd H T (.dK [])) p (.lst ((ns.take (min 63 ns.length)).map V.int))) p = some (.lst ((ns.take (min 63 ns.length)).map V.int)) := upd_same
  refine ⟨_, .inl ⟨_, .inl (.inl hp1), rfl⟩, ?_⟩
  cases e : ns.take (min 63 ns.length) with
  | nil =>
    rw [e] at sm1 hT1 hp1
    refine ifF rfl ?_
    refine ⟨by show 1 ≤ sizeLine; decide, fun z nz => ?_⟩
    have nTz : T ≠ z := fun w => by subst w; rw [hT1] at nz; cases nz
    exact fin _ z [0] (sm1.trans (Same.upd nz)) (by rw [upd_ne nTz]; exact hT1) upd_same (by simp) (by simp) nTz
  | cons c r =>
    rw [e] at sm1 hT1 hp1
    refine ifT rfl ?_
    exact fin _ p (c :: r) sm1 hT1 hp1 (by simp) (by rw [← e, List.length_take]; omega) nTp
/-! ### the law itself -/
def spLaw (K : PySem.W.Frag) : Sp := fun vs H Q _ => ∃ (a : Addr) (ns : List Int), vs = [.ref a] ∧ SqL K H a (ns.map V.int) ∧ ∀ H', Q (.bl true) H'
section
variable {P : Program} {w : World} {K : PySem.W.Frag} {mg : Str → Option Value} {base : Heap} {cls : String → Addr} {fnm : String → List Str}
/-- THE RULE for the law: its first statement makes the tape -/
theorem okLaw {qual x : Str} {st s1 : Stmt} {rest : List Stmt} {f : Addr} {fd : FuncData} {N : List Str} {k c : Nat} {b : AST} (F : Fun K x qual st f fd) (S : FnScope N ["_law_script"] (defScope st)) (hs : defBody st = s1 :: rest) (hN : 2 ≤ N.length) (hc : (c : Int) ≤ LIM) (hb : b.n ≤ c)
    (h1 : ∀ (cdv : Value) (A : Around) (outer : List Env) (s : Shared) (H : Hp) (E : XK), Room k (A.deeper (envOfC qual (defScope st) s.heap.objs.size f cdv)) → Takes (cxOf (L2.CX P w) P w K mg base N qual (defScope st) f cdv A outer s H E) (fun c d _ H => E c d H) →
      PS (cxOf (L2.CX P w) P w K mg base N qual (defScope st) f cdv A outer s H E) s1 (tAsg (tCall (spBegin K) [] E (tCons (tVar 0) tNil)) (gName 1)))
    (h2 : ∀ (cdv : Value) (A : Around) (outer : List Env) (s : Shared) (H : Hp) (E : XK) (T : Addr) (F0 H0 : Hp), Room k (A.deeper (envOfC qual (defScope st) s.heap.objs.size f cdv)) → Takes (cxOf (L2.CX P w) P w K mg base N qual (defScope st) f cdv A outer s H E) (fun c d _ H => E c d H) →
      DSs (cxOf (L2.CX P w) P w K mg base N qual (defScope st) f cdv A outer s H E) ⟨K, cls, fnm, some T⟩ c F0 H0 E rest b)
    (law : b (.un :: .pv (.opq 0) :: List.replicate (N.length - 2) .un) ⟨fun _ => False, fun r => r = .pv (.bl true), fun _ => False, fun _ => False, noX⟩) :
    FnOk P w K mg base (L2.CX P w) (k + 1) f fd ["_law_script"] (spLaw K) := by
  refine F.okX S (fun vs H Q E h => by obtain ⟨a, ns, rfl, _⟩ := h; rfl) fun cdv A outer s H vs Q E hr h => ?_
  have tk : Takes (cxOf (L2.CX P w) P w K mg base N qual (defScope st) f cdv A outer s H E) (fun c d _ H => E c d H) := takes_of rfl rfl rfl rfl
  refine ⟨tSeq (tAsg (tCall (spBegin K) [] E (tCons (tVar 0) tNil)) (gName 1)) (fun D σ H' => ∃ T F0 H0, tS ⟨K, cls, fnm, some T⟩ c F0 H0 E b D σ H'), ?_, ?_⟩
  · rw [hs]
    exact pss_cons (h1 cdv A outer s H E hr tk) ⟨fun pins s' σ H' D I ⟨T, F0, H0, q⟩ => (h2 cdv A outer s H E T F0 H0 hr tk).run pins s' σ H' D I q⟩
  · obtain ⟨a, ns, rfl, hS, q⟩ := h
    have s0 : (L2.start N [V.ref a])[0]? = some (some (.ref a)) := rfl
    refine ⟨_, s0, a, ns, rfl, hS, fun H' T A cs sm hT hA c1 c2 nTA => ?_⟩
    refine ⟨T, upd (fun _ => none) A (.lst (cs.map V.int)), H', ?_⟩
    have wf : Wf ⟨K, cls, fnm, some T⟩ (upd (fun _ => none) A (.lst (cs.map V.int))) H' := by
      refine ⟨fun b u e => ?_, fun T' hT' => ?_⟩
      · by_cases hb : b = A
        · subst hb; rw [upd_same] at e; cases e; exact hA
        · rw [upd_ne hb] at e; cases e
      · cases hT'
        exact ⟨by rw [upd_ne nTA], A, cs, 0, 0, hT, upd_same, c1, c2, Int.le_refl _⟩
    have pl0 : plOf ⟨K, cls, fnm, some T⟩ H' = 0 := by unfold plOf; dsimp only; rw [hT]; rfl
    have lN : (L2.start N [V.ref a]).length = N.length := by
      unfold L2.start
      rw [List.length_append, List.length_map, List.length_replicate]
      show 1 + (N.length - 1) = _
      omega
    have at' : ∀ {i : Nat} {t : AS}, (AS.un :: AS.pv (.opq 0) :: List.replicate (N.length - 2) AS.un)[i]? = some t → t = .un ∨ (i = 1 ∧ t = .pv (.opq 0)) := fun {i t} e => by
      match i, e with
      | 0, e => exact .inl (by simpa using e.symm)
      | 1, e => exact .inr ⟨rfl, by simpa using e.symm⟩
      | i + 2, e =>
        have e2 : (List.replicate (N.length - 2) AS.un)[i]? = some t := by simpa using e
        exact .inl (List.eq_of_mem_replicate (List.mem_of_getElem? e2))
    refine ⟨_, _, ⟨fun _ => False, fun r => r = .pv (.bl true), fun _ => False, fun _ => False, noX⟩, c - b.n, ⟨(Xt.refl wf).le (Nat.zero_le _), by omega, by rw [pl0]; omega, by rw [List.length_set, lN]; simp only [List.length_cons, List.length_replicate]; omega, fun i t v e1 e2 => ?_, fun i j t t' v v' a' e1 e2 e3 e4 o1 o2 => ?_, fun i t v a' e1 e2 o => ?_⟩, law, fun _ _ _ _ h => h.elim, fun r v F' H2 e x rv => ?_, fun _ _ _ _ h => h.elim, fun _ _ _ _ h => h.elim, exOk_no⟩
    · rcases at' e1 with rfl | ⟨rfl, rfl⟩
      · trivial
      · rw [List.getElem?_set_self (by rw [lN]; omega)] at e2
        cases e2
        exact ⟨_, rfl, T, rfl, rfl⟩
    · rcases at' e1 with rfl | ⟨rfl, rfl⟩ <;> cases o1
    · rcases at' e1 with rfl | ⟨rfl, rfl⟩ <;> cases o
    · subst e
      cases rv
      exact q H2
end
theorem law_cx0 {P : Program} {w : World} {K : PySem.W.Frag} {mg : Str → Option Value} {base : Heap} {k : Nat} {f : Addr} {fd : FuncData} {ps : List Str} (F : FnOk P w K mg base (L2.CX P w) k f fd ps (spLaw K)) : FnOk P w K mg base (fun _ _ _ _ _ _ => False) k f fd ps (spLaw K) where
  len := fun vs H Q E h => F.len vs H Q (fun _ _ _ => False) h
  run := fun A outer s H args us vs Q E hr en b r h => codeAny_mono (F.run A outer s H args us vs Q (fun _ _ _ => False) hr en b r h) fun r s' hq => by
    cases r with
    | error e => obtain ⟨_, _, _, _, _, _, _, _, _, _, _, _, z⟩ := hq; exact z
    | ok fl => cases fl <;> exact hq
end AL

set_option Elab.async false
set_option linter.all false
set_option maxRecDepth 100000
set_option maxHeartbeats 1000000
set_option autoImplicit false
namespace AH
open PySem PySem.Spec PyProof.Rows L2 He
/-- the head's facts: any Bool of the written part, and the defs -/
def obC (ck : PySem.W.Frag → Bool) (fn : List DefD) (K : PySem.W.Frag) : AlD := (ck K && fn.all fun d => d.ok K, fn.map fun d => fnW K d.at_)
def SaysC (ck : PySem.W.Frag → Bool) (fn : List DefD) (K : PySem.W.Frag) : Prop := obC ck fn K = valD fn
def obCG (n : Nat) (ck : PySem.W.Frag → Bool) (fn : List DefD) (g : Addr → Option Obj) : AlD := obC ck fn (frG g (asD g n ++ [PySem.cStatics]))
def hookC (n : Nat) (ck : PySem.W.Frag → Bool) (fn : List DefD) : PySem.W.Hook where
  α := AlD
  obs := fun s => obCG n ck fn s.heap.get?
  val := fun _ => valD fn
  says := fun _ h => ∃ K : PySem.W.Frag, K.In h ∧ SaysC ck fn K
  of := fun _ _ e => ⟨_, frG_in, e⟩
  keeps := fun _ _ _ ⟨K, hK, c⟩ k => ⟨K, PySem.W.Frag.In.keeps hK k, c⟩
theorem obCG_eq {n : Nat} {ck : PySem.W.Frag → Bool} {fn : List DefD} {g : Addr → Option Obj} {s : Shared} (h : ∀ a, g a = s.heap.get? a) : obCG n ck fn g = (hookC n ck fn).obs s := by
  have e : g = s.heap.get? := funext h
  rw [e] <;> rfl
section
variable {g : PySem.W.Frag → Bool} {fn : List DefD} {K : PySem.W.Frag}
theorem SaysC.says (c : SaysC g fn K) : g K = true := (ba (show (g K && fn.all fun d => d.ok K) = true from congrArg (fun z : AlD => z.1) c)).1
theorem SaysC.def_ (c : SaysC g fn K) (i : Nat) {d : DefD} (h : fn[i]? = some d := by rfl) : ∃ fd, FunD K d.name d.qual d.params d.body d.scope (d.dvs K) (d.kws K) (fAd K d.at_) fd := by
  have c2 := (ba (show (g K && fn.all fun d => d.ok K) = true from congrArg (fun z : AlD => z.1) c)).2
  have e : fn.map (fun d => fnW K d.at_) = fn.map DefD.val := congrArg (fun z : AlD => z.2) c
  have e2 : (fn.map fun d => fnW K d.at_)[i]? = (fn.map DefD.val)[i]? := by rw [e]
  rw [List.getElem?_map, List.getElem?_map, h] at e2
  exact DefD.funD (Option.some.inj e2) (List.all_eq_true.mp c2 d (List.mem_of_getElem? h))
end
/-- facts of own exception classes -/
def oexB (K : PySem.W.Frag) (C : Addr) : Bool := (match K.lookup C with
  | some ⟨.type "type", dd, .cls cd, sl⟩ => (match cd.mro, sl.toList with
    | .ref C' :: bm, [k0, k1, k2, k3, some (.builtin n), k5] => (C' == C && n == "ValueError.__new__") && (!cd.hasDel && (cd.hasDict && PySem.HandSPX.refsVE bm))
    | _, _ => false)
  | _ => false) && (eqO (PySem.W.findIn K (.ref C) "__setattr__") (some (some (.builtin "object.__setattr__"))) && (decide (PySem.W.subIn K (.ref C) (.type "BaseException") = some true) && (decide (PySem.W.typeIn K (.ref C) = some (.type "type")) && PySem.W.keepIn K (.ref C))))
theorem oexB_ok {K : PySem.W.Frag} {C : Addr} (h : oexB K C = true) : OexC K C := by
  obtain ⟨q, h⟩ := ba h
  obtain ⟨h1, h⟩ := ba h
  obtain ⟨h2, h⟩ := ba h
  obtain ⟨h3, h4⟩ := ba h
  refine ⟨?_, eqO_ok h1, of_decide_eq_true h2, of_decide_eq_true h3, h4⟩
  split at q
  · rename_i dd cd sl ho
    split at q
    · rename_i C' bm k0 k1 k2 k3 n k5 hm hs
      simp only [Bool.and_eq_true, beq_iff_eq, Bool.not_eq_true'] at q
      obtain ⟨⟨rfl, rfl⟩, hdel, hdct, hok⟩ := q
      obtain ⟨nm, bs, mro, ns, qn, hd, sn, sub, ab, col, del⟩ := cd
      dsimp only at hm hdel hdct hok
      subst hm hdel hdct
      have hsl : sl = #[k0, k1, k2, k3, some (.builtin "ValueError.__new__"), k5] := by
        obtain ⟨l⟩ := sl
        simp only at hs
        rw [hs]
      subst hsl
      exact ⟨nm, qn, ns, bs, bm, sn, sub, ab, col, dd, k0, k1, k2, k3, k5, ho, hok⟩
    · cases q
  · cases q
def excCB (K : PySem.W.Frag) (D : Addr) : Bool := eqO (PySem.W.findIn K (.ref D) "__getattribute__") (some (some (.builtin "BaseException.__getattribute__"))) && (eqO (PySem.W.findIn K (.ref D) "__getattr__") (some none) && (decide (PySem.W.subIn K (.ref D) (.type "BaseException") = some true) &&
  (PySem.W.hasDictIn K D && (eqO (PySem.W.findIn K (.ref D) "__class__") (some (some (.builtin "object.__class__"))) && (eqO (PySem.W.specialIn K (.builtin "object.__class__") "__get__") (some (some (.builtin "getset_descriptor.__get__"))) &&
  (decide (PySem.W.takesIn K (.builtin "object.__class__") = some true) && decide (PySem.W.mroIn K D (.type "object") = some true)))))))
theorem excCB_ok {K : PySem.W.Frag} {D : Addr} (h : excCB K D = true) : ExcC K D := by
  obtain ⟨h1, h⟩ := ba h
  obtain ⟨h2, h⟩ := ba h
  obtain ⟨h3, h⟩ := ba h
  obtain ⟨h4, h⟩ := ba h
  obtain ⟨h5, h⟩ := ba h
  obtain ⟨h6, h⟩ := ba h
  obtain ⟨h7, h8⟩ := ba h
  exact ⟨eqO_ok h1, eqO_ok h2, of_decide_eq_true h3, h4, eqO_ok h5, eqO_ok h6, of_decide_eq_true h7, of_decide_eq_true h8⟩
/-- a def without defaults, in the words of HandS.Base -/
theorem fun_of {K : PySem.W.Frag} {x qual : Str} {st : Stmt} {f : Addr} {fd : FuncData} (F : FunD K x qual (defArgs st) (defBody st) (defScope st) [] [] f fd) : Fun K x qual st f fd := by
  obtain ⟨oc, od, dV, kV, doc, pm, an, cdv, ct, osl, rfl, lk, hcd, hd, _⟩ := F.ex
  have e : dV = .none := by
    rcases hd with ⟨_, h⟩ | ⟨h, _⟩
    · exact h
    · exact absurd rfl h
  subst e
  exact fun_mk lk hcd F.kp
end AH

set_option Elab.async false
set_option linter.all false
set_option maxRecDepth 100000
set_option maxHeartbeats 1000000
set_option autoImplicit false
namespace AL
open PySem PySem.Spec PyProof.Rows L2
section
variable {X : Cx} {C : Ct} {B : Nat} {F0 H0 : Hp} {E : XK} {pos : Pos}
/-- Base.__init__(self, ..), Base an own class over ValueError without own __init__ -/
structure OBase (K : PySem.W.Frag) (C0 : Addr) : Prop where
  gG : PySem.W.specialIn K (.ref C0) "__getattribute__" = some (some (.builtin "type.__getattribute__"))
  rd : PySem.W.readsIn K C0 (.type "type") = true
  vV : PySem.W.findCls K (.ref C0) (.type "type") "__init__" = some (.val (.builtin "ValueError.__init__"))
theorem pe_oinit {x : Str} {C0 : Addr} {e : Expr} {es : List Expr} {ta : TA} {p1 p2 : Pos} {pl : Sem Bool} (T : OBase X.K C0) (hm : X.mg x = some (.ref C0)) (ha : PA X (e :: es) ta) (hg : Gl X x := by rfl) (hdb : (x == ("__debug__" : Str)) = false := by decide)
    (hc : eval (.Call (.Attribute (.Name x p1) "__init__" p2) (e :: es) [] pos) X.env = (do
      let ov ← eval (.Name x p1) X.env
      standAt p2.atName
      let (f, first) ← holding [ov] (getMethod ov "__init__" pl)
      callWith pos f first (backTo pos (starEach (e :: es) X.env)) (backToKw pos (keywordEach [] X.env))) := by rfl)
    (he : starEach (e :: es) X.env = (false, eval e X.env) :: starEach es X.env := by rfl) (hpl : (backTo pos (starEach es X.env)).any (·.1) = false := by rfl) :
    PE X (.Call (.Attribute (.Name x p1) "__init__" p2) (e :: es) [] pos) (tVeI X.K ta) := by
  refine ⟨fun pins s σ H Q I h => ?_⟩
  refine PySem.W.methodCall_KW (ld_glob I hg hm ?_ hdb) hc
  refine PySem.W.method_cls I.kIn T.gG (PySem.W.cls_value I.kIn T.rd T.vV (by decide +kernel) ?_)
  show wpAny _ _ (callWith pos (Value.builtin "ValueError.__init__") [] (backTo pos (starEach (e :: es) X.env)) []) _ _ _
  refine PyProof.Rows.callWith_method1 (thn (ha.run pos pins _ σ H _ (I.tok _) h) fun us s1 ⟨vs, H1, I1, r1, a, C, ws, ev, hl, T, ea, q⟩ => ?_) he hpl
  subst ev
  cases r1 with
  | @cons _ u0 _ ur ra rw' =>
    obtain rfl : u0 = Value.ref a := ra
    have hlen : ur.length ≤ sizeLine := by
      rw [← Paired.length rw', sizeLine_eq]
      omega
    exact oinit_ok T I1 ea hlen fun s' J => ⟨.non, H1, J, rfl, q⟩
end
/-- what __init__ of an own exception with one field does -/
def spInit (K : PySem.W.Frag) (f : Str) : Sp := fun vs H Q _ => ∃ (a C : Addr) (x : V), vs = [.ref a, x] ∧ OexC K C ∧ PySem.W.findIn K (.ref C) f = some none ∧ H a = some (exo a C none) ∧ ∀ dx, H dx = none → dx ≠ a → Q .non (upd (upd H dx (exd dx [(f, x)])) a (exo a C (some dx)))
def t_init (K : PySem.W.Frag) (m f : Str) : TS := tSeq (fun D σ H => tVeI K (tCons (tVar 0) (tCons (tC (.str m)) tNil)) σ H fun _ H1 => D.nx σ H1) (tOst K f (tVar 0) (tVar 1))
theorem pure_init {K : PySem.W.Frag} {m f : Str} {ps : List Str} (hp : ps.length = 2) {vs : List V} {H : Hp} {Q : VK} {E : XK} (h : spInit K f vs H Q E) : t_init K m f { nx := fun _ H' => Q .non H', rt := Q } (L2.start ps vs) H := by
  obtain ⟨a, C, x, rfl, T, no, ha, q⟩ := h
  refine ⟨_, rfl, a, C, _, rfl, by simp, T, ha, _, rfl, _, rfl, a, C, rfl, T, no, .inl ⟨ha, fun dx h1 h2 => q dx h1 h2⟩⟩
section
variable {X : Cx} {C : Ct} {B : Nat} {F0 H0 : Hp} {E : XK} {pos : Pos}
/-- C(e, ..) as a value, C's own __init__ keeping sp -/
def tMkV (C : Addr) (sp : Sp) (ta : TA) : TE := fun σ H Q => ta σ H fun vs H1 => vs.length ≤ 1000 ∧ ∀ a, H1 a = none → sp (.ref a :: vs) (upd H1 a (exo a C none)) (fun v H2 => v = .non ∧ Q (.ref a) H2) (fun _ _ _ => False)
theorem pe_mkV {CX : CXT} {x : Str} {C fI : Addr} {k : Nat} {fd : FuncData} {ps : List Str} {sp : Sp} {p : Pos} {e : Expr} {es : List Expr} {ta : TA} (T : OexC X.K C) (iC : PySem.W.findIn X.K (.ref C) "__init__" = some (some (.ref fI))) (tI : PySem.W.typeIn X.K (.ref fI) = some (.type "function"))
    (F1 : FnOk X.prog X.w X.K X.mg X.base CX k fI fd ps sp) (hr : Room (k + 1) X.A) (hb : Binds X.K fd ps []) (hx : Passes CX X (fun _ _ _ => False)) (hm : X.mg x = some (.ref C)) (ha : PA X (e :: es) ta) (hg : Gl X x := by rfl)
    (hdb : (x == ("__debug__" : Str)) = false := by decide) (he : starEach (e :: es) X.env = (false, eval e X.env) :: starEach es X.env := by rfl) (hpl : (backTo pos (starEach es X.env)).any (·.1) = false := by rfl) :
    PE X (.Call (.Name x p) (e :: es) [] pos) (tMkV C sp ta) := by
  refine ⟨fun pins s σ H Q I h => ?_⟩
  obtain ⟨nm, q, N, bs, bm, sn, sub, ab, col, dd, k0, k1, k2, k3, k5, hC, hbm⟩ := T.cls
  refine wpAny_Call_Name_kw (ld_glob I hg hm ?_ hdb)
  refine PySem.W.callWith_K (h₀ := X.base) I.ok.mod.kin T.kC (thn (ha.run pos pins s σ H _ I h) fun us s1 ⟨vs, H1, I1, r1, hz, q1⟩ => ⟨I1.kIn, ?_⟩) he hpl
  show wpAny _ _ (call (.ref C) us) _ _ _
  obtain ⟨hp, g, dr, tk, os⟩ := s1
  have hsz : hp.objs.size ≤ hp.objs.size + 1 := Nat.le_succ _
  have hn : H1 (hp.objs.size + 1) = none := I1.hok.fresh hsz
  have hq := q1 (hp.objs.size + 1) hn
  have kk : ∀ b o, hp.get? b = some o → ((hp.push (PySem.W.kdv_tup us)).push (PySem.HandSPX.excO C hp.objs.size)).get? b = some o := fun b o e => Heap.get?_push_of_some _ (Heap.get?_push_of_some _ e)
  have hget : ((hp.push (PySem.W.kdv_tup us)).push (PySem.HandSPX.excO C hp.objs.size)).get? (hp.objs.size + 1) = some (PySem.HandSPX.excO C hp.objs.size) := by heap_get
  have I2 : Inv X pins σ (upd H1 (hp.objs.size + 1) (exo (hp.objs.size + 1) C none)) ⟨(hp.push (PySem.W.kdv_tup us)).push (PySem.HandSPX.excO C hp.objs.size), g, dr, tk, os⟩ :=
    I1.laid (t' := tk) (a := hp.objs.size + 1) (o := exo (hp.objs.size + 1) C none) (h' := (hp.push (PySem.W.kdv_tup us)).push (PySem.HandSPX.excO C hp.objs.size)) kk hsz (exo_ok hget)
  have r2 : Vals (V.ref (hp.objs.size + 1) :: vs) (Value.ref (hp.objs.size + 1) :: us) := .cons rfl r1
  have hl : (Value.ref (hp.objs.size + 1) :: us).length = ps.length := by
    have e := r2.length
    rw [F1.len _ _ _ _ hq] at e
    exact e.symm
  have hus : us.length ≤ sizeLine := by
    rw [← Paired.length r1, sizeLine_eq]
    omega
  have b := hb _ (Value.ref (hp.objs.size + 1) :: us) I2.kIn (by rw [List.append_nil]; exact hl)
  rw [List.append_nil] at b
  refine wpAny_call (PySem.HandSPX.call_own F.excBase_ValueError (fun Y => PySem.HandSPX.refsVE_contains Y bm hbm) (I1.kIn _ _ hC) (PySem.W.looks_findIn I1.kIn iC) (fun self => PySem.W.bind_fn I1.kIn self tI) hus
    (codeAny_mono (F1.run _ X.stack _ _ ⟨Value.ref (hp.objs.size + 1) :: us, []⟩ (Value.ref (hp.objs.size + 1) :: us) _ _ (fun _ _ _ => False) (hr.make C us []) (I2.env0.make C us []) b r2 hq) fun r s' hq' => ?_))
  cases r with
  | error er => exact hx pins σ _ _ er s' I2 hq'
  | ok fl =>
    cases fl with
    | ret u =>
      obtain ⟨v, H2, J, rv, ev, q2⟩ := I2.after hq'
      subst ev
      exact ⟨rv, .ref _, H2, J, rfl, q2⟩
    | next => exact False.elim hq'
    | brk => exact False.elim hq'
    | cont => exact False.elim hq'
/-- C(d) as data -/
def aExcV (c : String) (a : AA) : AE := ⟨a.n, fun α P PX => a α (fun ds => ds.length = 1 ∧ P (.pv (.exc c ds))) PX⟩
theorem de_excV (c : String) {x f : Str} {fI : Addr} {k : Nat} {fd : FuncData} {ps : List Str} {p : Pos} {e : Expr} {es : List Expr} {a : AA} (hK : C.K = X.K) (tk : Takes X (fun c d _ H => E c d H)) (T : OexC X.K (C.cls c)) (iC : PySem.W.findIn X.K (.ref (C.cls c)) "__init__" = some (some (.ref fI))) (tI : PySem.W.typeIn X.K (.ref fI) = some (.type "function"))
    (F1 : FnOk X.prog X.w X.K X.mg X.base (L2.CX X.prog X.w) k fI fd ps (spInit X.K f)) (no : PySem.W.findIn X.K (.ref (C.cls c)) f = some none) (hf : C.fnm c = [f]) (hr : Room (k + 1) X.A) (hb : Binds X.K fd ps []) (hm : X.mg x = some (.ref (C.cls c))) (ha : DA X C B F0 H0 E (e :: es) a) (hg : Gl X x := by rfl)
    (hdb : (x == ("__debug__" : Str)) = false := by decide) (he : starEach (e :: es) X.env = (false, eval e X.env) :: starEach es X.env := by rfl) (hpl : (backTo pos (starEach es X.env)).any (·.1) = false := by rfl) :
    DE X C B F0 H0 E (.Call (.Name x p) (e :: es) [] pos) (aExcV c a) :=
  (pe_mkV T iC tI F1 hr hb (passes_call tk fun _ _ _ _ h => h.elim) hm ha hg hdb he hpl).imp fun σ H Q ⟨α, F, P, PX, s, h, q, x⟩ => by
    refine ⟨α, F, _, PX, s, h, fun ds vs F1 H1 ⟨l, p⟩ x1 rs => ?_, x⟩
    match ds, l, rs with
    | [d], _, rs =>
      obtain ⟨y, _, rfl, ry, e0⟩ := rs
      cases e0
      refine ⟨by simp, fun z nz => ⟨z, C.cls c, y, rfl, T, no, upd_same, fun dx nd ne => ⟨rfl, ?_⟩⟩⟩
      have nd1 : H1 dx = none := by rw [upd_ne ne] at nd; exact nd
      have e1 : upd (upd (upd H1 z (exo z (C.cls c) none)) dx (exd dx [(f, y)])) z (exo z (C.cls c) (some dx)) = upd (upd H1 dx (exd dx [(f, y)])) z (exo z (C.cls c) (some dx)) := by
        funext b
        by_cases hb : b = z
        · subst hb; rw [upd_same, upd_same]
        · rw [upd_ne hb, upd_ne hb]
          by_cases hd : b = dx
          · subst hd; rw [upd_same, upd_same]
          · rw [upd_ne hd, upd_ne hb, upd_ne hd]
      rw [e1]
      have xa := Xt.layF (o := exd dx [(f, y)]) x1.wf nd1
      have nz2 : (upd H1 dx (exd dx [(f, y)])) z = none := by rw [upd_ne (Ne.symm ne)]; exact nz
      have xb := Xt.layF (o := exo z (C.cls c) (some dx)) xa.wf nz2
      refine q _ _ _ _ p ((x1.trans xa).trans xb) ⟨z, some dx, [y], rfl, upd_same, ⟨by rw [hf]; rfl, ?_⟩, y, [], rfl, Rp.mono (xa.frz.trans xb.frz) _ _ ry, rfl⟩
      rw [hf, upd_ne ne, upd_same]
      rfl
end
section
variable {X : Cx} {C : Ct} {B : Nat} {F0 H0 : Hp} {E : XK} {pos : Pos}
/-- C(), C without own __init__, as a value -/
theorem pe_mk0V {x : Str} {C : Addr} {bmB : List Value} {Bn newId initId : String} {p : Pos} (Fb : ExcBaseFacts Bn newId initId bmB) (q : PySem.W.excIn X.K C bmB newId = true) (kC : PySem.W.keepIn X.K (.ref C) = true) (hm : X.mg x = some (.ref C)) (hg : Gl X x := by rfl) (hdb : (x == ("__debug__" : Str)) = false := by decide) :
    PE X (.Call (.Name x p) [] [] pos) (fun σ H Q => ∀ a, H a = none → Q (.ref a) (upd H a (exo a C none))) := by
  refine ⟨fun pins s σ H Q I h => ?_⟩
  refine wpAny_Call_Name_kw (ld_glob I hg hm ?_ hdb)
  refine PySem.W.callWith_K0 I.kIn kC ?_
  show wpAny _ _ (call (.ref C) []) _ _ _
  obtain ⟨bm, N, nm, qn, bs, hdct, sn, sub, ab, col, dd, k0, k1, k2, k3, k5, mN, hC, hN, hni, T⟩ := exc_obj I.kIn q
  refine wpAny_call_exc_subT Fb T hC hN hni (fun h' a hx => ?_) (by show 0 ≤ sizeLine; omega)
  have hn : H a = none := I.hok.gone hx.new
  obtain ⟨t, ht, _, _⟩ := hx.there
  exact ⟨.ref a, upd H a (exo a C none), I.laidN hx.keeps hx.new hn (exo_ok ht), rfl, h a hn⟩
def aExc0 (c : String) : AE := ⟨0, fun _ P _ => P (.pv (.exc c []))⟩
theorem de_exc0 (c : String) {x : Str} {p : Pos} (q : PySem.W.excIn X.K (C.cls c) He.veBase "ValueError.__new__" = true) (kC : PySem.W.keepIn X.K (.ref (C.cls c)) = true) (hm : X.mg x = some (.ref (C.cls c))) (hg : Gl X x := by rfl) (hdb : (x == ("__debug__" : Str)) = false := by decide) :
    DE X C B F0 H0 E (.Call (.Name x p) [] [] pos) (aExc0 c) := (pe_mk0V F.excBase_ValueError q kC hm hg hdb).imp fun σ H Q ⟨α, F, P, PX, s, h, q, x⟩ => fun a na => by
  exact q _ _ _ _ h (Xt.layF s.xt.wf na) ⟨a, none, [], rfl, upd_same, rfl, rfl⟩
/-- isinstance of such a value -/
def rIsX (K : PySem.W.Frag) : List V → Hp → VK → Prop := fun xs H Q => ∃ (a D : Addr) (d : Option Addr) (c : V) (cv : Value) (b : Bool), xs = [.ref a, c] ∧ (∀ u, RelV c u → u = cv) ∧ H a = some (exo a D d) ∧ (∀ dx, d = some dx → ∃ fs, H dx = some (exd dx fs)) ∧
  ExcC K D ∧ PySem.W.kitOne K (.ref D) cv = some b ∧ Q (.bl b) H
theorem inst_exo {pins : List (Addr × Obj)} {σ : L2.St} {H : Hp} {s : Shared} {a D : Addr} {d : Option Addr} (I : Inv X pins σ H s) (ha : H a = some (exo a D d)) (hd : ∀ dx, d = some dx → ∃ fs, H dx = some (exd dx fs)) : ∃ ox od, PySem.W.InstAt s.heap a ox D od := by
  obtain ⟨t1, ho⟩ := exo_at I.hok ha
  cases d with
  | none => exact ⟨_, none, ho, rfl, rfl, trivial⟩
  | some dx =>
    obtain ⟨fs, hx⟩ := hd dx rfl
    obtain ⟨mA, ⟨o, es, ep, e1, _⟩, _⟩ := exd_at I.hok hx
    exact ⟨_, some o, ho, rfl, rfl, e1⟩
theorem call_isX : CallR X (.builtin "isinstance") (rIsX X.K) := by
  intro pins s σ H xs us Q I r h
  obtain ⟨a, D, d, c, cv, b, rfl, hcv, ha, hd, T, e, q⟩ := h
  obtain ⟨u1, u2, rfl, r1, r2⟩ := vals2 r
  cases (show u1 = Value.ref a from r1)
  have e2 := hcv _ r2
  subst e2
  obtain ⟨ox, od, J⟩ := inst_exo I ha hd
  obtain ⟨cd, hc, _⟩ := PySem.W.any_some T.hd
  exact PySem.W.kia_one (PySem.W.kitx_exc (by rw [hc]; rfl) T.hg T.hk T.hs T.ha T.hn T.ht T.hm) I.kIn J e (fun z => nomatch z) fun tk => ⟨.bl b, H, I.tok tk, rfl, q⟩
def aIsE (tab : String → Option Bool) (a : AE) : AE := ⟨a.n, fun α P PX => a α (fun r => ∃ c ds b, r = .pv (.exc c ds) ∧ tab c = some b ∧ P (.pv (.bl b))) PX⟩
theorem de_isEx {e e2 : Expr} {p : Pos} {a : AE} {tab : String → Option Bool} {c2 : V} {cv : Value} (hK : C.K = X.K) (hm : X.mg "isinstance" = none) (ha : DE X C B F0 H0 E e a) (h2 : PE X e2 (tC c2)) (hcv : ∀ u, RelV c2 u → u = cv) (ht : ∀ c b, tab c = some b → ExcC X.K (C.cls c) ∧ PySem.W.kitOne X.K (.ref (C.cls c)) cv = some b)
    (hg : Gl X "isinstance" := by rfl) (hs1 : starEach [e, e2] X.env = (false, eval e X.env) :: starEach [e2] X.env := by rfl) (hs2 : starEach [e2] X.env = (false, eval e2 X.env) :: starEach [] X.env := by rfl) (hpl : (backTo pos (starEach [e2] X.env)).any (·.1) = false := by rfl) :
    DE X C B F0 H0 E (.Call (.Name "isinstance" p) [e, e2] [] pos) (aIsE tab a) :=
  (pe_callB call_isX hg hm (by decide +kernel) (pa_cons ha (pa_cons h2 pa_nil hs2) hs1) (by decide) (by decide) hs1 hpl).imp fun σ H Q ⟨α, F, P, PX, s, h, q, x⟩ => by
    refine ⟨α, F, _, PX, s, h, fun r1 v1 F1 H1 ⟨c, ds, b, e1, e2, p⟩ x1 rv1 => ?_, x⟩
    subst e1
    obtain ⟨z, d, xs, rfl, hz, hd, rs⟩ := rv1
    obtain ⟨T, kt⟩ := ht c b e2
    refine ⟨z, C.cls c, d, c2, cv, b, rfl, hcv, x1.wf.sub _ _ hz, fun dx ed => ?_, T, kt, q _ _ F1 H1 p x1 rfl⟩
    subst ed
    exact ⟨_, x1.wf.sub _ _ hd.2⟩
/-- an own class | a built-in class -/
theorem de_isE (c2 : String) {x : Str} {e : Expr} {p p2 : Pos} {a : AE} {tab : String → Option Bool} (hK : C.K = X.K) (hm : X.mg "isinstance" = none) (hx : X.mg x = some (.ref (C.cls c2))) (ha : DE X C B F0 H0 E e a) (ht : ∀ c b, tab c = some b → ExcC X.K (C.cls c) ∧ PySem.W.kitOne X.K (.ref (C.cls c)) (.ref (C.cls c2)) = some b)
    (hg : Gl X "isinstance" := by rfl) (hgx : Gl X x := by rfl) (hdb : (x == ("__debug__" : Str)) = false := by decide) (hs1 : starEach [e, .Name x p2] X.env = (false, eval e X.env) :: starEach [.Name x p2] X.env := by rfl) (hs2 : starEach [.Name x p2] X.env = (false, eval (.Name x p2) X.env) :: starEach [] X.env := by rfl) (hpl : (backTo pos (starEach [.Name x p2] X.env)).any (·.1) = false := by rfl) :
    DE X C B F0 H0 E (.Call (.Name "isinstance" p) [e, .Name x p2] [] pos) (aIsE tab a) := de_isEx hK hm ha (pe_glob hgx hx (v := .ref (C.cls c2)) rfl hdb) (fun u r => r) ht hg hs1 hs2 hpl
theorem de_isEt (T : String) {x : Str} {e : Expr} {p p2 : Pos} {a : AE} {tab : String → Option Bool} (hK : C.K = X.K) (hm : X.mg "isinstance" = none) (hx : X.mg x = none) (ha : DE X C B F0 H0 E e a) (ht : ∀ c b, tab c = some b → ExcC X.K (C.cls c) ∧ PySem.W.kitOne X.K (.ref (C.cls c)) (.type T) = some b)
    (hv : bootBuiltins x = some (.type T) := by decide +kernel) (hg : Gl X "isinstance" := by rfl) (hgx : Gl X x := by rfl) (hn : x ≠ "__name__" := by decide) (hdb : (x == ("__debug__" : Str)) = false := by decide) (hs1 : starEach [e, .Name x p2] X.env = (false, eval e X.env) :: starEach [.Name x p2] X.env := by rfl) (hs2 : starEach [.Name x p2] X.env = (false, eval (.Name x p2) X.env) :: starEach [] X.env := by rfl) (hpl : (backTo pos (starEach [.Name x p2] X.env)).any (·.1) = false := by rfl) :
    DE X C B F0 H0 E (.Call (.Name "isinstance" p) [e, .Name x p2] [] pos) (aIsE tab a) := de_isEx hK hm ha (pe_bltn (v := .ty T) hgx hx hv rfl hn hdb) (fun u r => r) ht hg hs1 hs2 hpl
/-- e.f, e such a value -/
def tXd (K : PySem.W.Frag) (f : Str) (te : TE) : TE := fun σ H Q => te σ H fun x H1 => ∃ (a D dx : Addr) (fs : List (Str × V)) (v : V), x = .ref a ∧ H1 a = some (exo a D (some dx)) ∧ H1 dx = some (exd dx fs) ∧ XfC K D ∧ PySem.W.findIn K (.ref D) f = some none ∧ fs.lookup f = some v ∧ Q v H1
theorem pe_xd {e : Expr} {te : TE} {n : Str} (he : PE X e te) (hb : attributeBase e n X.env (eval e X.env) = eval e X.env := by rfl) : PE X (.Attribute e n pos) (tXd X.K n te) := by
  refine ⟨fun pins s σ H Q I h => ?_⟩
  refine attr_of hb (thn (he.run pins s σ H _ I h) fun u s1 hh => ?_)
  obtain ⟨x, H1, I1, rx, a, D, dx, fs, v, ex, ea, ed, T, hno, l, q⟩ := hh
  subst ex
  obtain rfl : u = Value.ref a := rx
  obtain ⟨t1, ho⟩ := exo_at I1.hok ea
  obtain ⟨mA, hns, hr⟩ := exd_at I1.hok ed
  obtain ⟨od, hod, hl⟩ := lookIn_ns hns
  obtain ⟨u, hu, ru⟩ := RelO.some_of (v := v) (o := mA n) (by rw [← l]; exact hr n)
  have J : PySem.W.InstAt s1.heap a _ D (some od) := ⟨ho, rfl, rfl, hod⟩
  exact HandSPX.exc_get I1.kIn J T.ga T.gg T.exC (PySem.W.findObj_own T.hdC hno rfl (by rw [hl, hu])) (handed_of ru) ⟨v, H1, I1.tok _, ru, q⟩
def aXf (ok : String → Bool) (a : AE) : AE := ⟨a.n, fun α P PX => a α (fun r => ∃ c d, r = .pv (.exc c [d]) ∧ ok c = true ∧ P (.pv d)) PX⟩
theorem de_xf {e : Expr} {a : AE} {n : Str} {ok : String → Bool} (hK : C.K = X.K) (ha : DE X C B F0 H0 E e a) (hok : ∀ c, ok c = true → XfC X.K (C.cls c) ∧ PySem.W.findIn X.K (.ref (C.cls c)) n = some none ∧ C.fnm c = [n]) (hb : attributeBase e n X.env (eval e X.env) = eval e X.env := by rfl) :
    DE X C B F0 H0 E (.Attribute e n pos) (aXf ok a) := (pe_xd ha hb).imp fun σ H Q ⟨α, F, P, PX, s, h, q, x⟩ => by
  refine ⟨α, F, _, PX, s, h, fun r1 v1 F1 H1 ⟨c, d, e1, e2, p⟩ x1 rv1 => ?_, x⟩
  subst e1
  obtain ⟨z, dd, xs, rfl, hz, hd, y, _, rfl, ry, e0⟩ := rv1
  cases e0
  obtain ⟨T, no, fn⟩ := hok c e2
  cases dd with
  | none => cases hd
  | some dx =>
    rw [fn] at hd
    exact ⟨z, C.cls c, dx, _, y, rfl, x1.wf.sub _ _ hz, x1.wf.sub _ _ hd.2, T, no, by simp [List.lookup], q _ _ F1 H1 p x1 ry⟩
end
end AL

set_option Elab.async false
set_option linter.all false
set_option maxRecDepth 100000
set_option maxHeartbeats 1000000
set_option autoImplicit false
namespace AL
open PySem PySem.Spec PyProof.Rows L2 He
/-! ### defs by names -/
section
variable (P : Program) (w : World) (K : PySem.W.Frag) (mg : Str → Option Value) (base : Heap) (fnm : String → List Str)
def clsK (c : String) : Addr := ga K (Str.ofString c)
/-- the def x does w: at room k, with at most c draws -/
def Ok (x : Str) (k c n : Nat) (ps : List Str) (wf : WF) : Prop := ∃ fd, FnOk P w K mg base (L2.CX P w) k (ga K x) fd ps (spF K (clsK K) fnm c n wf) ∧ mg x = some (.ref (ga K x)) ∧ PySem.W.keepIn K (.ref (ga K x)) = true ∧ Binds K fd ps []
/-- a def as it stands -/
def Df (x : Str) (st : Stmt) : Prop := ∃ fd, FunD K x x (defArgs st) (defBody st) (defScope st) [] [] (ga K x) fd ∧ mg x = some (.ref (ga K x))
/-- an own exception class with one field -/
def ExcI (c : String) (f : Str) (k : Nat) : Prop := ∃ fI fd ps, OexC K (clsK K c) ∧ PySem.W.findIn K (.ref (clsK K c)) "__init__" = some (some (.ref fI)) ∧ PySem.W.typeIn K (.ref fI) = some (.type "function") ∧ FnOk P w K mg base (L2.CX P w) k fI fd ps (spInit K f) ∧
  PySem.W.findIn K (.ref (clsK K c)) f = some none ∧ Binds K fd ps [] ∧ mg (Str.ofString c) = some (.ref (clsK K c)) ∧ fnm c = [f]
/-- one without own __init__ -/
def ExcN (c : String) : Prop := PySem.W.excIn K (clsK K c) veBase "ValueError.__new__" = true ∧ PySem.W.keepIn K (.ref (clsK K c)) = true ∧ mg (Str.ofString c) = some (.ref (clsK K c))
end
section
variable {X : Cx} {tp : Option Addr} {fnm : String → List Str} {B : Nat} {F0 H0 : Hp} {E : XK} {pos : Pos}
theorem de_callO {k c n : Nat} {ps : List Str} {wf : WF} {x : Str} {p : Pos} {e : Expr} {es : List Expr} {a : AA} (tk : Takes X (fun c d _ H => E c d H)) (o : Ok X.prog X.w X.K X.mg X.base fnm x k c n ps wf) (hr : Room k X.A) (ha : DA X ⟨X.K, clsK X.K, fnm, tp⟩ B F0 H0 E (e :: es) a)
    (hg : Gl X x := by rfl) (hdb : (x == ("__debug__" : Str)) = false := by decide) (he : starEach (e :: es) X.env = (false, eval e X.env) :: starEach es X.env := by rfl) (hpl : (backTo pos (starEach es X.env)).any (·.1) = false := by rfl) :
    DE X ⟨X.K, clsK X.K, fnm, tp⟩ B F0 H0 E (.Call (.Name x p) (e :: es) [] pos) (aCall c n wf a) := by
  obtain ⟨fd, F, g, kp, b⟩ := o
  exact de_call tk F hr g kp b ha hg hdb he hpl
theorem de_callO0 {k c n : Nat} {ps : List Str} {wf : WF} {x : Str} {p : Pos} (tk : Takes X (fun c d _ H => E c d H)) (o : Ok X.prog X.w X.K X.mg X.base fnm x k c n ps wf) (hr : Room k X.A) (hg : Gl X x := by rfl) (hdb : (x == ("__debug__" : Str)) = false := by decide) :
    DE X ⟨X.K, clsK X.K, fnm, tp⟩ B F0 H0 E (.Call (.Name x p) [] [] pos) (aCall c n wf aNil) := by
  obtain ⟨fd, F, g, kp, b⟩ := o
  exact de_call0 tk F hr g kp b hg hdb
theorem de_excO (c : String) {f x : Str} {k : Nat} {p : Pos} {e : Expr} {es : List Expr} {a : AA} (tk : Takes X (fun c d _ H => E c d H)) (o : ExcI X.prog X.w X.K X.mg X.base fnm c f k) (hr : Room (k + 1) X.A) (ha : DA X ⟨X.K, clsK X.K, fnm, tp⟩ B F0 H0 E (e :: es) a) (hxc : x = Str.ofString c := by rfl) (hg : Gl X x := by rfl)
    (hdb : (x == ("__debug__" : Str)) = false := by decide) (he : starEach (e :: es) X.env = (false, eval e X.env) :: starEach es X.env := by rfl) (hpl : (backTo pos (starEach es X.env)).any (·.1) = false := by rfl) :
    DE X ⟨X.K, clsK X.K, fnm, tp⟩ B F0 H0 E (.Call (.Name x p) (e :: es) [] pos) (aExcV c a) := by
  obtain ⟨fI, fd, ps, T, iC, tI, F1, no, b, g, fn⟩ := o
  subst hxc
  exact de_excV c rfl tk T iC tI F1 no fn hr b g ha hg hdb he hpl
theorem de_excN (c : String) {x : Str} {p : Pos} (o : ExcN X.K X.mg c) (hxc : x = Str.ofString c := by rfl) (hg : Gl X x := by rfl) (hdb : (x == ("__debug__" : Str)) = false := by decide) :
    DE X ⟨X.K, clsK X.K, fnm, tp⟩ B F0 H0 E (.Call (.Name x p) [] [] pos) (aExc0 c) := by
  subst hxc
  exact de_exc0 c o.1 o.2.1 o.2.2 hg hdb
end
section
variable {P : Program} {w : World} {K : PySem.W.Frag} {mg : Str → Option Value} {base : Heap} {fnm : String → List Str}
/-- THE RULE for a def, by name -/
theorem okD {x : Str} {st : Stmt} {N ps : List Str} {k c n m : Nat} {b : AST} {wf : WF} (D : Df K mg x st) (S : FnScope N ps (defScope st)) (hn : ps.length = n) (hN : N.length = m)
    (hbi : ∀ (kV doc pm : Value) (an : Option Addr) (cdv ct : Value) (us : List Value), us.length = ps.length → bindArgs (PySem.W.fnOf x x (defArgs st) (defBody st) (defScope st) .none kV doc pm an cdv ct) ⟨us, []⟩ = pure (ps.zip us))
    (hw : ∀ ds P PX, ds.length = n → wf ds P PX → bodyW m b ds P PX)
    (hbody : ∀ (f : Addr) (cdv : Value) (A : Around) (outer : List Env) (s : Shared) (H : Hp) (E : XK) (tp : Option Addr) (F0 : Hp), Room k (A.deeper (envOfC x (defScope st) s.heap.objs.size f cdv)) →
      Takes (cxOf (L2.CX P w) P w K mg base N x (defScope st) f cdv A outer s H E) (fun c d _ H => E c d H) →
      DSs (cxOf (L2.CX P w) P w K mg base N x (defScope st) f cdv A outer s H E) ⟨K, clsK K, fnm, tp⟩ c F0 H E (defBody st) b) (hc : b.n ≤ c := by decide) : Ok P w K mg base fnm x (k + 1) c n ps wf := by
  obtain ⟨fd, F, g⟩ := D
  have F1 := AH.fun_of F
  exact ⟨fd, okA F1 S hn hN hw (fun cdv A outer s H E tp F0 hr tk => hbody _ cdv A outer s H E tp F0 hr tk) hc, g, F.kp, F1.binds hbi⟩
theorem okT {x : Str} {st : Stmt} {ps : List Str} {k : Nat} {sp : Sp} (D : Df K mg x st) (h : ∀ fd, Fun K x x st (ga K x) fd → FnOk P w K mg base (L2.CX P w) k (ga K x) fd ps sp)
    (hbi : ∀ (kV doc pm : Value) (an : Option Addr) (cdv ct : Value) (us : List Value), us.length = ps.length → bindArgs (PySem.W.fnOf x x (defArgs st) (defBody st) (defScope st) .none kV doc pm an cdv ct) ⟨us, []⟩ = pure (ps.zip us)) :
    ∃ fd, FnOk P w K mg base (L2.CX P w) k (ga K x) fd ps sp ∧ mg x = some (.ref (ga K x)) ∧ PySem.W.keepIn K (.ref (ga K x)) = true ∧ Binds K fd ps [] := by
  obtain ⟨fd, F, g⟩ := D
  have F1 := AH.fun_of F
  exact ⟨fd, h fd F1, g, F.kp, F1.binds hbi⟩
end
section
variable {P : Program} {w : World} {K : PySem.W.Frag} {mg : Str → Option Value} {base : Heap} {fnm : String → List Str}
theorem mkExcI {c : String} {f m qual : Str} {st : Stmt} {fI : Addr} {ps : List Str} {fd : FuncData} (F : Fun K "__init__" qual st fI fd) (S : FnScope ps ps (defScope st)) (hps : ps.length = 2) (T : OexC K (clsK K c)) (iC : PySem.W.findIn K (.ref (clsK K c)) "__init__" = some (some (.ref fI)))
    (tI : PySem.W.typeIn K (.ref fI) = some (.type "function")) (no : PySem.W.findIn K (.ref (clsK K c)) f = some none) (g : mg (Str.ofString c) = some (.ref (clsK K c))) (fn : fnm c = [f])
    (hbi : ∀ (kV doc pm : Value) (an : Option Addr) (cdv ct : Value) (us : List Value), us.length = ps.length → bindArgs (PySem.W.fnOf "__init__" qual (defArgs st) (defBody st) (defScope st) .none kV doc pm an cdv ct) ⟨us, []⟩ = pure (ps.zip us))
    (hbody : ∀ (cdv : Value) (A : Around) (outer : List Env) (s : Shared) (H : Hp) (E : XK), PSs (cxOf (L2.CX P w) P w K mg base ps qual (defScope st) fI cdv A outer s H E) (defBody st) (t_init K m f)) : ExcI P w K mg base fnm c f 2 := by
  refine ⟨fI, fd, ps, T, iC, tI, F.okX (k := 1) S (fun vs H Q E ⟨a, C, x, e, _⟩ => by subst e; exact hps.symm) (fun cdv A outer s H vs Q E hr h => ⟨t_init K m f, hbody cdv A outer s H E, pure_init hps h⟩), no, F.binds hbi, g, fn⟩
def isValB (r : Option PySem.W.CFound) (n : String) : Bool := match r with
  | some (.val (.builtin m)) => m == n
  | _ => false
theorem isValB_ok {r : Option PySem.W.CFound} {n : String} (h : isValB r n = true) : r = some (.val (.builtin n)) := by
  unfold isValB at h
  split at h
  · rw [beq_iff_eq.mp h]
  · cases h
def obB (K : PySem.W.Frag) (C0 : Addr) : Bool := eqO (PySem.W.specialIn K (.ref C0) "__getattribute__") (some (some (.builtin "type.__getattribute__"))) && (PySem.W.readsIn K C0 (.type "type") && isValB (PySem.W.findCls K (.ref C0) (.type "type") "__init__") "ValueError.__init__")
theorem obB_ok {C0 : Addr} (h : obB K C0 = true) : OBase K C0 := by
  obtain ⟨h1, h⟩ := ba h
  obtain ⟨h2, h3⟩ := ba h
  exact ⟨eqO_ok h1, h2, isValB_ok h3⟩
/-- an own exception class with a field f -/
def fldB (K : PySem.W.Frag) (c : String) (f : Str) : Bool := AH.oexB K (clsK K c) && (xfB K (clsK K c) && (eqO (PySem.W.findIn K (.ref (clsK K c)) f) (some none) && (eqO (PySem.W.findIn K (.ref (clsK K c)) "__init__") (some (some (.ref (fAd K (Str.ofString c, some "__init__"))))) && decide (PySem.W.typeIn K (.ref (fAd K (Str.ofString c, some "__init__"))) = some (.type "function")))))
structure FldC (K : PySem.W.Frag) (c : String) (f : Str) : Prop where
  oex : OexC K (clsK K c)
  xf : XfC K (clsK K c)
  no : PySem.W.findIn K (.ref (clsK K c)) f = some none
  iC : PySem.W.findIn K (.ref (clsK K c)) "__init__" = some (some (.ref (fAd K (Str.ofString c, some "__init__"))))
  tI : PySem.W.typeIn K (.ref (fAd K (Str.ofString c, some "__init__"))) = some (.type "function")
theorem fldB_ok {c : String} {f : Str} (h : fldB K c f = true) : FldC K c f := by
  obtain ⟨h1, h⟩ := ba h
  obtain ⟨h2, h⟩ := ba h
  obtain ⟨h3, h⟩ := ba h
  obtain ⟨h4, h5⟩ := ba h
  exact ⟨AH.oexB_ok h1, xfB_ok h2, eqO_ok h3, eqO_ok h4, of_decide_eq_true h5⟩
end
end AL

set_option Elab.async false
set_option linter.all false
set_option maxRecDepth 100000
set_option maxHeartbeats 0
namespace K22
open PySem PySem.Spec PyProof.Rows L2 AL He
def topS (i : Nat) : Stmt := PySem.Challenge.pw_downwords_k22_error_fields.main.body.getD i (.Pass ⟨0, 0, 0, 0⟩)
def exs : List String := ["InvalidAlphabet", "AlphabetMismatch", "InvalidDefinition", "NothingToUndo", "NothingToRedo", "InvalidProduct", "InvalidExpression", "InvalidProduction", "TooLarge", "TooMany", "NoSuchWord", "UnknownSymbol", "InvalidText", "UndefinedName", "CyclicDefinition"]
def flds : List (String × Str) := [("InvalidProduct", "index"), ("InvalidExpression", "index"), ("InvalidProduction", "index"), ("TooLarge", "limit"), ("TooMany", "limit"), ("NoSuchWord", "number"), ("UnknownSymbol", "symbol"), ("InvalidText", "line"), ("UndefinedName", "name"), ("CyclicDefinition", "name")]
def plain : List String := ["InvalidAlphabet", "AlphabetMismatch", "InvalidDefinition", "NothingToUndo", "NothingToRedo"]
def fnmE (c : String) : List Str := match flds.lookup c with
  | some f => [f]
  | none => []
def tab_InvalidAlphabet : String → Option Bool := fun c => if exs.contains c then some (c == "InvalidAlphabet") else none
def tab_AlphabetMismatch : String → Option Bool := fun c => if exs.contains c then some (c == "AlphabetMismatch") else none
def tab_InvalidDefinition : String → Option Bool := fun c => if exs.contains c then some (c == "InvalidDefinition") else none
def tab_NothingToUndo : String → Option Bool := fun c => if exs.contains c then some (c == "NothingToUndo") else none
def tab_NothingToRedo : String → Option Bool := fun c => if exs.contains c then some (c == "NothingToRedo") else none
def tab_InvalidProduct : String → Option Bool := fun c => if exs.contains c then some (c == "InvalidProduct") else none
def tab_InvalidExpression : String → Option Bool := fun c => if exs.contains c then some (c == "InvalidExpression") else none
def tab_InvalidProduction : String → Option Bool := fun c => if exs.contains c then some (c == "InvalidProduction") else none
def tab_TooLarge : String → Option Bool := fun c => if exs.contains c then some (c == "TooLarge") else none
def tab_TooMany : String → Option Bool := fun c => if exs.contains c then some (c == "TooMany") else none
def tab_NoSuchWord : String → Option Bool := fun c => if exs.contains c then some (c == "NoSuchWord") else none
def tab_UnknownSymbol : String → Option Bool := fun c => if exs.contains c then some (c == "UnknownSymbol") else none
def tab_InvalidText : String → Option Bool := fun c => if exs.contains c then some (c == "InvalidText") else none
def tab_UndefinedName : String → Option Bool := fun c => if exs.contains c then some (c == "UndefinedName") else none
def tab_CyclicDefinition : String → Option Bool := fun c => if exs.contains c then some (c == "CyclicDefinition") else none
def tab_DownwordsError : String → Option Bool := fun c => if exs.contains c then some true else none
def tab_ValueError : String → Option Bool := fun c => if exs.contains c then some true else none
def xf_index (c : String) : Bool := flds.contains (c, "index")
def xf_limit (c : String) : Bool := flds.contains (c, "limit")
def xf_number (c : String) : Bool := flds.contains (c, "number")
def xf_line (c : String) : Bool := flds.contains (c, "line")
def xf_symbol (c : String) : Bool := flds.contains (c, "symbol")
def xf_name (c : String) : Bool := flds.contains (c, "name")
structure Md (K : PySem.W.Frag) (mg : Str → Option Value) : Prop where
  ValueError : mg "ValueError" = none
  isinstance : mg "isinstance" = none
  len : mg "len" = none
  range : mg "range" = none
  d__law_begin : Df K mg "_law_begin" (topS 18)
  d__law_draw : Df K mg "_law_draw" (topS 19)
  d__law_pick : Df K mg "_law_pick" (topS 20)
  d__law_kinds : Df K mg "_law_kinds" (topS 21)
  g_InvalidAlphabet : mg "InvalidAlphabet" = some (.ref (clsK K "InvalidAlphabet"))
  g_AlphabetMismatch : mg "AlphabetMismatch" = some (.ref (clsK K "AlphabetMismatch"))
  g_InvalidDefinition : mg "InvalidDefinition" = some (.ref (clsK K "InvalidDefinition"))
  g_NothingToUndo : mg "NothingToUndo" = some (.ref (clsK K "NothingToUndo"))
  g_NothingToRedo : mg "NothingToRedo" = some (.ref (clsK K "NothingToRedo"))
  g_InvalidProduct : mg "InvalidProduct" = some (.ref (clsK K "InvalidProduct"))
  g_InvalidExpression : mg "InvalidExpression" = some (.ref (clsK K "InvalidExpression"))
  g_InvalidProduction : mg "InvalidProduction" = some (.ref (clsK K "InvalidProduction"))
  g_TooLarge : mg "TooLarge" = some (.ref (clsK K "TooLarge"))
  g_TooMany : mg "TooMany" = some (.ref (clsK K "TooMany"))
  g_NoSuchWord : mg "NoSuchWord" = some (.ref (clsK K "NoSuchWord"))
  g_UnknownSymbol : mg "UnknownSymbol" = some (.ref (clsK K "UnknownSymbol"))
  g_InvalidText : mg "InvalidText" = some (.ref (clsK K "InvalidText"))
  g_UndefinedName : mg "UndefinedName" = some (.ref (clsK K "UndefinedName"))
  g_CyclicDefinition : mg "CyclicDefinition" = some (.ref (clsK K "CyclicDefinition"))
  g_DownwordsError : mg "DownwordsError" = some (.ref (clsK K "DownwordsError"))
  tab_InvalidAlphabet : ∀ c b, tab_InvalidAlphabet c = some b → ExcC K (clsK K c) ∧ PySem.W.kitOne K (.ref (clsK K c)) (.ref (clsK K "InvalidAlphabet")) = some b
  tab_AlphabetMismatch : ∀ c b, tab_AlphabetMismatch c = some b → ExcC K (clsK K c) ∧ PySem.W.kitOne K (.ref (clsK K c)) (.ref (clsK K "AlphabetMismatch")) = some b
  tab_InvalidDefinition : ∀ c b, tab_InvalidDefinition c = some b → ExcC K (clsK K c) ∧ PySem.W.kitOne K (.ref (clsK K c)) (.ref (clsK K "InvalidDefinition")) = some b
  tab_NothingToUndo : ∀ c b, tab_NothingToUndo c = some b → ExcC K (clsK K c) ∧ PySem.W.kitOne K (.ref (clsK K c)) (.ref (clsK K "NothingToUndo")) = some b
  tab_NothingToRedo : ∀ c b, tab_NothingToRedo c = some b → ExcC K (clsK K c) ∧ PySem.W.kitOne K (.ref (clsK K c)) (.ref (clsK K "NothingToRedo")) = some b
  tab_InvalidProduct : ∀ c b, tab_InvalidProduct c = some b → ExcC K (clsK K c) ∧ PySem.W.kitOne K (.ref (clsK K c)) (.ref (clsK K "InvalidProduct")) = some b
  tab_InvalidExpression : ∀ c b, tab_InvalidExpression c = some b → ExcC K (clsK K c) ∧ PySem.W.kitOne K (.ref (clsK K c)) (.ref (clsK K "InvalidExpression")) = some b
  tab_InvalidProduction : ∀ c b, tab_InvalidProduction c = some b → ExcC K (clsK K c) ∧ PySem.W.kitOne K (.ref (clsK K c)) (.ref (clsK K "InvalidProduction")) = some b
  tab_TooLarge : ∀ c b, tab_TooLarge c = some b → ExcC K (clsK K c) ∧ PySem.W.kitOne K (.ref (clsK K c)) (.ref (clsK K "TooLarge")) = some b
  tab_TooMany : ∀ c b, tab_TooMany c = some b → ExcC K (clsK K c) ∧ PySem.W.kitOne K (.ref (clsK K c)) (.ref (clsK K "TooMany")) = some b
  tab_NoSuchWord : ∀ c b, tab_NoSuchWord c = some b → ExcC K (clsK K c) ∧ PySem.W.kitOne K (.ref (clsK K c)) (.ref (clsK K "NoSuchWord")) = some b
  tab_UnknownSymbol : ∀ c b, tab_UnknownSymbol c = some b → ExcC K (clsK K c) ∧ PySem.W.kitOne K (.ref (clsK K c)) (.ref (clsK K "UnknownSymbol")) = some b
  tab_InvalidText : ∀ c b, tab_InvalidText c = some b → ExcC K (clsK K c) ∧ PySem.W.kitOne K (.ref (clsK K c)) (.ref (clsK K "InvalidText")) = some b
  tab_UndefinedName : ∀ c b, tab_UndefinedName c = some b → ExcC K (clsK K c) ∧ PySem.W.kitOne K (.ref (clsK K c)) (.ref (clsK K "UndefinedName")) = some b
  tab_CyclicDefinition : ∀ c b, tab_CyclicDefinition c = some b → ExcC K (clsK K c) ∧ PySem.W.kitOne K (.ref (clsK K c)) (.ref (clsK K "CyclicDefinition")) = some b
  tab_DownwordsError : ∀ c b, tab_DownwordsError c = some b → ExcC K (clsK K c) ∧ PySem.W.kitOne K (.ref (clsK K c)) (.ref (clsK K "DownwordsError")) = some b
  tab_ValueError : ∀ c b, tab_ValueError c = some b → ExcC K (clsK K c) ∧ PySem.W.kitOne K (.ref (clsK K c)) (.type "ValueError") = some b
  xf_index : ∀ c, xf_index c = true → XfC K (clsK K c) ∧ PySem.W.findIn K (.ref (clsK K c)) "index" = some none ∧ fnmE c = [("index" : Str)]
  xf_limit : ∀ c, xf_limit c = true → XfC K (clsK K c) ∧ PySem.W.findIn K (.ref (clsK K c)) "limit" = some none ∧ fnmE c = [("limit" : Str)]
  xf_number : ∀ c, xf_number c = true → XfC K (clsK K c) ∧ PySem.W.findIn K (.ref (clsK K c)) "number" = some none ∧ fnmE c = [("number" : Str)]
  xf_line : ∀ c, xf_line c = true → XfC K (clsK K c) ∧ PySem.W.findIn K (.ref (clsK K c)) "line" = some none ∧ fnmE c = [("line" : Str)]
  xf_symbol : ∀ c, xf_symbol c = true → XfC K (clsK K c) ∧ PySem.W.findIn K (.ref (clsK K c)) "symbol" = some none ∧ fnmE c = [("symbol" : Str)]
  xf_name : ∀ c, xf_name c = true → XfC K (clsK K c) ∧ PySem.W.findIn K (.ref (clsK K c)) "name" = some none ∧ fnmE c = [("name" : Str)]
  ob : OBase K (clsK K "DownwordsError")
section
variable {P : Program} {w : World} {K : PySem.W.Frag} {mg : Str → Option Value} {base : Heap}
theorem sc__law_draw : FnScope ["_law_tape", "_law_many", "_law_place", "_law_count", "_law_cell", "_law_found"] ["_law_tape", "_law_many"] (defScope (topS 19)) := ⟨rfl, rfl, rfl, by decide +kernel, rfl, by decide +kernel, by decide +kernel⟩
theorem ok__law_draw (T : Md K mg) : Ok P w K mg base fnmE "_law_draw" 2 1 2 ["_law_tape", "_law_many"] w_draw :=
  okT T.d__law_draw (fun fd F => F.okX sc__law_draw (spF_len rfl) fun cdv A outer s H vs Q E hr h => ⟨t_draw K 2 3 4 5, (pss_cons (ps_if (pt_cmpR op_lt (pe_dget (hu_of hr) (pv 0) pe_str (fun _ _ => rfl)) (pv 1) (nomark _))
    (pss_cons (ps_par (i := 2) (j := 3) rfl sc__law_draw.nd rfl rfl (by decide) rfl rfl (pa_cons (pe_dget (hu_of hr) (pv 0) pe_str (fun _ _ => rfl)) (pa_cons (pe_callB call_len rfl T.len boot_len (pa_cons (pe_dget (hu_of hr) (pv 0) pe_str (fun _ _ => rfl)) pa_nil)) pa_nil)) rfl)
    (pss_cons (ps_asg (pe_tup (pa_cons (pe_ix ix_seq (pe_dget (hu_of hr) (pv 0) pe_str (fun _ _ => rfl)) (pe_op op_mod (pv 2) (pv 3)) fun _ _ => rfl) (pa_cons (pe_op op_add (pv 2) pe_int) pa_nil))) (pg_tup rfl (pgs_cons (pg_name (i := 4) sc__law_draw.nd rfl (by first | exact .inl rfl | exact .inr rfl)) (pgs_cons (pg_sub (pv 0) pe_str (set_dict (hu_of hr))) pgs_nil))))
    (pss_cons (ps_dput (hu_of hr) (pv 0) pe_str (pe_op op_mod (pe_op op_pow (pe_op op_add (pe_op op_add (pe_op op_mod (pv 4) pe_int) (pe_op op_mul pe_int (pv 2))) pe_int) pe_int) (pe_op op_add (pe_op op_pow pe_int pe_int) pe_int)) rfl)
    (pss_one (ps_if (PW.pt (pw_and (pt_cmpR op_ge (pv 4) (pe_op op_pow pe_int pe_int) (nomark _)) (pw_and1 (pt_cmpR op_lt (pv 2) (pv 3) (nomark _))))) (pss_one (ps_dput (hu_of hr) (pv 0) pe_str (pe_op op_sub (pv 4) (pe_op op_pow pe_int pe_int)) rfl)) pss_nil)))))
    pss_nil)
  (pss_cons (ps_asg (pe_tup (pa_cons (pe_op op_mod (pe_dget (hu_of hr) (pv 0) pe_str (fun _ _ => rfl)) (pv 1)) (pa_cons (pe_op op_fdiv (pe_dget (hu_of hr) (pv 0) pe_str (fun _ _ => rfl)) (pv 1)) pa_nil))) (pg_tup rfl (pgs_cons (pg_name (i := 5) sc__law_draw.nd rfl (by first | exact .inl rfl | exact .inr rfl)) (pgs_cons (pg_sub (pv 0) pe_str (set_dict (hu_of hr))) pgs_nil))))
  (pss_one (ps_ret (pv 5))))), pure_draw h⟩) (fun _ _ _ _ _ _ us hl => match us, hl with | [_, _], _ => rfl)
theorem sc__law_begin : FnScope ["_law_script"] ["_law_script"] (defScope (topS 18)) := ⟨rfl, rfl, rfl, by decide +kernel, rfl, by decide +kernel, by decide +kernel⟩
def OkB (P : Program) (w : World) (K : PySem.W.Frag) (mg : Str → Option Value) (base : Heap) : Prop := ∃ fd, FnOk P w K mg base (L2.CX P w) 2 (ga K "_law_begin") fd ["_law_script"] (spBegin K) ∧ mg "_law_begin" = some (.ref (ga K "_law_begin")) ∧ PySem.W.keepIn K (.ref (ga K "_law_begin")) = true ∧ Binds K fd ["_law_script"] []
theorem ok__law_begin (T : Md K mg) : OkB P w K mg base :=
  okT T.d__law_begin (fun fd F => F.okX sc__law_begin (fun vs H Q E ⟨_, _, e, _⟩ => by subst e; rfl) fun cdv A outer s H vs Q E hr h => ⟨t_begin K, (pss_one (ps_ret (pe_disp (pps_cons pe_str (pe_orT (pe_slice sl_list (pv 0) po_none (po_some pe_int)) (pe_one (pe_lst (pa_cons pe_int pa_nil)))) (pps_cons pe_str pe_int (pps_cons pe_str pe_int pps_nil))) rfl rfl (by simp) (by decide)))), pure_begin h⟩) (fun _ _ _ _ _ _ us hl => match us, hl with | [_], _ => rfl)
/-! ### _law_pick -/
def b__law_pick : AST := (sRet (aOp ixR (aVar 1) (aCall 1 2 w_draw (aCons (aVar 0) (aCons (aB lenR (aVar 1)) aNil)))))
def w__law_pick : WF := bodyW 2 b__law_pick
theorem sc__law_pick : FnScope ["_law_tape", "_law_items"] ["_law_tape", "_law_items"] (defScope (topS 20)) := ⟨rfl, rfl, rfl, by decide +kernel, rfl, by decide +kernel, by decide +kernel⟩
theorem ok__law_pick (T : Md K mg) (o__law_draw : Ok P w K mg base fnmE "_law_draw" 2 1 2 ["_law_tape", "_law_many"] w_draw) : Ok P w K mg base fnmE "_law_pick" 3 1 2 ["_law_tape", "_law_items"] w__law_pick :=
  okD T.d__law_pick sc__law_pick rfl rfl (fun _ _ _ _ _ _ us hl => match us, hl with | [_, _], _ => rfl) (fun _ _ _ _ h => h) fun f cdv A outer s H E tp F0 hr tk =>
  (dss_one (ds_ret (de_ix rfl (de_var 1 (pv 1)) (de_callO tk o__law_draw (hr.mono (by decide)) (da_cons (de_var 0 (pv 0)) (da_cons (de_len rfl T.len (de_var 1 (pv 1))) da_nil))))))
/-! ### _law_kinds -/
def b__law_kinds : AST := (sSeq (sAsg (aLst (aCons (aIsE tab_InvalidAlphabet (aVar 0)) (aCons (aIsE tab_AlphabetMismatch (aVar 0)) (aCons (aIsE tab_InvalidDefinition (aVar 0)) aNil)))) (gN 1))
  (sSeq (sAsg (aOp addR (aVar 1) (aLst (aCons (aIsE tab_NothingToUndo (aVar 0)) (aCons (aIsE tab_NothingToRedo (aVar 0)) (aCons (aIsE tab_InvalidProduct (aVar 0)) aNil))))) (gN 1))
  (sSeq (sAsg (aOp addR (aVar 1) (aLst (aCons (aIsE tab_InvalidExpression (aVar 0)) (aCons (aIsE tab_InvalidProduction (aVar 0)) (aCons (aIsE tab_TooLarge (aVar 0)) aNil))))) (gN 1))
  (sSeq (sAsg (aOp addR (aVar 1) (aLst (aCons (aIsE tab_TooMany (aVar 0)) (aCons (aIsE tab_NoSuchWord (aVar 0)) (aCons (aIsE tab_UnknownSymbol (aVar 0)) aNil))))) (gN 1))
  (sRet (aOp addR (aVar 1) (aLst (aCons (aIsE tab_InvalidText (aVar 0)) (aCons (aIsE tab_UndefinedName (aVar 0)) (aCons (aIsE tab_CyclicDefinition (aVar 0)) aNil))))))))))
def w__law_kinds : WF := bodyW 2 b__law_kinds
theorem sc__law_kinds : FnScope ["_law_e", "_law_found"] ["_law_e"] (defScope (topS 21)) := ⟨rfl, rfl, rfl, by decide +kernel, rfl, by decide +kernel, by decide +kernel⟩
theorem ok__law_kinds (T : Md K mg) : Ok P w K mg base fnmE "_law_kinds" 2 0 1 ["_law_e"] w__law_kinds :=
  okD T.d__law_kinds sc__law_kinds rfl rfl (fun _ _ _ _ _ _ us hl => match us, hl with | [_], _ => rfl) (fun _ _ _ _ h => h) fun f cdv A outer s H E tp F0 hr tk =>
  (dss_cons (ds_asg (de_lst (da_cons (de_isE "InvalidAlphabet" rfl T.isinstance T.g_InvalidAlphabet (de_var 0 (pv 0)) T.tab_InvalidAlphabet) (da_cons (de_isE "AlphabetMismatch" rfl T.isinstance T.g_AlphabetMismatch (de_var 0 (pv 0)) T.tab_AlphabetMismatch) (da_cons (de_isE "InvalidDefinition" rfl T.isinstance T.g_InvalidDefinition (de_var 0 (pv 0)) T.tab_InvalidDefinition) da_nil)))) (dg_name (pg_name (i := 1) sc__law_kinds.nd rfl (by first | exact .inl rfl | exact .inr rfl))))
  (dss_cons (ds_asg (de_add rfl (de_var 1 (pv 1)) (de_lst (da_cons (de_isE "NothingToUndo" rfl T.isinstance T.g_NothingToUndo (de_var 0 (pv 0)) T.tab_NothingToUndo) (da_cons (de_isE "NothingToRedo" rfl T.isinstance T.g_NothingToRedo (de_var 0 (pv 0)) T.tab_NothingToRedo) (da_cons (de_isE "InvalidProduct" rfl T.isinstance T.g_InvalidProduct (de_var 0 (pv 0)) T.tab_InvalidProduct) da_nil))))) (dg_name (pg_name (i := 1) sc__law_kinds.nd rfl (by first | exact .inl rfl | exact .inr rfl))))
  (dss_cons (ds_asg (de_add rfl (de_var 1 (pv 1)) (de_lst (da_cons (de_isE "InvalidExpression" rfl T.isinstance T.g_InvalidExpression (de_var 0 (pv 0)) T.tab_InvalidExpression) (da_cons (de_isE "InvalidProduction" rfl T.isinstance T.g_InvalidProduction (de_var 0 (pv 0)) T.tab_InvalidProduction) (da_cons (de_isE "TooLarge" rfl T.isinstance T.g_TooLarge (de_var 0 (pv 0)) T.tab_TooLarge) da_nil))))) (dg_name (pg_name (i := 1) sc__law_kinds.nd rfl (by first | exact .inl rfl | exact .inr rfl))))
  (dss_cons (ds_asg (de_add rfl (de_var 1 (pv 1)) (de_lst (da_cons (de_isE "TooMany" rfl T.isinstance T.g_TooMany (de_var 0 (pv 0)) T.tab_TooMany) (da_cons (de_isE "NoSuchWord" rfl T.isinstance T.g_NoSuchWord (de_var 0 (pv 0)) T.tab_NoSuchWord) (da_cons (de_isE "UnknownSymbol" rfl T.isinstance T.g_UnknownSymbol (de_var 0 (pv 0)) T.tab_UnknownSymbol) da_nil))))) (dg_name (pg_name (i := 1) sc__law_kinds.nd rfl (by first | exact .inl rfl | exact .inr rfl))))
  (dss_one (ds_ret (de_add rfl (de_var 1 (pv 1)) (de_lst (da_cons (de_isE "InvalidText" rfl T.isinstance T.g_InvalidText (de_var 0 (pv 0)) T.tab_InvalidText) (da_cons (de_isE "UndefinedName" rfl T.isinstance T.g_UndefinedName (de_var 0 (pv 0)) T.tab_UndefinedName) (da_cons (de_isE "CyclicDefinition" rfl T.isinstance T.g_CyclicDefinition (de_var 0 (pv 0)) T.tab_CyclicDefinition) da_nil)))))))))))
/-! ### law -/
def b_law : AST := (sSeq (sPar2 (aOp subR (aCall 1 2 w_draw (aCons (aVar 1) (aCons (aOp powR (aC (.int 10)) (aC (.int 9))) aNil))) (aC (.int 3))) (aCall 1 2 w__law_pick (aCons (aVar 1) (aCons (aLst (aCons (aC (.str [120])) (aCons (aC (.str [83])) (aCons (aC .non) (aCons (aC (.str [97, 98, 99])) aNil))))) aNil))) 5 false 6 false)
  (sSeq (sAsg (aLst (aCons (aExc0 "InvalidAlphabet") (aCons (aExc0 "AlphabetMismatch") (aCons (aExc0 "InvalidDefinition") (aCons (aExc0 "NothingToUndo") (aCons (aExc0 "NothingToRedo") aNil)))))) (gN 2))
  (sSeq (sAsg (aOp addR (aVar 2) (aLst (aCons (aExcV "InvalidProduct" (aCons (aVar 5) aNil)) (aCons (aExcV "InvalidExpression" (aCons (aVar 5) aNil)) (aCons (aExcV "InvalidProduction" (aCons (aVar 5) aNil)) (aCons (aExcV "TooLarge" (aCons (aVar 5) aNil)) aNil)))))) (gN 2))
  (sSeq (sAsg (aOp addR (aVar 2) (aLst (aCons (aExcV "TooMany" (aCons (aVar 5) aNil)) (aCons (aExcV "NoSuchWord" (aCons (aVar 5) aNil)) (aCons (aExcV "UnknownSymbol" (aCons (aVar 6) aNil)) (aCons (aExcV "InvalidText" (aCons (aVar 5) aNil)) aNil)))))) (gN 2))
  (sSeq (sAsg (aOp addR (aVar 2) (aLst (aCons (aExcV "UndefinedName" (aCons (aVar 6) aNil)) (aCons (aExcV "CyclicDefinition" (aCons (aVar 6) aNil)) aNil)))) (gN 2))
  (sSeq (sFor (aIR1 (aB lenR (aVar 2))) (gN 3) (sSeq (sAsg (aCall 0 1 w__law_kinds (aCons (aOp ixR (aVar 2) (aVar 3)) aNil)) (gN 7))
  (sSeq (sIf (aCmpT neR (aLc (aIR1 (aB lenR (aVar 7))) (gN 8) (aTru (aOp ixR (aVar 7) (aVar 8))) (aVar 8) [8]) (aLst (aCons (aVar 3) aNil))) (sRet (aC (.bl false))) sNil)
  (sIf (aOr (aNot (aTru (aIsE tab_DownwordsError (aOp ixR (aVar 2) (aVar 3))))) (aNot (aTru (aIsE tab_ValueError (aOp ixR (aVar 2) (aVar 3)))))) (sRet (aC (.bl false))) sNil))))
  (sSeq (sAsg (aLst (aCons (aXf xf_index (aOp ixR (aVar 2) (aC (.int 5)))) (aCons (aXf xf_index (aOp ixR (aVar 2) (aC (.int 6)))) (aCons (aXf xf_index (aOp ixR (aVar 2) (aC (.int 7)))) (aCons (aXf xf_limit (aOp ixR (aVar 2) (aC (.int 8)))) (aCons (aXf xf_limit (aOp ixR (aVar 2) (aC (.int 9)))) (aCons (aXf xf_number (aOp ixR (aVar 2) (aC (.int 10)))) (aCons (aXf xf_line (aOp ixR (aVar 2) (aC (.int 12)))) aNil)))))))) (gN 4))
  (sRet (aAndV (aCmp eqR (aVar 4) (aOp mulR (aLst (aCons (aVar 5) aNil)) (aC (.int 7)))) (aCmp eqR (aLst (aCons (aXf xf_symbol (aOp ixR (aVar 2) (aC (.int 11)))) (aCons (aXf xf_name (aOp ixR (aVar 2) (aC (.int 13)))) (aCons (aXf xf_name (aOp ixR (aVar 2) (aC (.int 14)))) aNil)))) (aOp mulR (aLst (aCons (aVar 6) aNil)) (aC (.int 3)))))))))))))
theorem sc_law : FnScope ["_law_script", "_law_tape", "_law_made", "_law_k", "_law_told", "_law_number", "_law_name", "_law_kinds_here", "_law_place"] ["_law_script"] (defScope (topS 22)) := ⟨rfl, rfl, rfl, by decide +kernel, rfl, by decide +kernel, by decide +kernel⟩
abbrev LawOk : Prop := b_law (.un :: .pv (.opq 0) :: List.replicate 7 .un) ⟨fun _ => False, fun r => r = .pv (.bl true), fun _ => False, fun _ => False, noX⟩
theorem ok_law (T : Md K mg) (o__law_begin : OkB P w K mg base) (o__law_draw : Ok P w K mg base fnmE "_law_draw" 2 1 2 ["_law_tape", "_law_many"] w_draw) (o__law_pick : Ok P w K mg base fnmE "_law_pick" 3 1 2 ["_law_tape", "_law_items"] w__law_pick) (o__law_kinds : Ok P w K mg base fnmE "_law_kinds" 2 0 1 ["_law_e"] w__law_kinds) (X_CyclicDefinition : ExcI P w K mg base fnmE "CyclicDefinition" "name" 2) (X_InvalidExpression : ExcI P w K mg base fnmE "InvalidExpression" "index" 2) (X_InvalidProduct : ExcI P w K mg base fnmE "InvalidProduct" "index" 2) (X_InvalidProduction : ExcI P w K mg base fnmE "InvalidProduction" "index" 2) (X_InvalidText : ExcI P w K mg base fnmE "InvalidText" "line" 2) (X_NoSuchWord : ExcI P w K mg base fnmE "NoSuchWord" "number" 2) (X_TooLarge : ExcI P w K mg base fnmE "TooLarge" "limit" 2) (X_TooMany : ExcI P w K mg base fnmE "TooMany" "limit" 2) (X_UndefinedName : ExcI P w K mg base fnmE "UndefinedName" "name" 2) (X_UnknownSymbol : ExcI P w K mg base fnmE "UnknownSymbol" "symbol" 2) (X_AlphabetMismatch : ExcN K mg "AlphabetMismatch") (X_InvalidAlphabet : ExcN K mg "InvalidAlphabet") (X_InvalidDefinition : ExcN K mg "InvalidDefinition") (X_NothingToRedo : ExcN K mg "NothingToRedo") (X_NothingToUndo : ExcN K mg "NothingToUndo") (pl : LawOk) {fd : FuncData} (F : Fun K "law" "law" (topS 22) (ga K "law") fd) : FnOk P w K mg base (L2.CX P w) 4 (ga K "law") fd ["_law_script"] (spLaw K) := by
  obtain ⟨fdB, FB, gB, kB, bB⟩ := o__law_begin
  exact okLaw (cls := clsK K) (fnm := fnmE) (c := 2) (b := b_law) F sc_law rfl (by decide) (by decide) (by decide) (fun cdv A outer s H E hr tk => ps_asg (pe_call FB (hr.mono (by decide)) rfl gB kB bB .nil (passes_call tk fun _ _ _ _ h => h) (pa_cons (pv 0) pa_nil)) (pg_name (i := 1) sc_law.nd rfl (by first | exact .inl rfl | exact .inr rfl))) (fun cdv A outer s H E Tp F0 H0 hr tk =>
  (dss_cons (ds_par2 (i := 5) (k := false) (j := 6) (l := false) sc_law.nd (de_sub (de_callO tk o__law_draw (hr.mono (by decide)) (da_cons (de_var 1 (pv 1)) (da_cons (de_pow de_int de_int) da_nil))) de_int) (de_callO tk o__law_pick (hr.mono (by decide)) (da_cons (de_var 1 (pv 1)) (da_cons (de_lst (da_cons (de_str [120]) (da_cons (de_str [83]) (da_cons de_non (da_cons (de_str [97, 98, 99]) da_nil))))) da_nil))))
  (dss_cons (ds_asg (de_lst (da_cons (de_excN "InvalidAlphabet" X_InvalidAlphabet) (da_cons (de_excN "AlphabetMismatch" X_AlphabetMismatch) (da_cons (de_excN "InvalidDefinition" X_InvalidDefinition) (da_cons (de_excN "NothingToUndo" X_NothingToUndo) (da_cons (de_excN "NothingToRedo" X_NothingToRedo) da_nil)))))) (dg_name (pg_name (i := 2) sc_law.nd rfl (by first | exact .inl rfl | exact .inr rfl))))
  (dss_cons (ds_asg (de_add rfl (de_var 2 (pv 2)) (de_lst (da_cons (de_excO "InvalidProduct" tk X_InvalidProduct (hr.mono (by decide)) (da_cons (de_var 5 (pv 5)) da_nil)) (da_cons (de_excO "InvalidExpression" tk X_InvalidExpression (hr.mono (by decide)) (da_cons (de_var 5 (pv 5)) da_nil)) (da_cons (de_excO "InvalidProduction" tk X_InvalidProduction (hr.mono (by decide)) (da_cons (de_var 5 (pv 5)) da_nil)) (da_cons (de_excO "TooLarge" tk X_TooLarge (hr.mono (by decide)) (da_cons (de_var 5 (pv 5)) da_nil)) da_nil)))))) (dg_name (pg_name (i := 2) sc_law.nd rfl (by first | exact .inl rfl | exact .inr rfl))))
  (dss_cons (ds_asg (de_add rfl (de_var 2 (pv 2)) (de_lst (da_cons (de_excO "TooMany" tk X_TooMany (hr.mono (by decide)) (da_cons (de_var 5 (pv 5)) da_nil)) (da_cons (de_excO "NoSuchWord" tk X_NoSuchWord (hr.mono (by decide)) (da_cons (de_var 5 (pv 5)) da_nil)) (da_cons (de_excO "UnknownSymbol" tk X_UnknownSymbol (hr.mono (by decide)) (da_cons (de_var 6 (pv 6)) da_nil)) (da_cons (de_excO "InvalidText" tk X_InvalidText (hr.mono (by decide)) (da_cons (de_var 5 (pv 5)) da_nil)) da_nil)))))) (dg_name (pg_name (i := 2) sc_law.nd rfl (by first | exact .inl rfl | exact .inr rfl))))
  (dss_cons (ds_asg (de_add rfl (de_var 2 (pv 2)) (de_lst (da_cons (de_excO "UndefinedName" tk X_UndefinedName (hr.mono (by decide)) (da_cons (de_var 6 (pv 6)) da_nil)) (da_cons (de_excO "CyclicDefinition" tk X_CyclicDefinition (hr.mono (by decide)) (da_cons (de_var 6 (pv 6)) da_nil)) da_nil)))) (dg_name (pg_name (i := 2) sc_law.nd rfl (by first | exact .inl rfl | exact .inr rfl))))
  (dss_cons (ds_for (passes_of rfl) rfl (di_range1 T.range (de_len rfl T.len (de_var 2 (pv 2)))) (dg_name (pg_name (i := 3) sc_law.nd rfl (by first | exact .inl rfl | exact .inr rfl))) (dss_cons (ds_asg (de_callO tk o__law_kinds (hr.mono (by decide)) (da_cons (de_ix rfl (de_var 2 (pv 2)) (de_var 3 (pv 3))) da_nil)) (dg_name (pg_name (i := 7) sc_law.nd rfl (by first | exact .inl rfl | exact .inr rfl))))
  (dss_cons (ds_if (dt_ne rfl hr (de_lc (own := [("_law_place", 8)]) rfl sc_law.nd (blkOk_by (N := ["_law_script", "_law_tape", "_law_made", "_law_k", "_law_told", "_law_number", "_law_name", "_law_kinds_here", "_law_place"]) (sc := defScope (topS 22)) (by decide +kernel)) (di_x (di_range1 T.range (de_len rfl T.len (de_var 7 (pv 7))))) (fun _ _ _ _ _ => (dg_name (pg_name (i := 8) sc_law.nd rfl (by first | exact .inl rfl | exact .inr rfl)))) (fun _ _ _ _ _ => (dts_one (dt_val (de_ix rfl (de_var 7 (pv 7)) (de_var 8 (pv 8)))))) (fun _ _ _ _ _ => (de_var 8 (pv 8)))) (de_lst (da_cons (de_var 3 (pv 3)) da_nil))) (dss_one (ds_ret de_bl)) dss_nil)
  (dss_one (ds_if (dt_bop (dw_or (dt_not (dt_val (de_isE "DownwordsError" rfl T.isinstance T.g_DownwordsError (de_ix rfl (de_var 2 (pv 2)) (de_var 3 (pv 3))) T.tab_DownwordsError))) (dw_or1 (dt_not (dt_val (de_isEt "ValueError" rfl T.isinstance T.ValueError (de_ix rfl (de_var 2 (pv 2)) (de_var 3 (pv 3))) T.tab_ValueError)))))) (dss_one (ds_ret de_bl)) dss_nil)))))
  (dss_cons (ds_asg (de_lst (da_cons (de_xf rfl (de_ix rfl (de_var 2 (pv 2)) de_int) T.xf_index) (da_cons (de_xf rfl (de_ix rfl (de_var 2 (pv 2)) de_int) T.xf_index) (da_cons (de_xf rfl (de_ix rfl (de_var 2 (pv 2)) de_int) T.xf_index) (da_cons (de_xf rfl (de_ix rfl (de_var 2 (pv 2)) de_int) T.xf_limit) (da_cons (de_xf rfl (de_ix rfl (de_var 2 (pv 2)) de_int) T.xf_limit) (da_cons (de_xf rfl (de_ix rfl (de_var 2 (pv 2)) de_int) T.xf_number) (da_cons (de_xf rfl (de_ix rfl (de_var 2 (pv 2)) de_int) T.xf_line) da_nil)))))))) (dg_name (pg_name (i := 4) sc_law.nd rfl (by first | exact .inl rfl | exact .inr rfl))))
  (dss_one (ds_ret (de_and (de_eq rfl hr (de_var 4 (pv 4)) (de_mul (de_lst (da_cons (de_var 5 (pv 5)) da_nil)) de_int)) (de_one (de_eq rfl hr (de_lst (da_cons (de_xf rfl (de_ix rfl (de_var 2 (pv 2)) de_int) T.xf_symbol) (da_cons (de_xf rfl (de_ix rfl (de_var 2 (pv 2)) de_int) T.xf_name) (da_cons (de_xf rfl (de_ix rfl (de_var 2 (pv 2)) de_int) T.xf_name) da_nil)))) (de_mul (de_lst (da_cons (de_var 6 (pv 6)) da_nil)) de_int)))))))))))))) pl
end
end K22

set_option Elab.async false
set_option linter.all false
set_option maxRecDepth 100000
set_option maxHeartbeats 0
namespace K22
open PySem PySem.Spec PyProof.Rows L2 AL He
theorem small {n : Nat} (h : n ≤ 1000 := by first | decide | simp) : n ≤ sizeLine := by rw [sizeLine_eq]; omega
theorem kinds_ok (c : String) (ds : List D) (hc : c ∈ exs) (P : R → Prop) (PX : Ex → Prop) (h : P (.ol (exs.map fun c2 => .bl (c == c2)))) : w__law_kinds [.exc c ds] P PX := by
  have e : ∀ c2, (if exs.contains c = true then some (c == c2) else none) = some (c == c2) := fun c2 => by rw [if_pos (by simpa using hc)]
  refine ⟨c, ds, _, rfl, e _, _, rfl, c, ds, _, rfl, e _, _, rfl, c, ds, _, rfl, e _, _, rfl, small, _, rfl, ?_⟩
  refine ⟨c, ds, _, rfl, e _, _, rfl, c, ds, _, rfl, e _, _, rfl, c, ds, _, rfl, e _, _, rfl, small, _, _, rfl, rfl, small, _, rfl, ?_⟩
  refine ⟨c, ds, _, rfl, e _, _, rfl, c, ds, _, rfl, e _, _, rfl, c, ds, _, rfl, e _, _, rfl, small, _, _, rfl, rfl, small, _, rfl, ?_⟩
  refine ⟨c, ds, _, rfl, e _, _, rfl, c, ds, _, rfl, e _, _, rfl, c, ds, _, rfl, e _, _, rfl, small, _, _, rfl, rfl, small, _, rfl, ?_⟩
  refine ⟨c, ds, _, rfl, e _, _, rfl, c, ds, _, rfl, e _, _, rfl, c, ds, _, rfl, e _, _, rfl, small, _, _, rfl, rfl, small, ?_⟩
  exact h
theorem var_pv {α : List AS} {i : Nat} {d : D} (h : α[i]? = some (.pv d)) (P : R → Prop) (PX : Ex → Prop) (p : P (.pv d)) : (aVar i).run α P PX := by
  unfold aVar; dsimp only; rw [h]; exact p
theorem atI_nat {β : Type} {xs : List β} {j : Nat} {x : β} (h : xs[j]? = some x) : atI xs (j : Int) = some x := by
  have hj : j < xs.length := (List.getElem?_eq_some_iff.mp h).1
  unfold atI ixN
  rw [if_pos (by omega), if_pos (by omega)]
  simpa using h
/-- [place for place in range(..) if kinds[place]] -/
theorem pick_ok (bs : List Bool) (P : List D → Prop) : ∀ (m i : Nat) (α : List AS) (acc : List D), i + m = bs.length → acc.length + m ≤ 1000 → α[7]? = some (.pv (.lst (bs.map .bl))) → α.length = 9 →
    P (acc ++ ((List.range' i m).filter fun j => bs.getD j false).map fun (j : Nat) => D.int (j : Int)) → lcL (gN 8) (aTru (aOp ixR (aVar 7) (aVar 8))) (aVar 8) α P ((List.range' i m).map fun (j : Nat) => D.int (j : Int)) acc
  | 0, i, α, acc, _, _, _, _, p => by simpa [lcL] using p
  | m + 1, i, α, acc, e, hz, h7, hl, p => by
    rw [List.range'_succ] at p ⊢
    rw [List.map_cons]
    refine ⟨by rw [sizeLine_eq]; omega, ?_⟩
    have h8 : (α.set 8 (.pv (.int (i : Int))))[8]? = some (.pv (.int (i : Int))) := by rw [List.getElem?_set_self (by omega)]
    have h7' : (α.set 8 (.pv (.int (i : Int))))[7]? = some (.pv (.lst (bs.map .bl))) := by rw [List.getElem?_set_ne (by decide)]; exact h7
    have hb : bs[i]? = some (bs.getD i false) := by rw [List.getElem?_eq_getElem (by omega)]; simp [List.getD, List.getElem?_eq_getElem (show i < bs.length by omega)]
    dsimp only [gN, aTru, aOp]
    refine var_pv h7' _ _ (var_pv h8 _ _ ?_)
    refine ⟨_, _, rfl, atI_nat (x := .bl (bs.getD i false)) (by rw [List.getElem?_map, hb]; rfl), _, rfl, ?_⟩
    cases hv : bs.getD i false with
    | true =>
      rw [List.filter_cons_of_pos (by simpa using hv)] at p
      refine ifT rfl (var_pv h8 _ _ ?_)
      refine ⟨_, rfl, ?_⟩
      exact pick_ok bs P m (i + 1) _ _ (by omega) (by rw [List.length_append]; simp; omega) h7 hl (by simpa using p)
    | false =>
      rw [List.filter_cons_of_neg (by simpa using hv)] at p
      refine ifF rfl ?_
      exact pick_ok bs P m (i + 1) _ _ (by omega) (by omega) h7 hl p
def made (n nm : D) : List D := [.exc "InvalidAlphabet" [], .exc "AlphabetMismatch" [], .exc "InvalidDefinition" [], .exc "NothingToUndo" [], .exc "NothingToRedo" [], .exc "InvalidProduct" [n], .exc "InvalidExpression" [n], .exc "InvalidProduction" [n], .exc "TooLarge" [n], .exc "TooMany" [n], .exc "NoSuchWord" [n], .exc "UnknownSymbol" [nm], .exc "InvalidText" [n], .exc "UndefinedName" [nm], .exc "CyclicDefinition" [nm]]
theorem made_at (n nm : D) : ∀ k, k < 15 → ∃ ds, (made n nm)[k]? = some (.exc (exs.getD k "") ds) ∧ exs.getD k "" ∈ exs ∧ ((List.range' 0 15).filter fun j => (exs.map fun c2 => (exs.getD k "" == c2)).getD j false) = [k]
  | 0, _ => ⟨_, rfl, by decide, by decide⟩
  | 1, _ => ⟨_, rfl, by decide, by decide⟩
  | 2, _ => ⟨_, rfl, by decide, by decide⟩
  | 3, _ => ⟨_, rfl, by decide, by decide⟩
  | 4, _ => ⟨_, rfl, by decide, by decide⟩
  | 5, _ => ⟨_, rfl, by decide, by decide⟩
  | 6, _ => ⟨_, rfl, by decide, by decide⟩
  | 7, _ => ⟨_, rfl, by decide, by decide⟩
  | 8, _ => ⟨_, rfl, by decide, by decide⟩
  | 9, _ => ⟨_, rfl, by decide, by decide⟩
  | 10, _ => ⟨_, rfl, by decide, by decide⟩
  | 11, _ => ⟨_, rfl, by decide, by decide⟩
  | 12, _ => ⟨_, rfl, by decide, by decide⟩
  | 13, _ => ⟨_, rfl, by decide, by decide⟩
  | 14, _ => ⟨_, rfl, by decide, by decide⟩
  | k + 15, h => absurd h (by omega)
/-- the slots in the loop -/
def al (n nm : D) (x3 x7 x8 : AS) : List AS := [.un, .pv (.opq 0), .pv (.lst (made n nm)), x3, .un, .pv n, .pv nm, x7, x8]
theorem eq_one (k : Nat) : dOk (.lst [.int (k : Int)]) = true ∧ dEq (.lst [.int (k : Int)]) (.lst [.int (k : Int)]) = true := by
  refine ⟨rfl, ?_⟩
  simp [dEq, toP, toPs, PyData.eqv, PyData.eqvAll]
def PP : Pst := ⟨fun _ => False, fun r => r = .pv (.bl true), fun _ => False, fun _ => False, noX⟩
theorem turn_ok (n nm : D) (k : Nat) (hk : k < 15) (x3 x7 x8 : AS) (P : Pst) (h : P.nx (al n nm (.pv (.int (k : Int))) (.pv (.lst ((exs.map fun c2 => exs.getD k "" == c2).map .bl))) x8)) :
    (sSeq (sAsg (aCall 0 1 w__law_kinds (aCons (aOp ixR (aVar 2) (aVar 3)) aNil)) (gN 7))
  (sSeq (sIf (aCmpT neR (aLc (aIR1 (aB lenR (aVar 7))) (gN 8) (aTru (aOp ixR (aVar 7) (aVar 8))) (aVar 8) [8]) (aLst (aCons (aVar 3) aNil))) (sRet (aC (.bl false))) sNil)
  (sIf (aOr (aNot (aTru (aIsE tab_DownwordsError (aOp ixR (aVar 2) (aVar 3))))) (aNot (aTru (aIsE tab_ValueError (aOp ixR (aVar 2) (aVar 3)))))) (sRet (aC (.bl false))) sNil))).run (al n nm (.pv (.int (k : Int))) x7 x8) P := by
  obtain ⟨ds, hm, hc, hp⟩ := made_at n nm k hk
  have hat : atI (made n nm) (k : Int) = some (.exc (exs.getD k "") ds) := atI_nat hm
  have hcc : exs.contains (exs.getD k "") = true := by simpa using hc
  generalize exs.getD k "" = c at hm hc hp hat hcc h
  refine ⟨_, _, rfl, hat, _, rfl, rfl, kinds_ok c ds hc _ _ ⟨_, rfl, ?_⟩⟩
  have hmm : (exs.map fun c2 => D.bl (c == c2)) = (exs.map fun c2 => c == c2).map .bl := by rw [List.map_map]; rfl
  rw [hmm]
  have hl : (exs.map fun c2 => c == c2).length = 15 := by rw [List.length_map]; rfl
  generalize (exs.map fun c2 => c == c2) = bs at hl hp h
  refine ⟨_, rfl, _, rfl, by simp, by simp [hl], ?_⟩
  have e15 : ((List.range ((bs.map D.bl).length : Int).toNat).map fun (i : Nat) => D.int (i : Int)) = (List.range' 0 15).map fun (j : Nat) => D.int (j : Int) := by
    rw [List.length_map, hl, List.range_eq_range']; rfl
  rw [e15]
  refine pick_ok bs _ 15 0 _ [] (by rw [hl]) (by simp) rfl rfl ?_
  rw [hp]
  refine ⟨_, rfl, small, _, _, rfl, rfl, (eq_one k).1, (eq_one k).1, ?_⟩
  have eq2 : dEq (.lst ([] ++ List.map (fun (j : Nat) => D.int (j : Int)) [k])) (.lst [.int (k : Int)]) = true := (eq_one k).2
  refine ifF (by rw [eq2]; rfl) ?_
  have tD : tab_DownwordsError c = some true := by unfold tab_DownwordsError; rw [if_pos hcc]
  have tV : tab_ValueError c = some true := by unfold tab_ValueError; rw [if_pos hcc]
  refine ⟨_, _, rfl, hat, c, ds, true, rfl, tD, true, rfl, ?_⟩
  refine ifF rfl ⟨_, _, rfl, hat, c, ds, true, rfl, tV, true, rfl, ?_⟩
  exact ifF rfl h
theorem loop_ok (n nm : D) (P : Pst) (h : ∀ x3 x7 x8, P.nx (al n nm x3 x7 x8)) : ∀ (m k : Nat) (x3 x7 x8 : AS), k + m = 15 → forL (gN 3) (sSeq (sAsg (aCall 0 1 w__law_kinds (aCons (aOp ixR (aVar 2) (aVar 3)) aNil)) (gN 7))
  (sSeq (sIf (aCmpT neR (aLc (aIR1 (aB lenR (aVar 7))) (gN 8) (aTru (aOp ixR (aVar 7) (aVar 8))) (aVar 8) [8]) (aLst (aCons (aVar 3) aNil))) (sRet (aC (.bl false))) sNil)
  (sIf (aOr (aNot (aTru (aIsE tab_DownwordsError (aOp ixR (aVar 2) (aVar 3))))) (aNot (aTru (aIsE tab_ValueError (aOp ixR (aVar 2) (aVar 3)))))) (sRet (aC (.bl false))) sNil))) P ((List.range' k m).map fun (j : Nat) => D.int (j : Int)) (al n nm x3 x7 x8)
  | 0, k, x3, x7, x8, _ => h x3 x7 x8
  | m + 1, k, x3, x7, x8, e => turn_ok n nm k (by omega) x3 x7 x8 _ (loop_ok n nm P h m (k + 1) (.pv (.int (k : Int))) (.pv (.lst ((exs.map fun c2 => exs.getD k "" == c2).map .bl))) x8 (by omega))
theorem dEq_rfl7 (n : Int) : dOk (.lst [.int n, .int n, .int n, .int n, .int n, .int n, .int n]) = true ∧ dEq (.lst [.int n, .int n, .int n, .int n, .int n, .int n, .int n]) (.lst [.int n, .int n, .int n, .int n, .int n, .int n, .int n]) = true := by
  refine ⟨rfl, ?_⟩
  simp [dEq, toP, toPs, PyData.eqv, PyData.eqvAll]
theorem law_ok : LawOk := by
  show b_law.run _ PP
  refine ⟨_, rfl, ⟨⟨by decide, by decide, by decide⟩, _, rfl, rfl, 0, _, rfl, by decide, by decide, fun r r1 r2 => ?_⟩⟩
  refine ⟨_, rfl, _, rfl, _, rfl, _, rfl, _, rfl, _, rfl, small, _, rfl, rfl, ?_⟩
  refine ⟨_, rfl, _, rfl, _, rfl, rfl, 0, _, rfl, by decide, by decide, fun q q1 q2 => ?_⟩
  obtain ⟨nm, hat, h1, h2⟩ : ∃ nm, atI [D.str [120], .str [83], .non, .str [97, 98, 99]] q = some nm ∧ dOk (.lst [nm, nm, nm]) = true ∧ dEq (.lst [nm, nm, nm]) (.lst [nm, nm, nm]) = true := by
    have q3 : q < 4 := q2
    rcases (show q = 0 ∨ q = 1 ∨ q = 2 ∨ q = 3 by omega) with e | e | e | e <;> subst e
    · exact ⟨.str [120], rfl, by decide +kernel, by decide +kernel⟩
    · exact ⟨.str [83], rfl, by decide +kernel, by decide +kernel⟩
    · exact ⟨.non, rfl, by decide +kernel, by decide +kernel⟩
    · exact ⟨.str [97, 98, 99], rfl, by decide +kernel, by decide +kernel⟩
  refine ⟨_, _, rfl, hat, _, rfl, ?_⟩
  generalize ((fun (i j : Int) => i - j) r 3) = n
  refine ⟨_, rfl, _, rfl, _, rfl, _, rfl, _, rfl, small, _, rfl, ?_⟩
  refine ⟨_, rfl, rfl, _, rfl, _, rfl, rfl, _, rfl, _, rfl, rfl, _, rfl, _, rfl, rfl, _, rfl, small, _, _, rfl, rfl, small, _, rfl, ?_⟩
  refine ⟨_, rfl, rfl, _, rfl, _, rfl, rfl, _, rfl, _, rfl, rfl, _, rfl, _, rfl, rfl, _, rfl, small, _, _, rfl, rfl, small, _, rfl, ?_⟩
  refine ⟨_, rfl, rfl, _, rfl, _, rfl, rfl, _, rfl, small, _, _, rfl, rfl, small, _, rfl, ?_⟩
  refine ⟨_, rfl, _, rfl, by simp, by simp, ?_⟩
  refine loop_ok (.int n) nm _ (fun x3 x7 x8 => ?_) 15 0 .un .un .un rfl
  have xi : ∀ c, xf_index c = true → xf_index c = true := fun _ h => h
  refine ⟨_, _, rfl, rfl, _, _, rfl, by decide, _, rfl, _, _, rfl, rfl, _, _, rfl, by decide, _, rfl, _, _, rfl, rfl, _, _, rfl, by decide, _, rfl, _, _, rfl, rfl, _, _, rfl, by decide, _, rfl, _, _, rfl, rfl, _, _, rfl, by decide, _, rfl, _, _, rfl, rfl, _, _, rfl, by decide, _, rfl, _, _, rfl, rfl, _, _, rfl, by decide, _, rfl, small, _, rfl, ?_⟩
  refine ⟨_, rfl, small, _, rfl, by decide, by decide, (small : 7 ≤ sizeLine), _, _, rfl, rfl, (dEq_rfl7 n).1, (dEq_rfl7 n).1, _, rfl, ?_⟩
  refine ifT (dEq_rfl7 n).2 ?_
  refine ⟨_, _, rfl, rfl, _, _, rfl, by decide, _, rfl, _, _, rfl, rfl, _, _, rfl, by decide, _, rfl, _, _, rfl, rfl, _, _, rfl, by decide, _, rfl, small, ?_⟩
  refine ⟨_, rfl, small, _, rfl, by decide, by decide, (small : 3 ≤ sizeLine), _, _, rfl, rfl, h1, h1, ?_⟩
  exact congrArg (fun k => R.pv (.bl k)) h2
end K22

set_option Elab.async false
set_option linter.all false
set_option maxRecDepth 100000
set_option maxHeartbeats 0
namespace K22
open PySem PySem.Spec PyProof.Rows L2 AL He
def gl : List String := ["law", "InvalidAlphabet", "AlphabetMismatch", "InvalidDefinition", "NothingToUndo", "NothingToRedo", "InvalidProduct", "InvalidExpression", "InvalidProduction", "TooLarge", "TooMany", "NoSuchWord", "UnknownSymbol", "InvalidText", "UndefinedName", "CyclicDefinition", "DownwordsError", "_law_begin", "_law_draw", "_law_pick", "_law_kinds"]
def fr : List String := ["ValueError", "isinstance", "len", "range"]
def ck (K : PySem.W.Frag) : Bool :=
  (exs.all fun c => AH.excCB K (clsK K c) && (decide (PySem.W.kitOne K (.ref (clsK K c)) (.type "ValueError") = some true) && (decide (PySem.W.kitOne K (.ref (clsK K c)) (.ref (clsK K "DownwordsError")) = some true) && (exs.all fun c2 => decide (PySem.W.kitOne K (.ref (clsK K c)) (.ref (clsK K c2)) = some (c == c2))))))
  && ((flds.all fun p => fldB K p.1 p.2) && ((plain.all fun c => PySem.W.excIn K (clsK K c) veBase "ValueError.__new__" && PySem.W.keepIn K (.ref (clsK K c))) && ((gl.all fun x => (Fa.glo (Str.ofString x)).ok K) && ((fr.all fun x => (Fa.free (Str.ofString x)).ok K) && obB K (clsK K "DownwordsError")))))
def dd (x : Str) (i : Nat) : DefD := ⟨(x, none), x, x, defArgs (topS i), defBody (topS i), defScope (topS i), [], []⟩
def di (c : Str) (q : Str) (i : Nat) : DefD := ⟨(c, some "__init__"), "__init__", q, defArgs (inClass (topS i) 0), defBody (inClass (topS i) 0), defScope (inClass (topS i) 0), [], []⟩
def fn : List DefD := [dd "_law_begin" 18, dd "_law_draw" 19, dd "_law_pick" 20, dd "_law_kinds" 21, dd "law" 22,
  di "InvalidProduct" "InvalidProduct.__init__" 3, di "InvalidExpression" "InvalidExpression.__init__" 8, di "InvalidProduction" "InvalidProduction.__init__" 9, di "TooLarge" "TooLarge.__init__" 5, di "TooMany" "TooMany.__init__" 6, di "NoSuchWord" "NoSuchWord.__init__" 7, di "UnknownSymbol" "UnknownSymbol.__init__" 10, di "InvalidText" "InvalidText.__init__" 11, di "UndefinedName" "UndefinedName.__init__" 13, di "CyclicDefinition" "CyclicDefinition.__init__" 14]
section
variable {P : Program} {w : World} {K : PySem.W.Frag} {mg : Str → Option Value} {base : Heap} {h : Heap}
theorem md (X : K.In h) (G : h.Ns mainGlobals mg) (s : AH.SaysC ck fn K) : Md K mg ∧ (∀ p, p ∈ flds → FldC K p.1 p.2) ∧ ∀ c, c ∈ plain → ExcN K mg c := by
  obtain ⟨c1, c⟩ := ba s.says
  obtain ⟨c2, c⟩ := ba c
  obtain ⟨c3, c⟩ := ba c
  obtain ⟨c4, c⟩ := ba c
  obtain ⟨c5, c6⟩ := ba c
  have glo : ∀ x : String, x ∈ gl → mg (Str.ofString x) = some (.ref (clsK K x)) := fun x hx => glo_ok X G (List.all_eq_true.mp c4 x hx)
  have fre : ∀ x : String, x ∈ fr → mg (Str.ofString x) = none := fun x hx => free_ok X G (List.all_eq_true.mp c5 x hx)
  have fl : ∀ p, p ∈ flds → FldC K p.1 p.2 := fun p hp => fldB_ok (List.all_eq_true.mp c2 p hp)
  have ex : ∀ c, c ∈ exs → _ := fun c hc => List.all_eq_true.mp c1 c hc
  have tabs : ∀ c2, c2 ∈ exs → ∀ c b, (if exs.contains c then some (c == c2) else none) = some b → ExcC K (clsK K c) ∧ PySem.W.kitOne K (.ref (clsK K c)) (.ref (clsK K c2)) = some b := fun c2 h2 c b e => by
    split at e
    · rename_i hc
      cases e
      obtain ⟨k1, k⟩ := ba (ex c (by simpa using hc))
      obtain ⟨k2, k⟩ := ba k
      obtain ⟨k3, k4⟩ := ba k
      exact ⟨AH.excCB_ok k1, of_decide_eq_true (List.all_eq_true.mp k4 c2 h2)⟩
    · cases e
  have xfs : ∀ (f : Str) (c : String), flds.contains (c, f) = true → flds.lookup c = some f → XfC K (clsK K c) ∧ PySem.W.findIn K (.ref (clsK K c)) f = some none ∧ fnmE c = [f] := fun f c hc hl => by
    have := fl (c, f) (by simpa using hc)
    exact ⟨this.xf, this.no, by unfold fnmE; rw [hl]⟩
  have look : ∀ (p : String × Str), p ∈ flds → flds.lookup p.1 = some p.2 := by decide +kernel
  refine ⟨?_, fl, fun c hc => ?_⟩
  · exact
    { ValueError := fre "ValueError" (by decide)
      isinstance := fre "isinstance" (by decide)
      len := fre "len" (by decide)
      range := fre "range" (by decide)
      d__law_begin := by obtain ⟨fd, F⟩ := s.def_ 0 (d := dd "_law_begin" 18) rfl; exact ⟨fd, F, glo "_law_begin" (by decide)⟩
      d__law_draw := by obtain ⟨fd, F⟩ := s.def_ 1 (d := dd "_law_draw" 19) rfl; exact ⟨fd, F, glo "_law_draw" (by decide)⟩
      d__law_pick := by obtain ⟨fd, F⟩ := s.def_ 2 (d := dd "_law_pick" 20) rfl; exact ⟨fd, F, glo "_law_pick" (by decide)⟩
      d__law_kinds := by obtain ⟨fd, F⟩ := s.def_ 3 (d := dd "_law_kinds" 21) rfl; exact ⟨fd, F, glo "_law_kinds" (by decide)⟩
      g_InvalidAlphabet := glo "InvalidAlphabet" (by decide)
      g_AlphabetMismatch := glo "AlphabetMismatch" (by decide)
      g_InvalidDefinition := glo "InvalidDefinition" (by decide)
      g_NothingToUndo := glo "NothingToUndo" (by decide)
      g_NothingToRedo := glo "NothingToRedo" (by decide)
      g_InvalidProduct := glo "InvalidProduct" (by decide)
      g_InvalidExpression := glo "InvalidExpression" (by decide)
      g_InvalidProduction := glo "InvalidProduction" (by decide)
      g_TooLarge := glo "TooLarge" (by decide)
      g_TooMany := glo "TooMany" (by decide)
      g_NoSuchWord := glo "NoSuchWord" (by decide)
      g_UnknownSymbol := glo "UnknownSymbol" (by decide)
      g_InvalidText := glo "InvalidText" (by decide)
      g_UndefinedName := glo "UndefinedName" (by decide)
      g_CyclicDefinition := glo "CyclicDefinition" (by decide)
      g_DownwordsError := glo "DownwordsError" (by decide)
      tab_InvalidAlphabet := tabs "InvalidAlphabet" (by decide)
      tab_AlphabetMismatch := tabs "AlphabetMismatch" (by decide)
      tab_InvalidDefinition := tabs "InvalidDefinition" (by decide)
      tab_NothingToUndo := tabs "NothingToUndo" (by decide)
      tab_NothingToRedo := tabs "NothingToRedo" (by decide)
      tab_InvalidProduct := tabs "InvalidProduct" (by decide)
      tab_InvalidExpression := tabs "InvalidExpression" (by decide)
      tab_InvalidProduction := tabs "InvalidProduction" (by decide)
      tab_TooLarge := tabs "TooLarge" (by decide)
      tab_TooMany := tabs "TooMany" (by decide)
      tab_NoSuchWord := tabs "NoSuchWord" (by decide)
      tab_UnknownSymbol := tabs "UnknownSymbol" (by decide)
      tab_InvalidText := tabs "InvalidText" (by decide)
      tab_UndefinedName := tabs "UndefinedName" (by decide)
      tab_CyclicDefinition := tabs "CyclicDefinition" (by decide)
      tab_DownwordsError := fun c b e => by
        unfold tab_DownwordsError at e
        split at e
        · rename_i hc
          cases e
          obtain ⟨k1, k⟩ := ba (ex c (by simpa using hc))
          obtain ⟨k2, k⟩ := ba k
          obtain ⟨k3, k4⟩ := ba k
          exact ⟨AH.excCB_ok k1, of_decide_eq_true k3⟩
        · cases e
      tab_ValueError := fun c b e => by
        unfold tab_ValueError at e
        split at e
        · rename_i hc
          cases e
          obtain ⟨k1, k⟩ := ba (ex c (by simpa using hc))
          obtain ⟨k2, k⟩ := ba k
          obtain ⟨k3, k4⟩ := ba k
          exact ⟨AH.excCB_ok k1, of_decide_eq_true k2⟩
        · cases e
      xf_index := fun c hc => xfs "index" c hc (look (c, "index") (by simpa [xf_index] using hc))
      xf_limit := fun c hc => xfs "limit" c hc (look (c, "limit") (by simpa [xf_limit] using hc))
      xf_number := fun c hc => xfs "number" c hc (look (c, "number") (by simpa [xf_number] using hc))
      xf_line := fun c hc => xfs "line" c hc (look (c, "line") (by simpa [xf_line] using hc))
      xf_symbol := fun c hc => xfs "symbol" c hc (look (c, "symbol") (by simpa [xf_symbol] using hc))
      xf_name := fun c hc => xfs "name" c hc (look (c, "name") (by simpa [xf_name] using hc))
      ob := obB_ok c6 }
  · obtain ⟨k1, k2⟩ := ba (List.all_eq_true.mp c3 c hc)
    have hgl : ∀ c, c ∈ plain → c ∈ gl := by decide
    exact ⟨k1, k2, glo c (hgl c hc)⟩
theorem scI_InvalidProduct : FnScope ["self", "index"] ["self", "index"] (defScope (inClass (topS 3) 0)) := ⟨rfl, rfl, rfl, by decide +kernel, rfl, by decide +kernel, by decide +kernel⟩
theorem X_InvalidProduct (X : K.In h) (G : h.Ns mainGlobals mg) (s : AH.SaysC ck fn K) : ExcI P w K mg base fnmE "InvalidProduct" "index" 2 := by
  obtain ⟨T, fl, _⟩ := md X G s
  obtain ⟨fd, F⟩ := s.def_ 5 (d := di "InvalidProduct" "InvalidProduct.__init__" 3) rfl
  have F1 : Fun K "__init__" "InvalidProduct.__init__" (inClass (topS 3) 0) (fAd K ("InvalidProduct", some "__init__")) fd := AH.fun_of F
  have t := fl ("InvalidProduct", "index") (by decide)
  exact mkExcI (m := "invalid product") (ps := ["self", "index"]) F1 scI_InvalidProduct rfl t.oex t.iC t.tI t.no T.g_InvalidProduct rfl (fun _ _ _ _ _ _ us hl => match us, hl with | [_, _], _ => rfl) fun cdv A outer s H E => pss_cons (ps_expr (pe_oinit T.ob T.g_DownwordsError (pa_cons (pv 0) (pa_cons pe_str pa_nil)))) (pss_one (ps_ost (pv 0) (pv 1)))
theorem scI_InvalidExpression : FnScope ["self", "index"] ["self", "index"] (defScope (inClass (topS 8) 0)) := ⟨rfl, rfl, rfl, by decide +kernel, rfl, by decide +kernel, by decide +kernel⟩
theorem X_InvalidExpression (X : K.In h) (G : h.Ns mainGlobals mg) (s : AH.SaysC ck fn K) : ExcI P w K mg base fnmE "InvalidExpression" "index" 2 := by
  obtain ⟨T, fl, _⟩ := md X G s
  obtain ⟨fd, F⟩ := s.def_ 6 (d := di "InvalidExpression" "InvalidExpression.__init__" 8) rfl
  have F1 : Fun K "__init__" "InvalidExpression.__init__" (inClass (topS 8) 0) (fAd K ("InvalidExpression", some "__init__")) fd := AH.fun_of F
  have t := fl ("InvalidExpression", "index") (by decide)
  exact mkExcI (m := "invalid expression") (ps := ["self", "index"]) F1 scI_InvalidExpression rfl t.oex t.iC t.tI t.no T.g_InvalidExpression rfl (fun _ _ _ _ _ _ us hl => match us, hl with | [_, _], _ => rfl) fun cdv A outer s H E => pss_cons (ps_expr (pe_oinit T.ob T.g_DownwordsError (pa_cons (pv 0) (pa_cons pe_str pa_nil)))) (pss_one (ps_ost (pv 0) (pv 1)))
theorem scI_InvalidProduction : FnScope ["self", "index"] ["self", "index"] (defScope (inClass (topS 9) 0)) := ⟨rfl, rfl, rfl, by decide +kernel, rfl, by decide +kernel, by decide +kernel⟩
theorem X_InvalidProduction (X : K.In h) (G : h.Ns mainGlobals mg) (s : AH.SaysC ck fn K) : ExcI P w K mg base fnmE "InvalidProduction" "index" 2 := by
  obtain ⟨T, fl, _⟩ := md X G s
  obtain ⟨fd, F⟩ := s.def_ 7 (d := di "InvalidProduction" "InvalidProduction.__init__" 9) rfl
  have F1 : Fun K "__init__" "InvalidProduction.__init__" (inClass (topS 9) 0) (fAd K ("InvalidProduction", some "__init__")) fd := AH.fun_of F
  have t := fl ("InvalidProduction", "index") (by decide)
  exact mkExcI (m := "invalid production") (ps := ["self", "index"]) F1 scI_InvalidProduction rfl t.oex t.iC t.tI t.no T.g_InvalidProduction rfl (fun _ _ _ _ _ _ us hl => match us, hl with | [_, _], _ => rfl) fun cdv A outer s H E => pss_cons (ps_expr (pe_oinit T.ob T.g_DownwordsError (pa_cons (pv 0) (pa_cons pe_str pa_nil)))) (pss_one (ps_ost (pv 0) (pv 1)))
theorem scI_TooLarge : FnScope ["self", "limit"] ["self", "limit"] (defScope (inClass (topS 5) 0)) := ⟨rfl, rfl, rfl, by decide +kernel, rfl, by decide +kernel, by decide +kernel⟩
theorem X_TooLarge (X : K.In h) (G : h.Ns mainGlobals mg) (s : AH.SaysC ck fn K) : ExcI P w K mg base fnmE "TooLarge" "limit" 2 := by
  obtain ⟨T, fl, _⟩ := md X G s
  obtain ⟨fd, F⟩ := s.def_ 8 (d := di "TooLarge" "TooLarge.__init__" 5) rfl
  have F1 : Fun K "__init__" "TooLarge.__init__" (inClass (topS 5) 0) (fAd K ("TooLarge", some "__init__")) fd := AH.fun_of F
  have t := fl ("TooLarge", "limit") (by decide)
  exact mkExcI (m := "argument too large") (ps := ["self", "limit"]) F1 scI_TooLarge rfl t.oex t.iC t.tI t.no T.g_TooLarge rfl (fun _ _ _ _ _ _ us hl => match us, hl with | [_, _], _ => rfl) fun cdv A outer s H E => pss_cons (ps_expr (pe_oinit T.ob T.g_DownwordsError (pa_cons (pv 0) (pa_cons pe_str pa_nil)))) (pss_one (ps_ost (pv 0) (pv 1)))
theorem scI_TooMany : FnScope ["self", "limit"] ["self", "limit"] (defScope (inClass (topS 6) 0)) := ⟨rfl, rfl, rfl, by decide +kernel, rfl, by decide +kernel, by decide +kernel⟩
theorem X_TooMany (X : K.In h) (G : h.Ns mainGlobals mg) (s : AH.SaysC ck fn K) : ExcI P w K mg base fnmE "TooMany" "limit" 2 := by
  obtain ⟨T, fl, _⟩ := md X G s
  obtain ⟨fd, F⟩ := s.def_ 9 (d := di "TooMany" "TooMany.__init__" 6) rfl
  have F1 : Fun K "__init__" "TooMany.__init__" (inClass (topS 6) 0) (fAd K ("TooMany", some "__init__")) fd := AH.fun_of F
  have t := fl ("TooMany", "limit") (by decide)
  exact mkExcI (m := "too many products") (ps := ["self", "limit"]) F1 scI_TooMany rfl t.oex t.iC t.tI t.no T.g_TooMany rfl (fun _ _ _ _ _ _ us hl => match us, hl with | [_, _], _ => rfl) fun cdv A outer s H E => pss_cons (ps_expr (pe_oinit T.ob T.g_DownwordsError (pa_cons (pv 0) (pa_cons pe_str pa_nil)))) (pss_one (ps_ost (pv 0) (pv 1)))
theorem scI_NoSuchWord : FnScope ["self", "number"] ["self", "number"] (defScope (inClass (topS 7) 0)) := ⟨rfl, rfl, rfl, by decide +kernel, rfl, by decide +kernel, by decide +kernel⟩
theorem X_NoSuchWord (X : K.In h) (G : h.Ns mainGlobals mg) (s : AH.SaysC ck fn K) : ExcI P w K mg base fnmE "NoSuchWord" "number" 2 := by
  obtain ⟨T, fl, _⟩ := md X G s
  obtain ⟨fd, F⟩ := s.def_ 10 (d := di "NoSuchWord" "NoSuchWord.__init__" 7) rfl
  have F1 : Fun K "__init__" "NoSuchWord.__init__" (inClass (topS 7) 0) (fAd K ("NoSuchWord", some "__init__")) fd := AH.fun_of F
  have t := fl ("NoSuchWord", "number") (by decide)
  exact mkExcI (m := "no such word") (ps := ["self", "number"]) F1 scI_NoSuchWord rfl t.oex t.iC t.tI t.no T.g_NoSuchWord rfl (fun _ _ _ _ _ _ us hl => match us, hl with | [_, _], _ => rfl) fun cdv A outer s H E => pss_cons (ps_expr (pe_oinit T.ob T.g_DownwordsError (pa_cons (pv 0) (pa_cons pe_str pa_nil)))) (pss_one (ps_ost (pv 0) (pv 1)))
theorem scI_UnknownSymbol : FnScope ["self", "symbol"] ["self", "symbol"] (defScope (inClass (topS 10) 0)) := ⟨rfl, rfl, rfl, by decide +kernel, rfl, by decide +kernel, by decide +kernel⟩
theorem X_UnknownSymbol (X : K.In h) (G : h.Ns mainGlobals mg) (s : AH.SaysC ck fn K) : ExcI P w K mg base fnmE "UnknownSymbol" "symbol" 2 := by
  obtain ⟨T, fl, _⟩ := md X G s
  obtain ⟨fd, F⟩ := s.def_ 11 (d := di "UnknownSymbol" "UnknownSymbol.__init__" 10) rfl
  have F1 : Fun K "__init__" "UnknownSymbol.__init__" (inClass (topS 10) 0) (fAd K ("UnknownSymbol", some "__init__")) fd := AH.fun_of F
  have t := fl ("UnknownSymbol", "symbol") (by decide)
  exact mkExcI (m := "unknown symbol") (ps := ["self", "symbol"]) F1 scI_UnknownSymbol rfl t.oex t.iC t.tI t.no T.g_UnknownSymbol rfl (fun _ _ _ _ _ _ us hl => match us, hl with | [_, _], _ => rfl) fun cdv A outer s H E => pss_cons (ps_expr (pe_oinit T.ob T.g_DownwordsError (pa_cons (pv 0) (pa_cons pe_str pa_nil)))) (pss_one (ps_ost (pv 0) (pv 1)))
theorem scI_InvalidText : FnScope ["self", "line"] ["self", "line"] (defScope (inClass (topS 11) 0)) := ⟨rfl, rfl, rfl, by decide +kernel, rfl, by decide +kernel, by decide +kernel⟩
theorem X_InvalidText (X : K.In h) (G : h.Ns mainGlobals mg) (s : AH.SaysC ck fn K) : ExcI P w K mg base fnmE "InvalidText" "line" 2 := by
  obtain ⟨T, fl, _⟩ := md X G s
  obtain ⟨fd, F⟩ := s.def_ 12 (d := di "InvalidText" "InvalidText.__init__" 11) rfl
  have F1 : Fun K "__init__" "InvalidText.__init__" (inClass (topS 11) 0) (fAd K ("InvalidText", some "__init__")) fd := AH.fun_of F
  have t := fl ("InvalidText", "line") (by decide)
  exact mkExcI (m := "invalid text") (ps := ["self", "line"]) F1 scI_InvalidText rfl t.oex t.iC t.tI t.no T.g_InvalidText rfl (fun _ _ _ _ _ _ us hl => match us, hl with | [_, _], _ => rfl) fun cdv A outer s H E => pss_cons (ps_expr (pe_oinit T.ob T.g_DownwordsError (pa_cons (pv 0) (pa_cons pe_str pa_nil)))) (pss_one (ps_ost (pv 0) (pv 1)))
theorem scI_UndefinedName : FnScope ["self", "name"] ["self", "name"] (defScope (inClass (topS 13) 0)) := ⟨rfl, rfl, rfl, by decide +kernel, rfl, by decide +kernel, by decide +kernel⟩
theorem X_UndefinedName (X : K.In h) (G : h.Ns mainGlobals mg) (s : AH.SaysC ck fn K) : ExcI P w K mg base fnmE "UndefinedName" "name" 2 := by
  obtain ⟨T, fl, _⟩ := md X G s
  obtain ⟨fd, F⟩ := s.def_ 13 (d := di "UndefinedName" "UndefinedName.__init__" 13) rfl
  have F1 : Fun K "__init__" "UndefinedName.__init__" (inClass (topS 13) 0) (fAd K ("UndefinedName", some "__init__")) fd := AH.fun_of F
  have t := fl ("UndefinedName", "name") (by decide)
  exact mkExcI (m := "undefined name") (ps := ["self", "name"]) F1 scI_UndefinedName rfl t.oex t.iC t.tI t.no T.g_UndefinedName rfl (fun _ _ _ _ _ _ us hl => match us, hl with | [_, _], _ => rfl) fun cdv A outer s H E => pss_cons (ps_expr (pe_oinit T.ob T.g_DownwordsError (pa_cons (pv 0) (pa_cons pe_str pa_nil)))) (pss_one (ps_ost (pv 0) (pv 1)))
theorem scI_CyclicDefinition : FnScope ["self", "name"] ["self", "name"] (defScope (inClass (topS 14) 0)) := ⟨rfl, rfl, rfl, by decide +kernel, rfl, by decide +kernel, by decide +kernel⟩
theorem X_CyclicDefinition (X : K.In h) (G : h.Ns mainGlobals mg) (s : AH.SaysC ck fn K) : ExcI P w K mg base fnmE "CyclicDefinition" "name" 2 := by
  obtain ⟨T, fl, _⟩ := md X G s
  obtain ⟨fd, F⟩ := s.def_ 14 (d := di "CyclicDefinition" "CyclicDefinition.__init__" 14) rfl
  have F1 : Fun K "__init__" "CyclicDefinition.__init__" (inClass (topS 14) 0) (fAd K ("CyclicDefinition", some "__init__")) fd := AH.fun_of F
  have t := fl ("CyclicDefinition", "name") (by decide)
  exact mkExcI (m := "cyclic definition") (ps := ["self", "name"]) F1 scI_CyclicDefinition rfl t.oex t.iC t.tI t.no T.g_CyclicDefinition rfl (fun _ _ _ _ _ _ us hl => match us, hl with | [_, _], _ => rfl) fun cdv A outer s H E => pss_cons (ps_expr (pe_oinit T.ob T.g_DownwordsError (pa_cons (pv 0) (pa_cons pe_str pa_nil)))) (pss_one (ps_ost (pv 0) (pv 1)))
theorem facts (X : K.In h) (G : h.Ns mainGlobals mg) (s : AH.SaysC ck fn K) (pl : LawOk) {f : Addr} (hfa : mg ("law" : Str) = some (.ref f)) :
    ∃ fd : FuncData, (∀ (s : Shared) (v : Value), BindsTo s fd ⟨[v], []⟩ [("_law_script", v)]) ∧ ∀ base : Heap, K.In base → base.Ns mainGlobals mg → FnOk P w K mg base L2.CX0 4 f fd ["_law_script"] (spLaw K) := by
  have mk := md X G s
  have T := mk.1
  obtain ⟨fd, F⟩ := s.def_ 4 (d := dd "law" 22) rfl
  have gl : mg ("law" : Str) = some (.ref (ga K "law")) := by
    obtain ⟨_, c⟩ := ba s.says
    obtain ⟨_, c⟩ := ba c
    obtain ⟨_, c⟩ := ba c
    obtain ⟨c4, _⟩ := ba c
    exact glo_ok X G (List.all_eq_true.mp c4 "law" (by decide))
  have e := hfa.symm.trans gl
  cases e
  have b := FunD.bindsA (ps := ["_law_script"]) F fun _ _ _ _ _ _ us hl => match us, hl with | [_], _ => rfl
  refine ⟨fd, fun s v => b s [v] rfl, fun base _ _ => ?_⟩
  have o1 : Ok P w K mg base fnmE "_law_draw" 2 1 2 ["_law_tape", "_law_many"] w_draw := ok__law_draw T
  exact law_cx0 (ok_law T (ok__law_begin T) o1 (ok__law_pick T o1) (ok__law_kinds T) (X_CyclicDefinition X G s) (X_InvalidExpression X G s) (X_InvalidProduct X G s) (X_InvalidProduction X G s) (X_InvalidText X G s) (X_NoSuchWord X G s) (X_TooLarge X G s) (X_TooMany X G s) (X_UndefinedName X G s) (X_UnknownSymbol X G s) (mk.2.2 "AlphabetMismatch" (by decide)) (mk.2.2 "InvalidAlphabet" (by decide)) (mk.2.2 "InvalidDefinition" (by decide)) (mk.2.2 "NothingToRedo" (by decide)) (mk.2.2 "NothingToUndo" (by decide)) pl (AH.fun_of F))
end
abbrev R : PySem.W.OpenRow := PySem.W.OpenLaw.row PySem.Challenge.rw_downwords_k22_error_fields
abbrev hk : PySem.W.Hook := AH.hookC 5 ck fn
def ob (s : PySem.W.SharedT) : AlD := AH.obCG 5 ck fn (HandSHeadRun.getT s)
theorem ob_eq (s : PySem.W.SharedT) : ob s = hk.obs s.abs := AH.obCG_eq (HandSHeadRun.getT_eq s)
def loose : List PySem.Str := ["DownwordsError", "InvalidAlphabet", "InvalidProduct", "AlphabetMismatch", "TooLarge", "TooMany", "NoSuchWord", "InvalidExpression", "InvalidProduction", "UnknownSymbol", "InvalidText", "InvalidDefinition", "UndefinedName", "CyclicDefinition", "NothingToUndo", "NothingToRedo", "_law_begin", "_law_draw", "_law_pick", "_law_kinds"]
theorem run (w : World) : HandSHeadRun.RunEq R (PySem.W.view R.prog [22]) hk ob 4000 loose w := by
  intro os
  kernel_rfl
end K22
open PySem PySem.W PySem.Calls PyProof.Rows
theorem PySem.Challenge.cw_downwords_k22_error_fields_holds : PySem.Challenge.rw_downwords_k22_error_fields.Holds := by
  w_on; o_law
  refine HandSHeadRun.head_any (r := OpenLaw.row PySem.Challenge.rw_downwords_k22_error_fields) (q := view (OpenLaw.row PySem.Challenge.rw_downwords_k22_error_fields).prog [22]) (H := K22.hk) (ob := K22.ob) (M := 4000) (loose := K22.loose) (d := HandSHeadRun.topDef (OpenLaw.row PySem.Challenge.rw_downwords_k22_error_fields).prog 22) (kwd := []) K22.ob_eq
    (by kernel_rfl) (fun s => by kernel_rfl) K22.run (by kernel_rfl) (by kernel_rfl) (by kernel_rfl) (by rfl) (by first | assumption | decide +kernel) (by decide +kernel) ⟨rfl, rfl, rfl, rfl, rfl, by decide +kernel⟩ ?hw ?hc
  case hw => w_witness2
  case hc =>
    refine L2.walk_ofE (l := PySem.Challenge.rw_downwords_k22_error_fields) (n := 63) (k := 4) (x := "_law_script") (CX := L2.CX0) rfl (by decide) (by kernel_rfl) ⟨rfl, by decide, by decide⟩ ?F (fun _ _ _ _ z => z)
    intro w mg fa h Y G hmg0
    obtain ⟨K, KX, c⟩ := Y
    have hmg : mg ("law" : PySem.Str) = some (.ref fa) := by
      have e : (HandSHeadRun.topDef (OpenLaw.row PySem.Challenge.rw_downwords_k22_error_fields).prog 22).name = ("law" : PySem.Str) := by kernel_rfl
      rw [← e]
      exact hmg0
    obtain ⟨fd, hb, hF⟩ := K22.facts (P := (PySem.Challenge.rw_downwords_k22_error_fields).prog) (w := w) KX G c K22.law_ok hmg
    exact ⟨K, fd, AL.spLaw K, KX, hb, fun H a ns hl _ hS => ⟨a, ns, rfl, hS, fun _ => rfl⟩, hF⟩

