import PyProof.Rows.All
import Wide.All
import OpenK.AllK
import Wide.FinOn
import PySem.Challenge.RW_airwheel_k90_whole_refused_programmes
import HandS.ForMost
import HandS.Exc
import HandS.ExcOwn
import HandS.CallSlots
import HandS.TryOnly
import HandS.ExcInit
import HandS.ExcField
import HandS.ExcIs
import HandS.IsInst
import HandS.Defaults
import HandS.Wide
import HandS.HeadHook2
import KE.KExcIs
import KE.GoesRaise
import HandS.SortInts
import KE.KSortTupAny
import PyProof.Rows.SortStr
import HandS.SortKw
import HandS.More
import KE.DataMinMax
import HandS.MakeKwOnly
import HandS.Flt
import KE.KStateDown
import HandS.Ends
import HandS.Head0
import HandS.Head1
import HandS.Head2
import HandS.HeadEnd
import HandS.Words
import HandS.WordsExc
set_option Elab.async false
set_option linter.all false
set_option maxRecDepth 100000
set_option maxHeartbeats 2000000
/-! Data in place of heaps: what a piece of Python gives, told over plain data (PyData), with the heap kept out of sight. -/
namespace Dv
open PySem PySem.Spec PyProof.Rows L2

/-! ### values and the data that they stand for -/
def okS (x : Str) : Bool := x.cps.all (· < 0x110000)
mutual
inductive Rp (K : PySem.W.Frag) (F : Hp) : V → PyData → Prop
  | non : Rp K F .non .none
  | bl (b : Bool) : Rp K F (.bl b) (.bool b)
  | int (i : Int) : Rp K F (.int i) (.int i)
  | str (x : Str) (h : okS x = true) : Rp K F (.str x) (.str x)
  | lst {a : Addr} {vs : List V} {ds : List PyData} (h : F a = some (.lst vs)) (r : RpA K F vs ds) : Rp K F (.ref a) (.list ds)
  | tup {a : Addr} {vs : List V} {ds : List PyData} (h : F a = some (.tup vs)) (r : RpA K F vs ds) : Rp K F (.ref a) (.tuple ds)
inductive RpA (K : PySem.W.Frag) (F : Hp) : List V → List PyData → Prop
  | nil : RpA K F [] []
  | cons {v : V} {vs : List V} {d : PyData} {ds : List PyData} (h : Rp K F v d) (r : RpA K F vs ds) : RpA K F (v :: vs) (d :: ds)
end
theorem same_rd {H H' : Hp} {a : Addr} {u : HO} (e : Same H H') (h : Rd H a u) : Rd H' a u := by
  rcases h with h | ⟨o, h⟩
  · exact .inl (e _ _ h)
  · exact .inr ⟨o, e _ _ h⟩
theorem same_l {K : PySem.W.Frag} {H H' : Hp} {a : Addr} {xs : List V} (e : Same H H') (h : SqL K H a xs) : SqL K H' a xs := h.imp (same_rd e) id
theorem same_t {K : PySem.W.Frag} {H H' : Hp} {a : Addr} {xs : List V} (e : Same H H') (h : SqT K H a xs) : SqT K H' a xs := h.imp (same_rd e) id
section
variable {K : PySem.W.Frag} {F F' : Hp}
mutual
theorem Rp.mono (e : Same F F') : ∀ (d : PyData) (v : V), Rp K F v d → Rp K F' v d
  | .none, _, h => by cases h; exact .non
  | .bool _, _, h => by cases h; exact .bl _
  | .int _, _, h => by cases h; exact .int _
  | .str _, _, h => by
    cases h with
    | str _ h => exact .str _ h
  | .list ds, _, h => by
    cases h with
    | lst h r => exact .lst (e _ _ h) (RpA.mono e ds _ r)
  | .tuple ds, _, h => by
    cases h with
    | tup h r => exact .tup (e _ _ h) (RpA.mono e ds _ r)
  | .dict _, _, h => by cases h
theorem RpA.mono (e : Same F F') : ∀ (ds : List PyData) (vs : List V), RpA K F vs ds → RpA K F' vs ds
  | [], _, h => by cases h; exact .nil
  | d :: ds, _, h => by
    cases h with
    | cons h r => exact .cons (Rp.mono e d _ h) (RpA.mono e ds _ r)
end
mutual
theorem Rp.dp : ∀ (d : PyData) (v : V), Rp K F v d → Dp K F v d
  | .none, _, h => by cases h; exact .non
  | .bool _, _, h => by cases h; exact .bl _
  | .int _, _, h => by cases h; exact .int _
  | .str _, _, h => by
    cases h with
    | str _ h => exact .str _
  | .list ds, _, h => by
    cases h with
    | lst h r => exact .lst (SqL.of h) (RpA.dp ds _ r)
  | .tuple ds, _, h => by
    cases h with
    | tup h r => exact .tup (SqT.of h) (RpA.dp ds _ r)
  | .dict _, _, h => by cases h
theorem RpA.dp : ∀ (ds : List PyData) (vs : List V), RpA K F vs ds → DpAll K F vs ds
  | [], _, h => by cases h; exact .nil
  | d :: ds, _, h => by
    cases h with
    | cons h r => exact .cons (Rp.dp d _ h) (RpA.dp ds _ r)
end
mutual
theorem Rp.lay : ∀ (d : PyData) (v : V), Rp K F v d → d.canLay0 = true
  | .none, _, h => by simp only [PyData.canLay0]
  | .bool _, _, h => by simp only [PyData.canLay0]
  | .int _, _, h => by simp only [PyData.canLay0]
  | .str _, _, h => by
    cases h with
    | str _ h =>
      simp only [PyData.canLay0]
      exact h
  | .list ds, _, h => by
    cases h with
    | lst h r =>
      simp only [PyData.canLay0]
      exact RpA.lay ds _ r
  | .tuple ds, _, h => by
    cases h with
    | tup h r =>
      simp only [PyData.canLay0]
      exact RpA.lay ds _ r
  | .dict _, _, h => by cases h
theorem RpA.lay : ∀ (ds : List PyData) (vs : List V), RpA K F vs ds → PyData.canLayAll0 ds = true
  | [], _, h => by simp only [PyData.canLayAll0]
  | d :: ds, _, h => by
    cases h with
    | cons h r => simp only [PyData.canLayAll0, Rp.lay d _ h, RpA.lay ds _ r, Bool.and_self]
end
theorem RpA.len : ∀ {ds : List PyData} {vs : List V}, RpA K F vs ds → vs.length = ds.length
  | [], _, h => by cases h; rfl
  | d :: ds, _, h => by
    cases h with
    | cons h r => exact congrArg (· + 1) r.len
theorem RpA.get : ∀ {ds : List PyData} {vs : List V} {i : Nat} {d : PyData}, RpA K F vs ds → ds[i]? = some d → ∃ v, vs[i]? = some v ∧ Rp K F v d
  | [], _, _, _, h, e => by simp at e
  | d :: ds, _, 0, _, h, e => by
    cases h with
    | cons h r =>
      simp at e
      subst e
      exact ⟨_, rfl, h⟩
  | d :: ds, _, i + 1, _, h, e => by
    cases h with
    | cons h r =>
      obtain ⟨v, h1, h2⟩ := RpA.get (i := i) r (by simpa using e)
      exact ⟨v, by simpa using h1, h2⟩
theorem RpA.get' {ds : List PyData} {vs : List V} {i : Nat} {v : V} (h : RpA K F vs ds) (e : vs[i]? = some v) : ∃ d, ds[i]? = some d ∧ Rp K F v d := by
  obtain ⟨hl, _⟩ := List.getElem?_eq_some_iff.mp e
  have hl' : i < ds.length := by rw [← h.len]; exact hl
  obtain ⟨v', e', r⟩ := h.get (List.getElem?_eq_getElem hl')
  rw [e] at e'
  cases e'
  exact ⟨_, List.getElem?_eq_getElem hl', r⟩
theorem RpA.app : ∀ {ds es : List PyData} {vs us : List V}, RpA K F vs ds → RpA K F us es → RpA K F (vs ++ us) (ds ++ es)
  | [], _, _, _, h, g => by cases h; exact g
  | d :: ds, _, _, _, h, g => by
    cases h with
    | cons h r => exact .cons h (r.app g)
theorem RpA.take : ∀ {ds : List PyData} {vs : List V} (n : Nat), RpA K F vs ds → RpA K F (vs.take n) (ds.take n)
  | [], _, n, h => by
    cases h
    simp
    exact .nil
  | d :: ds, _, 0, h => by
    simp
    exact .nil
  | d :: ds, _, n + 1, h => by
    cases h with
    | cons h r =>
      simp
      exact .cons h (r.take n)
theorem RpA.drop : ∀ {ds : List PyData} {vs : List V} (n : Nat), RpA K F vs ds → RpA K F (vs.drop n) (ds.drop n)
  | [], _, n, h => by
    cases h
    simp
    exact .nil
  | d :: ds, _, 0, h => by
    simp
    exact h
  | d :: ds, _, n + 1, h => by
    cases h with
    | cons h r =>
      simp
      exact r.drop n
theorem RpA.set : ∀ {ds : List PyData} {vs : List V} (i : Nat) {v : V} {d : PyData}, RpA K F vs ds → Rp K F v d → RpA K F (vs.set i v) (ds.set i d)
  | [], _, i, _, _, h, g => by
    cases h
    simp
    exact .nil
  | d :: ds, _, 0, _, _, h, g => by
    cases h with
    | cons h r => exact .cons g r
  | d :: ds, _, i + 1, _, _, h, g => by
    cases h with
    | cons h r => exact .cons h (r.set i g)
theorem RpA.flat : ∀ (n : Nat) {ds : List PyData} {vs : List V}, RpA K F vs ds → RpA K F (List.replicate n vs).flatten (List.replicate n ds).flatten
  | 0, _, _, _ => .nil
  | n + 1, _, _, h => by
    rw [List.replicate_succ, List.replicate_succ, List.flatten_cons, List.flatten_cons]
    exact h.app (RpA.flat n h)
theorem RpA.one {v : V} {d : PyData} (h : Rp K F v d) : RpA K F [v] [d] := .cons h .nil
end

/-! ### slots of a frame over data -/
/-- what stands in an object that may change -/
inductive BR where
  | l (ds : List PyData)
  | d (kvs : List (Key × PyData))
/-- an exception: its class's name, its fields -/
structure Exn where
  cls : Str
  fs : List (Str × PyData)
/-- a slot: data that never changes; an object that this frame may change (own: it made it; else its caller's) -/
inductive Sl where
  | fz (d : PyData)
  | sc (ds : List PyData)
  | ex (e : Exn)
  | ob (own : Bool) (c : BR)
abbrev Rho := List (Option Sl)
inductive Out (α : Type) where
  | ok (a : α) (ρ : Rho)
  | err (e : Exn) (ρ : Rho)
  | no
abbrev Mo (α : Type) := Rho → Out α
def pu {α : Type} (a : α) : Mo α := fun ρ => .ok a ρ
def no {α : Type} : Mo α := fun _ => .no
def bnd {α β : Type} (f : Mo α) (g : α → Mo β) : Mo β := fun ρ => match f ρ with
  | .ok a ρ' => g a ρ'
  | .err e ρ' => .err e ρ'
  | .no => .no
def opt {α : Type} (o : Option α) : Mo α := fun ρ => match o with
  | some a => .ok a ρ
  | none => .no
inductive Fl where
  | nx
  | rt (w : Sl)
  | bk
  | ct

/-! ### the heap behind them -/
def KvR (K : PySem.W.Frag) (F : Hp) : List (Key × V) → List (Key × PyData) → Prop
  | [], [] => True
  | p :: ps, q :: qs => p.1 = q.1 ∧ Rp K F p.2 q.2 ∧ KvR K F ps qs
  | _, _ => False
def CR (K : PySem.W.Frag) (F : Hp) : HO → BR → Prop
  | .lst vs, .l ds => RpA K F vs ds
  | .dK kvs, .d es => KvR K F kvs es
  | _, _ => False
theorem KvR.mono {K : PySem.W.Frag} {F F' : Hp} (e : Same F F') : ∀ {ps : List (Key × V)} {qs : List (Key × PyData)}, KvR K F ps qs → KvR K F' ps qs
  | [], [], _ => trivial
  | p :: ps, q :: qs, h => ⟨h.1, Rp.mono e _ _ h.2.1, KvR.mono e h.2.2⟩
  | [], _ :: _, h => h.elim
  | _ :: _, [], h => h.elim
theorem CR.mono {K : PySem.W.Frag} {F F' : Hp} (e : Same F F') {o : HO} {c : BR} (h : CR K F o c) : CR K F' o c := by
  cases c with
  | l ds =>
    cases o with
    | lst vs => exact RpA.mono e _ _ h
    | _ => exact h.elim
  | d es =>
    cases o with
    | dK kvs => exact KvR.mono e h
    | _ => exact h.elim
/-- the entry: its heap, what was frozen, the caller's object that may be changed -/
structure Bs where
  H0 : Hp
  F0 : Hp
  r : Option Addr
  xa : Option (Addr × Value × Option Addr)
/-- an exception of one of the program's own classes, by its class and its dict -/
def XR (K : PySem.W.Frag) (F : Hp) (cls : Value) (dx : Option Addr) (e : Exn) : Prop :=
  ∃ (d : Addr) (fs : List (Str × V)), cls = .ref (He.ga K e.cls) ∧ dx = some d ∧ F d = some (.xd fs) ∧ ∀ x dd, e.fs.lookup x = some dd → ∃ v, fs.lookup x = some v ∧ Rp K F v dd
theorem XR.mono {K : PySem.W.Frag} {F F' : Hp} (s : Same F F') {cls : Value} {dx : Option Addr} {e : Exn} (x : XR K F cls dx e) : XR K F' cls dx e := by
  obtain ⟨d, fs, h1, h2, h3, h4⟩ := x
  exact ⟨d, fs, h1, h2, s _ _ h3, fun y dd e => by
    obtain ⟨v, g1, g2⟩ := h4 y dd e
    exact ⟨v, g1, Rp.mono s _ _ g2⟩⟩
def SR (B : Bs) (K : PySem.W.Frag) (F H : Hp) (v : V) : Sl → Prop
  | .fz d => Rp K F v d
  | .sc ds => ∃ a vs, v = .ref a ∧ SqL K F a vs ∧ RpA K F vs ds
  | .ex e => ∃ a cls d, B.xa = some (a, cls, d) ∧ v = .ref a ∧ XR K F cls d e
  | .ob own c => ∃ a o, v = .ref a ∧ F a = none ∧ H a = some o ∧ CR K F o c ∧ (own = true → B.H0 a = none) ∧ (own = false → B.r = some a)
structure ER (B : Bs) (K : PySem.W.Frag) (F H : Hp) (σ : L2.St) (ρ : Rho) : Prop where
  fh : Same F H
  fr : ∀ b o, B.H0 b = some o → B.r ≠ some b → H b = some o
  ff : Same B.F0 F
  fn : ∀ b, B.H0 b ≠ none → B.F0 b = none → F b = none
  rh : ∀ a, B.r = some a → H a ≠ none ∧ B.H0 a ≠ none ∧ B.F0 a = none
  len : σ.length = ρ.length
  sl : ∀ (i : Nat) (w : Sl), ρ[i]? = some (some w) → ∃ v, σ[i]? = some (some v) ∧ SR B K F H v w
  dj : ∀ (i j : Nat) (b b' : Bool) (c c' : BR) (v : V), i ≠ j → ρ[i]? = some (some (.ob b c)) → ρ[j]? = some (some (.ob b' c')) → σ[i]? = some (some v) → σ[j]? ≠ some (some v)
/-- more was laid, nothing changed, what was frozen is new -/
structure Xt (F H F' H' : Hp) : Prop where
  sf : Same F F'
  sh : Same H H'
  fh : Same F' H'
  nn : ∀ b, H b ≠ none → F b = none → F' b = none
theorem Xt.refl {F H : Hp} (h : Same F H) : Xt F H F H := ⟨Same.refl _, Same.refl _, h, fun _ _ h => h⟩
theorem Xt.trans {F H F1 H1 F2 H2 : Hp} (a : Xt F H F1 H1) (b : Xt F1 H1 F2 H2) : Xt F H F2 H2 := by
  refine ⟨a.sf.trans b.sf, a.sh.trans b.sh, b.fh, fun x h1 h2 => b.nn x (fun z => ?_) (a.nn x h1 h2)⟩
  cases q : H x with
  | none => exact h1 q
  | some o =>
    rw [a.sh x o q] at z
    cases z
theorem same_upd {H : Hp} {p : Addr} {o : HO} (n : H p = none) : Same H (upd H p o) := fun b x e => by
  rw [upd_ne (ne_of_none e n)]
  exact e
theorem same2 {F H : Hp} {p : Addr} {o : HO} (h : Same F H) : Same (upd F p o) (upd H p o) := fun b x e => by
  by_cases hb : b = p
  · subst hb
    rw [upd_same] at e ⊢
    exact e
  · rw [upd_ne hb] at e ⊢
    exact h b x e
/-- a new object, frozen as it is laid -/
theorem Xt.new {F H : Hp} {p : Addr} {o : HO} (h : Same F H) (n : H p = none) : Xt F H (upd F p o) (upd H p o) :=
  ⟨same_upd (h.free n), same_upd n, (same2 h), fun b h1 h2 => by
    have hb : b ≠ p := fun z => h1 (by rw [z]; exact n)
    rw [upd_ne hb]
    exact h2⟩
/-- a new object, left to change -/
theorem Xt.own {F H : Hp} {p : Addr} {o : HO} (h : Same F H) (n : H p = none) : Xt F H F (upd H p o) :=
  ⟨Same.refl _, same_upd n, fun b x e => same_upd n b x (h b x e), fun _ _ h2 => h2⟩
section
variable {B : Bs} {K : PySem.W.Frag} {F H F' H' : Hp} {σ : L2.St} {ρ : Rho} {v : V} {w : Sl}
theorem SR.xt (x : Xt F H F' H') (h : SR B K F H v w) : SR B K F' H' v w := by
  cases w with
  | fz d => exact Rp.mono x.sf _ _ h
  | sc ds =>
    obtain ⟨a, vs, e, h1, h2⟩ := h
    exact ⟨a, vs, e, same_l x.sf h1, RpA.mono x.sf _ _ h2⟩
  | ex e =>
    obtain ⟨a, cls, d, h1, h2, h3⟩ := h
    exact ⟨a, cls, d, h1, h2, h3.mono x.sf⟩
  | ob own c =>
    obtain ⟨a, o, e, hf, hh, hc, h1, h2⟩ := h
    exact ⟨a, o, e, x.nn a (by rw [hh]; exact fun z => nomatch z) hf, x.sh a o hh, hc.mono x.sf, h1, h2⟩
theorem ER.xt (h : ER B K F H σ ρ) (x : Xt F H F' H') : ER B K F' H' σ ρ where
  fh := x.fh
  fr := fun b o e n => x.sh b o (h.fr b o e n)
  ff := h.ff.trans x.sf
  fn := fun b h1 h2 => by
    refine x.nn b (fun z => ?_) (h.fn b h1 h2)
    by_cases hb : B.r = some b
    · exact (h.rh b hb).1 z
    · cases q : B.H0 b with
      | none => exact h1 q
      | some o => rw [h.fr b o q hb] at z; cases z
  rh := fun a e => by
    refine ⟨fun z => ?_, (h.rh a e).2⟩
    cases q : H a with
    | none => exact (h.rh a e).1 q
    | some o =>
      rw [x.sh a o q] at z
      cases z
  len := h.len
  sl := fun i w e => by
    obtain ⟨v, h1, h2⟩ := h.sl i w e
    exact ⟨v, h1, h2.xt x⟩
  dj := h.dj
theorem ER.h0 (h : ER B K F H σ ρ) {p : Addr} (n : H p = none) : B.H0 p = none := by
  cases q : B.H0 p with
  | none => rfl
  | some o =>
    by_cases hb : B.r = some p
    · exact absurd n (h.rh p hb).1
    · rw [h.fr p o q hb] at n
      cases n
/-- v is none of the objects that the slots may change -/
def Fr (σ : L2.St) (ρ : Rho) (v : V) : Prop := ∀ (j : Nat) (b : Bool) (c : BR), ρ[j]? = some (some (.ob b c)) → σ[j]? ≠ some (some v)
/-- a value by itself: data, or an object that no slot has -/
def SN (B : Bs) (K : PySem.W.Frag) (F H : Hp) (σ : L2.St) (ρ : Rho) (v : V) (w : Sl) : Prop := SR B K F H v w ∧ match w with
  | .fz _ => True
  | .sc _ => True
  | .ex _ => True
  | .ob own _ => own = true ∧ Fr σ ρ v
theorem ER.fresh (h : ER B K F H σ ρ) {p : Addr} (n : H p = none) : Fr σ ρ (.ref p) := fun j b c e1 e2 => by
  obtain ⟨v, h1, a, o, e, _, hh, _⟩ := h.sl j _ e1
  rw [e2] at h1
  have z := Option.some.inj (Option.some.inj h1)
  rw [← z] at e
  cases e
  rw [n] at hh
  cases hh
/-- a slot is stored -/
theorem ER.store (h : ER B K F H σ ρ) {i : Nat} (s : SN B K F H σ ρ v w) (hi : i < ρ.length) : ER B K F H (σ.set i (some v)) (ρ.set i (some w)) := by
  obtain ⟨s, fr⟩ := s
  have hi' : i < σ.length := by rw [h.len]; exact hi
  refine ⟨h.fh, h.fr, h.ff, h.fn, h.rh, by simp [h.len], fun j w' e => ?_, fun j k b b' c c' u hjk e1 e2 e3 e4 => ?_⟩
  · by_cases hj : i = j
    · subst hj
      rw [List.getElem?_set_self hi] at e
      cases e
      exact ⟨v, List.getElem?_set_self hi', s⟩
    · rw [List.getElem?_set_ne hj] at e ⊢
      exact h.sl j w' e
  · by_cases hj : i = j
    · subst hj
      rw [List.getElem?_set_self hi] at e1
      rw [List.getElem?_set_self hi'] at e3
      rw [List.getElem?_set_ne hjk] at e2 e4
      cases e1
      cases e3
      exact fr.2 k _ _ e2 e4
    · rw [List.getElem?_set_ne hj] at e1 e3
      by_cases hk : i = k
      · subst hk
        rw [List.getElem?_set_self hi] at e2
        rw [List.getElem?_set_self hi'] at e4
        cases e2
        cases e4
        exact fr.2 j _ _ e1 e3
      · rw [List.getElem?_set_ne hk] at e2 e4
        exact h.dj j k b b' c c' u hjk e1 e2 e3 e4
/-- a slot is emptied -/
theorem ER.wipe1 (h : ER B K F H σ ρ) (i : Nat) : ER B K F H (σ.set i none) (ρ.set i none) := by
  refine ⟨h.fh, h.fr, h.ff, h.fn, h.rh, by simp [h.len], fun j w' e => ?_, fun j k b b' c c' u hjk e1 e2 e3 e4 => ?_⟩
  · by_cases hj : i = j
    · subst hj
      by_cases hl : i < ρ.length
      · rw [List.getElem?_set_self hl] at e
        cases e
      · rw [List.getElem?_eq_none (by simpa using hl)] at e
        cases e
    · rw [List.getElem?_set_ne hj] at e ⊢
      exact h.sl j w' e
  · have ne : ∀ {m : Nat} {x : Sl}, (ρ.set i none)[m]? = some (some x) → i ≠ m := fun {m x} e z => by
      subst z
      by_cases hl : i < ρ.length
      · rw [List.getElem?_set_self hl] at e
        cases e
      · rw [List.getElem?_eq_none (by simpa using hl)] at e
        cases e
    have n1 := ne e1
    have n2 := ne e2
    rw [List.getElem?_set_ne n1] at e1 e3
    rw [List.getElem?_set_ne n2] at e2 e4
    exact h.dj j k b b' c c' u hjk e1 e2 e3 e4
/-- an object of a slot is changed -/
theorem ER.write (h : ER B K F H σ ρ) {i : Nat} {b : Bool} {c c' : BR} {a : Addr} {o' : HO} (e : ρ[i]? = some (some (.ob b c))) (s : σ[i]? = some (some (.ref a))) (hc : CR K F o' c') :
    ER B K F (upd H a o') σ (ρ.set i (some (.ob b c'))) := by
  obtain ⟨v, s', a', o, rfl, hf, hh, _, h1, h2⟩ := h.sl i _ e
  rw [s] at s'
  cases s'
  have hi : i < ρ.length := (List.getElem?_eq_some_iff.mp e).1
  refine ⟨fun x o e9 => ?_, fun x o e9 n => ?_, h.ff, h.fn, fun x e9 => ⟨?_, (h.rh x e9).2⟩, by simp [h.len], fun j w' ej => ?_, fun j k b b' c c' u hjk e1 e2 e3 e4 => ?_⟩
  · rw [upd_ne (ne_of_none e9 hf)]
    exact h.fh x o e9
  · have hx : x ≠ a := fun z => by
      subst z
      cases b with
      | true =>
        rw [h1 rfl] at e9
        cases e9
      | false => exact n (h2 rfl)
    rw [upd_ne hx]
    exact h.fr x o e9 n
  · by_cases hx : x = a
    · subst hx
      rw [upd_same]
      exact fun z => nomatch z
    · rw [upd_ne hx]
      exact (h.rh x e9).1
  · by_cases hj : i = j
    · subst hj
      rw [List.getElem?_set_self hi] at ej
      cases ej
      exact ⟨_, s, a, o', rfl, hf, upd_same, hc, h1, h2⟩
    · rw [List.getElem?_set_ne hj] at ej
      obtain ⟨v, sv, r⟩ := h.sl j w' ej
      refine ⟨v, sv, ?_⟩
      cases w' with
      | fz d => exact r
      | sc ds => exact r
      | ex e => exact r
      | ob b2 c2 =>
        obtain ⟨a2, o2, rfl, r1, r2, r3⟩ := r
        have ha : a2 ≠ a := fun z => by
          subst z
          exact h.dj i j b b2 c c2 _ hj e ej s sv
        exact ⟨a2, o2, rfl, r1, by rw [upd_ne ha]; exact r2, r3⟩
  · by_cases hj : i = j
    · subst hj
      rw [List.getElem?_set_ne hjk] at e2
      exact h.dj i k _ _ _ _ u hjk e e2 e3 e4
    · rw [List.getElem?_set_ne hj] at e1
      by_cases hk : i = k
      · subst hk
        exact h.dj j i _ _ _ _ u hjk e1 e e3 e4
      · rw [List.getElem?_set_ne hk] at e2
        exact h.dj j k _ _ _ _ u hjk e1 e2 e3 e4
/-- an own list of a slot is frozen -/
theorem ER.freeze (h : ER B K F H σ ρ) {i : Nat} {ds : List PyData} (e : ρ[i]? = some (some (.ob true (.l ds)))) :
    ∃ a vs, σ[i]? = some (some (.ref a)) ∧ F a = none ∧ H a = some (.lst vs) ∧ Same F (upd F a (.lst vs)) ∧ Rp K (upd F a (.lst vs)) (.ref a) (.list ds) ∧
      ER B K (upd F a (.lst vs)) H σ (ρ.set i (some (.fz (.list ds)))) := by
  obtain ⟨v, s, a, o, rfl, hf, hh, hc, h1, _⟩ := h.sl i _ e
  cases o with
  | lst vs =>
    have hs : Same F (upd F a (.lst vs)) := same_upd hf
    have hr : Rp K (upd F a (.lst vs)) (.ref a) (.list ds) := .lst upd_same (RpA.mono hs _ _ hc)
    have hi : i < ρ.length := (List.getElem?_eq_some_iff.mp e).1
    refine ⟨a, vs, s, hf, hh, hs, hr, fun x o e => ?_, h.fr, h.ff.trans hs, fun x e1 e2 => ?_, h.rh, by simp [h.len], fun j w' ej => ?_, fun j k b b' c c' u hjk e1 e2 e3 e4 => ?_⟩
    · by_cases hx : x = a
      · subst hx
        rw [upd_same] at e
        cases e
        exact hh
      · rw [upd_ne hx] at e
        exact h.fh x o e
    · have hx : x ≠ a := fun z => by
        subst z
        exact e1 (h1 rfl)
      rw [upd_ne hx]
      exact h.fn x e1 e2
    · by_cases hj : i = j
      · subst hj
        rw [List.getElem?_set_self hi] at ej
        cases ej
        exact ⟨_, s, hr⟩
      · rw [List.getElem?_set_ne hj] at ej
        obtain ⟨v, sv, r⟩ := h.sl j w' ej
        refine ⟨v, sv, ?_⟩
        cases w' with
        | fz d => exact Rp.mono hs _ _ r
        | sc ds =>
          obtain ⟨a5, vs5, e5, h5, h6⟩ := r
          exact ⟨a5, vs5, e5, same_l hs h5, RpA.mono hs _ _ h6⟩
        | ex e5 =>
          obtain ⟨a5, c5, d5, h5, h6, h7⟩ := r
          exact ⟨a5, c5, d5, h5, h6, h7.mono hs⟩
        | ob b2 c2 =>
          obtain ⟨a2, o2, rfl, r1, r2, r3, r4⟩ := r
          have ha : a2 ≠ a := fun z => by
            subst z
            exact h.dj i j _ b2 _ c2 _ hj e ej s sv
          exact ⟨a2, o2, rfl, by rw [upd_ne ha]; exact r1, r2, r3.mono hs, r4⟩
    · have ne : ∀ {m : Nat} {b : Bool} {c : BR}, (ρ.set i (some (.fz (.list ds))))[m]? = some (some (.ob b c)) → i ≠ m := fun {m b c} e z => by
        subst z
        rw [List.getElem?_set_self hi] at e
        cases e
      have n1 := ne e1
      have n2 := ne e2
      rw [List.getElem?_set_ne n1] at e1
      rw [List.getElem?_set_ne n2] at e2
      exact h.dj j k b b' c c' u hjk e1 e2 e3 e4
  | _ => exact hc.elim
/-- an own list that no slot has is frozen -/
theorem ER.cool (h : ER B K F H σ ρ) {ds : List PyData} (s : SN B K F H σ ρ v (.ob true (.l ds))) : ∃ F', Same F F' ∧ Rp K F' v (.list ds) ∧ ER B K F' H σ ρ := by
  obtain ⟨⟨a, o, rfl, hf, hh, hc, h1, _⟩, _, fr⟩ := s
  cases o with
  | lst vs =>
    have hs : Same F (upd F a (.lst vs)) := same_upd hf
    have hr : Rp K (upd F a (.lst vs)) (.ref a) (.list ds) := .lst upd_same (RpA.mono hs _ _ hc)
    refine ⟨_, hs, hr, fun x o e => ?_, h.fr, h.ff.trans hs, fun x e1 e2 => ?_, h.rh, h.len, fun j w' ej => ?_, h.dj⟩
    · by_cases hx : x = a
      · subst hx
        rw [upd_same] at e
        cases e
        exact hh
      · rw [upd_ne hx] at e
        exact h.fh x o e
    · have hx : x ≠ a := fun z => by
        subst z
        exact e1 (h1 rfl)
      rw [upd_ne hx]
      exact h.fn x e1 e2
    · obtain ⟨v, sv, r⟩ := h.sl j w' ej
      refine ⟨v, sv, ?_⟩
      cases w' with
      | fz d => exact Rp.mono hs _ _ r
      | sc ds =>
        obtain ⟨a5, vs5, e5, h5, h6⟩ := r
        exact ⟨a5, vs5, e5, same_l hs h5, RpA.mono hs _ _ h6⟩
      | ex e5 =>
        obtain ⟨a5, c5, d5, h5, h6, h7⟩ := r
        exact ⟨a5, c5, d5, h5, h6, h7.mono hs⟩
      | ob b2 c2 =>
        obtain ⟨a2, o2, rfl, r1, r2, r3, r4⟩ := r
        have ha : a2 ≠ a := fun z => by
          subst z
          exact fr j _ _ ej sv
        exact ⟨a2, o2, rfl, by rw [upd_ne ha]; exact r1, r2, r3.mono hs, r4⟩
  | _ => exact hc.elim
end
end Dv
set_option Elab.async false
set_option linter.all false
set_option maxRecDepth 100000
set_option maxHeartbeats 2000000
namespace Dv
open PySem PySem.Spec PyProof.Rows L2

/-! ### what a piece of text gives, as a wish -/
structure Ct where
  K : PySem.W.Frag
  B : Bs
  Wx : WX
def Post (C : Ct) (σ : L2.St) (F : Hp) {α : Type} (o : Out α) (R : α → Rho → Hp → Hp → Prop) : Prop := match o with
  | .ok a ρ' => ∀ F' H', Same F F' → ER C.B C.K F' H' σ ρ' → R a ρ' F' H'
  | .err e ρ' => ∀ F' H' cls dx, Same F F' → ER C.B C.K F' H' σ ρ' → XR C.K F' cls dx e → C.Wx cls dx σ H'
  | .no => False
section
variable {C : Ct} {σ : L2.St} {F H : Hp} {ρ : Rho} {α β : Type} {R R' : α → Rho → Hp → Hp → Prop}
theorem Post.imp {o : Out α} (p : Post C σ F o R) (i : ∀ a ρ' F' H', Same F F' → ER C.B C.K F' H' σ ρ' → R a ρ' F' H' → R' a ρ' F' H') : Post C σ F o R' := by
  cases o with
  | ok a ρ' => exact fun F' H' s h => i a ρ' F' H' s h (p F' H' s h)
  | err e ρ' => exact p
  | no => exact p
theorem Post.later {o : Out α} {F1 : Hp} (p : Post C σ F o R) (s : Same F F1) : Post C σ F1 o R := by
  cases o with
  | ok a ρ' => exact fun F' H' s' h => p F' H' (s.trans s') h
  | err e ρ' => exact fun F' H' cls dx s' => p F' H' cls dx (s.trans s')
  | no => exact p
theorem Post.bnd {f : Mo β} {g : β → Mo α} (p : Post C σ F (bnd f g ρ) R) : Post C σ F (f ρ) fun b ρ1 F1 H1 => Post C σ F1 (g b ρ1) R := by
  unfold Dv.bnd at p
  cases q : f ρ with
  | ok b ρ1 =>
    rw [q] at p
    exact fun F1 H1 s h => Post.later p s
  | err e ρ1 =>
    rw [q] at p
    exact p
  | no =>
    rw [q] at p
    exact p
theorem Post.now {a : α} (p : Post C σ F (.ok a ρ) R) (h : ER C.B C.K F H σ ρ) : R a ρ F H := p F H (Same.refl _) h
theorem Post.newF {a : α} {p : Addr} {o : HO} (q : Post C σ F (.ok a ρ) R) (h : ER C.B C.K F H σ ρ) (n : H p = none) : R a ρ (upd F p o) (upd H p o) :=
  q _ _ (same_upd (h.fh.free n)) (h.xt (Xt.new h.fh n))
theorem Post.newO {a : α} {p : Addr} {o : HO} (q : Post C σ F (.ok a ρ) R) (h : ER C.B C.K F H σ ρ) (n : H p = none) : R a ρ F (upd H p o) :=
  q _ _ (Same.refl _) (h.xt (Xt.own h.fh n))
end
def tE (C : Ct) (f : Mo PyData) : TE := fun σ H Q => ∃ F ρ, ER C.B C.K F H σ ρ ∧ Post C σ F (f ρ) fun d _ F' H' => ∀ v, Rp C.K F' v d → Q v H'
def tO (C : Ct) (f : Mo Sl) : TE := fun σ H Q => ∃ F ρ, ER C.B C.K F H σ ρ ∧ Post C σ F (f ρ) fun w ρ' F' H' => ∀ v, SN C.B C.K F' H' σ ρ' v w → Q v H'
def tT (C : Ct) (f : Mo Bool) : TT := fun σ H Q => ∃ F ρ, ER C.B C.K F H σ ρ ∧ Post C σ F (f ρ) fun b _ _ H' => Q b H'
def tA (C : Ct) (f : Mo (List PyData)) : TA := fun σ H Q => ∃ F ρ, ER C.B C.K F H σ ρ ∧ Post C σ F (f ρ) fun ds _ F' H' => ∀ vs, RpA C.K F' vs ds → Q vs H'
abbrev ct (X : Cx) (B : Bs) (W : WX) : Ct := ⟨X.K, B, W⟩
structure DE (X : Cx) (B : Bs) (W : WX) (e : Expr) (f : Mo PyData) : Prop where
  pe : PE X e (tE (ct X B W) f)
structure DO (X : Cx) (B : Bs) (W : WX) (e : Expr) (f : Mo Sl) : Prop where
  pe : PE X e (tO (ct X B W) f)
structure DT (X : Cx) (B : Bs) (W : WX) (e : Expr) (f : Mo Bool) : Prop where
  pt : PT X e (tT (ct X B W) f)
structure DW (X : Cx) (B : Bs) (W : WX) (e : Expr) (f : Mo Bool) : Prop where
  pw : PW X e (tT (ct X B W) f)
structure DA (X : Cx) (B : Bs) (W : WX) (es : List Expr) (f : Mo (List PyData)) : Prop where
  pa : PA X es (tA (ct X B W) f)
section
variable {X : Cx} {e : Expr} {es : List Expr}
theorem pe_imp {t t' : TE} (h : PE X e t) (i : ∀ σ H Q, t' σ H Q → t σ H Q) : PE X e t' := ⟨fun pins s σ H Q I w => h.run pins s σ H Q I (i σ H Q w)⟩
theorem pt_imp {t t' : TT} (h : PT X e t) (i : ∀ σ H Q, t' σ H Q → t σ H Q) : PT X e t' := ⟨fun pins s σ H Q I w => h.run pins s σ H Q I (i σ H Q w)⟩
theorem pw_imp {t t' : TT} (h : PW X e t) (i : ∀ σ H Q, t' σ H Q → t σ H Q) : PW X e t' := ⟨fun wh pins s σ H Q I w => h.run wh pins s σ H Q I (i σ H Q w)⟩
theorem pa_imp {t t' : TA} (h : PA X es t) (i : ∀ σ H Q, t' σ H Q → t σ H Q) : PA X es t' := ⟨fun pos pins s σ H Q I w => h.run pos pins s σ H Q I (i σ H Q w)⟩
end

section
variable {X : Cx} {B : Bs} {W : WX} {a b e : Expr} {es : List Expr} {pos : Pos} {fa fb : Mo PyData}
/-! ### constants and names -/
def cI (i : Int) : Mo PyData := pu (.int i)
def cS (x : Str) : Mo PyData := pu (.str x)
def cB (b : Bool) : Mo PyData := pu (.bool b)
def cN : Mo PyData := pu .none
/-- a slot read as data: an own list is frozen by it -/
def rd (i : Nat) : Mo PyData := fun ρ => match ρ[i]? with
  | some (some (.fz d)) => .ok d ρ
  | some (some (.ob true (.l ds))) => .ok (.list ds) (ρ.set i (some (.fz (.list ds))))
  | _ => .no
theorem de_int {i : Int} {j} : DE X B W (.Constant (.int i) j pos) (cI i) := ⟨pe_imp pe_int fun σ H Q ⟨F, ρ, h, p⟩ => (p.now h) _ (.int i)⟩
theorem de_str {x : Str} {j} (hx : okS x = true := by decide +kernel) : DE X B W (.Constant (.str x) j pos) (cS x) := ⟨pe_imp pe_str fun σ H Q ⟨F, ρ, h, p⟩ => (p.now h) _ (.str x hx)⟩
theorem de_bool {b : Bool} {j} : DE X B W (.Constant (.bool b) j pos) (cB b) := ⟨pe_imp pe_bl fun σ H Q ⟨F, ρ, h, p⟩ => (p.now h) _ (.bl b)⟩
theorem de_non {j} : DE X B W (.Constant .none j pos) cN := ⟨pe_imp pe_non fun σ H Q ⟨F, ρ, h, p⟩ => (p.now h) _ .non⟩
theorem de_gint {x : Str} {i : Int} (hm : ∃ t, X.mg x = some (.int i t)) (hg : Gl X x := by rfl) (hd : (x == ("__debug__" : Str)) = false := by decide) : DE X B W (.Name x pos) (cI i) := by
  obtain ⟨t, hm⟩ := hm
  exact ⟨pe_imp (pe_glob (v := .int i) hg hm ⟨t, rfl⟩ hd) fun σ H Q ⟨F, ρ, h, p⟩ => (p.now h) _ (.int i)⟩
theorem de_gstr {x z : Str} (hm : ∃ t, X.mg x = some (.str z t)) (hx : okS z = true := by decide +kernel) (hg : Gl X x := by rfl) (hd : (x == ("__debug__" : Str)) = false := by decide) : DE X B W (.Name x pos) (cS z) := by
  obtain ⟨t, hm⟩ := hm
  exact ⟨pe_imp (pe_glob (v := .str z) hg hm ⟨t, rfl⟩ hd) fun σ H Q ⟨F, ρ, h, p⟩ => (p.now h) _ (.str z hx)⟩
theorem rd_ok {C : Ct} {σ : L2.St} {F H : Hp} {ρ : Rho} {i : Nat} {Q : VK} (h : ER C.B C.K F H σ ρ) (p : Post C σ F (rd i ρ) fun d _ F' H' => ∀ v, Rp C.K F' v d → Q v H') : ∃ v, σ[i]? = some (some v) ∧ Q v H := by
  unfold rd at p
  split at p
  · rename_i d e
    obtain ⟨v, h1, h2⟩ := h.sl i _ e
    exact ⟨v, h1, p.now h v h2⟩
  · rename_i ds e
    obtain ⟨a, vs, h1, _, _, h2, h3, h4⟩ := h.freeze e
    exact ⟨_, h1, p _ H h2 h4 _ h3⟩
  · exact p.elim
theorem de_v (i : Nat) {x : Str} (hN : X.N[i]? = some x := by rfl) (hv : Vis X.env.scope x := by first | exact Or.inl rfl | exact Or.inr (Or.inl rfl) | exact Or.inr (Or.inr rfl)) (hd : (x == ("__debug__" : Str)) = false := by decide)
    (hcd : (x == ("__classdict__" : Str)) = false := by decide) : DE X B W (.Name x pos) (rd i) :=
  ⟨pe_imp (pe_var hN hv hd hcd) fun σ H Q ⟨F, ρ, h, p⟩ => rd_ok h p⟩

/-! ### data out of an own object, and back -/
def fzS : Sl → Mo PyData
  | .fz d => pu d
  | .ob true (.l ds) => pu (.list ds)
  | _ => no
def fzM (f : Mo Sl) : Mo PyData := bnd f fzS
def upM (f : Mo PyData) : Mo Sl := bnd f fun d => pu (.fz d)
theorem de_o {f : Mo Sl} (h : DO X B W e f) : DE X B W e (fzM f) := by
  refine ⟨pe_imp h.pe fun σ H Q ⟨F, ρ, h, p⟩ => ⟨F, ρ, h, p.bnd.imp fun w ρ1 F1 H1 s h1 p1 v sn => ?_⟩⟩
  cases w with
  | fz d => exact Post.now p1 h1 v sn.1
  | sc ds => exact (show False from p1).elim
  | ex e => exact (show False from p1).elim
  | ob own c =>
    cases own with
    | false => exact (show False from p1).elim
    | true =>
      cases c with
      | d _ => exact (show False from p1).elim
      | l ds =>
        obtain ⟨F2, s2, r2, h2⟩ := h1.cool sn
        exact p1 F2 H1 s2 h2 v r2
theorem do_e (h : DE X B W e fa) : DO X B W e (upM fa) :=
  ⟨pe_imp h.pe fun σ H Q ⟨F, ρ, h, p⟩ => ⟨F, ρ, h, p.bnd.imp fun d ρ1 F1 H1 s h1 p1 v r => Post.now p1 h1 v ⟨r, trivial⟩⟩⟩

/-! ### operators -/
def bin (g : PyData → PyData → Mo PyData) (fa fb : Mo PyData) : Mo PyData := bnd fa fun x => bnd fb fun y => g x y
def OS (K : PySem.W.Frag) (r : R2) (g : PyData → PyData → Mo PyData) : Prop := ∀ (C : Ct) (F H : Hp) (σ : L2.St) (ρ : Rho) (x y : V) (d e : PyData) (Q : VK), C.K = K → ER C.B C.K F H σ ρ → Rp C.K F x d → Rp C.K F y e →
  Post C σ F (g d e ρ) (fun z _ F' H' => ∀ v, Rp C.K F' v z → Q v H') → r x y H Q
theorem bin_ok {C : Ct} {r : R2} {g : PyData → PyData → Mo PyData} (o : OS C.K r g) {σ : L2.St} {H : Hp} {Q : VK} (w : tE C (bin g fa fb) σ H Q) : tOp r (tE C fa) (tE C fb) σ H Q := by
  obtain ⟨F, ρ, h, p⟩ := w
  refine ⟨F, ρ, h, p.bnd.imp fun x ρ1 F1 H1 s h1 p1 v rv => ⟨F1, ρ1, h1, p1.bnd.imp fun y ρ2 F2 H2 s2 h2 p2 u ru => ?_⟩⟩
  exact o C F2 H2 σ ρ2 v u x y Q rfl h2 (Rp.mono s2 _ _ rv) ru p2
theorem de_bin {op : Operator} {r : R2} {g : PyData → PyData → Mo PyData} (ho : OpR X (binaryOp op) r) (o : OS X.K r g) (ha : DE X B W a fa) (hb : DE X B W b fb) : DE X B W (.BinOp a op b pos) (bin g fa fb) :=
  ⟨pe_imp (pe_op ho ha.pe hb.pe) fun σ H Q w => bin_ok (C := ct X B W) o w⟩
theorem de_cmp {op : CmpOp} {r : R2} {g : PyData → PyData → Mo PyData} (ho : OpR X (compareOp op) r) (o : OS X.K r g) (ha : DE X B W a fa) (hb : DE X B W b fb) (hm : behindInMarks op b = false := by first | exact nomark _ | rfl) : DE X B W (.Compare a [op] [b] pos) (bin g fa fb) :=
  ⟨pe_imp (pe_cmpR ho ha.pe hb.pe hm) fun σ H Q w => bin_ok (C := ct X B W) o w⟩
end
def addM : PyData → PyData → Mo PyData
  | .int i, .int j => pu (.int (i + j))
  | .str x, .str y => if x.length + y.length ≤ 1000000 then pu (.str (x ++ y)) else no
  | .list x, .list y => if x.length + y.length ≤ 1000000 then pu (.list (x ++ y)) else no
  | _, _ => no
def subM : PyData → PyData → Mo PyData
  | .int i, .int j => pu (.int (i - j))
  | _, _ => no
def mulM : PyData → PyData → Mo PyData
  | .int i, .int j => if (-(2 ^ 64) < i ∧ i < 2 ^ 64) ∨ (-(2 ^ 64) < j ∧ j < 2 ^ 64) then pu (.int (i * j)) else no
  | .list x, .int k => if x.length * k.toNat ≤ 1000000 ∧ -(2 ^ 63) ≤ k ∧ k < 2 ^ 63 then pu (.list (List.replicate k.toNat x).flatten) else no
  | _, _ => no
def divM : PyData → PyData → Mo PyData
  | .int i, .int j => if 0 < j ∧ j < 1073741824 then pu (.int (i / j)) else no
  | _, _ => no
def modM : PyData → PyData → Mo PyData
  | .int i, .int j => if 0 < j then pu (.int (i % j)) else no
  | _, _ => no
def powM : PyData → PyData → Mo PyData
  | .int i, .int j => if 0 ≤ j ∧ (Builtin.Int.intBits i : Int) * j ≤ 2 ^ 27 then pu (.int (i ^ j.toNat)) else no
  | _, _ => no
def eqM : PyData → PyData → Mo PyData := fun d e => if min d.depth e.depth ≤ 60 then pu (.bool (PyData.eqv d e)) else no
def neM : PyData → PyData → Mo PyData := fun d e => if min d.depth e.depth ≤ 60 then pu (.bool (!PyData.eqv d e)) else no
def ltM : PyData → PyData → Mo PyData
  | .int i, .int j => pu (.bool (decide (i < j)))
  | .str x, .str y => pu (.bool (decide (x.cps.toList < y.cps.toList)))
  | _, _ => no
def gtM : PyData → PyData → Mo PyData
  | .int i, .int j => pu (.bool (decide (j < i)))
  | .str x, .str y => pu (.bool (decide (y.cps.toList < x.cps.toList)))
  | _, _ => no
def leM : PyData → PyData → Mo PyData
  | .int i, .int j => pu (.bool (decide (i ≤ j)))
  | .str x, .str y => pu (.bool (!decide (y.cps.toList < x.cps.toList)))
  | _, _ => no
def geM : PyData → PyData → Mo PyData
  | .int i, .int j => pu (.bool (decide (j ≤ i)))
  | .str x, .str y => pu (.bool (!decide (x.cps.toList < y.cps.toList)))
  | _, _ => no
def flatD : PyData → Bool
  | .none => true
  | .bool _ => true
  | .int _ => true
  | .str _ => true
  | _ => false
def inM : PyData → PyData → Mo PyData := fun d e => match e with
  | .list ds => if flatD d && ds.all flatD then pu (.bool (ds.any fun y => PyData.eqv y d)) else no
  | .tuple ds => if flatD d && ds.all flatD then pu (.bool (ds.any fun y => PyData.eqv y d)) else no
  | _ => no
def ninM : PyData → PyData → Mo PyData := fun d e => match e with
  | .list ds => if flatD d && ds.all flatD then pu (.bool (!ds.any fun y => PyData.eqv y d)) else no
  | .tuple ds => if flatD d && ds.all flatD then pu (.bool (!ds.any fun y => PyData.eqv y d)) else no
  | _ => no
def isNM : PyData → PyData → Mo PyData := fun d e => match e with
  | .none => pu (.bool (match d with | .none => true | _ => false))
  | _ => no
def isnNM : PyData → PyData → Mo PyData := fun d e => match e with
  | .none => pu (.bool (match d with | .none => false | _ => true))
  | _ => no
theorem okS_app {x y : Str} (hx : okS x = true) (hy : okS y = true) : okS (x ++ y) = true := by
  unfold okS at *
  show (x.cps ++ y.cps).all _ = true
  rw [Array.all_append, hx, hy]
  rfl
theorem line_le : 1000000 ≤ sizeLine := by rw [sizeLine_eq]; decide
section
variable {X : Cx}
def rAddA (K : PySem.W.Frag) : R2 := fun x y H Q => (∃ i j, x = .int i ∧ y = .int j ∧ Q (.int (i + j)) H) ∨ ((∃ i j, x = .str i ∧ y = .str j ∧ i.length + j.length ≤ sizeLine ∧ Q (.str (i ++ j)) H) ∨ rCat x y H Q)
theorem op_addA : OpR X (binaryOp .Add) (rAddA X.K) := op_add.or (op_add_str.or op_cat)
theorem os_add {K : PySem.W.Frag} : OS K (rAddA K) addM := by
  intro C F H σ ρ x y d e Q hK h rx ry p
  subst hK
  unfold addM at p
  split at p
  · cases rx
    cases ry
    exact .inl ⟨_, _, rfl, rfl, p.now h _ (.int _)⟩
  · split at p
    · rename_i hl
      cases rx with
      | str _ h1 =>
        cases ry with
        | str _ h2 => exact .inr (.inl ⟨_, _, rfl, rfl, Nat.le_trans hl line_le, p.now h _ (.str _ (okS_app h1 h2))⟩)
    · exact p.elim
  · split at p
    · rename_i hl
      cases rx with
      | lst h1 r1 =>
        cases ry with
        | lst h2 r2 =>
          refine .inr (.inr ⟨_, _, _, _, rfl, rfl, h.fh _ _ h1, h.fh _ _ h2, ?_, fun q n => ?_⟩)
          · rw [r1.len, r2.len]
            exact Nat.le_trans hl line_le
          · have ra := r1.app r2
            exact p.newF h n _ (.lst upd_same (RpA.mono (same_upd (h.fh.free n)) _ _ ra))
    · exact p.elim
  · exact p.elim
theorem os_sub {K : PySem.W.Frag} : OS K (rI0 fun i j => .int (i - j)) subM := by
  intro C F H σ ρ x y d e Q hK h rx ry p
  unfold subM at p
  split at p
  · cases rx
    cases ry
    exact ⟨_, _, rfl, rfl, p.now h _ (.int _)⟩
  · exact p.elim

theorem os_mul {K : PySem.W.Frag} : OS K (fun x y H Q => (∃ i j, x = .int i ∧ y = .int j ∧ CMul i j ∧ Q (.int (i * j)) H) ∨ rRep x y H Q) mulM := by
  intro C F H σ ρ x y d e Q hK h rx ry p
  unfold mulM at p
  split at p
  · split at p
    · rename_i hc
      cases rx
      cases ry
      exact .inl ⟨_, _, rfl, rfl, hc, p.now h _ (.int _)⟩
    · exact p.elim
  · split at p
    · rename_i hl
      cases rx with
      | lst h1 r1 =>
        cases ry
        refine .inr ⟨_, _, _, rfl, rfl, h.fh _ _ h1, hl.2.1, hl.2.2, ?_, fun q n => ?_⟩
        · rw [r1.len]
          exact Nat.le_trans hl.1 line_le
        · have ra := r1.flat (n := ‹Int›.toNat)
          exact p.newF h n _ (.lst upd_same (RpA.mono (same_upd (h.fh.free n)) _ _ ra))
    · exact p.elim
  · exact p.elim
theorem op_mulA : OpR X (binaryOp .Mult) (fun x y H Q => (∃ i j, x = .int i ∧ y = .int j ∧ CMul i j ∧ Q (.int (i * j)) H) ∨ rRep x y H Q) := op_mul.or op_rep
theorem os_div {K : PySem.W.Frag} : OS K (rI CDiv fun i j => .int (i / j)) divM := by
  intro C F H σ ρ x y d e Q hK h rx ry p
  unfold divM at p
  split at p
  · split at p
    · rename_i hc
      cases rx
      cases ry
      exact ⟨_, _, rfl, rfl, hc, p.now h _ (.int _)⟩
    · exact p.elim
  · exact p.elim
theorem os_mod {K : PySem.W.Frag} : OS K (rI (fun _ j => 0 < j) fun i j => .int (i % j)) modM := by
  intro C F H σ ρ x y d e Q hK h rx ry p
  unfold modM at p
  split at p
  · split at p
    · rename_i hc
      cases rx
      cases ry
      exact ⟨_, _, rfl, rfl, hc, p.now h _ (.int _)⟩
    · exact p.elim
  · exact p.elim
def CPowW (i j : Int) : Prop := 0 ≤ j ∧ (Builtin.Int.intBits i : Int) * j ≤ 2 ^ 27
theorem op_powA : OpR X (binaryOp .Pow) (rI CPowW fun i j => .int (i ^ j.toNat)) := opI fun _ _ _ _ _ _ _ hc q => pow_int hc.1 hc.2 q
theorem os_pow {K : PySem.W.Frag} : OS K (rI CPowW fun i j => .int (i ^ j.toNat)) powM := by
  intro C F H σ ρ x y d e Q hK h rx ry p
  unfold powM at p
  split at p
  · split at p
    · rename_i hc
      cases rx
      cases ry
      exact ⟨_, _, rfl, rfl, hc, p.now h _ (.int _)⟩
    · exact p.elim
  · exact p.elim
/-! == of data -/
def rEqQ (K : PySem.W.Frag) : R2 := fun x y H Q => ∃ d e, Dp K H x d ∧ Dp K H y e ∧ d.canLay0 = true ∧ e.canLay0 = true ∧ min d.depth e.depth ≤ 60 ∧ Q (.bl (PyData.eqv d e)) H
def rNeQ (K : PySem.W.Frag) : R2 := fun x y H Q => ∃ d e, Dp K H x d ∧ Dp K H y e ∧ d.canLay0 = true ∧ e.canLay0 = true ∧ min d.depth e.depth ≤ 60 ∧ Q (.bl (!PyData.eqv d e)) H
theorem op_eqQ (hu : X.A.units + 64 < cLine) : OpR X (compareOp .Eq) (rEqQ X.K) := by
  intro pins s σ H x y v u Q I rx ry ⟨d, e, hd, he, sd, se, hm, q⟩
  obtain ⟨as, r1⟩ := Dp.reads I d x v hd rx
  obtain ⟨bs, r2⟩ := Dp.reads I e y u he ry
  exact SeqAt.compareEq_reads r1 r2 sd se (by omega) ⟨.bl _, H, I, rfl, q⟩
theorem op_neQ (hu : X.A.units + 64 < cLine) : OpR X (compareOp .NotEq) (rNeQ X.K) := by
  intro pins s σ H x y v u Q I rx ry ⟨d, e, hd, he, sd, se, hm, q⟩
  obtain ⟨as, r1⟩ := Dp.reads I d x v hd rx
  obtain ⟨bs, r2⟩ := Dp.reads I e y u he ry
  exact SeqAt.compareNe_reads r1 r2 sd se (by omega) ⟨.bl _, H, I, rfl, q⟩
theorem os_eq {K : PySem.W.Frag} : OS K (rEqQ K) eqM := by
  intro C F H σ ρ x y d e Q hK h rx ry p
  subst hK
  unfold eqM at p
  split at p
  · rename_i hm
    exact ⟨d, e, Rp.dp _ _ (Rp.mono h.fh _ _ rx), Rp.dp _ _ (Rp.mono h.fh _ _ ry), Rp.lay _ _ rx, Rp.lay _ _ ry, hm, p.now h _ (.bl _)⟩
  · exact p.elim
theorem os_ne {K : PySem.W.Frag} : OS K (rNeQ K) neM := by
  intro C F H σ ρ x y d e Q hK h rx ry p
  subst hK
  unfold neM at p
  split at p
  · rename_i hm
    exact ⟨d, e, Rp.dp _ _ (Rp.mono h.fh _ _ rx), Rp.dp _ _ (Rp.mono h.fh _ _ ry), Rp.lay _ _ rx, Rp.lay _ _ ry, hm, p.now h _ (.bl _)⟩
  · exact p.elim
/-! order -/
def rCmpA (f : Int → Int → Bool) (g : Str → Str → Bool) : R2 := fun x y H Q => (∃ i j, x = .int i ∧ y = .int j ∧ Q (.bl (f i j)) H) ∨ ∃ i j, x = .str i ∧ y = .str j ∧ Q (.bl (g i j)) H
theorem op_ltA : OpR X (compareOp .Lt) (rCmpA (fun i j => decide (i < j)) fun i j => decide (i.cps.toList < j.cps.toList)) := op_lt.or op_lt_str

theorem op_leA : OpR X (compareOp .LtE) (rCmpA (fun i j => decide (i ≤ j)) fun i j => !decide (j.cps.toList < i.cps.toList)) := op_le.or op_le_str
theorem op_gtA : OpR X (compareOp .Gt) (rCmpA (fun i j => decide (j < i)) fun i j => decide (j.cps.toList < i.cps.toList)) := op_gt.or op_gt_str
theorem op_geA : OpR X (compareOp .GtE) (rCmpA (fun i j => decide (j ≤ i)) fun i j => !decide (i.cps.toList < j.cps.toList)) := op_ge.or op_ge_str
def cmpM (f : Int → Int → Bool) (g : Str → Str → Bool) : PyData → PyData → Mo PyData
  | .int i, .int j => pu (.bool (f i j))
  | .str x, .str y => pu (.bool (g x y))
  | _, _ => no
theorem os_cmp {K : PySem.W.Frag} {f : Int → Int → Bool} {g : Str → Str → Bool} : OS K (rCmpA f g) (cmpM f g) := by
  intro C F H σ ρ x y d e Q hK h rx ry p
  unfold cmpM at p
  split at p
  · cases rx
    cases ry
    exact .inl ⟨_, _, rfl, rfl, p.now h _ (.bl _)⟩
  · cases rx with
    | str _ h1 =>
      cases ry with
      | str _ h2 => exact .inr ⟨_, _, rfl, rfl, p.now h _ (.bl _)⟩
  · exact p.elim
/-! in -/
theorem flat_of {K : PySem.W.Frag} {F : Hp} {v : V} {d : PyData} (h : Rp K F v d) (f : flatD d = true) : flatV v = true := by
  cases h <;> first | rfl | exact absurd f Bool.false_ne_true
theorem flats_of {K : PySem.W.Frag} {F : Hp} : ∀ {ds : List PyData} {vs : List V}, RpA K F vs ds → ds.all flatD = true → vs.all flatV = true
  | [], _, h, _ => by cases h; rfl
  | d :: ds, _, h, f => by
    cases h with
    | cons h r =>
      simp only [List.all_cons, Bool.and_eq_true] at f ⊢
      exact ⟨flat_of h f.1, flats_of r f.2⟩
theorem eqv_of {K : PySem.W.Frag} {F : Hp} {v u : V} {d e : PyData} (h : Rp K F v d) (g : Rp K F u e) (f1 : flatD d = true) (f2 : flatD e = true) : eqV v u = PyData.eqv d e := by
  cases h <;> cases g <;> first | (simp only [eqV, PyData.eqv]; done) | exact absurd f1 Bool.false_ne_true | exact absurd f2 Bool.false_ne_true | skip
  all_goals (simp [eqV, PyData.eqv])
theorem in_of {K : PySem.W.Frag} {F : Hp} {x : V} {d : PyData} (h : Rp K F x d) (f : flatD d = true) : ∀ {ds : List PyData} {vs : List V}, RpA K F vs ds → ds.all flatD = true → inV x vs = ds.any fun y => PyData.eqv y d
  | [], _, r, _ => by cases r; rfl
  | e :: es, _, r, g => by
    cases r with
    | cons r rs =>
      simp only [List.all_cons, Bool.and_eq_true] at g
      show (eqV _ x || inV x _) = (PyData.eqv e d || es.any _)
      rw [eqv_of r h g.1 f, in_of h f rs g.2]
theorem os_in {K : PySem.W.Frag} : OS K (rIn K false) inM := by
  intro C F H σ ρ x y d e Q hK h rx ry p
  unfold inM at p
  split at p
  · split at p
    · rename_i hf
      obtain ⟨f1, f2⟩ := Bool.and_eq_true_iff.mp hf
      cases ry with
      | lst h1 r1 =>
        refine ⟨_, _, rfl, .inl (SqL.of (h.fh _ _ h1)), flat_of rx f1, flats_of r1 f2, ?_⟩
        have := p.now h _ (.bl _)
        rw [← in_of rx f1 r1 f2] at this
        exact this
    · exact p.elim
  · split at p
    · rename_i hf
      obtain ⟨f1, f2⟩ := Bool.and_eq_true_iff.mp hf
      cases ry with
      | tup h1 r1 =>
        refine ⟨_, _, rfl, .inr (SqT.of (h.fh _ _ h1)), flat_of rx f1, flats_of r1 f2, ?_⟩
        have := p.now h _ (.bl _)
        rw [← in_of rx f1 r1 f2] at this
        exact this
    · exact p.elim
  · exact p.elim
theorem os_nin {K : PySem.W.Frag} : OS K (rIn K true) ninM := by
  intro C F H σ ρ x y d e Q hK h rx ry p
  unfold ninM at p
  split at p
  · split at p
    · rename_i hf
      obtain ⟨f1, f2⟩ := Bool.and_eq_true_iff.mp hf
      cases ry with
      | lst h1 r1 =>
        refine ⟨_, _, rfl, .inl (SqL.of (h.fh _ _ h1)), flat_of rx f1, flats_of r1 f2, ?_⟩
        have := p.now h _ (.bl _)
        rw [← in_of rx f1 r1 f2] at this
        exact this
    · exact p.elim
  · split at p
    · rename_i hf
      obtain ⟨f1, f2⟩ := Bool.and_eq_true_iff.mp hf
      cases ry with
      | tup h1 r1 =>
        refine ⟨_, _, rfl, .inr (SqT.of (h.fh _ _ h1)), flat_of rx f1, flats_of r1 f2, ?_⟩
        have := p.now h _ (.bl _)
        rw [← in_of rx f1 r1 f2] at this
        exact this
    · exact p.elim
  · exact p.elim
def noneB : PyData → Bool
  | .none => true
  | _ => false
theorem none_of {K : PySem.W.Frag} {F : Hp} {v : V} {d : PyData} (h : Rp K F v d) : decide (v = .non) = noneB d := by
  cases h <;> first | rfl | simp [noneB]
def isN (fa : Mo PyData) : Mo PyData := bnd fa fun d => pu (.bool (noneB d))
def isnN (fa : Mo PyData) : Mo PyData := bnd fa fun d => pu (.bool (!noneB d))
end
section
variable {X : Cx} {B : Bs} {W : WX} {a b c e : Expr} {es rest : List Expr} {pos : Pos} {fa fb fc : Mo PyData} {ta tb : Mo Bool}
theorem de_isN {j pos'} (ha : DE X B W a fa) : DE X B W (.Compare a [.Is] [.Constant .none j pos'] pos) (isN fa) :=
  ⟨pe_imp (pe_cmp (pc_isN ha.pe) rfl) fun σ H Q ⟨F, ρ, h, p⟩ => ⟨F, ρ, h, p.bnd.imp fun d ρ1 F1 H1 s h1 p1 v rv => by
    show Q (.bl (decide (v = .non))) H1
    rw [none_of rv]
    exact Post.now p1 h1 _ (.bl _)⟩⟩
theorem de_isnN {j pos'} (ha : DE X B W a fa) : DE X B W (.Compare a [.IsNot] [.Constant .none j pos'] pos) (isnN fa) :=
  ⟨pe_imp (pe_cmp (pc_notN ha.pe) rfl) fun σ H Q ⟨F, ρ, h, p⟩ => ⟨F, ρ, h, p.bnd.imp fun d ρ1 F1 H1 s h1 p1 v rv => by
    show Q (.bl (!decide (v = .non))) H1
    rw [none_of rv]
    exact Post.now p1 h1 _ (.bl _)⟩⟩
/-- a < b < c -/
def chn (g g' : PyData → PyData → Mo PyData) (fa fb fc : Mo PyData) : Mo PyData := bnd fa fun x => bnd fb fun y => bnd (g x y) fun z => match z with
  | .bool true => bnd fc fun u => g' y u
  | .bool false => pu (.bool false)
  | _ => no

theorem chn_ok {C : Ct} {r r' : R2} {g g' : PyData → PyData → Mo PyData} (o : OS C.K r g) (o' : OS C.K r' g') {σ : L2.St} {H : Hp} {Q : VK} (w : tE C (chn g g' fa fb fc) σ H Q) : tChain r r' (tE C fa) (tE C fb) (tE C fc) σ H Q := by
  obtain ⟨F, ρ, h, p⟩ := w
  refine ⟨F, ρ, h, p.bnd.imp fun x ρ1 F1 H1 s h1 p1 v rv => ⟨F1, ρ1, h1, p1.bnd.imp fun y ρ2 F2 H2 s2 h2 p2 u ru => ?_⟩⟩
  refine o C F2 H2 σ ρ2 v u x y _ rfl h2 (Rp.mono s2 _ _ rv) ru (p2.bnd.imp fun z ρ3 F3 H3 s3 h3 p3 v3 r3 => ?_)
  cases z with
  | bool k =>
    cases r3
    cases k with
    | true =>
      refine ⟨true, rfl, ?_⟩
      rw [if_pos rfl]
      refine ⟨F3, ρ3, h3, Post.imp (Post.bnd p3) fun z ρ4 F4 H4 s4 h4 p4 v4 r4 => ?_⟩
      exact o' C F4 H4 σ ρ4 u v4 y z Q rfl h4 (Rp.mono (s3.trans s4) _ _ ru) r4 p4
    | false =>
      refine ⟨false, rfl, ?_⟩
      rw [if_neg Bool.false_ne_true]
      exact Post.now p3 h3 _ (.bl _)
  | _ => exact (show False from p3).elim
theorem de_chn {op op' : CmpOp} {r r' : R2} {g g' : PyData → PyData → Mo PyData} (ho : OpR X (compareOp op) r) (o : OS X.K r g) (ho' : OpR X (compareOp op') r') (o' : OS X.K r' g') (ha : DE X B W a fa) (hb : DE X B W b fb) (hc : DE X B W c fc)
    (hm : lastMarks [op, op'] [b, c] = false := by with_unfolding_all rfl) : DE X B W (.Compare a [op, op'] [b, c] pos) (chn g g' fa fb fc) :=
  ⟨pe_imp (pe_chain ho ho' ha.pe hb.pe hc.pe hm) fun σ H Q w => chn_ok (C := ct X B W) o o' w⟩
/-! ### tests -/
def tstM : PyData → Mo Bool
  | .bool b => pu b
  | _ => no
def tst (f : Mo PyData) : Mo Bool := bnd f tstM
theorem tst_in {C : Ct} {f : Mo PyData} {σ : L2.St} {H : Hp} {Q : Bool → Hp → Prop} (w : tT C (tst f) σ H Q) : tE C f σ H fun x H1 => ∃ k, x = .bl k ∧ Q k H1 := by
  obtain ⟨F, ρ, h, p⟩ := w
  refine ⟨F, ρ, h, p.bnd.imp fun d ρ1 F1 H1 s h1 p1 v rv => ?_⟩
  cases d with
  | bool k =>
    cases rv
    exact ⟨k, rfl, Post.now p1 h1⟩
  | _ => exact (show False from p1).elim
theorem dt_cmp {op : CmpOp} {r : R2} {g : PyData → PyData → Mo PyData} (ho : OpR X (compareOp op) r) (o : OS X.K r g) (ha : DE X B W a fa) (hb : DE X B W b fb) (hm : behindInMarks op b = false := by first | exact nomark _ | rfl) : DT X B W (.Compare a [op] [b] pos) (tst (bin g fa fb)) :=
  ⟨pt_imp (pt_cmpR ho ha.pe hb.pe hm) fun σ H Q w => bin_ok (C := ct X B W) o (tst_in w)⟩
theorem dt_chn {op op' : CmpOp} {r r' : R2} {g g' : PyData → PyData → Mo PyData} (ho : OpR X (compareOp op) r) (o : OS X.K r g) (ho' : OpR X (compareOp op') r') (o' : OS X.K r' g') (ha : DE X B W a fa) (hb : DE X B W b fb) (hc : DE X B W c fc)
    (hm : lastMarks [op, op'] [b, c] = false := by with_unfolding_all rfl) : DT X B W (.Compare a [op, op'] [b, c] pos) (tst (chn g g' fa fb fc)) :=
  ⟨pt_imp (pt_chain ho ho' ha.pe hb.pe hc.pe hm) fun σ H Q w => chn_ok (C := ct X B W) o o' (tst_in w)⟩
theorem dt_isN {j pos'} (ha : DE X B W a fa) : DT X B W (.Compare a [.Is] [.Constant .none j pos'] pos) (tst (isN fa)) :=
  ⟨pt_imp (pt_cmp (pc_isN ha.pe) rfl) fun σ H Q w => by
    obtain ⟨F, ρ, h, p⟩ := tst_in w
    exact ⟨F, ρ, h, p.bnd.imp fun d ρ1 F1 H1 s h1 p1 v rv => by
      show ∃ k, V.bl (decide (v = .non)) = .bl k ∧ Q k H1
      rw [none_of rv]
      exact Post.now p1 h1 _ (.bl _)⟩⟩
theorem dt_isnN {j pos'} (ha : DE X B W a fa) : DT X B W (.Compare a [.IsNot] [.Constant .none j pos'] pos) (tst (isnN fa)) :=
  ⟨pt_imp (pt_cmp (pc_notN ha.pe) rfl) fun σ H Q w => by
    obtain ⟨F, ρ, h, p⟩ := tst_in w
    exact ⟨F, ρ, h, p.bnd.imp fun d ρ1 F1 H1 s h1 p1 v rv => by
      show ∃ k, V.bl (!decide (v = .non)) = .bl k ∧ Q k H1
      rw [none_of rv]
      exact Post.now p1 h1 _ (.bl _)⟩⟩
def truM : PyData → Mo Bool
  | .none => pu false
  | .bool b => pu b
  | .int i => pu (i != 0)
  | .str x => if x.length ≤ 1000000 then pu ((x.length : Int) != 0) else no
  | .list ds => pu (!ds.isEmpty)
  | .tuple ds => pu (!ds.isEmpty)
  | .dict _ => no
def tru (f : Mo PyData) : Mo Bool := bnd f truM
theorem emp_of {K : PySem.W.Frag} {F : Hp} {vs : List V} {ds : List PyData} (h : RpA K F vs ds) : vs.isEmpty = ds.isEmpty := by
  cases h <;> rfl
theorem dt_tru (ha : DE X B W a fa) (he : ∀ whole, isTrue a X.env whole = (do let v ← whole; standAt a.pos; holding [v] (truthy v)) := by intro _; rfl) : DT X B W a (tru fa) := by
  refine ⟨pt_imp (pt_truth ha.pe he) fun σ H Q ⟨F, ρ, h, p⟩ => ⟨F, ρ, h, p.bnd.imp fun d ρ1 F1 H1 s h1 p1 v rv => ?_⟩⟩
  cases d with
  | none => cases rv; exact ⟨false, rfl, Post.now p1 h1⟩
  | bool b => cases rv; exact ⟨b, rfl, Post.now p1 h1⟩
  | int i => cases rv; exact ⟨_, rfl, Post.now p1 h1⟩
  | str x =>
    cases rv
    by_cases hl : x.length ≤ 1000000
    · rw [show truM (.str x) = pu ((x.length : Int) != 0) from if_pos hl] at p1
      exact ⟨_, ⟨Nat.le_trans hl line_le, rfl⟩, Post.now p1 h1⟩
    · rw [show truM (.str x) = no from if_neg hl] at p1
      exact (show False from p1).elim
  | list ds =>
    cases rv with
    | lst e r =>
      refine ⟨_, .inl ⟨_, SqL.of (h1.fh _ _ e), rfl⟩, ?_⟩
      rw [emp_of r]
      exact Post.now p1 h1
  | tuple ds =>
    cases rv with
    | tup e r =>
      refine ⟨_, .inr (.inl ⟨_, SqT.of (h1.fh _ _ e), rfl⟩), ?_⟩
      rw [emp_of r]
      exact Post.now p1 h1
  | dict _ => exact (show False from p1).elim
def notT (t : Mo Bool) : Mo Bool := bnd t fun b => pu (!b)
def andT (t u : Mo Bool) : Mo Bool := bnd t fun b => if b then u else pu false
def orT (t u : Mo Bool) : Mo Bool := bnd t fun b => if b then pu true else u
theorem dt_not (ha : DT X B W a ta) : DT X B W (.UnaryOp .Not a pos) (notT ta) :=
  ⟨pt_imp (pt_not ha.pt) fun σ H Q ⟨F, ρ, h, p⟩ => ⟨F, ρ, h, p.bnd.imp fun b ρ1 F1 H1 s h1 p1 => Post.now p1 h1⟩⟩
theorem dw_and1 (ha : DT X B W a ta) : DW X B W (.BoolOp .And [a] pos) ta := ⟨pw_and1 ha.pt⟩
theorem dw_or1 (ha : DT X B W a ta) : DW X B W (.BoolOp .Or [a] pos) ta := ⟨pw_or1 ha.pt⟩
theorem dw_and (ha : DT X B W a ta) (hb : DW X B W (.BoolOp .And (b :: rest) pos) tb) : DW X B W (.BoolOp .And (a :: b :: rest) pos) (andT ta tb) :=
  ⟨pw_imp (pw_and ha.pt hb.pw) fun σ H Q ⟨F, ρ, h, p⟩ => ⟨F, ρ, h, p.bnd.imp fun k ρ1 F1 H1 s h1 p1 => by
    cases k with
    | true =>
      rw [if_pos rfl]
      exact ⟨F1, ρ1, h1, p1⟩
    | false =>
      rw [if_neg Bool.false_ne_true]
      exact Post.now p1 h1⟩⟩
theorem dw_or (ha : DT X B W a ta) (hb : DW X B W (.BoolOp .Or (b :: rest) pos) tb) : DW X B W (.BoolOp .Or (a :: b :: rest) pos) (orT ta tb) :=
  ⟨pw_imp (pw_or ha.pt hb.pw) fun σ H Q ⟨F, ρ, h, p⟩ => ⟨F, ρ, h, p.bnd.imp fun k ρ1 F1 H1 s h1 p1 => by
    cases k with
    | true =>
      rw [if_pos rfl]
      exact Post.now p1 h1
    | false =>
      rw [if_neg Bool.false_ne_true]
      exact ⟨F1, ρ1, h1, p1⟩⟩⟩
theorem dt_w (h : DW X B W e ta) : DT X B W e ta := ⟨h.pw.pt⟩
/-! ### and, or, not as values; a if t else b; - a -/
def andV (fa fb : Mo PyData) : Mo PyData := bnd (tst fa) fun k => if k then fb else pu (.bool false)
def orV (fa fb : Mo PyData) : Mo PyData := bnd (tst fa) fun k => if k then pu (.bool true) else fb
def notV (fa : Mo PyData) : Mo PyData := bnd (tst fa) fun k => pu (.bool (!k))
theorem tst_bnd {C : Ct} {f : Mo PyData} {g : Bool → Mo PyData} {σ : L2.St} {H : Hp} {Q : VK} (w : tE C (bnd (tst f) g) σ H Q) : tE C f σ H fun x H1 => ∃ k, x = .bl k ∧ tE C (g k) σ H1 Q := by
  obtain ⟨F, ρ, h, p⟩ := w
  refine ⟨F, ρ, h, p.bnd.bnd.imp fun d ρ1 F1 H1 s h1 p1 v rv => ?_⟩
  cases d with
  | bool k =>
    cases rv
    exact ⟨k, rfl, F1, ρ1, h1, Post.now p1 h1⟩
  | _ => exact (show False from p1).elim
theorem pu_in {C : Ct} {d : PyData} {σ : L2.St} {H : Hp} {Q : VK} (w : tE C (pu d) σ H Q) : ∃ F, Same F H ∧ ∀ v, Rp C.K F v d → Q v H := by
  obtain ⟨F, ρ, h, p⟩ := w
  exact ⟨F, h.fh, fun v r => p.now h v r⟩
theorem de_and (ha : DE X B W a fa) (hb : DE X B W (.BoolOp .And (b :: rest) pos) fb) : DE X B W (.BoolOp .And (a :: b :: rest) pos) (andV fa fb) := by
  refine ⟨pe_imp (pe_and ha.pe hb.pe) fun σ H Q w => ?_⟩
  obtain ⟨F, ρ, h, p⟩ := tst_bnd w
  refine ⟨F, ρ, h, p.imp fun d ρ1 F1 H1 s h1 p1 v rv => ?_⟩
  obtain ⟨k, e, w1⟩ := p1 v rv
  refine ⟨k, e, ?_⟩
  cases k with
  | true =>
    rw [if_pos rfl]
    exact w1
  | false =>
    rw [if_neg Bool.false_ne_true]
    obtain ⟨_, _, q⟩ := pu_in w1
    exact q _ (.bl _)
theorem de_or (ha : DE X B W a fa) (hb : DE X B W (.BoolOp .Or (b :: rest) pos) fb) : DE X B W (.BoolOp .Or (a :: b :: rest) pos) (orV fa fb) := by
  refine ⟨pe_imp (pe_or ha.pe hb.pe) fun σ H Q w => ?_⟩
  obtain ⟨F, ρ, h, p⟩ := tst_bnd w
  refine ⟨F, ρ, h, p.imp fun d ρ1 F1 H1 s h1 p1 v rv => ?_⟩
  obtain ⟨k, e, w1⟩ := p1 v rv
  refine ⟨k, e, ?_⟩
  cases k with
  | true =>
    rw [if_pos rfl]
    obtain ⟨_, _, q⟩ := pu_in w1
    exact q _ (.bl _)
  | false =>
    rw [if_neg Bool.false_ne_true]
    exact w1
theorem de_one {op} (ha : DE X B W a fa) : DE X B W (.BoolOp op [a] pos) fa := ⟨pe_one ha.pe⟩
theorem de_not (ha : DE X B W a fa) : DE X B W (.UnaryOp .Not a pos) (notV fa) := by
  refine ⟨pe_imp (pe_not ha.pe) fun σ H Q w => ?_⟩
  obtain ⟨F, ρ, h, p⟩ := tst_bnd w
  refine ⟨F, ρ, h, p.imp fun d ρ1 F1 H1 s h1 p1 v rv => ?_⟩
  obtain ⟨k, e, w1⟩ := p1 v rv
  obtain ⟨_, _, q⟩ := pu_in w1
  exact ⟨k, e, q _ (.bl _)⟩
def ifV (t : Mo Bool) (fa fb : Mo PyData) : Mo PyData := bnd t fun k => if k then fa else fb
theorem de_if (hc : DT X B W c ta) (ha : DE X B W a fa) (hb : DE X B W b fb) : DE X B W (.IfExp c a b pos) (ifV ta fa fb) :=
  ⟨pe_imp (pe_ifExp hc.pt ha.pe hb.pe) fun σ H Q ⟨F, ρ, h, p⟩ => ⟨F, ρ, h, p.bnd.imp fun k ρ1 F1 H1 s h1 p1 => by
    cases k with
    | true =>
      rw [if_pos rfl]
      exact ⟨F1, ρ1, h1, p1⟩
    | false =>
      rw [if_neg Bool.false_ne_true]
      exact ⟨F1, ρ1, h1, p1⟩⟩⟩
def negV (fa : Mo PyData) : Mo PyData := bnd fa fun d => match d with
  | .int i => pu (.int (-i))
  | _ => no
theorem de_neg (ha : DE X B W a fa) : DE X B W (.UnaryOp .USub a pos) (negV fa) :=
  ⟨pe_imp (pe_un un_neg ha.pe) fun σ H Q ⟨F, ρ, h, p⟩ => ⟨F, ρ, h, p.bnd.imp fun d ρ1 F1 H1 s h1 p1 v rv => by
    cases d with
    | int i =>
      cases rv
      exact ⟨i, rfl, Post.now p1 h1 _ (.int _)⟩
    | _ => exact (show False from p1).elim⟩⟩
/-! ### subscripts -/
def ixM : PyData → PyData → Mo PyData
  | .list ds, .int i => opt (atI ds i)
  | .tuple ds, .int i => opt (atI ds i)
  | .str z, .int i => if z.length ≤ 1000000 then bnd (opt (atI z.cps.toList i)) fun c => pu (.str ⟨#[c]⟩) else no
  | _, _ => no
theorem at_of {K : PySem.W.Frag} {F : Hp} {vs : List V} {ds : List PyData} (r : RpA K F vs ds) {i : Int} {d : PyData} (e : atI ds i = some d) : ∃ v, atI vs i = some v ∧ Rp K F v d := by
  unfold atI at e ⊢
  rw [r.len]
  cases q : ixN ds.length i with
  | none =>
    rw [q] at e
    cases e
  | some j =>
    rw [q] at e
    exact r.get e
theorem mem_atI {α : Type} {l : List α} {i : Int} {c : α} (e : atI l i = some c) : c ∈ l := by
  unfold atI at e
  cases q : ixN l.length i with
  | none =>
    rw [q] at e
    cases e
  | some j =>
    rw [q] at e
    exact List.mem_of_getElem? e
theorem okS_one {z : Str} {c : Nat} (h : okS z = true) (m : c ∈ z.cps.toList) : okS ⟨#[c]⟩ = true := by
  unfold okS at h ⊢
  have h1 := (Array.all_eq_true_iff_forall_mem.mp h) c (by simpa using m)
  simpa using h1
theorem os_ix {K : PySem.W.Frag} : OS K (rIx K) ixM := by
  intro C F H σ ρ x y d e Q hK h rx ry p
  subst hK
  unfold ixM at p
  split at p
  · cases rx with
    | lst h1 r1 =>
      cases ry
      unfold opt at p
      split at p
      · rename_i z q
        obtain ⟨v, q1, q2⟩ := at_of r1 q
        exact .inl ⟨_, _, _, v, rfl, rfl, SqL.of (h.fh _ _ h1), q1, p.now h v q2⟩
      · exact p.elim
  · cases rx with
    | tup h1 r1 =>
      cases ry
      unfold opt at p
      split at p
      · rename_i z q
        obtain ⟨v, q1, q2⟩ := at_of r1 q
        exact .inr (.inl ⟨_, _, _, v, rfl, rfl, SqT.of (h.fh _ _ h1), q1, p.now h v q2⟩)
      · exact p.elim
  · split at p
    · rename_i hl
      cases rx with
      | str z hz =>
        cases ry
        unfold opt bnd at p
        split at p
        · rename_i c ρ' q
          split at q
          · rename_i c' q'
            cases q
            exact .inr (.inr ⟨_, _, _, rfl, rfl, Nat.le_trans hl line_le, q', Post.now p h _ (.str _ (okS_one hz (mem_atI q')))⟩)
          · cases q
        · rename_i q
          split at q <;> cases q
        · exact p.elim
    · exact p.elim
  · exact p.elim
theorem de_ix (ha : DE X B W a fa) (hb : DE X B W b fb) (hs : PlainIx b := by exact fun _ _ => rfl) : DE X B W (.Subscript a b pos) (bin ixM fa fb) :=
  ⟨pe_imp (pe_ix ix_seq ha.pe hb.pe hs) fun σ H Q w => bin_ok (C := ct X B W) os_ix w⟩
end
end Dv
set_option Elab.async false
set_option linter.all false
set_option maxRecDepth 100000
set_option maxHeartbeats 2000000
namespace Dv
open PySem PySem.Spec PyProof.Rows L2

section
variable {X : Cx} {B : Bs} {W : WX} {a b c e : Expr} {es rest : List Expr} {pos p p2 : Pos} {fa fb fc : Mo PyData} {ta tb : Mo Bool} {fs : Mo (List PyData)}
/-! ### arguments, displays -/
def aNil : Mo (List PyData) := pu []
def aCons (f : Mo PyData) (g : Mo (List PyData)) : Mo (List PyData) := bnd f fun d => bnd g fun ds => pu (d :: ds)
theorem da_nil : DA X B W [] aNil := ⟨pa_imp pa_nil fun σ H Q ⟨F, ρ, h, p⟩ => (p.now h) [] .nil⟩
theorem da_cons (ha : DE X B W a fa) (hr : DA X B W es fs) (hs : starEach (a :: es) X.env = (false, eval a X.env) :: starEach es X.env := by rfl) : DA X B W (a :: es) (aCons fa fs) :=
  ⟨pa_imp (pa_cons ha.pe hr.pa hs) fun σ H Q ⟨F, ρ, h, p⟩ => ⟨F, ρ, h, p.bnd.imp fun d ρ1 F1 H1 s h1 p1 v rv => ⟨F1, ρ1, h1, p1.bnd.imp fun ds ρ2 F2 H2 s2 h2 p2 vs rs => Post.now p2 h2 _ (.cons (Rp.mono s2 _ _ rv) rs)⟩⟩⟩
def lstO (f : Mo (List PyData)) : Mo Sl := bnd f fun ds => if ds.length ≤ 1000000 then pu (.ob true (.l ds)) else no
def tupV (f : Mo (List PyData)) : Mo PyData := bnd f fun ds => if ds.length ≤ 1000000 then pu (.tuple ds) else no
theorem own_sn {C : Ct} {σ : L2.St} {F H : Hp} {ρ : Rho} {vs : List V} {ds : List PyData} {q : Addr} (h : ER C.B C.K F H σ ρ) (n : H q = none) (r : RpA C.K F vs ds) : SN C.B C.K F (upd H q (.lst vs)) σ ρ (.ref q) (.ob true (.l ds)) :=
  ⟨⟨q, _, rfl, h.fh.free n, upd_same, r, fun _ => h.h0 n, fun z => nomatch z⟩, rfl, h.fresh n⟩
theorem do_lst (ha : DA X B W es fs) : DO X B W (.List es pos) (lstO fs) := by
  refine ⟨pe_imp (pe_lst ha.pa) fun σ H Q ⟨F, ρ, h, p⟩ => ⟨F, ρ, h, p.bnd.imp fun ds ρ1 F1 H1 s h1 p1 vs rs => ?_⟩⟩
  split at p1
  · rename_i hl
    refine ⟨by rw [rs.len]; exact Nat.le_trans hl line_le, fun q n => ?_⟩
    exact Post.newO p1 h1 n _ (own_sn h1 n rs)
  · exact p1.elim
theorem de_tup {k} (ha : DA X B W es fs) : DE X B W (.Tuple es k pos) (tupV fs) := by
  refine ⟨pe_imp (pe_tup ha.pa) fun σ H Q ⟨F, ρ, h, p⟩ => ⟨F, ρ, h, p.bnd.imp fun ds ρ1 F1 H1 s h1 p1 vs rs => ?_⟩⟩
  split at p1
  · rename_i hl
    refine ⟨by rw [rs.len]; exact Nat.le_trans hl line_le, fun q n => ?_⟩
    exact Post.newF p1 h1 n _ (.tup upd_same (RpA.mono (same_upd (h1.fh.free n)) _ _ rs))
  · exact p1.elim
/-! ### slices -/
structure DP (X : Cx) (B : Bs) (W : WX) (o : Option Expr) (f : Mo (Option Int)) : Prop where
  po : PO X o fun σ H Q => ∃ F ρ, ER B X.K F H σ ρ ∧ Post (ct X B W) σ F (f ρ) fun d _ F' H' => Q d H'
def pN : Mo (Option Int) := pu none
def pS (f : Mo PyData) : Mo (Option Int) := bnd f fun d => match d with
  | .int i => pu (some i)
  | _ => no
theorem po_imp {o : Option Expr} {t t' : TO} (h : PO X o t) (i : ∀ σ H Q, t' σ H Q → t σ H Q) : PO X o t' := ⟨fun pins s σ H Q I w => h.run pins s σ H Q I (i σ H Q w)⟩
theorem dp_none : DP X B W none pN := ⟨po_imp po_none fun σ H Q ⟨F, ρ, h, p⟩ => p.now h⟩
theorem dp_some (ha : DE X B W a fa) : DP X B W (some a) (pS fa) := by
  refine ⟨po_imp (po_some ha.pe) fun σ H Q ⟨F, ρ, h, p⟩ => ⟨F, ρ, h, p.bnd.imp fun d ρ1 F1 H1 s h1 p1 v rv => ?_⟩⟩
  cases d with
  | int i =>
    cases rv
    exact ⟨i, rfl, Post.now p1 h1⟩
  | _ => exact (show False from p1).elim
def cutD (ds : List PyData) (lo hi : Option Int) : List PyData := (ds.drop (HT.sIx ds.length 0 lo)).take (HT.sIx ds.length ds.length hi - HT.sIx ds.length 0 lo)
def slM (d : PyData) (lo hi : Option Int) : Mo Sl := match d with
  | .list ds => pu (.ob true (.l (cutD ds lo hi)))
  | .str z => if z.length ≤ 1000000 then pu (.fz (.str (cutS z lo hi))) else no
  | _ => no
def slO (fa : Mo PyData) (fl fh : Mo (Option Int)) : Mo Sl := bnd fa fun d => bnd fl fun l => bnd fh fun u => slM d l u
theorem cut_of {K : PySem.W.Frag} {F : Hp} {vs : List V} {ds : List PyData} (r : RpA K F vs ds) (lo hi : Option Int) : RpA K F (cutV vs lo hi) (cutD ds lo hi) := by
  unfold cutV cutD
  rw [r.len]
  exact (r.drop _).take _
theorem okS_cut {z : Str} (h : okS z = true) (lo hi : Option Int) : okS (cutS z lo hi) = true := by
  unfold okS at h ⊢
  rw [Array.all_eq_true_iff_forall_mem] at h ⊢
  intro x hx
  apply h
  unfold cutS at hx
  simp only [List.mem_toArray] at hx
  have h1 := List.mem_of_mem_drop (List.mem_of_mem_take hx)
  simpa using h1
theorem do_sl {lo hi : Option Expr} {fl fh : Mo (Option Int)} (ha : DE X B W a fa) (hl : DP X B W lo fl) (hh : DP X B W hi fh) : DO X B W (.Subscript a (.Slice lo hi none p2) pos) (slO fa fl fh) := by
  refine ⟨pe_imp (pe_slice (sl_list.or sl_str) ha.pe hl.po hh.po) fun σ H Q ⟨F, ρ, h, p⟩ => ⟨F, ρ, h, p.bnd.imp fun d ρ1 F1 H1 s h1 p1 v rv =>
    ⟨F1, ρ1, h1, p1.bnd.imp fun l ρ2 F2 H2 s2 h2 p2 => ⟨F2, ρ2, h2, p2.bnd.imp fun u ρ3 F3 H3 s3 h3 p3 => ?_⟩⟩⟩⟩
  have rv3 := Rp.mono (s2.trans s3) _ _ rv
  unfold slM at p3
  split at p3
  · cases rv3 with
    | lst e r => exact .inl ⟨_, _, rfl, SqL.of (h3.fh _ _ e), fun q n => Post.newO p3 h3 n _ (own_sn h3 n (cut_of r l u))⟩
  · split at p3
    · rename_i hz
      cases rv3 with
      | str _ ho => exact .inr ⟨_, rfl, Nat.le_trans hz line_le, Post.now p3 h3 _ ⟨.str _ (okS_cut ho l u), trivial⟩⟩
    · exact p3.elim
  · exact p3.elim
/-! ### list + list, list * int: a new list that may change -/
def addO : PyData → PyData → Mo Sl
  | .list x, .list y => if x.length + y.length ≤ 1000000 then pu (.ob true (.l (x ++ y))) else no
  | _, _ => no
def mulO : PyData → PyData → Mo Sl
  | .list x, .int k => if x.length * k.toNat ≤ 1000000 ∧ -(2 ^ 63) ≤ k ∧ k < 2 ^ 63 then pu (.ob true (.l (List.replicate k.toNat x).flatten)) else no
  | _, _ => no
def binO (g : PyData → PyData → Mo Sl) (fa fb : Mo PyData) : Mo Sl := bnd fa fun x => bnd fb fun y => g x y
def OSo (K : PySem.W.Frag) (r : R2) (g : PyData → PyData → Mo Sl) : Prop := ∀ (C : Ct) (F H : Hp) (σ : L2.St) (ρ : Rho) (x y : V) (d e : PyData) (Q : VK), C.K = K → ER C.B C.K F H σ ρ → Rp C.K F x d → Rp C.K F y e →
  Post C σ F (g d e ρ) (fun w ρ' F' H' => ∀ v, SN C.B C.K F' H' σ ρ' v w → Q v H') → r x y H Q
theorem binO_ok {C : Ct} {r : R2} {g : PyData → PyData → Mo Sl} (o : OSo C.K r g) {σ : L2.St} {H : Hp} {Q : VK} (w : tO C (binO g fa fb) σ H Q) : tOp r (tE C fa) (tE C fb) σ H Q := by
  obtain ⟨F, ρ, h, p⟩ := w
  refine ⟨F, ρ, h, p.bnd.imp fun x ρ1 F1 H1 s h1 p1 v rv => ⟨F1, ρ1, h1, p1.bnd.imp fun y ρ2 F2 H2 s2 h2 p2 u ru => ?_⟩⟩
  exact o C F2 H2 σ ρ2 v u x y Q rfl h2 (Rp.mono s2 _ _ rv) ru p2
theorem oso_add {K : PySem.W.Frag} : OSo K rCat addO := by
  intro C F H σ ρ x y d e Q hK h rx ry p
  unfold addO at p
  split at p
  · split at p
    · rename_i hl
      cases rx with
      | lst h1 r1 =>
        cases ry with
        | lst h2 r2 =>
          refine ⟨_, _, _, _, rfl, rfl, h.fh _ _ h1, h.fh _ _ h2, ?_, fun q n => p.newO h n _ (own_sn h n (r1.app r2))⟩
          rw [r1.len, r2.len]
          exact Nat.le_trans hl line_le
    · exact p.elim
  · exact p.elim
theorem oso_mul {K : PySem.W.Frag} : OSo K rRep mulO := by
  intro C F H σ ρ x y d e Q hK h rx ry p
  unfold mulO at p
  split at p
  · split at p
    · rename_i hl
      cases rx with
      | lst h1 r1 =>
        cases ry
        refine ⟨_, _, _, rfl, rfl, h.fh _ _ h1, hl.2.1, hl.2.2, ?_, fun q n => p.newO h n _ (own_sn h n (r1.flat _))⟩
        rw [r1.len]
        exact Nat.le_trans hl.1 line_le
    · exact p.elim
  · exact p.elim
theorem do_add (ha : DE X B W a fa) (hb : DE X B W b fb) : DO X B W (.BinOp a .Add b pos) (binO addO fa fb) := ⟨pe_imp (pe_op op_cat ha.pe hb.pe) fun σ H Q w => binO_ok (C := ct X B W) oso_add w⟩
theorem do_mul (ha : DE X B W a fa) (hb : DE X B W b fb) : DO X B W (.BinOp a .Mult b pos) (binO mulO fa fb) := ⟨pe_imp (pe_op op_rep ha.pe hb.pe) fun σ H Q w => binO_ok (C := ct X B W) oso_mul w⟩
/-! ### calls of built-ins -/
def CSd (K : PySem.W.Frag) (r : List V → Hp → VK → Prop) (g : List PyData → Mo PyData) : Prop := ∀ (C : Ct) (F H : Hp) (σ : L2.St) (ρ : Rho) (vs : List V) (ds : List PyData) (Q : VK), C.K = K → ER C.B C.K F H σ ρ → RpA C.K F vs ds →
  Post C σ F (g ds ρ) (fun d _ F' H' => ∀ v, Rp C.K F' v d → Q v H') → r vs H Q
def CSo (K : PySem.W.Frag) (r : List V → Hp → VK → Prop) (g : List PyData → Mo Sl) : Prop := ∀ (C : Ct) (F H : Hp) (σ : L2.St) (ρ : Rho) (vs : List V) (ds : List PyData) (Q : VK), C.K = K → ER C.B C.K F H σ ρ → RpA C.K F vs ds →
  Post C σ F (g ds ρ) (fun w ρ' F' H' => ∀ v, SN C.B C.K F' H' σ ρ' v w → Q v H') → r vs H Q
theorem de_cb {id : String} {x : Str} {r : List V → Hp → VK → Prop} {g : List PyData → Mo PyData} (hc : CallR X (.builtin id) r) (o : CSd X.K r g) (hm : X.mg x = none) (ha : DA X B W (e :: es) fs) (hv : bootBuiltins x = some (.builtin id) := by decide +kernel) (hg : Gl X x := by rfl)
    (hn : x ≠ "__name__" := by decide) (hdb : (x == ("__debug__" : Str)) = false := by decide) (he : starEach (e :: es) X.env = (false, eval e X.env) :: starEach es X.env := by rfl) (hpl : (backTo pos (starEach es X.env)).any (·.1) = false := by rfl) :
    DE X B W (.Call (.Name x p) (e :: es) [] pos) (bnd fs g) :=
  ⟨pe_imp (pe_callB hc hg hm hv ha.pa hn hdb he hpl) fun σ H Q ⟨F, ρ, h, p⟩ => ⟨F, ρ, h, p.bnd.imp fun ds ρ1 F1 H1 s h1 p1 vs rs => o (ct X B W) F1 H1 σ ρ1 vs ds Q rfl h1 rs p1⟩⟩
theorem do_cb {id : String} {x : Str} {r : List V → Hp → VK → Prop} {g : List PyData → Mo Sl} (hc : CallR X (.builtin id) r) (o : CSo X.K r g) (hm : X.mg x = none) (ha : DA X B W (e :: es) fs) (hv : bootBuiltins x = some (.builtin id) := by decide +kernel) (hg : Gl X x := by rfl)
    (hn : x ≠ "__name__" := by decide) (hdb : (x == ("__debug__" : Str)) = false := by decide) (he : starEach (e :: es) X.env = (false, eval e X.env) :: starEach es X.env := by rfl) (hpl : (backTo pos (starEach es X.env)).any (·.1) = false := by rfl) :
    DO X B W (.Call (.Name x p) (e :: es) [] pos) (bnd fs g) :=
  ⟨pe_imp (pe_callB hc hg hm hv ha.pa hn hdb he hpl) fun σ H Q ⟨F, ρ, h, p⟩ => ⟨F, ρ, h, p.bnd.imp fun ds ρ1 F1 H1 s h1 p1 vs rs => o (ct X B W) F1 H1 σ ρ1 vs ds Q rfl h1 rs p1⟩⟩
theorem de_ctp {T : String} {x : Str} {r : List V → Hp → VK → Prop} {g : List PyData → Mo PyData} (hc : CallR X (.type T) r) (o : CSd X.K r g) (hm : X.mg x = none) (ha : DA X B W (e :: es) fs) (hv : bootBuiltins x = some (.type T) := by decide +kernel) (hg : Gl X x := by rfl)
    (hn : x ≠ "__name__" := by decide) (hdb : (x == ("__debug__" : Str)) = false := by decide) (he : starEach (e :: es) X.env = (false, eval e X.env) :: starEach es X.env := by rfl) (hpl : (backTo pos (starEach es X.env)).any (·.1) = false := by rfl) :
    DE X B W (.Call (.Name x p) (e :: es) [] pos) (bnd fs g) :=
  ⟨pe_imp (pe_callTy hc hg hm hv ha.pa hn hdb he hpl) fun σ H Q ⟨F, ρ, h, p⟩ => ⟨F, ρ, h, p.bnd.imp fun ds ρ1 F1 H1 s h1 p1 vs rs => o (ct X B W) F1 H1 σ ρ1 vs ds Q rfl h1 rs p1⟩⟩
theorem do_ctp {T : String} {x : Str} {r : List V → Hp → VK → Prop} {g : List PyData → Mo Sl} (hc : CallR X (.type T) r) (o : CSo X.K r g) (hm : X.mg x = none) (ha : DA X B W (e :: es) fs) (hv : bootBuiltins x = some (.type T) := by decide +kernel) (hg : Gl X x := by rfl)
    (hn : x ≠ "__name__" := by decide) (hdb : (x == ("__debug__" : Str)) = false := by decide) (he : starEach (e :: es) X.env = (false, eval e X.env) :: starEach es X.env := by rfl) (hpl : (backTo pos (starEach es X.env)).any (·.1) = false := by rfl) :
    DO X B W (.Call (.Name x p) (e :: es) [] pos) (bnd fs g) :=
  ⟨pe_imp (pe_callTy hc hg hm hv ha.pa hn hdb he hpl) fun σ H Q ⟨F, ρ, h, p⟩ => ⟨F, ρ, h, p.bnd.imp fun ds ρ1 F1 H1 s h1 p1 vs rs => o (ct X B W) F1 H1 σ ρ1 vs ds Q rfl h1 rs p1⟩⟩
def lenM : List PyData → Mo PyData
  | [.list ds] => pu (.int (ds.length : Int))
  | [.tuple ds] => pu (.int (ds.length : Int))
  | [.str z] => if z.length ≤ 1000000 then pu (.int (z.length : Int)) else no
  | _ => no
theorem cs_len {K : PySem.W.Frag} : CSd K (fun xs H Q => ∃ x n, xs = [x] ∧ LenV K x H n ∧ Q (.int n) H) lenM := by
  intro C F H σ ρ vs ds Q hK h rs p
  subst hK
  unfold lenM at p
  split at p
  · cases rs with
    | cons r rs =>
      cases rs
      cases r with
      | lst e r => exact ⟨_, _, rfl, .inl ⟨_, SqL.of (h.fh _ _ e), r.len.symm⟩, p.now h _ (.int _)⟩
  · cases rs with
    | cons r rs =>
      cases rs
      cases r with
      | tup e r => exact ⟨_, _, rfl, .inr ⟨_, SqT.of (h.fh _ _ e), r.len.symm⟩, p.now h _ (.int _)⟩
  · split at p
    · rename_i hl
      cases rs with
      | cons r rs =>
        cases rs
        cases r
        exact ⟨_, _, rfl, ⟨Nat.le_trans hl line_le, rfl⟩, p.now h _ (.int _)⟩
    · exact p.elim
  · exact p.elim
def intM : List PyData → Mo PyData
  | [.int i] => pu (.int i)
  | [.bool k] => pu (.int (if k then 1 else 0))
  | _ => no
theorem cs_int {K : PySem.W.Frag} : CSd K (fun xs H Q => (∃ i, xs = [.int i] ∧ Q (.int i) H) ∨ ∃ k, xs = [.bl k] ∧ Q (.int (if k then 1 else 0)) H) intM := by
  intro C F H σ ρ vs ds Q hK h rs p
  unfold intM at p
  split at p
  · cases rs with
    | cons r rs =>
      cases rs
      cases r
      exact .inl ⟨_, rfl, p.now h _ (.int _)⟩
  · cases rs with
    | cons r rs =>
      cases rs
      cases r
      exact .inr ⟨_, rfl, p.now h _ (.int _)⟩
  · exact p.elim
def absM : List PyData → Mo PyData
  | [.int i] => pu (.int (if i < 0 then -i else i))
  | _ => no
theorem cs_abs {K : PySem.W.Frag} : CSd K (fun xs H Q => ∃ i, xs = [.int i] ∧ Q (.int (if i < 0 then -i else i)) H) absM := by
  intro C F H σ ρ vs ds Q hK h rs p
  unfold absM at p
  split at p
  · cases rs with
    | cons r rs =>
      cases rs
      cases r
      exact ⟨_, rfl, p.now h _ (.int _)⟩
  · exact p.elim
def max2M : List PyData → Mo PyData
  | [.int i, .int j] => pu (.int (if j > i then j else i))
  | _ => no
def min2M : List PyData → Mo PyData
  | [.int i, .int j] => pu (.int (if j < i then j else i))
  | _ => no
theorem cs_max2 {K : PySem.W.Frag} : CSd K (fun xs H Q => ∃ i j, xs = [.int i, .int j] ∧ Q (.int (if j > i then j else i)) H) max2M := by
  intro C F H σ ρ vs ds Q hK h rs p
  unfold max2M at p
  split at p
  · cases rs with
    | cons r rs =>
      cases rs with
      | cons r2 rs =>
        cases rs
        cases r
        cases r2
        exact ⟨_, _, rfl, p.now h _ (.int _)⟩
  · exact p.elim
theorem cs_min2 {K : PySem.W.Frag} : CSd K (fun xs H Q => ∃ i j, xs = [.int i, .int j] ∧ Q (.int (if j < i then j else i)) H) min2M := by
  intro C F H σ ρ vs ds Q hK h rs p
  unfold min2M at p
  split at p
  · cases rs with
    | cons r rs =>
      cases rs with
      | cons r2 rs =>
        cases rs
        cases r
        cases r2
        exact ⟨_, _, rfl, p.now h _ (.int _)⟩
  · exact p.elim
/-- the ints of a list -/
def intsD : List PyData → Option (List Int)
  | [] => some []
  | .int i :: r => (intsD r).map (i :: ·)
  | _ :: _ => none
theorem ints_of {K : PySem.W.Frag} {F : Hp} : ∀ {ds : List PyData} {vs : List V} {ns : List Int}, RpA K F vs ds → intsD ds = some ns → vs = ns.map V.int
  | [], _, _, r, e => by
    cases r
    cases e
    rfl
  | d :: ds, _, ns, r, e => by
    cases r with
    | cons r rs =>
      cases d with
      | int i =>
        cases r
        cases q : intsD ds with
        | none =>
          have z : (intsD ds).map (i :: ·) = some ns := e
          rw [q] at z
          cases z
        | some ms =>
          have z : (intsD ds).map (i :: ·) = some ns := e
          rw [q] at z
          cases z
          rw [ints_of rs q]
          rfl
      | _ => cases e
def sumM : List PyData → Mo PyData
  | [.list ds] => bnd (opt (intsD ds)) fun ns => pu (.int ns.sum)
  | _ => no
theorem opt_in {α β : Type} {C : Ct} {σ : L2.St} {F : Hp} {ρ : Rho} {o : Option α} {g : α → Mo β} {R : β → Rho → Hp → Hp → Prop} (p : Post C σ F (bnd (opt o) g ρ) R) : ∃ a, o = some a ∧ Post C σ F (g a ρ) R := by
  cases o with
  | none => exact (show False from p).elim
  | some a => exact ⟨a, rfl, p⟩
theorem cs_sum {K : PySem.W.Frag} : CSd K (rSum K) sumM := by
  intro C F H σ ρ vs ds Q hK h rs p
  subst hK
  unfold sumM at p
  split at p
  · obtain ⟨ns, q, p⟩ := opt_in p
    cases rs with
    | cons r rs =>
      cases rs
      cases r with
      | lst e r =>
        refine ⟨_, ns, rfl, ?_, Post.now p h _ (.int _)⟩
        rw [← ints_of r q]
        exact SqL.of (h.fh _ _ e)
  · exact p.elim
def maxI : List Int → Option Int
  | [] => none
  | i :: r => match maxI r with
    | none => some i
    | some m => some (if i < m then m else i)
def minI : List Int → Option Int
  | [] => none
  | i :: r => match minI r with
    | none => some i
    | some m => some (if m < i then m else i)
theorem maxI_spec : ∀ {ns : List Int} {m : Int}, maxI ns = some m → m ∈ ns ∧ ∀ y ∈ ns, y ≤ m
  | [], _, e => by cases e
  | i :: r, m, e => by
    unfold maxI at e
    cases q : maxI r with
    | none =>
      rw [q] at e
      cases e
      cases r with
      | nil => simp
      | cons j r =>
        unfold maxI at q
        split at q <;> cases q
    | some k =>
      rw [q] at e
      obtain ⟨h1, h2⟩ := maxI_spec q
      simp only [Option.some.injEq] at e
      subst e
      split
      · exact ⟨List.mem_cons_of_mem _ h1, fun y hy => by
          rcases List.mem_cons.mp hy with rfl | hy
          · omega
          · exact h2 y hy⟩
      · exact ⟨List.mem_cons_self, fun y hy => by
          rcases List.mem_cons.mp hy with rfl | hy
          · omega
          · have := h2 y hy
            omega⟩
theorem minI_spec : ∀ {ns : List Int} {m : Int}, minI ns = some m → m ∈ ns ∧ ∀ y ∈ ns, m ≤ y
  | [], _, e => by cases e
  | i :: r, m, e => by
    unfold minI at e
    cases q : minI r with
    | none =>
      rw [q] at e
      cases e
      cases r with
      | nil => simp
      | cons j r =>
        unfold minI at q
        split at q <;> cases q
    | some k =>
      rw [q] at e
      obtain ⟨h1, h2⟩ := minI_spec q
      simp only [Option.some.injEq] at e
      subst e
      split
      · exact ⟨List.mem_cons_of_mem _ h1, fun y hy => by
          rcases List.mem_cons.mp hy with rfl | hy
          · omega
          · exact h2 y hy⟩
      · exact ⟨List.mem_cons_self, fun y hy => by
          rcases List.mem_cons.mp hy with rfl | hy
          · omega
          · have := h2 y hy
            omega⟩
def maxM : List PyData → Mo PyData
  | [.list ds] => bnd (opt (intsD ds)) fun ns => bnd (opt (maxI ns)) fun m => pu (.int m)
  | _ => no
def minM : List PyData → Mo PyData
  | [.list ds] => bnd (opt (intsD ds)) fun ns => bnd (opt (minI ns)) fun m => pu (.int m)
  | _ => no
theorem cs_max {K : PySem.W.Frag} : CSd K (rMax K) maxM := by
  intro C F H σ ρ vs ds Q hK h rs p
  subst hK
  unfold maxM at p
  split at p
  · obtain ⟨ns, q, p⟩ := opt_in p
    obtain ⟨m, q2, p⟩ := opt_in p
    obtain ⟨h1, h2⟩ := maxI_spec q2
    cases rs with
    | cons r rs =>
      cases rs
      cases r with
      | lst e r =>
        refine ⟨_, ns, rfl, ?_, List.length_pos_of_mem h1, fun m' g1 g2 => ?_⟩
        · rw [← ints_of r q]
          exact SqL.of (h.fh _ _ e)
        · have em : m' = m := Int.le_antisymm (h2 _ g1) (g2 _ h1)
          rw [em]
          exact Post.now p h _ (.int _)
  · exact p.elim
theorem cs_min {K : PySem.W.Frag} : CSd K (rMin K) minM := by
  intro C F H σ ρ vs ds Q hK h rs p
  subst hK
  unfold minM at p
  split at p
  · obtain ⟨ns, q, p⟩ := opt_in p
    obtain ⟨m, q2, p⟩ := opt_in p
    obtain ⟨h1, h2⟩ := minI_spec q2
    cases rs with
    | cons r rs =>
      cases rs
      cases r with
      | lst e r =>
        refine ⟨_, ns, rfl, ?_, List.length_pos_of_mem h1, fun m' g1 g2 => ?_⟩
        · rw [← ints_of r q]
          exact SqL.of (h.fh _ _ e)
        · have em : m' = m := Int.le_antisymm (g2 _ h1) (h2 _ g1)
          rw [em]
          exact Post.now p h _ (.int _)
  · exact p.elim
def listO : List PyData → Mo Sl
  | [.list ds] => pu (.ob true (.l ds))
  | [.tuple ds] => pu (.ob true (.l ds))
  | _ => no
theorem cs_list {K : PySem.W.Frag} : CSo K (fun xs H Q => ∃ p ys, xs = [.ref p] ∧ (SqL K H p ys ∨ SqT K H p ys) ∧ ∀ l, H l = none → Q (.ref l) (upd H l (.lst ys))) listO := by
  intro C F H σ ρ vs ds Q hK h rs p
  subst hK
  unfold listO at p
  split at p
  · cases rs with
    | cons r rs =>
      cases rs
      cases r with
      | lst e r => exact ⟨_, _, rfl, .inl (SqL.of (h.fh _ _ e)), fun l n => p.newO h n _ (own_sn h n r)⟩
  · cases rs with
    | cons r rs =>
      cases rs
      cases r with
      | tup e r => exact ⟨_, _, rfl, .inr (SqT.of (h.fh _ _ e)), fun l n => p.newO h n _ (own_sn h n r)⟩
  · exact p.elim
end
end Dv
set_option Elab.async false
set_option linter.all false
set_option maxRecDepth 100000
set_option maxHeartbeats 2000000
namespace Dv
open PySem PySem.Spec PyProof.Rows L2

/-! ### statements -/
def PostS (C : Ct) (F : Hp) (o : Out Fl) (D : Ends) : Prop := match o with
  | .ok .nx ρ' => ∀ F' H' σ', Same F F' → ER C.B C.K F' H' σ' ρ' → D.nx σ' H'
  | .ok (.rt w) ρ' => ∀ F' H' σ' v, Same F F' → ER C.B C.K F' H' σ' ρ' → SR C.B C.K F' H' v w → D.rt v H'
  | .ok .bk ρ' => ∀ F' H' σ', Same F F' → ER C.B C.K F' H' σ' ρ' → D.bk σ' H'
  | .ok .ct ρ' => ∀ F' H' σ', Same F F' → ER C.B C.K F' H' σ' ρ' → D.ct σ' H'
  | .err e ρ' => ∀ F' H' σ' cls dx, Same F F' → ER C.B C.K F' H' σ' ρ' → XR C.K F' cls dx e → C.Wx cls dx σ' H'
  | .no => False
def tS (C : Ct) (f : Mo Fl) : TS := fun D σ H => ∃ F ρ, ER C.B C.K F H σ ρ ∧ PostS C F (f ρ) D
structure DS (X : Cx) (B : Bs) (W : WX) (st : Stmt) (f : Mo Fl) : Prop where
  ps : PS X st (tS (ct X B W) f)
structure DSs (X : Cx) (B : Bs) (W : WX) (st : List Stmt) (f : Mo Fl) : Prop where
  pss : PSs X st (tS (ct X B W) f)
section
variable {C : Ct} {σ : L2.St} {F F1 H : Hp} {ρ : Rho} {D : Ends} {α : Type}
theorem PostS.later {o : Out Fl} (p : PostS C F o D) (s : Same F F1) : PostS C F1 o D := by
  cases o with
  | ok a ρ' =>
    cases a with
    | nx => exact fun F' H' σ' s' => p F' H' σ' (s.trans s')
    | rt w => exact fun F' H' σ' v s' => p F' H' σ' v (s.trans s')
    | bk => exact fun F' H' σ' s' => p F' H' σ' (s.trans s')
    | ct => exact fun F' H' σ' s' => p F' H' σ' (s.trans s')
  | err e ρ' => exact fun F' H' σ' cls dx s' => p F' H' σ' cls dx (s.trans s')
  | no => exact p
theorem PostS.bnd {f : Mo α} {g : α → Mo Fl} (p : PostS C F (bnd f g ρ) D) : Post C σ F (f ρ) fun a ρ1 F1 H1 => PostS C F1 (g a ρ1) D := by
  unfold Dv.bnd at p
  cases q : f ρ with
  | ok a ρ1 =>
    rw [q] at p
    exact fun F1 H1 s h => p.later s
  | err e ρ1 =>
    rw [q] at p
    exact fun F1 H1 cls dx s h x => p F1 H1 σ cls dx s h x
  | no =>
    rw [q] at p
    exact p
theorem PostS.ends {o : Out Fl} {D' : Ends} (p : PostS C F o D) (h1 : ∀ F' H' σ' ρ', Same F F' → ER C.B C.K F' H' σ' ρ' → o = .ok .nx ρ' → D.nx σ' H' → D'.nx σ' H') (h2 : D'.rt = D.rt) (h3 : ∀ F' H' σ' ρ', Same F F' → ER C.B C.K F' H' σ' ρ' → o = .ok .bk ρ' → D.bk σ' H' → D'.bk σ' H')
    (h4 : ∀ F' H' σ' ρ', Same F F' → ER C.B C.K F' H' σ' ρ' → o = .ok .ct ρ' → D.ct σ' H' → D'.ct σ' H') : PostS C F o D' := by
  cases o with
  | ok a ρ' =>
    cases a with
    | nx => exact fun F' H' σ' s' h => h1 F' H' σ' ρ' s' h rfl (p F' H' σ' s' h)
    | rt w =>
      intro F' H' σ' v s' h r
      rw [h2]
      exact p F' H' σ' v s' h r
    | bk => exact fun F' H' σ' s' h => h3 F' H' σ' ρ' s' h rfl (p F' H' σ' s' h)
    | ct => exact fun F' H' σ' s' h => h4 F' H' σ' ρ' s' h rfl (p F' H' σ' s' h)
  | err e ρ' => exact p
  | no => exact p
end
section
variable {X : Cx} {B : Bs} {W : WX} {e a b c : Expr} {es : List Expr} {pos pos' p p2 : Pos} {fa fb fc : Mo PyData} {fo : Mo Sl} {ta : Mo Bool} {fs : Mo (List PyData)} {st : Stmt} {sts : List Stmt} {f g : Mo Fl}
theorem ps_imp {t t' : TS} (h : PS X st t) (i : ∀ D σ H, t' D σ H → t D σ H) : PS X st t' := ⟨fun pins s σ H D I w => h.run pins s σ H D I (i D σ H w)⟩
theorem pss_imp {t t' : TS} (h : PSs X sts t) (i : ∀ D σ H, t' D σ H → t D σ H) : PSs X sts t' := ⟨fun pins s σ H D I w => h.run pins s σ H D I (i D σ H w)⟩
def sNil : Mo Fl := pu .nx
def sSeq (f g : Mo Fl) : Mo Fl := bnd f fun x => match x with
  | .nx => g
  | y => pu y
theorem seq_ok {C : Ct} {D : Ends} {σ : L2.St} {H : Hp} (w : tS C (sSeq f g) D σ H) : tSeq (tS C f) (tS C g) D σ H := by
  obtain ⟨F, ρ, h, p⟩ := w
  refine ⟨F, ρ, h, ?_⟩
  unfold sSeq bnd at p
  cases q : f ρ with
  | ok a ρ1 =>
    rw [q] at p
    cases a with
    | nx => exact fun F' H' σ' s h' => ⟨F', ρ1, h', PostS.later p s⟩
    | rt w => exact p
    | bk => exact p
    | ct => exact p
  | err e ρ1 =>
    rw [q] at p
    exact p
  | no =>
    rw [q] at p
    exact p
theorem ds_nil : DSs X B W [] sNil := ⟨pss_imp pss_nil fun D σ H ⟨F, ρ, h, p⟩ => p F H σ (Same.refl _) h⟩
theorem ds_cons (h1 : DS X B W st f) (h2 : DSs X B W sts g) : DSs X B W (st :: sts) (sSeq f g) := ⟨pss_imp (pss_cons h1.ps h2.pss) fun D σ H w => seq_ok w⟩
theorem ds_one (h1 : DS X B W st f) : DSs X B W [st] f := ⟨pss_one h1.ps⟩
theorem ds_pass : DS X B W (.Pass pos) sNil := ⟨ps_imp ps_pass fun D σ H ⟨F, ρ, h, p⟩ => p F H σ (Same.refl _) h⟩
def sCont : Mo Fl := pu .ct
def sBreak : Mo Fl := pu .bk
theorem ds_continue : DS X B W (.Continue pos) sCont := ⟨ps_imp ps_continue fun D σ H ⟨F, ρ, h, p⟩ => p F H σ (Same.refl _) h⟩
theorem ds_break : DS X B W (.Break pos) sBreak := ⟨ps_imp ps_break fun D σ H ⟨F, ρ, h, p⟩ => p F H σ (Same.refl _) h⟩
/-- an expression for its own sake -/
def sDo (fa : Mo PyData) : Mo Fl := bnd fa fun _ => pu .nx
theorem ds_expr (ha : DE X B W e fa) (hs : swapsWith e none pos.line X.env = pure false := by rfl) : DS X B W (.Expr e pos) (sDo fa) :=
  ⟨ps_imp (ps_expr ha.pe hs) fun D σ H ⟨F, ρ, h, p⟩ => ⟨F, ρ, h, p.bnd.imp fun d ρ1 F1 H1 s h1 p1 v rv => p1 F1 H1 σ (Same.refl _) h1⟩⟩
def sRet (fa : Mo PyData) : Mo Fl := bnd fa fun d => pu (.rt (.fz d))
def sRetO (fo : Mo Sl) : Mo Fl := bnd fo fun w => pu (.rt w)
theorem ds_ret (ha : DE X B W e fa) : DS X B W (.Return (some e) pos) (sRet fa) :=
  ⟨ps_imp (ps_ret ha.pe) fun D σ H ⟨F, ρ, h, p⟩ => ⟨F, ρ, h, p.bnd.imp fun d ρ1 F1 H1 s h1 p1 v rv => p1 F1 H1 σ v (Same.refl _) h1 rv⟩⟩
theorem ds_retO (ha : DO X B W e fo) : DS X B W (.Return (some e) pos) (sRetO fo) :=
  ⟨ps_imp (ps_ret ha.pe) fun D σ H ⟨F, ρ, h, p⟩ => ⟨F, ρ, h, p.bnd.imp fun d ρ1 F1 H1 s h1 p1 v rv => p1 F1 H1 σ v (Same.refl _) h1 rv.1⟩⟩
/-- return x, x an own object -/
def sRetV (i : Nat) : Mo Fl := fun ρ => match ρ[i]? with
  | some (some w) => .ok (.rt w) ρ
  | _ => .no
theorem ds_retV (i : Nat) {x : Str} (hN : X.N[i]? = some x := by rfl) (hv : Vis X.env.scope x := by first | exact Or.inl rfl | exact Or.inr (Or.inl rfl) | exact Or.inr (Or.inr rfl)) (hd : (x == ("__debug__" : Str)) = false := by decide)
    (hcd : (x == ("__classdict__" : Str)) = false := by decide) : DS X B W (.Return (some (.Name x p)) pos) (sRetV i) := by
  refine ⟨ps_imp (ps_ret (pe_var hN hv hd hcd)) fun D σ H ⟨F, ρ, h, p⟩ => ?_⟩
  unfold sRetV at p
  split at p
  · rename_i w e
    obtain ⟨v, h1, h2⟩ := h.sl i w e
    exact ⟨v, h1, p F H σ v (Same.refl _) h h2⟩
  · exact p.elim
def sIf (t : Mo Bool) (f g : Mo Fl) : Mo Fl := bnd t fun k => if k then f else g
theorem ds_if {sa sb : List Stmt} (hc : DT X B W c ta) (ha : DSs X B W sa f) (hb : DSs X B W sb g) : DS X B W (.If c sa sb pos) (sIf ta f g) :=
  ⟨ps_imp (ps_if hc.pt ha.pss hb.pss) fun D σ H ⟨F, ρ, h, p⟩ => ⟨F, ρ, h, p.bnd.imp fun k ρ1 F1 H1 s h1 p1 => by
    cases k with
    | true =>
      rw [if_pos rfl]
      exact ⟨F1, ρ1, h1, p1⟩
    | false =>
      rw [if_neg Bool.false_ne_true]
      exact ⟨F1, ρ1, h1, p1⟩⟩⟩
/-! ### stores -/
/-- what a target does to the slots -/
abbrev Tg := PyData → Rho → Option Rho
def tgt (t : Tg) (d : PyData) : Mo Fl := fun ρ => match t d ρ with
  | some ρ' => .ok .nx ρ'
  | none => .no
def put (i : Nat) (w : Sl) (ρ : Rho) : Option Rho := if i < ρ.length then some (ρ.set i (some w)) else none
def putM (i : Nat) (w : Sl) : Mo Fl := fun ρ => match put i w ρ with
  | some ρ' => .ok .nx ρ'
  | none => .no
theorem put_ok {C : Ct} {D : Ends} {σ : L2.St} {F H : Hp} {ρ : Rho} {i : Nat} {w : Sl} {v : V} (h : ER C.B C.K F H σ ρ) (s : SN C.B C.K F H σ ρ v w) (p : PostS C F (putM i w ρ) D) : D.nx (σ.set i (some v)) H := by
  unfold putM put at p
  by_cases hi : i < ρ.length
  · rw [if_pos hi] at p
    exact p F H _ (Same.refl _) (h.store s hi)
  · rw [if_neg hi] at p
    exact p.elim
def sSet (i : Nat) (fa : Mo PyData) : Mo Fl := bnd fa fun d => putM i (.fz d)
def sSetO (i : Nat) (fo : Mo Sl) : Mo Fl := bnd fo fun w => putM i w
theorem ds_set (i : Nat) {x : Str} (hN : X.N.Nodup) (ha : DE X B W e fa) (hi : X.N[i]? = some x := by rfl) (hx : Loc X.env.scope x := by first | exact .inl rfl | exact .inr rfl) (hs : swapsWith e (some (.Name x pos')) pos.line X.env = pure false := by rfl)
    (hf : X.fn x = true ∨ X.env.scope.names.lookup x = some .local := by first | exact .inl rfl | exact .inr rfl | assumption) : DS X B W (.Assign [.Name x pos'] e pos) (sSet i fa) :=
  ⟨ps_imp (ps_set hN hi hx ha.pe hs hf) fun D σ H ⟨F, ρ, h, p⟩ => ⟨F, ρ, h, p.bnd.imp fun d ρ1 F1 H1 s h1 p1 v rv => put_ok (w := .fz d) h1 ⟨rv, trivial⟩ p1⟩⟩
theorem ds_setO (i : Nat) {x : Str} (hN : X.N.Nodup) (ha : DO X B W e fo) (hi : X.N[i]? = some x := by rfl) (hx : Loc X.env.scope x := by first | exact .inl rfl | exact .inr rfl) (hs : swapsWith e (some (.Name x pos')) pos.line X.env = pure false := by rfl)
    (hf : X.fn x = true ∨ X.env.scope.names.lookup x = some .local := by first | exact .inl rfl | exact .inr rfl | assumption) : DS X B W (.Assign [.Name x pos'] e pos) (sSetO i fo) :=
  ⟨ps_imp (ps_set hN hi hx ha.pe hs hf) fun D σ H ⟨F, ρ, h, p⟩ => ⟨F, ρ, h, p.bnd.imp fun w ρ1 F1 H1 s h1 p1 v rv => put_ok h1 rv p1⟩⟩
/-- targets: the stores that they make are at the slots ts -/
def ButAt (ts : List Nat) (σ σ' : L2.St) : Prop := σ'.length = σ.length ∧ ∀ j : Nat, j ∉ ts → σ'[j]? = σ[j]?
def TgQ (B : Bs) (K : PySem.W.Frag) (F : Hp) (σ : L2.St) (ts : List Nat) (o : Option Rho) (Q : L2.St → Hp → Prop) : Prop := match o with
  | some ρ' => ∀ σ' F' H', ButAt ts σ σ' → Same F F' → ER B K F' H' σ' ρ' → Q σ' H'
  | none => False
def tG (B : Bs) (K : PySem.W.Frag) (ts : List Nat) (t : Tg) : TG := fun v σ H Q => ∃ F ρ d, ER B K F H σ ρ ∧ Rp K F v d ∧ TgQ B K F σ ts (t d ρ) Q
def tGs (B : Bs) (K : PySem.W.Frag) (ts : List Nat) (t : List PyData → Rho → Option Rho) : TGs := fun vs σ H Q => ∃ F ρ ds, ER B K F H σ ρ ∧ RpA K F vs ds ∧ TgQ B K F σ ts (t ds ρ) Q
structure DG (X : Cx) (B : Bs) (tg : Expr) (ts : List Nat) (t : Tg) : Prop where
  pg : PG X tg (tG B X.K ts t)
structure DGs (X : Cx) (B : Bs) (tg : List Expr) (ts : List Nat) (t : List PyData → Rho → Option Rho) : Prop where
  pgs : PGs X tg (tGs B X.K ts t)
theorem pg_imp {tg : Expr} {t t' : TG} (h : PG X tg t) (i : ∀ v σ H Q, t' v σ H Q → t v σ H Q) : PG X tg t' := ⟨fun pins s σ H v u Q I r w => h.run pins s σ H v u Q I r (i v σ H Q w)⟩
theorem pgs_imp {tg : List Expr} {t t' : TGs} (h : PGs X tg t) (i : ∀ v σ H Q, t' v σ H Q → t v σ H Q) : PGs X tg t' := ⟨fun pins s σ H v u Q I r w => h.run pins s σ H v u Q I r (i v σ H Q w)⟩
def gV (i : Nat) : Tg := fun d => put i (.fz d)
theorem dg_v (i : Nat) {x : Str} (hN : X.N.Nodup) (hi : X.N[i]? = some x := by rfl) (hx : Loc X.env.scope x := by first | exact .inl rfl | exact .inr rfl)
    (hf : X.fn x = true ∨ X.env.scope.names.lookup x = some .local := by first | exact .inl rfl | exact .inr rfl | assumption) : DG X B (.Name x pos) [i] (gV i) := by
  refine ⟨pg_imp (pg_name hN hi hx hf) fun v σ H Q ⟨F, ρ, d, h, rv, p⟩ => ?_⟩
  unfold gV put at p
  by_cases hl : i < ρ.length
  · rw [if_pos hl] at p
    exact p _ F H ⟨by simp, fun j hj => List.getElem?_set_ne (fun z => hj (by simp [z]))⟩ (Same.refl _) (h.store (w := .fz d) ⟨rv, trivial⟩ hl)
  · rw [if_neg hl] at p
    exact p.elim
def gsN : List PyData → Rho → Option Rho
  | [], ρ => some ρ
  | _, _ => none
def gsC (t : Tg) (u : List PyData → Rho → Option Rho) : List PyData → Rho → Option Rho
  | d :: ds, ρ => (t d ρ).bind (u ds)
  | [], _ => none
theorem dg_nil : DGs X B [] [] gsN := by
  refine ⟨pgs_imp pgs_nil fun vs σ H Q ⟨F, ρ, ds, h, rs, p⟩ => ?_⟩
  cases ds with
  | nil =>
    cases rs
    exact ⟨rfl, p σ F H ⟨rfl, fun _ _ => rfl⟩ (Same.refl _) h⟩
  | cons _ _ => exact p.elim
theorem dg_cons {t : Tg} {u : List PyData → Rho → Option Rho} {ts us : List Nat} (h1 : DG X B a ts t) (h2 : DGs X B es us u)
    (hs : assignEach (a :: es) X.env = (false, assign a X.env) :: assignEach es X.env := by rfl) : DGs X B (a :: es) (ts ++ us) (gsC t u) := by
  refine ⟨pgs_imp (pgs_cons h1.pg h2.pgs (by rw [hs]; rfl)) fun vs σ H Q ⟨F, ρ, ds, h, rs, p⟩ => ?_⟩
  cases rs with
  | nil => exact p.elim
  | @cons v vs d ds rv rs =>
    refine ⟨v, vs, rfl, F, ρ, d, h, rv, ?_⟩
    cases q : t d ρ with
    | none =>
      rw [show gsC t u (d :: ds) ρ = (t d ρ).bind (u ds) from rfl, q] at p
      exact p
    | some ρ1 =>
      rw [show gsC t u (d :: ds) ρ = (t d ρ).bind (u ds) from rfl, q] at p
      intro σ1 F1 H1 b1 s1 h1'
      refine ⟨F1, ρ1, ds, h1', RpA.mono s1 _ _ rs, ?_⟩
      have p' : TgQ B X.K F σ (ts ++ us) (u ds ρ1) Q := p
      cases q2 : u ds ρ1 with
      | none =>
        rw [q2] at p'
        exact p'
      | some ρ2 =>
        rw [q2] at p'
        intro σ2 F2 H2 b2 s2 h2'
        refine p' σ2 F2 H2 ⟨b2.1.trans b1.1, fun j hj => ?_⟩ (s1.trans s2) h2'
        simp only [List.mem_append, not_or] at hj
        exact (b2.2 j hj.2).trans (b1.2 j hj.1)
def gT (n : Nat) (u : List PyData → Rho → Option Rho) : Tg
  | .tuple ds, ρ => if ds.length = n then u ds ρ else none
  | _, _ => none
theorem dg_tup {u : List PyData → Rho → Option Rho} {k n : Nat} {ts : List Nat} (hc : X.calm = true) (h : DGs X B es ts u) (hn : (assignEach es X.env).length = n := by rfl) (hst : (assignEach es X.env).findIdx? (·.1) = none := by rfl) : DG X B (.Tuple es k pos) ts (gT n u) := by
  refine ⟨pg_imp (pg_tup hc h.pgs hn hst) fun v σ H Q ⟨F, ρ, d, h, rv, p⟩ => ?_⟩
  cases d with
  | tuple ds =>
    by_cases hl : ds.length = n
    · cases rv with
      | tup e r =>
        rw [show gT n u (.tuple ds) ρ = u ds ρ from if_pos hl] at p
        exact ⟨_, _, rfl, SqT.of (h.fh _ _ e), by rw [r.len]; exact hl, F, ρ, ds, h, r, p⟩
    · rw [show gT n u (.tuple ds) ρ = none from if_neg hl] at p
      exact p.elim
  | _ => exact (show False from p).elim
theorem tg_ok {C : Ct} {D : Ends} {σ : L2.St} {F : Hp} {t : Tg} {ts : List Nat} {d : PyData} {ρ : Rho} (p : PostS C F (tgt t d ρ) D) : TgQ C.B C.K F σ ts (t d ρ) D.nx := by
  unfold tgt at p
  cases q : t d ρ with
  | none =>
    rw [q] at p
    exact p
  | some ρ' =>
    rw [q] at p
    exact fun σ' F' H' _ s h => p F' H' σ' s h
def sAsg (t : Tg) (fa : Mo PyData) : Mo Fl := bnd fa (tgt t)
theorem ds_asg {tg : Expr} {t : Tg} {ts : List Nat} (ha : DE X B W e fa) (hg : DG X B tg ts t) (hs : swapsWithSole [tg] e pos.line X.env = pure false := by rfl) (hw : swappedStores [tg] e X.env = pure none := by rfl) (h1 : (assignEach [tg] X.env).map (·.2) = [assign tg X.env] := by rfl) : DS X B W (.Assign [tg] e pos) (sAsg t fa) :=
  ⟨ps_imp (ps_asg ha.pe hg.pg hs hw h1) fun D σ H ⟨F, ρ, h, p⟩ => ⟨F, ρ, h, p.bnd.imp fun d ρ1 F1 H1 s h1 p1 v rv => ⟨F1, ρ1, d, h1, rv, tg_ok (C := ct X B W) p1⟩⟩⟩
/-- x op= e -/
def sAug (i : Nat) (g : PyData → PyData → Mo PyData) (fa : Mo PyData) : Mo Fl := fun ρ => match ρ[i]? with
  | some (some (.fz d)) => (bnd fa fun y => bnd (g d y) fun z => putM i (.fz z)) ρ
  | _ => .no
theorem ds_aug (i : Nat) {x : Str} {op : Operator} {ti : TIp} {g : PyData → PyData → Mo PyData} (hN : X.N.Nodup) (ho : PIp X op ti) (o : OS X.K ti g) (ha : DE X B W e fa) (hi : X.N[i]? = some x := by rfl) (hx : Loc X.env.scope x := by first | exact .inl rfl | exact .inr rfl)
    (hf : X.fn x = true ∨ X.env.scope.names.lookup x = some .local := by first | exact .inl rfl | exact .inr rfl | assumption) : DS X B W (.AugAssign (.Name x pos') op e pos) (sAug i g fa) := by
  refine ⟨ps_imp (ps_aug hN hi hx ha.pe ho hf) fun D σ H ⟨F, ρ, h, p⟩ => ?_⟩
  unfold sAug at p
  split at p
  · rename_i d ed
    obtain ⟨v, h1, h2⟩ := h.sl i _ ed
    refine ⟨v, h1, F, ρ, h, (PostS.bnd p).imp fun y ρ1 F1 H1 s h1' p1 u ru => ?_⟩
    exact o (ct X B W) F1 H1 σ ρ1 v u d y _ rfl h1' (Rp.mono s _ _ h2) ru ((PostS.bnd p1).imp fun z ρ2 F2 H2 s2 h2' p2 v2 r2 => put_ok (w := .fz z) h2' ⟨r2, trivial⟩ p2)
  · exact p.elim
theorem os_ip {K : PySem.W.Frag} {f : Int → Int → Int} : OS K (ipI f) (fun d e => match d, e with | .int i, .int j => pu (.int (f i j)) | _, _ => no) := by
  intro C F H σ ρ x y d e Q hK h rx ry p
  dsimp only at p
  split at p
  · cases rx
    cases ry
    exact ⟨_, _, rfl, rfl, p.now h _ (.int _)⟩
  · exact p.elim
end
end Dv
set_option Elab.async false
set_option linter.all false
set_option maxRecDepth 100000
set_option maxHeartbeats 2000000
namespace Dv
open PySem PySem.Spec PyProof.Rows L2

theorem bnd_ok {α β : Type} {f : Mo α} {g : α → Mo β} {ρ ρ' : Rho} {a : α} (h : f ρ = .ok a ρ') : bnd f g ρ = g a ρ' := by
  unfold bnd
  rw [h]
theorem bnd_err {α β : Type} {f : Mo α} {g : α → Mo β} {ρ ρ' : Rho} {e : Exn} (h : f ρ = .err e ρ') : bnd f g ρ = .err e ρ' := by
  unfold bnd
  rw [h]
theorem bnd_no {α β : Type} {f : Mo α} {g : α → Mo β} {ρ : Rho} (h : f ρ = .no) : bnd f g ρ = .no := by
  unfold bnd
  rw [h]
theorem tgt_ok {t : Tg} {d : PyData} {ρ ρ' : Rho} (h : t d ρ = some ρ') : tgt t d ρ = .ok .nx ρ' := by
  unfold tgt
  rw [h]
theorem tgt_no {t : Tg} {d : PyData} {ρ : Rho} (h : t d ρ = none) : tgt t d ρ = .no := by
  unfold tgt
  rw [h]
/-! ### for -/
def lpK (k : Mo Fl) : Fl → Mo Fl
  | .nx => k
  | .ct => k
  | .bk => pu .nx
  | .rt w => pu (.rt w)
def loop (t : Tg) (body : Mo Fl) : List PyData → Mo Fl
  | [] => pu .nx
  | d :: ds => bnd (tgt t d) fun _ => bnd body (lpK (loop t body ds))
def sFor (items : Mo (List PyData)) (t : Tg) (body : Mo Fl) : Mo Fl := bnd items fun ds => loop t body ds
/-- an iterator gives these items, whatever is laid meanwhile -/
structure IO (K : PySem.W.Frag) (J : It) (F0 : Hp) (ds : List PyData) : Prop where
  go : ∀ F H (i : Nat), i < ds.length → Same F0 F → Same F H → J.go i H
  yl : ∀ F H (i : Nat) d x H', ds[i]? = some d → Same F0 F → Same F H → J.yld i H x H' → ∃ F', Xt F H F' H' ∧ Rp K F' x d
  st : ∀ F H, Same F0 F → Same F H → J.stop ds.length H
def tI (C : Ct) (items : Mo (List PyData)) : TI := fun σ H R => ∃ F ρ, ER C.B C.K F H σ ρ ∧ Post C σ F (items ρ) fun ds _ F' H' => ∀ J, IO C.K J F' ds → R J H'
structure DI (X : Cx) (B : Bs) (W : WX) (tg iter : Expr) (items : Mo (List PyData)) : Prop where
  pi : PI X tg iter (tI (ct X B W) items)
theorem pi_imp {X : Cx} {tg iter : Expr} {t t' : TI} (h : PI X tg iter t) (i : ∀ σ H R, t' σ H R → t σ H R) : PI X tg iter t' := ⟨fun pins s σ H R I w => h.run pins s σ H R I (i σ H R w)⟩
section
variable {X : Cx} {B : Bs} {W : WX} {e a b c tg iter : Expr} {es : List Expr} {pos pos' p p2 : Pos} {fa fb fc : Mo PyData} {fo : Mo Sl} {ta : Mo Bool} {fs : Mo (List PyData)} {sts : List Stmt} {f g : Mo Fl}
theorem ds_for {t : Tg} {ts : List Nat} {items : Mo (List PyData)} (hp : PassesOwn (model X.prog X.w) X.A X.env X.xe) (hc : X.calm = true) (hi : DI X B W tg iter items) (hg : DG X B tg ts t) (hb : DSs X B W sts f)
    (hs : ∀ x, foldedSetIterable iter X.env x = pure x := by intro _; rfl) : DS X B W (.For tg iter sts [] pos) (sFor items t f) := by
  refine ⟨ps_imp (ps_for hp hc hi.pi hg.pg hb.pss hs) fun D σ H ⟨F, ρ, h, p⟩ => ⟨F, ρ, h, p.bnd.imp fun ds ρ1 F1 H1 s h1 p1 J hJ => ?_⟩⟩
  refine ⟨fun i m σ' H' => m = ds.length - i ∧ i ≤ ds.length ∧ ∃ F' ρ', Same F1 F' ∧ ER B X.K F' H' σ' ρ' ∧ PostS (ct X B W) F' (loop t f (ds.drop i) ρ') D, ⟨ds.length, by simp, Nat.zero_le _, F1, ρ1, Same.refl _, h1, p1⟩, ?_⟩
  rintro i m σ' H' ⟨rfl, hle, F', ρ', s', h', p'⟩
  by_cases hlt : i < ds.length
  · have ed : ds.drop i = ds[i] :: ds.drop (i + 1) := List.drop_eq_getElem_cons hlt
    rw [ed] at p'
    refine .inr ⟨hJ.go F' H' i hlt s' h'.fh, fun σ2 H2 => ∃ F2 ρ2, Same F1 F2 ∧ ER B X.K F2 H2 σ2 ρ2 ∧ PostS (ct X B W) F2 (loop t f (ds.drop (i + 1)) ρ2) D,
      fun σ2 H2 ⟨F2, ρ2, w⟩ => ⟨ds.length - (i + 1), by omega, rfl, hlt, F2, ρ2, w⟩, fun x H2 hy => ?_⟩
    obtain ⟨F2, xt, rx⟩ := hJ.yl F' H' i ds[i] x H2 (List.getElem?_eq_getElem hlt) s' h'.fh hy
    have h2 : ER B X.K F2 H2 σ' ρ' := h'.xt xt
    refine ⟨F2, ρ', ds[i], h2, rx, ?_⟩
    have p2 : PostS (ct X B W) F2 ((bnd (tgt t ds[i]) fun _ => bnd f (lpK (loop t f (ds.drop (i + 1))))) ρ') D := PostS.later p' xt.sf
    cases q : t ds[i] ρ' with
    | none =>
      rw [bnd_no (tgt_no q)] at p2
      exact p2
    | some ρ2 =>
      intro σ3 F3 H3 _ s3 h3
      refine ⟨F3, ρ2, h3, ?_⟩
      rw [bnd_ok (tgt_ok q)] at p2
      have p3 : PostS (ct X B W) F3 (bnd f (lpK (loop t f (ds.drop (i + 1)))) ρ2) D := PostS.later p2 s3
      unfold bnd at p3
      have s13 : Same F1 F3 := (s'.trans xt.sf).trans s3
      cases q3 : f ρ2 with
      | ok y ρ3 =>
        rw [q3] at p3
        cases y with
        | nx => exact fun F4 H4 σ4 s4 h4 => ⟨F4, ρ3, s13.trans s4, h4, PostS.later p3 s4⟩
        | ct => exact fun F4 H4 σ4 s4 h4 => ⟨F4, ρ3, s13.trans s4, h4, PostS.later p3 s4⟩
        | bk => exact p3
        | rt w => exact p3
      | err e ρ3 =>
        rw [q3] at p3
        exact p3
      | no =>
        rw [q3] at p3
        exact p3
  · have ei : i = ds.length := by omega
    subst ei
    rw [List.drop_length] at p'
    exact .inl ⟨hJ.st F' H' s' h'.fh, p' F' H' σ' (Same.refl _) h'⟩
/-! items -/
def lstD : PyData → Mo (List PyData)
  | .list ds => pu ds
  | _ => no
def tupD : PyData → Mo (List PyData)
  | .tuple ds => pu ds
  | _ => no
def strD : PyData → Mo (List PyData)
  | .str z => pu (z.cps.toList.map fun c => .str ⟨#[c]⟩)
  | _ => no
theorem io_list {K : PySem.W.Frag} {F : Hp} {A : Addr} {vs : List V} {ds : List PyData} (e : F A = some (.lst vs)) (r : RpA K F vs ds) : IO K (Itl K A) F ds where
  go := fun F1 H i hi s s1 => by
    obtain ⟨v, hv, _⟩ := r.get (List.getElem?_eq_getElem hi)
    exact ⟨vs, v, SqL.of (s1 _ _ (s _ _ e)), hv⟩
  yl := fun F1 H i d x H' ed s s1 hy => by
    obtain ⟨rfl, hy⟩ := hy
    obtain ⟨v, hv, rv⟩ := r.get ed
    have hx := hy vs (SqL.of (s1 _ _ (s _ _ e)))
    rw [hv] at hx
    cases hx
    exact ⟨F1, Xt.refl s1, Rp.mono s _ _ rv⟩
  st := fun F1 H s s1 => ⟨vs, SqL.of (s1 _ _ (s _ _ e)), Nat.le_of_eq r.len⟩
theorem io_tup {K : PySem.W.Frag} {F : Hp} {A : Addr} {vs : List V} {ds : List PyData} (e : F A = some (.tup vs)) (r : RpA K F vs ds) : IO K (Itt K A) F ds where
  go := fun F1 H i hi s s1 => by
    obtain ⟨v, hv, _⟩ := r.get (List.getElem?_eq_getElem hi)
    exact ⟨vs, v, SqT.of (s1 _ _ (s _ _ e)), hv⟩
  yl := fun F1 H i d x H' ed s s1 hy => by
    obtain ⟨rfl, hy⟩ := hy
    obtain ⟨v, hv, rv⟩ := r.get ed
    have hx := hy vs (SqT.of (s1 _ _ (s _ _ e)))
    rw [hv] at hx
    cases hx
    exact ⟨F1, Xt.refl s1, Rp.mono s _ _ rv⟩
  st := fun F1 H s s1 => ⟨vs, SqT.of (s1 _ _ (s _ _ e)), Nat.le_of_eq r.len⟩
def rngD (lo : Int) (n : Nat) : List PyData := (List.range n).map fun (k : Nat) => .int (lo + k)
theorem io_range {K : PySem.W.Frag} {F : Hp} {lo : Int} {n : Nat} : IO K (Itr lo n) F (rngD lo n) where
  go := fun F1 H i hi s s1 => by
    show i < n
    simpa [rngD] using hi
  yl := fun F1 H i d x H' ed s s1 hy => by
    obtain ⟨rfl, rfl⟩ := hy
    unfold rngD at ed
    rw [List.getElem?_map] at ed
    cases q : (List.range n)[i]? with
    | none =>
      rw [q] at ed
      cases ed
    | some k =>
      rw [q] at ed
      cases ed
      have hk : k = i := by
        obtain ⟨h1, h2⟩ := List.getElem?_eq_some_iff.mp q
        simpa using h2.symm
      subst hk
      exact ⟨F1, Xt.refl s1, .int _⟩
  st := fun F1 H s s1 => by
    show n ≤ (rngD lo n).length
    simp [rngD]
theorem io_str {K : PySem.W.Frag} {F : Hp} {z : Str} (hz : okS z = true) : IO K (Its z) F (z.cps.toList.map fun c => .str ⟨#[c]⟩) where
  go := fun F1 H i hi s s1 => by
    show i < z.cps.size
    simpa using hi
  yl := fun F1 H i d x H' ed s s1 hy => by
    obtain ⟨rfl, c, hc, rfl⟩ := hy
    rw [List.getElem?_map] at ed
    have hc' : z.cps.toList[i]? = some c := by simpa using hc
    rw [hc'] at ed
    cases ed
    exact ⟨F1, Xt.refl s1, .str _ (okS_one hz (List.mem_of_getElem? hc'))⟩
  st := fun F1 H s s1 => by
    show z.cps.size ≤ _
    simp
theorem di_list (ha : DE X B W a fa) : DI X B W tg a (bnd fa lstD) := by
  refine ⟨pi_imp (pi_list ha.pe) fun σ H R ⟨F, ρ, h, p⟩ => ⟨F, ρ, h, p.bnd.imp fun d ρ1 F1 H1 s h1 p1 v rv => ?_⟩⟩
  cases d with
  | list ds =>
    cases rv with
    | lst e r => exact ⟨_, rfl, ⟨_, SqL.of (h1.fh _ _ e)⟩, Post.now p1 h1 _ (io_list e r)⟩
  | _ => exact (show False from p1).elim
theorem di_tup (ha : DE X B W a fa) : DI X B W tg a (bnd fa tupD) := by
  refine ⟨pi_imp (pi_tup ha.pe) fun σ H R ⟨F, ρ, h, p⟩ => ⟨F, ρ, h, p.bnd.imp fun d ρ1 F1 H1 s h1 p1 v rv => ?_⟩⟩
  cases d with
  | tuple ds =>
    cases rv with
    | tup e r => exact ⟨_, rfl, ⟨_, SqT.of (h1.fh _ _ e)⟩, Post.now p1 h1 _ (io_tup e r)⟩
  | _ => exact (show False from p1).elim
theorem di_str (ha : DE X B W a fa) : DI X B W tg a (bnd fa strD) := by
  refine ⟨pi_imp (pi_str ha.pe) fun σ H R ⟨F, ρ, h, p⟩ => ⟨F, ρ, h, p.bnd.imp fun d ρ1 F1 H1 s h1 p1 v rv => ?_⟩⟩
  cases d with
  | str z =>
    cases rv with
    | str _ hz => exact ⟨z, rfl, Post.now p1 h1 _ (io_str hz)⟩
  | _ => exact (show False from p1).elim
def rng1D : List PyData → Mo (List PyData)
  | [.int j] => if -(2 ^ 62) ≤ j ∧ j < 2 ^ 62 then pu (rngD 0 j.toNat) else no
  | _ => no
def rng2D : List PyData → Mo (List PyData)
  | [.int i, .int j] => if -(2 ^ 62) ≤ i ∧ i < 2 ^ 62 ∧ -(2 ^ 62) ≤ j ∧ j < 2 ^ 62 then pu (rngD i (j - i).toNat) else no
  | _ => no
theorem di_rng1 (hm : X.mg "range" = none) (ha : DA X B W [a] fs) (hg : Gl X "range" := by rfl) (hs : starEach [a] X.env = [(false, eval a X.env)] := by rfl) : DI X B W tg (.Call (.Name "range" p) [a] [] pos) (bnd fs rng1D) := by
  refine ⟨pi_imp (pi_range1 hg hm ha.pa hs) fun σ H R ⟨F, ρ, h, p⟩ => ⟨F, ρ, h, p.bnd.imp fun ds ρ1 F1 H1 s h1 p1 vs rs => ?_⟩⟩
  unfold rng1D at p1
  split at p1
  · split at p1
    · rename_i hj
      cases rs with
      | cons r rs =>
        cases rs
        cases r
        exact ⟨_, rfl, hj.1, hj.2, Post.now p1 h1 _ io_range⟩
    · exact p1.elim
  · exact p1.elim
theorem di_rng2 (hm : X.mg "range" = none) (ha : DA X B W [a, b] fs) (hg : Gl X "range" := by rfl) (hs : starEach [a, b] X.env = [(false, eval a X.env), (false, eval b X.env)] := by rfl) (hs2 : starEach [b] X.env = [(false, eval b X.env)] := by rfl) : DI X B W tg (.Call (.Name "range" p) [a, b] [] pos) (bnd fs rng2D) := by
  refine ⟨pi_imp (pi_range2 hg hm ha.pa hs hs2) fun σ H R ⟨F, ρ, h, p⟩ => ⟨F, ρ, h, p.bnd.imp fun ds ρ1 F1 H1 s h1 p1 vs rs => ?_⟩⟩
  unfold rng2D at p1
  split at p1
  · split at p1
    · rename_i hj
      cases rs with
      | cons r rs =>
        cases rs with
        | cons r2 rs =>
          cases rs
          cases r
          cases r2
          exact ⟨_, _, rfl, hj, Post.now p1 h1 _ io_range⟩
    · exact p1.elim
  · exact p1.elim
def enD (ds : List PyData) : List PyData := (List.range ds.length).zipWith (fun (k : Nat) d => .tuple [.int k, d]) ds
def enumD : List PyData → Mo (List PyData)
  | [.list ds] => pu (enD ds)
  | _ => no
theorem enD_len (ds : List PyData) : (enD ds).length = ds.length := by simp [enD]
theorem enD_get {ds : List PyData} {i : Nat} {d : PyData} (h : (enD ds)[i]? = some d) : ∃ x, ds[i]? = some x ∧ d = .tuple [.int (i : Nat), x] := by
  unfold enD at h
  rw [List.getElem?_zipWith] at h
  split at h
  · rename_i k x h1 h2
    cases h
    obtain ⟨h3, h4⟩ := List.getElem?_eq_some_iff.mp h1
    have hk : k = i := by simpa using h4.symm
    subst hk
    exact ⟨x, h2, rfl⟩
  · cases h
theorem io_enum {K : PySem.W.Frag} {F : Hp} {A : Addr} {vs : List V} {ds : List PyData} (e : F A = some (.lst vs)) (r : RpA K F vs ds) : IO K (Ite K A) F (enD ds) where
  go := fun F1 H i hi s s1 => by
    rw [enD_len] at hi
    obtain ⟨v, hv, _⟩ := r.get (List.getElem?_eq_getElem hi)
    exact ⟨vs, v, SqL.of (s1 _ _ (s _ _ e)), hv⟩
  yl := fun F1 H i d x H' ed s s1 hy => by
    obtain ⟨T, u, rfl, nT, rfl, hy⟩ := hy
    obtain ⟨d', ed', rfl⟩ := enD_get ed
    obtain ⟨v, hv, rv⟩ := r.get ed'
    have hx := hy vs (SqL.of (s1 _ _ (s _ _ e)))
    rw [hv] at hx
    cases hx
    exact ⟨_, Xt.new s1 nT, .tup upd_same (.cons (.int _) (.cons (Rp.mono (s.trans (same_upd (s1.free nT))) _ _ rv) .nil))⟩
  st := fun F1 H s s1 => ⟨vs, SqL.of (s1 _ _ (s _ _ e)), Nat.le_of_eq (r.len.trans (enD_len ds).symm)⟩
theorem di_enum {tes : List Expr} {kk : Nat} {tpos : Pos} (hm : X.mg "enumerate" = none) (ha : DA X B W [a] fs) (hg : Gl X "enumerate" := by rfl) (hs : starEach [a] X.env = [(false, eval a X.env)] := by rfl) :
    DI X B W (.Tuple tes kk tpos) (.Call (.Name "enumerate" p) [a] [] pos) (bnd fs enumD) := by
  refine ⟨pi_imp (pi_enum hg hm ha.pa hs) fun σ H R ⟨F, ρ, h, p⟩ => ⟨F, ρ, h, p.bnd.imp fun ds ρ1 F1 H1 s h1 p1 vs rs => ?_⟩⟩
  unfold enumD at p1
  split at p1
  · cases rs with
    | cons r rs =>
      cases rs
      cases r with
      | lst e r => exact ⟨_, _, rfl, SqL.of (h1.fh _ _ e), Post.now p1 h1 _ (io_enum e r)⟩
  · exact p1.elim
end
end Dv
set_option Elab.async false
set_option linter.all false
set_option maxRecDepth 100000
set_option maxHeartbeats 2000000
namespace Dv
open PySem PySem.Spec PyProof.Rows L2
section
variable {X : Cx} {B : Bs} {W : WX} {e a b c tg iter : Expr} {es : List Expr} {pos pos' p p1 p2 p3 : Pos} {fa fb fc : Mo PyData} {fo : Mo Sl} {ta : Mo Bool} {fs : Mo (List PyData)} {sts : List Stmt} {f g : Mo Fl}
/-- a list of a slot, as it stands -/
def plc (ρ : Rho) (i : Nat) : Option (List PyData) := match ρ[i]? with
  | some (some (.fz (.list ds))) => some ds
  | some (some (.ob _ (.l ds))) => some ds
  | some (some (.sc ds)) => some ds
  | _ => none
theorem plc_ok {C : Ct} {σ : L2.St} {F H : Hp} {ρ : Rho} {i : Nat} {ds : List PyData} (h : ER C.B C.K F H σ ρ) (e : plc ρ i = some ds) : ∃ A vs, σ[i]? = some (some (.ref A)) ∧ SqL C.K H A vs ∧ RpA C.K F vs ds := by
  unfold plc at e
  split at e
  · rename_i ds' q
    cases e
    obtain ⟨v, h1, h2⟩ := h.sl i _ q
    have h2 : Rp C.K F v (.list ds) := h2
    cases h2 with
    | lst e r => exact ⟨_, _, h1, SqL.of (h.fh _ _ e), r⟩
  · rename_i b ds' q
    cases e
    obtain ⟨v, h1, A, o, rfl, _, hh, hc, _⟩ := h.sl i _ q
    cases o with
    | lst vs => exact ⟨A, vs, h1, SqL.of hh, hc⟩
    | _ => exact (show False from hc).elim
  · rename_i ds' q
    cases e
    obtain ⟨v, h1, A, vs, rfl, h2, h3⟩ := h.sl i _ q
    exact ⟨A, vs, h1, same_l h.fh h2, h3⟩
  · cases e
/-- len(x) -/
def lenP (i : Nat) : Mo PyData := fun ρ => match plc ρ i with
  | some ds => .ok (.int (ds.length : Int)) ρ
  | none => .no
theorem de_lenP (i : Nat) {x : Str} (hm : X.mg "len" = none) (hN : X.N[i]? = some x := by rfl) (hv : Vis X.env.scope x := by first | exact Or.inl rfl | exact Or.inr (Or.inl rfl) | exact Or.inr (Or.inr rfl)) (hd : (x == ("__debug__" : Str)) = false := by decide)
    (hcd : (x == ("__classdict__" : Str)) = false := by decide) (hg : Gl X "len" := by rfl) (he : starEach [.Name x p1] X.env = (false, eval (.Name x p1) X.env) :: starEach [] X.env := by rfl) (hpl : (backTo pos (starEach [] X.env)).any (·.1) = false := by rfl) :
    DE X B W (.Call (.Name "len" p) [.Name x p1] [] pos) (lenP i) := by
  refine ⟨pe_imp (pe_callB call_len hg hm boot_len (pa_cons (pe_var hN hv hd hcd) pa_nil he) (by decide) (by decide) he hpl) fun σ H Q ⟨F, ρ, h, p⟩ => ?_⟩
  unfold lenP at p
  cases q : plc ρ i with
  | none =>
    rw [q] at p
    exact p.elim
  | some ds =>
    rw [q] at p
    obtain ⟨A, vs, h1, h2, h3⟩ := plc_ok (C := ct X B W) h q
    exact ⟨_, h1, _, _, rfl, .inl ⟨vs, h2, h3.len.symm⟩, Post.now p h _ (.int _)⟩
/-- slot i has a value -/
def hasS (i : Nat) : Mo Unit := fun ρ => match ρ[i]? with
  | some (some _) => .ok () ρ
  | _ => .no
theorem hasS_ok {C : Ct} {σ : L2.St} {F H : Hp} {ρ : Rho} {i : Nat} {α : Type} {g : Unit → Mo α} {R : α → Rho → Hp → Hp → Prop} (h : ER C.B C.K F H σ ρ) (p : Post C σ F (bnd (hasS i) g ρ) R) : ∃ v, σ[i]? = some (some v) ∧ Post C σ F (g () ρ) R := by
  unfold hasS bnd at p
  dsimp only at p
  cases q : ρ[i]? with
  | none =>
    rw [q] at p
    exact p.elim
  | some o =>
    cases o with
    | none =>
      rw [q] at p
      exact p.elim
    | some w =>
      rw [q] at p
      obtain ⟨v, h1, _⟩ := h.sl i w q
      exact ⟨v, h1, p⟩
theorem hasS_okS {C : Ct} {σ : L2.St} {F H : Hp} {ρ : Rho} {i : Nat} {g : Unit → Mo Fl} {D : Ends} (h : ER C.B C.K F H σ ρ) (p : PostS C F (bnd (hasS i) g ρ) D) : ∃ v, σ[i]? = some (some v) ∧ PostS C F (g () ρ) D := by
  unfold hasS bnd at p
  dsimp only at p
  cases q : ρ[i]? with
  | none =>
    rw [q] at p
    exact p.elim
  | some o =>
    cases o with
    | none =>
      rw [q] at p
      exact p.elim
    | some w =>
      rw [q] at p
      obtain ⟨v, h1, _⟩ := h.sl i w q
      exact ⟨v, h1, p⟩
/-- x[e] -/
def ixQ (i : Nat) (k : PyData) : Mo PyData := fun ρ => match k with
  | .int k => (match plc ρ i with
    | some ds => opt (atI ds k) ρ
    | none => .no)
  | _ => .no
def ixP (i : Nat) (fb : Mo PyData) : Mo PyData := bnd (hasS i) fun _ => bnd fb (ixQ i)
theorem de_ixP (i : Nat) {x : Str} (hb : DE X B W b fb) (hs : PlainIx b := by exact fun _ _ => rfl) (hN : X.N[i]? = some x := by rfl) (hv : Vis X.env.scope x := by first | exact Or.inl rfl | exact Or.inr (Or.inl rfl) | exact Or.inr (Or.inr rfl)) (hd : (x == ("__debug__" : Str)) = false := by decide)
    (hcd : (x == ("__classdict__" : Str)) = false := by decide) : DE X B W (.Subscript (.Name x p) b pos) (ixP i fb) := by
  refine ⟨pe_imp (pe_ix ix_list (pe_var hN hv hd hcd) hb.pe hs) fun σ H Q ⟨F, ρ, h, p⟩ => ?_⟩
  obtain ⟨v, ev, p⟩ := hasS_ok (C := ct X B W) h p
  refine ⟨v, ev, F, ρ, h, p.bnd.imp fun k ρ1 F1 H1 s h1 p1 u ru => ?_⟩
  unfold ixQ at p1
  cases k with
  | int k =>
    cases ru
    dsimp only at p1
    cases q : plc ρ1 i with
    | none =>
      rw [q] at p1
      exact (show False from p1).elim
    | some ds =>
      rw [q] at p1
      obtain ⟨A, vs, h2, h3, h4⟩ := plc_ok (C := ct X B W) h1 q
      rw [ev] at h2
      cases h2
      have p2 : Post (ct X B W) σ F1 (opt (atI ds k) ρ1) fun d _ F' H' => ∀ v, Rp X.K F' v d → Q v H' := p1
      cases q2 : atI ds k with
      | none =>
        rw [q2] at p2
        exact (show False from p2).elim
      | some d =>
        rw [q2] at p2
        obtain ⟨v, q3, q4⟩ := at_of h4 q2
        exact ⟨A, vs, k, v, rfl, rfl, h3, q3, Post.now p2 h1 v q4⟩
  | _ => exact (show False from p1).elim
/-- e in x, e not in x -/
def inQ (neg : Bool) (i : Nat) (d : PyData) : Mo PyData := fun ρ => match plc ρ i with
  | some ds => if flatD d && ds.all flatD then .ok (.bool (if neg then !(ds.any fun y => PyData.eqv y d) else ds.any fun y => PyData.eqv y d)) ρ else .no
  | none => .no
def inP (neg : Bool) (i : Nat) (fa : Mo PyData) : Mo PyData := bnd fa (inQ neg i)
theorem inP_ok {C : Ct} {neg : Bool} {i : Nat} {σ : L2.St} {H : Hp} {Q : VK} (w : tE C (inP neg i fa) σ H Q) : tOp (rIn C.K neg) (tE C fa) (tVar i) σ H Q := by
  obtain ⟨F, ρ, h, p⟩ := w
  refine ⟨F, ρ, h, p.bnd.imp fun d ρ1 F1 H1 s h1 p1 v rv => ?_⟩
  unfold inQ at p1
  cases q : plc ρ1 i with
  | none =>
    rw [q] at p1
    exact (show False from p1).elim
  | some ds =>
    rw [q] at p1
    obtain ⟨A, vs, h2, h3, h4⟩ := plc_ok h1 q
    refine ⟨_, h2, A, vs, rfl, .inl h3, ?_⟩
    dsimp only at p1
    split at p1
    · rename_i hf
      obtain ⟨f1, f2⟩ := Bool.and_eq_true_iff.mp hf
      refine ⟨flat_of rv f1, flats_of h4 f2, ?_⟩
      rw [in_of rv f1 h4 f2]
      exact Post.now p1 h1 _ (.bl _)
    · exact p1.elim
theorem de_inP (i : Nat) {x : Str} (ha : DE X B W a fa) (hN : X.N[i]? = some x := by rfl) (hv : Vis X.env.scope x := by first | exact Or.inl rfl | exact Or.inr (Or.inl rfl) | exact Or.inr (Or.inr rfl)) (hd : (x == ("__debug__" : Str)) = false := by decide)
    (hcd : (x == ("__classdict__" : Str)) = false := by decide) (hm : behindInMarks .In (.Name x p) = false := by rfl) : DE X B W (.Compare a [.In] [.Name x p] pos) (inP false i fa) :=
  ⟨pe_imp (pe_cmpR op_in_seq ha.pe (pe_var hN hv hd hcd) hm) fun σ H Q w => inP_ok (C := ct X B W) w⟩
theorem de_ninP (i : Nat) {x : Str} (ha : DE X B W a fa) (hN : X.N[i]? = some x := by rfl) (hv : Vis X.env.scope x := by first | exact Or.inl rfl | exact Or.inr (Or.inl rfl) | exact Or.inr (Or.inr rfl)) (hd : (x == ("__debug__" : Str)) = false := by decide)
    (hcd : (x == ("__classdict__" : Str)) = false := by decide) (hm : behindInMarks .NotIn (.Name x p) = false := by rfl) : DE X B W (.Compare a [.NotIn] [.Name x p] pos) (inP true i fa) :=
  ⟨pe_imp (pe_cmpR op_notIn_seq ha.pe (pe_var hN hv hd hcd) hm) fun σ H Q w => inP_ok (C := ct X B W) w⟩
theorem dt_inP (i : Nat) {x : Str} (ha : DE X B W a fa) (hN : X.N[i]? = some x := by rfl) (hv : Vis X.env.scope x := by first | exact Or.inl rfl | exact Or.inr (Or.inl rfl) | exact Or.inr (Or.inr rfl)) (hd : (x == ("__debug__" : Str)) = false := by decide)
    (hcd : (x == ("__classdict__" : Str)) = false := by decide) (hm : behindInMarks .In (.Name x p) = false := by rfl) : DT X B W (.Compare a [.In] [.Name x p] pos) (tst (inP false i fa)) :=
  ⟨pt_imp (pt_cmpR op_in_seq ha.pe (pe_var hN hv hd hcd) hm) fun σ H Q w => inP_ok (C := ct X B W) (tst_in w)⟩
theorem dt_ninP (i : Nat) {x : Str} (ha : DE X B W a fa) (hN : X.N[i]? = some x := by rfl) (hv : Vis X.env.scope x := by first | exact Or.inl rfl | exact Or.inr (Or.inl rfl) | exact Or.inr (Or.inr rfl)) (hd : (x == ("__debug__" : Str)) = false := by decide)
    (hcd : (x == ("__classdict__" : Str)) = false := by decide) (hm : behindInMarks .NotIn (.Name x p) = false := by rfl) : DT X B W (.Compare a [.NotIn] [.Name x p] pos) (tst (inP true i fa)) :=
  ⟨pt_imp (pt_cmpR op_notIn_seq ha.pe (pe_var hN hv hd hcd) hm) fun σ H Q w => inP_ok (C := ct X B W) (tst_in w)⟩
/-! ### lists that change -/
def isLs (i : Nat) : Mo Unit := fun ρ => match ρ[i]? with
  | some (some (.ob _ (.l _))) => .ok () ρ
  | _ => .no
def appQ (i : Nat) (d : PyData) : Mo Fl := fun ρ => match ρ[i]? with
  | some (some (.ob b (.l ds))) => if ds.length < 1000000 then .ok .nx (ρ.set i (some (.ob b (.l (ds ++ [d]))))) else .no
  | _ => .no
def sApp (i : Nat) (fa : Mo PyData) : Mo Fl := bnd (isLs i) fun _ => bnd fa (appQ i)
theorem isLs_ok {C : Ct} {σ : L2.St} {F H : Hp} {ρ : Rho} {i : Nat} {g : Unit → Mo Fl} {D : Ends} (h : ER C.B C.K F H σ ρ) (p : PostS C F (bnd (isLs i) g ρ) D) : ∃ A vs, σ[i]? = some (some (.ref A)) ∧ H A = some (.lst vs) ∧ PostS C F (g () ρ) D := by
  unfold isLs bnd at p
  dsimp only at p
  split at p
  · rename_i _ _ q
    split at q
    · rename_i b ds q2
      cases q
      obtain ⟨v, h1, A, o, rfl, _, hh, hc, _⟩ := h.sl i _ q2
      cases o with
      | lst vs => exact ⟨A, vs, h1, hh, p⟩
      | _ => exact (show False from hc).elim
    · cases q
  · rename_i _ _ q
    split at q <;> cases q
  · exact p.elim
theorem line_lt {n : Nat} (h : n < 1000000) : n < sizeLine := Nat.lt_of_lt_of_le h line_le
theorem ds_app (i : Nat) {x : Str} (ha : DE X B W e fa) (hN : X.N[i]? = some x := by rfl) (hv : Vis X.env.scope x := by first | exact Or.inl rfl | exact Or.inr (Or.inl rfl) | exact Or.inr (Or.inr rfl)) (hd : (x == ("__debug__" : Str)) = false := by decide)
    (hcd : (x == ("__classdict__" : Str)) = false := by decide) (hbase : attributeBase (.Name x p1) "append" X.env (eval (.Name x p1) X.env) = eval (.Name x p1) X.env := by rfl)
    (hfew : ((backTo p3 (starEach [e] X.env)).all (fun x => !x.1) && (backToKw p3 (keywordEach [] X.env)).all (fun x => x.1.isSome)
      && decide (([e] : List Expr).length + ([] : List Keyword).length + (if ([] : List Keyword).isEmpty then 0 else 1) < 30)) = true := by rfl)
    (hline : (p2.endLine == p3.line) = true := by rfl) (hs : starEach [e] X.env = (false, eval e X.env) :: starEach [] X.env := by rfl) (hplain : (backTo p3 (starEach [] X.env)).any (·.1) = false := by rfl)
    (hsw : swapsWith (.Call (.Attribute (.Name x p1) "append" p2) [e] [] p3) none pos.line X.env = pure false := by rfl) :
    DS X B W (.Expr (.Call (.Attribute (.Name x p1) "append" p2) [e] [] p3) pos) (sApp i fa) := by
  refine ⟨ps_imp (ps_expr (pe_bm PySem.F.plainAttrs_list PySem.F.slot_list_append PySem.F.type_list_append mt_append (pe_var hN hv hd hcd) (pa_cons ha.pe pa_nil hs) hbase hfew hline hs hplain) hsw) fun D σ H ⟨F, ρ, h, p⟩ => ?_⟩
  obtain ⟨A, vs, h1, h2, p⟩ := isLs_ok (C := ct X B W) h p
  refine ⟨_, h1, .inl ⟨rfl, vs, SqL.of h2⟩, F, ρ, h, (PostS.bnd p).imp fun d ρ1 F1 H1 s h1' p1 v rv => ?_⟩
  unfold appQ at p1
  split at p1
  · rename_i b ds q
    split at p1
    · rename_i hl
      obtain ⟨u, g1, A', o, rfl, hf, hh, hc, _⟩ := h1'.sl i _ q
      rw [h1] at g1
      cases g1
      cases o with
      | lst us =>
        have hc : RpA X.K F1 us ds := hc
        refine ⟨A, us, v, rfl, rfl, hh, ?_, ?_⟩
        · rw [hc.len]
          exact line_lt hl
        · exact p1 F1 _ σ (Same.refl _) (h1'.write (i := i) (o' := .lst (us ++ [v])) (c' := .l (ds ++ [d])) q h1 (hc.app (.cons rv .nil)))
      | _ => exact (show False from hc).elim
    · exact (show False from p1).elim
  · exact (show False from p1).elim
/-- x[e] = v -/
def stQ (i : Nat) (d k : PyData) : Mo Fl := fun ρ => match ρ[i]?, k with
  | some (some (.ob b (.l ds))), .int k => (match ixN ds.length k with
    | some j => .ok .nx (ρ.set i (some (.ob b (.l (ds.set j d)))))
    | none => .no)
  | _, _ => .no
def sSt (i : Nat) (fk fv : Mo PyData) : Mo Fl := bnd fv fun d => bnd (hasS i) fun _ => bnd fk (stQ i d)
theorem ds_st (i : Nat) {x : Str} (hk : DE X B W b fb) (hval : DE X B W e fa) (hN : X.N[i]? = some x := by rfl) (hv : Vis X.env.scope x := by first | exact Or.inl rfl | exact Or.inr (Or.inl rfl) | exact Or.inr (Or.inr rfl)) (hd : (x == ("__debug__" : Str)) = false := by decide)
    (hcd : (x == ("__classdict__" : Str)) = false := by decide)
    (ha : ∀ v, assign (.Subscript (.Name x p1) b p2) X.env v = (do
      let ov ← holding [v] (eval (.Name x p1) X.env)
      let iv ← holding [v, ov] (eval b X.env)
      standAt p2
      holding [v, ov, iv] (setItem ov iv v)
      release [v, ov, iv] []) := by intro _; rfl)
    (hs : swapsWithSole [.Subscript (.Name x p1) b p2] e pos.line X.env = pure false := by rfl) (hw : swappedStores [.Subscript (.Name x p1) b p2] e X.env = pure none := by rfl) (h1 : (assignEach [.Subscript (.Name x p1) b p2] X.env).map (·.2) = [assign (.Subscript (.Name x p1) b p2) X.env] := by rfl) :
    DS X B W (.Assign [.Subscript (.Name x p1) b p2] e pos) (sSt i fb fa) := by
  refine ⟨ps_imp (ps_asg hval.pe (pg_sub (pe_var hN hv hd hcd) hk.pe set_list ha) hs hw h1) fun D σ H ⟨F, ρ, h, p⟩ => ⟨F, ρ, h, (PostS.bnd p).imp fun d ρ1 F1 H1 s h1 p1 v rv => ?_⟩⟩
  obtain ⟨u, eu, p1⟩ := hasS_okS (C := ct X B W) h1 p1
  refine ⟨u, eu, F1, ρ1, h1, (PostS.bnd p1).imp fun k ρ2 F2 H2 s2 h2 p2 y ry => ?_⟩
  unfold stQ at p2
  split at p2
  · rename_i b ds k q
    obtain ⟨u', g1, A, o, rfl, hf, hh, hc, _⟩ := h2.sl i _ q
    rw [eu] at g1
    cases g1
    cases ry
    cases o with
    | lst us =>
      have hc : RpA X.K F2 us ds := hc
      cases q2 : ixN ds.length k with
      | none =>
        rw [q2] at p2
        exact (show False from p2).elim
      | some j =>
        rw [q2] at p2
        refine ⟨A, us, k, j, rfl, rfl, hh, by rw [hc.len]; exact q2, ?_⟩
        exact p2 F2 _ σ (Same.refl _) (h2.write (i := i) (o' := .lst (us.set j v)) (c' := .l (ds.set j d)) q eu (hc.set j (Rp.mono s2 _ _ rv)))
    | _ => exact (show False from hc).elim
  · exact (show False from p2).elim
end
end Dv
set_option Elab.async false
set_option linter.all false
set_option maxRecDepth 100000
set_option maxHeartbeats 2000000
namespace Dv
open PySem PySem.Spec PyProof.Rows L2
/-! ### dicts by ints and texts -/
def keyD : PyData → Option Key
  | .int i => some (.inl i)
  | .str x => some (.inr x)
  | _ => none
def lkD (es : List (Key × PyData)) (k : Key) : Option PyData := (es.find? fun kv => decide (kv.1 = k)).map (·.2)
def putD (es : List (Key × PyData)) (k : Key) (d : PyData) : List (Key × PyData) :=
  if (es.any fun kv => decide (kv.1 = k)) = true then es.map (fun kv => if kv.1 = k then (kv.1, d) else kv) else es ++ [(k, d)]
section
variable {K : PySem.W.Frag} {F : Hp}
theorem key_of {v : V} {d : PyData} {k : Key} (r : Rp K F v d) (e : keyD d = some k) : v = kV k := by
  cases r <;> cases e <;> rfl
theorem lk_of : ∀ {kvs : List (Key × V)} {es : List (Key × PyData)} (k : Key), KvR K F kvs es → match lkD es k with
    | some d => ∃ v, valV kvs k = some v ∧ Rp K F v d
    | none => valV kvs k = none
  | [], [], k, _ => rfl
  | p :: ps, q :: qs, k, h => by
    obtain ⟨h1, h2, h3⟩ := h
    by_cases hk : q.1 = k
    · have e1 : lkD (q :: qs) k = some q.2 := by simp [lkD, List.find?_cons, hk]
      have e2 : valV (p :: ps) k = some p.2 := valV_pos (h1.trans hk)
      rw [e1]
      exact ⟨_, e2, h2⟩
    · have e1 : lkD (q :: qs) k = lkD qs k := by simp [lkD, List.find?_cons, hk]
      have e2 : valV (p :: ps) k = valV ps k := valV_neg (fun z => hk (h1.symm.trans z))
      rw [e1, e2]
      exact lk_of k h3
  | [], _ :: _, _, h => h.elim
  | _ :: _, [], _, h => h.elim
theorem any_of : ∀ {kvs : List (Key × V)} {es : List (Key × PyData)} (k : Key), KvR K F kvs es → (kvs.any fun kv => decide (kv.1 = k)) = es.any fun kv => decide (kv.1 = k)
  | [], [], k, _ => rfl
  | p :: ps, q :: qs, k, h => by
    obtain ⟨h1, h2, h3⟩ := h
    rw [List.any_cons, List.any_cons, any_of k h3, h1]
  | [], _ :: _, _, h => h.elim
  | _ :: _, [], _, h => h.elim
theorem repl_of : ∀ {kvs : List (Key × V)} {es : List (Key × PyData)} (k : Key) {v : V} {d : PyData}, KvR K F kvs es → Rp K F v d → KvR K F (kvs.map fun kv => if kv.1 = k then (kv.1, v) else kv) (es.map fun kv => if kv.1 = k then (kv.1, d) else kv)
  | [], [], k, _, _, _, _ => trivial
  | p :: ps, q :: qs, k, v, d, h, r => by
    obtain ⟨h1, h2, h3⟩ := h
    rw [List.map_cons, List.map_cons]
    refine ⟨?_, ?_, repl_of k h3 r⟩
    · rw [h1]
      split
      · rfl
      · exact h1
    · rw [h1]
      split
      · exact r
      · exact h2
  | [], _ :: _, _, _, _, h, _ => h.elim
  | _ :: _, [], _, _, _, h, _ => h.elim
theorem snoc_of : ∀ {kvs : List (Key × V)} {es : List (Key × PyData)} (k : Key) {v : V} {d : PyData}, KvR K F kvs es → Rp K F v d → KvR K F (kvs ++ [(k, v)]) (es ++ [(k, d)])
  | [], [], k, _, _, _, r => ⟨rfl, r, trivial⟩
  | p :: ps, q :: qs, k, v, d, h, r => ⟨h.1, h.2.1, snoc_of k h.2.2 r⟩
  | [], _ :: _, _, _, _, h, _ => h.elim
  | _ :: _, [], _, _, _, h, _ => h.elim
theorem put_of {kvs : List (Key × V)} {es : List (Key × PyData)} (k : Key) {v : V} {d : PyData} (h : KvR K F kvs es) (r : Rp K F v d) : KvR K F (putK kvs k v) (putD es k d) := by
  unfold putK putD
  rw [any_of k h]
  split
  · exact repl_of k h r
  · exact snoc_of k h r
theorem KvR.len : ∀ {kvs : List (Key × V)} {es : List (Key × PyData)}, KvR K F kvs es → kvs.length = es.length
  | [], [], _ => rfl
  | _ :: _, _ :: _, h => congrArg (· + 1) (KvR.len h.2.2)
  | [], _ :: _, h => h.elim
  | _ :: _, [], h => h.elim
end
section
variable {X : Cx} {B : Bs} {W : WX} {e a b c tg iter : Expr} {es : List Expr} {pos pos' p p1 p2 p3 : Pos} {fa fb fc : Mo PyData} {fo : Mo Sl} {ta : Mo Bool} {fs : Mo (List PyData)} {sts : List Stmt} {f g : Mo Fl}
def dct (ρ : Rho) (i : Nat) : Option (List (Key × PyData)) := match ρ[i]? with
  | some (some (.ob _ (.d es))) => some es
  | _ => none
theorem dct_ok {C : Ct} {σ : L2.St} {F H : Hp} {ρ : Rho} {i : Nat} {es : List (Key × PyData)} (h : ER C.B C.K F H σ ρ) (e : dct ρ i = some es) : ∃ A kvs, σ[i]? = some (some (.ref A)) ∧ H A = some (.dK kvs) ∧ KvR C.K F kvs es := by
  unfold dct at e
  split at e
  · rename_i b es' q
    cases e
    obtain ⟨v, h1, A, o, rfl, _, hh, hc, _⟩ := h.sl i _ q
    cases o with
    | dK kvs => exact ⟨A, kvs, h1, hh, hc⟩
    | _ => exact (show False from hc).elim
  · cases e
def dNew : Mo Sl := pu (.ob true (.d []))
theorem do_dict0 : DO X B W (.Dict [] [] pos) dNew :=
  ⟨pe_imp pe_dnewK fun σ H Q ⟨F, ρ, h, p⟩ q n => p.newO h n _ ⟨⟨q, _, rfl, h.fh.free n, upd_same, trivial, fun _ => h.h0 n, fun z => nomatch z⟩, rfl, h.fresh n⟩⟩
/-- d[k] -/
def dgQ (i : Nat) (k : PyData) : Mo PyData := fun ρ => match dct ρ i, keyD k with
  | some es, some k => opt (lkD es k) ρ
  | _, _ => .no
def dGet (i : Nat) (fk : Mo PyData) : Mo PyData := bnd (hasS i) fun _ => bnd fk (dgQ i)
theorem de_dget (i : Nat) {x : Str} (hu : X.A.units + 1 < cLine) (hk : DE X B W b fb) (hs : NoSl b := by exact fun _ _ => rfl) (hN : X.N[i]? = some x := by rfl) (hv : Vis X.env.scope x := by first | exact Or.inl rfl | exact Or.inr (Or.inl rfl) | exact Or.inr (Or.inr rfl)) (hd : (x == ("__debug__" : Str)) = false := by decide)
    (hcd : (x == ("__classdict__" : Str)) = false := by decide) : DE X B W (.Subscript (.Name x p) b pos) (dGet i fb) := by
  refine ⟨pe_imp (pe_dget hu (pe_var hN hv hd hcd) hk.pe hs) fun σ H Q ⟨F, ρ, h, p⟩ => ?_⟩
  obtain ⟨u, eu, p⟩ := hasS_ok (C := ct X B W) h p
  refine ⟨u, eu, F, ρ, h, p.bnd.imp fun k ρ1 F1 H1 s h1 p1 v rv => ?_⟩
  unfold dgQ at p1
  split at p1
  · rename_i es kk q qk
    obtain ⟨A, kvs, h2, h3, h4⟩ := dct_ok (C := ct X B W) h1 q
    rw [eu] at h2
    cases h2
    have hl := lk_of kk h4
    have p2 : Post (ct X B W) σ F1 (opt (lkD es kk) ρ1) fun d _ F' H' => ∀ v, Rp X.K F' v d → Q v H' := p1
    cases q2 : lkD es kk with
    | none =>
      rw [q2] at p2
      exact (show False from p2).elim
    | some d =>
      rw [q2] at p2 hl
      obtain ⟨y, hy, ry⟩ := hl
      refine ⟨A, y, rfl, ?_, Post.now p2 h1 y ry⟩
      rw [key_of rv qk, ← hy]
      exact DGet.k h3
  · exact (show False from p1).elim
/-- k in d -/
def diQ (neg : Bool) (i : Nat) (k : PyData) : Mo PyData := fun ρ => match dct ρ i, keyD k with
  | some es, some k => .ok (.bool (if neg then !(lkD es k).isSome else (lkD es k).isSome)) ρ
  | _, _ => .no
def dIn (neg : Bool) (i : Nat) (fk : Mo PyData) : Mo PyData := bnd fk (diQ neg i)
theorem dIn_ok {C : Ct} {neg : Bool} {i : Nat} {σ : L2.St} {H : Hp} {Q : VK} (w : tE C (dIn neg i fa) σ H Q) :
    tE C fa σ H fun y H1 => tVar i σ H1 fun x H2 => ∃ A o, x = .ref A ∧ DGet H2 A y o ∧ Q (.bl (if neg then !o.isSome else o.isSome)) H2 := by
  obtain ⟨F, ρ, h, p⟩ := w
  refine ⟨F, ρ, h, p.bnd.imp fun k ρ1 F1 H1 s h1 p1 v rv => ?_⟩
  unfold diQ at p1
  split at p1
  · rename_i es kk q qk
    obtain ⟨A, kvs, h2, h3, h4⟩ := dct_ok h1 q
    refine ⟨_, h2, A, valV kvs kk, rfl, ?_, ?_⟩
    · rw [key_of rv qk]
      exact DGet.k h3
    · have hl := lk_of kk h4
      have e : (valV kvs kk).isSome = (lkD es kk).isSome := by
        cases q2 : lkD es kk with
        | none =>
          rw [q2] at hl
          rw [hl]
          rfl
        | some d =>
          rw [q2] at hl
          obtain ⟨y, hy, _⟩ := hl
          rw [hy]
          rfl
      rw [e]
      exact Post.now p1 h1 _ (.bl _)
  · exact (show False from p1).elim
theorem de_din (i : Nat) {x : Str} (hu : X.A.units + 1 < cLine) (ha : DE X B W a fa) (hN : X.N[i]? = some x := by rfl) (hv : Vis X.env.scope x := by first | exact Or.inl rfl | exact Or.inr (Or.inl rfl) | exact Or.inr (Or.inr rfl)) (hd : (x == ("__debug__" : Str)) = false := by decide)
    (hcd : (x == ("__classdict__" : Str)) = false := by decide) (hm : behindInMarks .In (.Name x p) = false := by rfl) : DE X B W (.Compare a [.In] [.Name x p] pos) (dIn false i fa) :=
  ⟨pe_imp (pe_cmp (pc_din hu ha.pe (pe_var hN hv hd hcd)) hm) fun σ H Q w => dIn_ok (C := ct X B W) w⟩
theorem de_dnin (i : Nat) {x : Str} (hu : X.A.units + 1 < cLine) (ha : DE X B W a fa) (hN : X.N[i]? = some x := by rfl) (hv : Vis X.env.scope x := by first | exact Or.inl rfl | exact Or.inr (Or.inl rfl) | exact Or.inr (Or.inr rfl)) (hd : (x == ("__debug__" : Str)) = false := by decide)
    (hcd : (x == ("__classdict__" : Str)) = false := by decide) (hm : behindInMarks .NotIn (.Name x p) = false := by rfl) : DE X B W (.Compare a [.NotIn] [.Name x p] pos) (dIn true i fa) :=
  ⟨pe_imp (pe_cmp (pc_dnotin hu ha.pe (pe_var hN hv hd hcd)) hm) fun σ H Q w => dIn_ok (C := ct X B W) w⟩
theorem dt_din (i : Nat) {x : Str} (hu : X.A.units + 1 < cLine) (ha : DE X B W a fa) (hN : X.N[i]? = some x := by rfl) (hv : Vis X.env.scope x := by first | exact Or.inl rfl | exact Or.inr (Or.inl rfl) | exact Or.inr (Or.inr rfl)) (hd : (x == ("__debug__" : Str)) = false := by decide)
    (hcd : (x == ("__classdict__" : Str)) = false := by decide) (hm : behindInMarks .In (.Name x p) = false := by rfl) : DT X B W (.Compare a [.In] [.Name x p] pos) (tst (dIn false i fa)) :=
  ⟨pt_imp (pt_cmp (pc_din hu ha.pe (pe_var hN hv hd hcd)) hm) fun σ H Q w => dIn_ok (C := ct X B W) (tst_in w)⟩
theorem dt_dnin (i : Nat) {x : Str} (hu : X.A.units + 1 < cLine) (ha : DE X B W a fa) (hN : X.N[i]? = some x := by rfl) (hv : Vis X.env.scope x := by first | exact Or.inl rfl | exact Or.inr (Or.inl rfl) | exact Or.inr (Or.inr rfl)) (hd : (x == ("__debug__" : Str)) = false := by decide)
    (hcd : (x == ("__classdict__" : Str)) = false := by decide) (hm : behindInMarks .NotIn (.Name x p) = false := by rfl) : DT X B W (.Compare a [.NotIn] [.Name x p] pos) (tst (dIn true i fa)) :=
  ⟨pt_imp (pt_cmp (pc_dnotin hu ha.pe (pe_var hN hv hd hcd)) hm) fun σ H Q w => dIn_ok (C := ct X B W) (tst_in w)⟩
/-- d[k] = v -/
def dpQ (i : Nat) (d k : PyData) : Mo Fl := fun ρ => match ρ[i]?, keyD k with
  | some (some (.ob b (.d es))), some k => if es.length < 1000000 then .ok .nx (ρ.set i (some (.ob b (.d (putD es k d))))) else .no
  | _, _ => .no
def dPut (i : Nat) (fk fv : Mo PyData) : Mo Fl := bnd fv fun d => bnd (hasS i) fun _ => bnd fk (dpQ i d)
theorem ds_dput (i : Nat) {x : Str} (hu : X.A.units + 1 < cLine) (hk : DE X B W b fb) (hval : DE X B W e fa) (hN : X.N[i]? = some x := by rfl) (hv : Vis X.env.scope x := by first | exact Or.inl rfl | exact Or.inr (Or.inl rfl) | exact Or.inr (Or.inr rfl)) (hd : (x == ("__debug__" : Str)) = false := by decide)
    (hcd : (x == ("__classdict__" : Str)) = false := by decide) (hs : swapsWith e (some (.Subscript (.Name x p1) b p2)) pos.line X.env = pure false := by rfl) : DS X B W (.Assign [.Subscript (.Name x p1) b p2] e pos) (dPut i fb fa) := by
  refine ⟨ps_imp (ps_dput hu (pe_var hN hv hd hcd) hk.pe hval.pe hs) fun D σ H ⟨F, ρ, h, p⟩ => ⟨F, ρ, h, (PostS.bnd p).imp fun d ρ1 F1 H1 s h1 p1 v rv => ?_⟩⟩
  obtain ⟨u, eu, p1⟩ := hasS_okS (C := ct X B W) h1 p1
  refine ⟨u, eu, F1, ρ1, h1, (PostS.bnd p1).imp fun k ρ2 F2 H2 s2 h2 p2 y ry => ?_⟩
  unfold dpQ at p2
  split at p2
  · rename_i b es kk q qk
    obtain ⟨u', g1, A, o, rfl, hf, hh, hc, _⟩ := h2.sl i _ q
    rw [eu] at g1
    cases g1
    cases o with
    | dK kvs =>
      have hc : KvR X.K F2 kvs es := hc
      split at p2
      · rename_i hl
        refine ⟨A, _, rfl, ?_, p2 F2 _ σ (Same.refl _) (h2.write (i := i) (o' := .dK (putK kvs kk v)) (c' := .d (putD es kk d)) q eu (put_of kk hc (Rp.mono s2 _ _ rv)))⟩
        rw [key_of ry qk]
        exact DPut.k hh (by rw [hc.len]; exact line_lt hl)
      · exact (show False from p2).elim
    | _ => exact (show False from hc).elim
  · exact (show False from p2).elim
/-- d.get(k, x) -/
def isDs (i : Nat) : Mo Unit := fun ρ => match dct ρ i with
  | some _ => .ok () ρ
  | none => .no
def dg2Q (i : Nat) (k x : PyData) : Mo PyData := fun ρ => match dct ρ i, keyD k with
  | some es, some k => .ok ((lkD es k).getD x) ρ
  | _, _ => .no
def dGet2 (i : Nat) (fk fx : Mo PyData) : Mo PyData := bnd (isDs i) fun _ => bnd fk fun k => bnd fx fun x => dg2Q i k x
theorem de_dget2 (i : Nat) {x : Str} (hu : X.A.units + 1 < cLine) (ha : DE X B W a fa) (hb : DE X B W b fb) (hN : X.N[i]? = some x := by rfl) (hv : Vis X.env.scope x := by first | exact Or.inl rfl | exact Or.inr (Or.inl rfl) | exact Or.inr (Or.inr rfl)) (hd : (x == ("__debug__" : Str)) = false := by decide)
    (hcd : (x == ("__classdict__" : Str)) = false := by decide) (m : M2 X (.Name x p1) "get" p2 a b p3 := by exact ⟨rfl, rfl, rfl, rfl⟩) : DE X B W (.Call (.Attribute (.Name x p1) "get" p2) [a, b] [] p3) (dGet2 i fa fb) := by
  refine ⟨pe_imp (pe_dget2 hu (pe_var hN hv hd hcd) ha.pe hb.pe m) fun σ H Q ⟨F, ρ, h, p⟩ => ?_⟩
  unfold dGet2 isDs at p
  cases q : dct ρ i with
  | none =>
    rw [bnd_no (by show (match dct ρ i with | some _ => Out.ok () ρ | none => Out.no) = _; rw [q])] at p
    exact p.elim
  | some es0 =>
    rw [bnd_ok (ρ' := ρ) (a := ()) (by show (match dct ρ i with | some _ => Out.ok () ρ | none => Out.no) = _; rw [q])] at p
    obtain ⟨A, kvs0, h2, h3, h4⟩ := dct_ok (C := ct X B W) h q
    refine ⟨_, h2, A, rfl, .inl ⟨kvs0, .inl h3⟩, F, ρ, h, p.bnd.imp fun k ρ1 F1 H1 s1 h1 p1 v rv => ⟨F1, ρ1, h1, Post.imp (Post.bnd p1) fun x ρ2 F2 H2 s2 h2' p2 u ru => ?_⟩⟩
    unfold dg2Q at p2
    split at p2
    · rename_i es kk q2 qk
      obtain ⟨A', kvs, g2, g3, g4⟩ := dct_ok (C := ct X B W) h2' q2
      rw [h2] at g2
      cases g2
      refine ⟨valV kvs kk, ?_, ?_⟩
      · rw [key_of rv qk]
        exact DGet.k g3
      · have hl := lk_of kk g4
        cases q3 : lkD es kk with
        | none =>
          rw [q3] at hl p2
          rw [hl]
          exact Post.now p2 h2' _ ru
        | some d =>
          rw [q3] at hl p2
          obtain ⟨y, hy, ry⟩ := hl
          rw [hy]
          exact Post.now p2 h2' _ ry
    · exact (show False from p2).elim
end
end Dv
set_option Elab.async false
set_option linter.all false
set_option maxRecDepth 100000
set_option maxHeartbeats 2000000
namespace Dv
open PySem PySem.Spec PyProof.Rows L2
/-! ### what a def does, over data -/
/-- its first argument: like the others; an object of the caller's that it may change; a list that is only read (the script) -/
inductive FA where
  | n
  | b (c : BR)
  | s (ds : List PyData)
inductive FOut where
  | ok (w : Sl) (c : Option BR)
  | err (e : Exn) (c : Option BR)
  | no
abbrev FnF := FA → List PyData → FOut
def sl0 : FA → Rho
  | .n => []
  | .b c => [some (.ob false c)]
  | .s ds => [some (.sc ds)]
def env0 (N : Nat) (x : FA) (ds : List PyData) : Rho := (sl0 x ++ ds.map fun d => some (.fz d)) ++ List.replicate (N - ((sl0 x).length + ds.length)) none
def brOf (ρ : Rho) : Option BR := match ρ[(0 : Nat)]? with
  | some (some (.ob false c)) => some c
  | _ => none
def rtOk : Sl → Bool
  | .fz _ => true
  | .ob true _ => true
  | _ => false
def finO (x : FA) (w : Sl) (ρ : Rho) : FOut := match x with
  | .b _ => (match brOf ρ with
    | some c => if rtOk w then .ok w (some c) else .no
    | none => .no)
  | _ => if rtOk w then .ok w none else .no
def finE (x : FA) (e : Exn) (ρ : Rho) : FOut := match x with
  | .b _ => (match brOf ρ with
    | some c => .err e (some c)
    | none => .no)
  | _ => .err e none
def mkFn (N : Nat) (body : Mo Fl) : FnF := fun x ds => match body (env0 N x ds) with
  | .ok (.rt w) ρ => finO x w ρ
  | .ok .nx ρ => finO x (.fz .none) ρ
  | .err e ρ => finE x e ρ
  | _ => .no
def FAR (K : PySem.W.Frag) (F H : Hp) (r : Option Addr) (x : FA) (vs vs' : List V) : Prop := match x with
  | .n => r = none ∧ vs = vs'
  | .b c => ∃ a o, r = some a ∧ vs = .ref a :: vs' ∧ F a = none ∧ H a = some o ∧ CR K F o c
  | .s es => ∃ a us, r = none ∧ vs = .ref a :: vs' ∧ SqL K F a us ∧ RpA K F us es
structure FX (r : Option Addr) (F H F' H' : Hp) : Prop where
  sf : Same F F'
  fh : Same F' H'
  fr : ∀ b o, H b = some o → r ≠ some b → H' b = some o
  nn : ∀ b, H b ≠ none → F b = none → F' b = none
def BRR (K : PySem.W.Frag) (F' H' : Hp) (r : Option Addr) (c : Option BR) : Prop := match r, c with
  | some a, some c => F' a = none ∧ ∃ o, H' a = some o ∧ CR K F' o c
  | none, none => True
  | _, _ => False
def RR (K : PySem.W.Frag) (H F' H' : Hp) (v : V) : Sl → Prop
  | .fz d => Rp K F' v d
  | .ob own c => own = true ∧ ∃ a o, v = .ref a ∧ H a = none ∧ F' a = none ∧ H' a = some o ∧ CR K F' o c
  | _ => False
def FPost (K : PySem.W.Frag) (r : Option Addr) (F H : Hp) (o : FOut) (Q : VK) (E : XK) : Prop := match o with
  | .ok w c => ∀ v F' H', FX r F H F' H' → BRR K F' H' r c → RR K H F' H' v w → Q v H'
  | .err e c => ∀ cls dx F' H', FX r F H F' H' → BRR K F' H' r c → XR K F' cls dx e → E cls dx H'
  | .no => False
def spD (K : PySem.W.Frag) (n : Nat) (f : FnF) : Sp := fun vs H Q E => vs.length = n ∧ ∃ F r x vs' ds, Same F H ∧ FAR K F H r x vs vs' ∧ RpA K F vs' ds ∧ FPost K r F H (f x ds) Q E
/-- n arguments -/
def argn (x : FA) (ds : List PyData) : Nat := (sl0 x).length + ds.length
section
variable {K : PySem.W.Frag}
theorem FX.refl {r : Option Addr} {F H : Hp} (h : Same F H) : FX r F H F H := ⟨Same.refl _, h, fun _ _ e _ => e, fun _ _ e => e⟩
theorem start_env {N : List Str} {F H : Hp} {r : Option Addr} {x : FA} {vs vs' : List V} {ds : List PyData} (s : Same F H) (a : FAR K F H r x vs vs') (rs : RpA K F vs' ds) (hl : vs.length ≤ N.length) :
    ER ⟨H, F, r, none⟩ K F H (L2.start N vs) (env0 N.length x ds) := by
  have rl := rs.len
  have hlen : vs.length = (sl0 x).length + ds.length := by
    cases x with
    | n =>
      obtain ⟨_, rfl⟩ := a
      simpa [sl0] using rl
    | b c =>
      obtain ⟨A, o, _, rfl, _⟩ := a
      simp [sl0, rl, Nat.add_comm]
    | s es =>
      obtain ⟨A, us, _, rfl, _⟩ := a
      simp [sl0, rl, Nat.add_comm]
  refine ⟨s, fun b o e _ => e, Same.refl _, fun b _ e => e, fun A e => ?_, ?_, fun i w e => ?_, fun i j b b' c c' v hij e1 e2 e3 e4 => ?_⟩
  · have e : r = some A := e
    cases x with
    | n =>
      obtain ⟨z, _⟩ := a
      rw [z] at e
      cases e
    | b c =>
      obtain ⟨A', o, z, _, h1, h2, _⟩ := a
      rw [z] at e
      cases e
      refine ⟨?_, ?_, h1⟩
      · show H A ≠ none
        rw [h2]
        exact fun z => nomatch z
      · show H A ≠ none
        rw [h2]
        exact fun z => nomatch z
    | s es =>
      obtain ⟨A', us, z, _⟩ := a
      rw [z] at e
      cases e
  · unfold L2.start env0
    simp only [List.length_append, List.length_map, List.length_replicate]
    omega
  · -- a slot
    have hi : i < vs.length := by
      unfold env0 at e
      by_cases hi : i < (sl0 x ++ ds.map fun d => some (Sl.fz d)).length
      · simp only [List.length_append, List.length_map] at hi
        omega
      · rw [List.getElem?_append_right (by omega)] at e
        obtain ⟨h1, h2⟩ := List.getElem?_eq_some_iff.mp e
        simp at h2
    have ee : (sl0 x ++ ds.map fun d => some (Sl.fz d))[i]? = some (some w) := by
      unfold env0 at e
      rwa [List.getElem?_append_left (by simp only [List.length_append, List.length_map]; omega)] at e
    have es : ∀ v, vs[i]? = some v → (L2.start N vs)[i]? = some (some v) := fun v hv => by
      unfold L2.start
      rw [List.getElem?_append_left (by simpa using hi), List.getElem?_map, hv]
      rfl
    have fin : ∀ (k : Nat), vs[i]? = vs'[k]? → (ds.map fun d => some (Sl.fz d))[k]? = some (some w) → ∃ v, (L2.start N vs)[i]? = some (some v) ∧ SR ⟨H, F, r, none⟩ K F H v w := fun k hk he => by
      rw [List.getElem?_map] at he
      cases q : ds[k]? with
      | none =>
        rw [q] at he
        cases he
      | some d =>
        rw [q] at he
        cases he
        obtain ⟨v, h1, h2⟩ := rs.get q
        exact ⟨v, es v (hk.trans h1), h2⟩
    cases x with
    | n =>
      obtain ⟨_, rfl⟩ := a
      exact fin i rfl (by simpa [sl0] using ee)
    | b c =>
      obtain ⟨A, o, hr, rfl, h1, h2, h3⟩ := a
      cases i with
      | zero =>
        simp only [sl0, List.cons_append, List.nil_append, List.getElem?_cons_zero, Option.some.injEq] at ee
        subst ee
        refine ⟨_, es _ rfl, A, o, rfl, h1, h2, h3, ?_, fun _ => hr⟩
        intro z
        cases z
      | succ i => exact fin i rfl (by simpa [sl0] using ee)
    | s es' =>
      obtain ⟨A, us, hr, rfl, h1, h2⟩ := a
      cases i with
      | zero =>
        simp only [sl0, List.cons_append, List.nil_append, List.getElem?_cons_zero, Option.some.injEq] at ee
        subst ee
        exact ⟨_, es _ rfl, A, us, rfl, h1, h2⟩
      | succ i => exact fin i rfl (by simpa [sl0] using ee)
  · -- only the first may be an object
    have only : ∀ {m : Nat} {b : Bool} {c : BR}, (env0 N.length x ds)[m]? = some (some (.ob b c)) → m = 0 := fun {m b c} e => by
      cases m with
      | zero => rfl
      | succ m =>
        exfalso
        unfold env0 at e
        by_cases hm : m + 1 < (sl0 x ++ ds.map fun d => some (Sl.fz d)).length
        · rw [List.getElem?_append_left hm] at e
          cases x with
          | n =>
            simp only [sl0, List.nil_append, List.getElem?_map] at e
            cases q : ds[m + 1]? <;> rw [q] at e <;> cases e
          | b c =>
            simp only [sl0, List.cons_append, List.nil_append, List.getElem?_cons_succ, List.getElem?_map] at e
            cases q : ds[m]? <;> rw [q] at e <;> cases e
          | s es =>
            simp only [sl0, List.cons_append, List.nil_append, List.getElem?_cons_succ, List.getElem?_map] at e
            cases q : ds[m]? <;> rw [q] at e <;> cases e
        · rw [List.getElem?_append_right (by omega)] at e
          obtain ⟨h1, h2⟩ := List.getElem?_eq_some_iff.mp e
          simp at h2
    exact hij ((only e1).trans (only e2).symm)
/-- the end of a def's body -/
theorem end_fx {F H : Hp} {r : Option Addr} {xa : Option (Addr × Value × Option Addr)} {σ : L2.St} {ρ : Rho} {F' H' : Hp} (s : Same F F') (h : ER ⟨H, F, r, xa⟩ K F' H' σ ρ) : FX r F H F' H' := ⟨s, h.fh, h.fr, h.fn⟩
theorem end_br {F H : Hp} {r : Option Addr} {xa : Option (Addr × Value × Option Addr)} {σ : L2.St} {ρ : Rho} {F' H' : Hp} {c : BR} (h : ER ⟨H, F, r, xa⟩ K F' H' σ ρ) (e : brOf ρ = some c) : ∃ a, r = some a ∧ BRR K F' H' r (some c) := by
  unfold brOf at e
  split at e
  · rename_i c' q
    cases e
    obtain ⟨v, _, A, o, _, h1, h2, h3, _, h4⟩ := h.sl 0 _ q
    have hr : r = some A := h4 rfl
    subst hr
    exact ⟨A, rfl, h1, o, h2, h3⟩
  · cases e
theorem end_rr {F H : Hp} {r : Option Addr} {xa : Option (Addr × Value × Option Addr)} {F' H' : Hp} {v : V} {w : Sl} (h : SR ⟨H, F, r, xa⟩ K F' H' v w) (e : rtOk w = true) : RR K H F' H' v w := by
  cases w with
  | fz d => exact h
  | sc _ => cases e
  | ex _ => cases e
  | ob own c =>
    cases own with
    | false => cases e
    | true =>
      obtain ⟨A, o, h1, h2, h3, h4, h5, _⟩ := h
      exact ⟨rfl, A, o, h1, h5 rfl, h2, h3, h4⟩
theorem fn_post {N : Nat} {x : FA} {ds : List PyData} {body : Mo Fl} {F H : Hp} {r : Option Addr} {Q : VK} {E : XK} {vs vs' : List V} (a : FAR K F H r x vs vs') (p : FPost K r F H (mkFn N body x ds) Q E) :
    PostS ⟨K, ⟨H, F, r, none⟩, fun cls d _ H => E cls d H⟩ F (body (env0 N x ds)) { nx := fun _ H' => Q .non H', rt := Q } := by
  have none_of : (∀ c, x ≠ .b c) → r = none := fun hx => by
    cases x with
    | n => exact a.1
    | b c => exact absurd rfl (hx c)
    | s es =>
      obtain ⟨_, _, z, _⟩ := a
      exact z
  have fin : ∀ (w : Sl) (ρ : Rho), FPost K r F H (finO x w ρ) Q E → ∀ F' H' σ' v, Same F F' → ER ⟨H, F, r, none⟩ K F' H' σ' ρ → SR ⟨H, F, r, none⟩ K F' H' v w → Q v H' := fun w ρ p F' H' σ' v s h hv => by
    cases x with
    | b c =>
      unfold finO at p
      cases q : brOf ρ with
      | none =>
        simp only [q] at p
        exact p.elim
      | some c' =>
        simp only [q] at p
        split at p
        · rename_i hw
          obtain ⟨A, _, hb⟩ := end_br h q
          exact p v F' H' (end_fx s h) hb (end_rr hv hw)
        · exact p.elim
    | n =>
      unfold finO at p
      dsimp only at p
      split at p
      · rename_i hw
        have hr := none_of (fun c z => nomatch z)
        refine p v F' H' (end_fx s h) ?_ (end_rr hv hw)
        rw [hr]
        trivial
      · exact p.elim
    | s es =>
      unfold finO at p
      dsimp only at p
      split at p
      · rename_i hw
        have hr := none_of (fun c z => nomatch z)
        refine p v F' H' (end_fx s h) ?_ (end_rr hv hw)
        rw [hr]
        trivial
      · exact p.elim
  unfold mkFn at p
  cases q : body (env0 N x ds) with
  | ok f ρ =>
    rw [q] at p
    cases f with
    | nx => exact fun F' H' σ' s h => fin _ ρ p F' H' σ' .non s h .non
    | rt w => exact fun F' H' σ' v s h hv => fin w ρ p F' H' σ' v s h hv
    | bk => exact p.elim
    | ct => exact p.elim
  | err e ρ =>
    rw [q] at p
    intro F' H' σ' cls dx s h hx
    cases x with
    | b c =>
      have p : FPost K r F H (finE (.b c) e ρ) Q E := p
      unfold finE at p
      cases q : brOf ρ with
      | none =>
        simp only [q] at p
        exact p.elim
      | some c' =>
        simp only [q] at p
        obtain ⟨A, _, hb⟩ := end_br h q
        exact p cls dx F' H' (end_fx s h) hb hx
    | n =>
      have hr := none_of (fun c z => nomatch z)
      refine p cls dx F' H' (end_fx s h) ?_ hx
      rw [hr]
      trivial
    | s es =>
      have hr := none_of (fun c z => nomatch z)
      refine p cls dx F' H' (end_fx s h) ?_ hx
      rw [hr]
      trivial
  | no =>
    rw [q] at p
    exact p.elim
end
/-- a def keeps its promise, by its body's walk -/
theorem fn_ok {P : Program} {w : World} {K : PySem.W.Frag} {mg : Str → Option Value} {base : Heap} {x qual : Str} {params : Arguments} {sb : List Stmt} {scope : Scope} {dvs : List V} {kws : List (Str × V)} {f : Addr} {fd : FuncData} {N ps : List Str} {k : Nat} {body : Mo Fl}
    (D : FunD K x qual params sb scope dvs kws f fd) (S : FnScope N ps scope)
    (hb : ∀ (cdv : Value) (A : Around) (outer : List PySem.Env) (s : Shared) (H : Hp) (E : XK) (B : Bs) (W : WX), Room k (A.deeper (envOfC qual scope s.heap.objs.size f cdv)) → Takes (cxOf (L2.CX P w) P w K mg base N qual scope f cdv A outer s H E) W →
      PassesOwn (model P w) (cxOf (L2.CX P w) P w K mg base N qual scope f cdv A outer s H E).A (cxOf (L2.CX P w) P w K mg base N qual scope f cdv A outer s H E).env (cxOf (L2.CX P w) P w K mg base N qual scope f cdv A outer s H E).xe →
      DSs (cxOf (L2.CX P w) P w K mg base N qual scope f cdv A outer s H E) B W sb body) :
    FnOk P w K mg base (L2.CX P w) (k + 1) f fd ps (spD K ps.length (mkFn N.length body)) := by
  refine D.ok S (fun vs H Q E h => h.1) fun cdv A outer s H vs Q E hr hsp => ?_
  obtain ⟨hl, F, r, xx, vs', ds, sm, a, rs, p⟩ := hsp
  refine ⟨_, (hb cdv A outer s H E ⟨H, F, r, none⟩ (fun cls d _ H => E cls d H) hr (takes_of rfl rfl rfl rfl) (passes_of rfl)).pss, F, env0 N.length xx ds, start_env sm a rs ?_, fn_post a p⟩
  rw [hl]
  have e := congrArg List.length S.pre
  simp only [List.length_take] at e
  omega
end Dv
set_option Elab.async false
set_option linter.all false
set_option maxRecDepth 100000
set_option maxHeartbeats 2000000
namespace Dv
open PySem PySem.Spec PyProof.Rows L2
/-! ### calls of the program's own defs -/
def callQ (n : Nat) (f : FnF) (ds : List PyData) : Mo Sl := fun ρ => if ds.length = n then (match f .n ds with
  | .ok w _ => .ok w ρ
  | .err e _ => .err e ρ
  | .no => .no) else .no
def callF (n : Nat) (f : FnF) (fs : Mo (List PyData)) : Mo Sl := bnd fs (callQ n f)
/-- the first argument is an object in slot i -/
def callBQ (i n : Nat) (f : FnF) (ds : List PyData) : Mo Sl := fun ρ => if ds.length + 1 = n then (match ρ[i]? with
  | some (some (.ob b c)) => (match f (.b c) ds with
    | .ok w (some c') => .ok w (ρ.set i (some (.ob b c')))
    | .err e (some c') => .err e (ρ.set i (some (.ob b c')))
    | _ => .no)
  | _ => .no) else .no
def callB (i n : Nat) (f : FnF) (fs : Mo (List PyData)) : Mo Sl := bnd (hasS i) fun _ => bnd fs (callBQ i n f)
/-- the first argument is the script in slot i -/
def callSQ (i n : Nat) (f : FnF) (ds : List PyData) : Mo Sl := fun ρ => if ds.length + 1 = n then (match ρ[i]? with
  | some (some (.sc es)) => (match f (.s es) ds with
    | .ok w _ => .ok w ρ
    | .err e _ => .err e ρ
    | .no => .no)
  | _ => .no) else .no
def callS (i n : Nat) (f : FnF) (fs : Mo (List PyData)) : Mo Sl := bnd (hasS i) fun _ => bnd fs (callSQ i n f)
section
variable {B : Bs} {K : PySem.W.Frag} {F H F' H' : Hp} {σ : L2.St} {ρ : Rho} {v : V} {w : Sl}
theorem ER.fx0 (h : ER B K F H σ ρ) (x : FX none F H F' H') : ER B K F' H' σ ρ := h.xt ⟨x.sf, fun b o e => x.fr b o e (fun z => nomatch z), x.fh, x.nn⟩
theorem ER.fxb (h : ER B K F H σ ρ) {i : Nat} {b : Bool} {c c' : BR} {a : Addr} (e : ρ[i]? = some (some (.ob b c))) (s : σ[i]? = some (some (.ref a))) (x : FX (some a) F H F' H') (hb : BRR K F' H' (some a) (some c')) :
    ER B K F' H' σ (ρ.set i (some (.ob b c'))) := by
  obtain ⟨v, s', a', o, rfl, hf, hh, _, h1, h2⟩ := h.sl i _ e
  rw [s] at s'
  cases s'
  obtain ⟨hf', o', hh', hc'⟩ := hb
  have hi : i < ρ.length := (List.getElem?_eq_some_iff.mp e).1
  have stay : ∀ y z, H y = some z → y ≠ a → H' y = some z := fun y z e n => x.fr y z e (fun q => n (Option.some.inj q).symm)
  refine ⟨x.fh, fun y z e9 n => ?_, h.ff.trans x.sf, fun y e1 e2 => ?_, fun y e9 => ⟨?_, (h.rh y e9).2⟩, by simp [h.len], fun j w' ej => ?_, fun j k b2 b3 c2 c3 u hjk e1 e2 e3 e4 => ?_⟩
  · have hy : y ≠ a := fun q => by
      subst q
      cases b with
      | true =>
        rw [h1 rfl] at e9
        cases e9
      | false => exact n (h2 rfl)
    exact stay y z (h.fr y z e9 n) hy
  · refine x.nn y (fun z => ?_) (h.fn y e1 e2)
    by_cases hy : B.r = some y
    · exact (h.rh y hy).1 z
    · cases q : B.H0 y with
      | none => exact e1 q
      | some o =>
        rw [h.fr y o q hy] at z
        cases z
  · by_cases hy : y = a
    · subst hy
      rw [hh']
      exact fun z => nomatch z
    · cases q : H y with
      | none => exact absurd q (h.rh y e9).1
      | some o =>
        rw [stay y o q hy]
        exact fun z => nomatch z
  · by_cases hj : i = j
    · subst hj
      rw [List.getElem?_set_self hi] at ej
      cases ej
      exact ⟨_, s, a, o', rfl, hf', hh', hc', h1, h2⟩
    · rw [List.getElem?_set_ne hj] at ej
      obtain ⟨v, sv, r⟩ := h.sl j w' ej
      refine ⟨v, sv, ?_⟩
      cases w' with
      | fz d => exact Rp.mono x.sf _ _ r
      | sc ds =>
        obtain ⟨a5, vs5, e5, h5, h6⟩ := r
        exact ⟨a5, vs5, e5, same_l x.sf h5, RpA.mono x.sf _ _ h6⟩
      | ex e5 =>
        obtain ⟨a5, c5, d5, h5, h6, h7⟩ := r
        exact ⟨a5, c5, d5, h5, h6, h7.mono x.sf⟩
      | ob b2 c2 =>
        obtain ⟨a2, o2, rfl, r1, r2, r3, r4⟩ := r
        have ha : a2 ≠ a := fun z => by
          subst z
          exact h.dj i j b b2 c c2 _ hj e ej s sv
        exact ⟨a2, o2, rfl, x.nn a2 (by rw [r2]; exact fun z => nomatch z) r1, stay a2 o2 r2 ha, r3.mono x.sf, r4⟩
  · by_cases hj : i = j
    · subst hj
      rw [List.getElem?_set_ne hjk] at e2
      exact h.dj i k _ _ _ _ u hjk e e2 e3 e4
    · rw [List.getElem?_set_ne hj] at e1
      by_cases hk : i = k
      · subst hk
        exact h.dj j i _ _ _ _ u hjk e1 e e3 e4
      · rw [List.getElem?_set_ne hk] at e2
        exact h.dj j k b2 b3 c2 c3 u hjk e1 e2 e3 e4
theorem ob_set {ρ : Rho} {i j : Nat} {b : Bool} {c c' : BR} (e : ρ[i]? = some (some (.ob b c))) {b2 : Bool} {c2 : BR} (h : (ρ.set i (some (.ob b c')))[j]? = some (some (.ob b2 c2))) : ∃ b3 c3, ρ[j]? = some (some (.ob b3 c3)) := by
  by_cases hj : i = j
  · subst hj
    exact ⟨b, c, e⟩
  · rw [List.getElem?_set_ne hj] at h
    exact ⟨b2, c2, h⟩
/-- what comes back is data, or a new object -/
theorem rr_sn (h : ER B K F H σ ρ) (r : RR K H F' H' v w) : SN B K F' H' σ ρ v w := by
  cases w with
  | fz d => exact ⟨r, trivial⟩
  | sc _ => exact r.elim
  | ex _ => exact r.elim
  | ob own c =>
    obtain ⟨rfl, a, o, rfl, h1, h2, h3, h4⟩ := r
    exact ⟨⟨a, o, rfl, h2, h3, h4, fun _ => h.h0 h1, fun z => nomatch z⟩, rfl, h.fresh h1⟩
theorem sn_set {i : Nat} {b : Bool} {c c' : BR} (e : ρ[i]? = some (some (.ob b c))) (s : SN B K F H σ ρ v w) : SN B K F H σ (ρ.set i (some (.ob b c'))) v w := by
  refine ⟨s.1, ?_⟩
  cases w with
  | fz _ => trivial
  | sc _ => trivial
  | ex _ => trivial
  | ob own c2 =>
    refine ⟨s.2.1, fun j b2 c2 e2 => ?_⟩
    obtain ⟨b3, c3, e3⟩ := ob_set e e2
    exact s.2.2 j b3 c3 e3
end
section
variable {X : Cx} {B : Bs} {W : WX} {e a b c tg iter : Expr} {es : List Expr} {pos pos' p p1 p2 p3 : Pos} {fa fb fc : Mo PyData} {fo : Mo Sl} {ta : Mo Bool} {fs : Mo (List PyData)} {sts : List Stmt} {f g : Mo Fl}
theorem call_ok {C : Ct} {n : Nat} {f : FnF} {σ : L2.St} {F H : Hp} {ρ : Rho} {vs : List V} {ds : List PyData} {Q : VK} (h : ER C.B C.K F H σ ρ) (rs : RpA C.K F vs ds)
    (p : Post C σ F (callQ n f ds ρ) fun w ρ' F' H' => ∀ v, SN C.B C.K F' H' σ ρ' v w → Q v H') : spD C.K n f vs H Q (WE C.Wx σ) := by
  unfold callQ at p
  split at p
  · rename_i hn
    refine ⟨rs.len.trans hn, F, none, .n, vs, ds, h.fh, ⟨rfl, rfl⟩, rs, ?_⟩
    cases q : f .n ds with
    | ok w c =>
      rw [q] at p
      exact fun v F' H' x _ r => p F' H' x.sf (h.fx0 x) v (rr_sn h r)
    | err e c =>
      rw [q] at p
      exact fun cls dx F' H' x _ r => p F' H' cls dx x.sf (h.fx0 x) r
    | no =>
      rw [q] at p
      exact p
  · exact p.elim
theorem do_call {x : Str} {k n : Nat} {fA : Addr} {fd : FuncData} {ps : List Str} {fn : FnF} (G : FnOk X.prog X.w X.K X.mg X.base (L2.CX X.prog X.w) k fA fd ps (spD X.K n fn)) (hr : Room k X.A) (tk : Takes X W) (hm : X.mg x = some (.ref fA)) (hk : PySem.W.keepIn X.K (.ref fA) = true) (hb : Binds X.K fd ps [])
    (ha : DA X B W (e :: es) fs) (hg : Gl X x := by rfl) (hdb : (x == ("__debug__" : Str)) = false := by decide) (he : starEach (e :: es) X.env = (false, eval e X.env) :: starEach es X.env := by rfl) (hpl : (backTo pos (starEach es X.env)).any (·.1) = false := by rfl) :
    DO X B W (.Call (.Name x p) (e :: es) [] pos) (callF n fn fs) := by
  refine ⟨pe_imp (pe_callSD G hr hg hm hk hb .nil (passAt tk) ha.pa hdb he hpl) fun σ H Q ⟨F, ρ, h, p⟩ => ⟨F, ρ, h, p.bnd.imp fun ds ρ1 F1 H1 s h1 p1 vs rs => ?_⟩⟩
  show spD X.K n fn (vs ++ []) H1 Q (WE W σ)
  rw [List.append_nil]
  exact call_ok (C := ct X B W) h1 rs p1
theorem callB_ok {C : Ct} {i n : Nat} {f : FnF} {σ : L2.St} {F H : Hp} {ρ : Rho} {u : V} {vs : List V} {ds : List PyData} {Q : VK} (h : ER C.B C.K F H σ ρ) (eu : σ[i]? = some (some u)) (rs : RpA C.K F vs ds)
    (p : Post C σ F (callBQ i n f ds ρ) fun w ρ' F' H' => ∀ v, SN C.B C.K F' H' σ ρ' v w → Q v H') : spD C.K n f (u :: vs) H Q (WE C.Wx σ) := by
  unfold callBQ at p
  split at p
  · rename_i hn
    split at p
    · rename_i b c q
      obtain ⟨v', e', a, o, rfl, hf, hh, hc, _⟩ := h.sl i _ q
      rw [eu] at e'
      cases e'
      refine ⟨by rw [List.length_cons, rs.len]; exact hn, F, some a, .b c, vs, ds, h.fh, ⟨a, o, rfl, rfl, hf, hh, hc⟩, rs, ?_⟩
      cases q2 : f (.b c) ds with
      | ok w c' =>
        rw [q2] at p
        cases c' with
        | none => exact p.elim
        | some c' => exact fun v F' H' x hb r => p F' H' x.sf (h.fxb q eu x hb) v (sn_set q (rr_sn h r))
      | err e c' =>
        rw [q2] at p
        cases c' with
        | none => exact p.elim
        | some c' => exact fun cls dx F' H' x hb r => p F' H' cls dx x.sf (h.fxb q eu x hb) r
      | no =>
        rw [q2] at p
        exact p
    · exact p.elim
  · exact p.elim
theorem do_callB (i : Nat) {x y : Str} {k n : Nat} {fA : Addr} {fd : FuncData} {ps : List Str} {fn : FnF} (G : FnOk X.prog X.w X.K X.mg X.base (L2.CX X.prog X.w) k fA fd ps (spD X.K n fn)) (hr : Room k X.A) (tk : Takes X W) (hm : X.mg x = some (.ref fA)) (hk : PySem.W.keepIn X.K (.ref fA) = true) (hb : Binds X.K fd ps [])
    (ha : DA X B W es fs) (hN : X.N[i]? = some y := by rfl) (hv : Vis X.env.scope y := by first | exact Or.inl rfl | exact Or.inr (Or.inl rfl) | exact Or.inr (Or.inr rfl)) (hd : (y == ("__debug__" : Str)) = false := by decide)
    (hcd : (y == ("__classdict__" : Str)) = false := by decide) (hg : Gl X x := by rfl) (hdb : (x == ("__debug__" : Str)) = false := by decide) (he : starEach (.Name y p1 :: es) X.env = (false, eval (.Name y p1) X.env) :: starEach es X.env := by rfl) (hpl : (backTo pos (starEach es X.env)).any (·.1) = false := by rfl) :
    DO X B W (.Call (.Name x p) (.Name y p1 :: es) [] pos) (callB i n fn fs) := by
  refine ⟨pe_imp (pe_callSD G hr hg hm hk hb .nil (passAt tk) (pa_cons (pe_var hN hv hd hcd) ha.pa he) hdb he hpl) fun σ H Q ⟨F, ρ, h, p⟩ => ?_⟩
  obtain ⟨u, eu, p⟩ := hasS_ok (C := ct X B W) h p
  refine ⟨u, eu, F, ρ, h, p.bnd.imp fun ds ρ1 F1 H1 s h1 p1 vs rs => ?_⟩
  show spD X.K n fn ((u :: vs) ++ []) H1 Q (WE W σ)
  rw [List.append_nil]
  exact callB_ok (C := ct X B W) h1 eu rs p1
theorem callS_ok {C : Ct} {i n : Nat} {f : FnF} {σ : L2.St} {F H : Hp} {ρ : Rho} {u : V} {vs : List V} {ds : List PyData} {Q : VK} (h : ER C.B C.K F H σ ρ) (eu : σ[i]? = some (some u)) (rs : RpA C.K F vs ds)
    (p : Post C σ F (callSQ i n f ds ρ) fun w ρ' F' H' => ∀ v, SN C.B C.K F' H' σ ρ' v w → Q v H') : spD C.K n f (u :: vs) H Q (WE C.Wx σ) := by
  unfold callSQ at p
  split at p
  · rename_i hn
    split at p
    · rename_i es q
      obtain ⟨v', e', a, us, rfl, hs, hr⟩ := h.sl i _ q
      rw [eu] at e'
      cases e'
      refine ⟨by rw [List.length_cons, rs.len]; exact hn, F, none, .s es, vs, ds, h.fh, ⟨a, us, rfl, rfl, hs, hr⟩, rs, ?_⟩
      cases q2 : f (.s es) ds with
      | ok w c =>
        rw [q2] at p
        exact fun v F' H' x _ r => p F' H' x.sf (h.fx0 x) v (rr_sn h r)
      | err e c =>
        rw [q2] at p
        exact fun cls dx F' H' x _ r => p F' H' cls dx x.sf (h.fx0 x) r
      | no =>
        rw [q2] at p
        exact p
    · exact p.elim
  · exact p.elim
theorem do_callS (i : Nat) {x y : Str} {k n : Nat} {fA : Addr} {fd : FuncData} {ps : List Str} {fn : FnF} (G : FnOk X.prog X.w X.K X.mg X.base (L2.CX X.prog X.w) k fA fd ps (spD X.K n fn)) (hr : Room k X.A) (tk : Takes X W) (hm : X.mg x = some (.ref fA)) (hk : PySem.W.keepIn X.K (.ref fA) = true) (hb : Binds X.K fd ps [])
    (ha : DA X B W es fs) (hN : X.N[i]? = some y := by rfl) (hv : Vis X.env.scope y := by first | exact Or.inl rfl | exact Or.inr (Or.inl rfl) | exact Or.inr (Or.inr rfl)) (hd : (y == ("__debug__" : Str)) = false := by decide)
    (hcd : (y == ("__classdict__" : Str)) = false := by decide) (hg : Gl X x := by rfl) (hdb : (x == ("__debug__" : Str)) = false := by decide) (he : starEach (.Name y p1 :: es) X.env = (false, eval (.Name y p1) X.env) :: starEach es X.env := by rfl) (hpl : (backTo pos (starEach es X.env)).any (·.1) = false := by rfl) :
    DO X B W (.Call (.Name x p) (.Name y p1 :: es) [] pos) (callS i n fn fs) := by
  refine ⟨pe_imp (pe_callSD G hr hg hm hk hb .nil (passAt tk) (pa_cons (pe_var hN hv hd hcd) ha.pa he) hdb he hpl) fun σ H Q ⟨F, ρ, h, p⟩ => ?_⟩
  obtain ⟨u, eu, p⟩ := hasS_ok (C := ct X B W) h p
  refine ⟨u, eu, F, ρ, h, p.bnd.imp fun ds ρ1 F1 H1 s h1 p1 vs rs => ?_⟩
  show spD X.K n fn ((u :: vs) ++ []) H1 Q (WE W σ)
  rw [List.append_nil]
  exact callS_ok (C := ct X B W) h1 eu rs p1
/-! with keywords: gD puts the arguments, the keywords' values and the defaults in the parameters' order -/
def callK (n : Nat) (f : FnF) (gD : List PyData → List PyData → List PyData) (fs ks : Mo (List PyData)) : Mo Sl := bnd fs fun ds => bnd ks fun zs => callQ n f (gD ds zs)
structure DK (X : Cx) (B : Bs) (W : WX) (kws : List Keyword) (f : Mo (List PyData)) : Prop where
  pk : PK X kws (tA (ct X B W) f)
theorem pk_imp {kws : List Keyword} {t t' : TA} (h : PK X kws t) (i : ∀ σ H Q, t' σ H Q → t σ H Q) : PK X kws t' := ⟨fun pos pins s σ H Q I w => h.run pos pins s σ H Q I (i σ H Q w)⟩
theorem dk_nil : DK X B W [] aNil := ⟨pk_imp pk_nil fun σ H Q ⟨F, ρ, h, p⟩ => (p.now h) [] .nil⟩
theorem dk_cons {kws : List Keyword} {nm : Option Str} {kp : Pos} (ha : DE X B W a fa) (hr : DK X B W kws fs) : DK X B W (⟨nm, a, kp⟩ :: kws) (aCons fa fs) :=
  ⟨pk_imp (pk_cons ha.pe hr.pk) fun σ H Q ⟨F, ρ, h, p⟩ => ⟨F, ρ, h, p.bnd.imp fun d ρ1 F1 H1 s h1 p1 v rv => ⟨F1, ρ1, h1, p1.bnd.imp fun ds ρ2 F2 H2 s2 h2 p2 vs rs => Post.now p2 h2 _ (.cons (Rp.mono s2 _ _ rv) rs)⟩⟩⟩

theorem do_callK {x : Str} {k n m : Nat} {fA : Addr} {fd : FuncData} {ps ks : List Str} {fn : FnF} {g : List Value → List Value → List Value} {gV : List V → List V → List V} {gD : List PyData → List PyData → List PyData} {kws : List Keyword} {fk : Mo (List PyData)}
    (G : FnOk X.prog X.w X.K X.mg X.base (L2.CX X.prog X.w) k fA fd ps (spD X.K n fn)) (hr : Room k X.A) (tk : Takes X W) (hm : X.mg x = some (.ref fA)) (hk : PySem.W.keepIn X.K (.ref fA) = true) (hb : KBn X.K fd ps m ks g gV)
    (hgV : ∀ {F : Hp} {vs zs : List V} {ds es : List PyData}, ds.length = m → es.length = ks.length → RpA X.K F vs ds → RpA X.K F zs es → RpA X.K F (gV vs zs) (gD ds es))
    (ha : DA X B W (e :: es) fs) (hkw : DK X B W kws fk) (hl1 : ∀ {ρ ds ρ'}, fs ρ = .ok ds ρ' → ds.length = m) (hl2 : ∀ {ρ ds ρ'}, fk ρ = .ok ds ρ' → ds.length = ks.length)
    (hall : (backToKw pos (keywordEach kws X.env)).all (·.1.isSome) = true := by rfl) (hks : (backToKw pos (keywordEach kws X.env)).filterMap (·.1) = ks := by rfl)
    (hg : Gl X x := by rfl) (hdb : (x == ("__debug__" : Str)) = false := by decide) (he : starEach (e :: es) X.env = (false, eval e X.env) :: starEach es X.env := by rfl)
    (hpl : ((backTo pos (starEach (e :: es) X.env)).any (·.1) || (backToKw pos (keywordEach kws X.env)).any (·.1.isNone)) = false := by rfl) :
    DO X B W (.Call (.Name x p) (e :: es) kws pos) (callK n fn gD fs fk) := by
  refine ⟨⟨fun pins s σ H Q I0 ⟨F, ρ, h, pp⟩ => ?_⟩⟩
  refine wpAny_Call_Name_kw (ld_glob I0 hg hm ?_ hdb)
  have w1 : tA (ct X B W) fs σ H fun vs H1 => vs.length = m ∧ tA (ct X B W) fk σ H1 fun zs H2 => zs.length = ks.length ∧ spD X.K n fn (gV vs zs) H2 Q (WE W σ) := by
    refine ⟨F, ρ, h, ?_⟩
    have q1 := pp.bnd
    cases qf : fs ρ with
    | ok ds ρ1 =>
      rw [qf] at q1
      refine fun F1 H1 s1 h1 vs rs => ⟨rs.len.trans (hl1 qf), F1, ρ1, h1, ?_⟩
      have q2 := Post.bnd (q1 F1 H1 s1 h1)
      cases qk : fk ρ1 with
      | ok zs ρ2 =>
        rw [qk] at q2
        refine fun F2 H2 s2 h2 us ru => ⟨ru.len.trans (hl2 qk), ?_⟩
        exact call_ok (C := ct X B W) h2 (hgV (hl1 qf) (hl2 qk) (RpA.mono s2 _ _ rs) ru) (q2 F2 H2 s2 h2)
      | err e ρ2 =>
        rw [qk] at q2
        exact q2
      | no =>
        rw [qk] at q2
        exact q2
    | err e ρ1 =>
      rw [qf] at q1
      exact q1
    | no =>
      rw [qf] at q1
      exact q1
  refine PySem.W.callWith_KW (h₀ := X.base) I0.ok.mod.kin hk hall (thn (ha.pa.run pos pins s σ H _ I0 w1) fun us s1 ⟨vs, H1, I1, r1, l1, w2⟩ => ?_) hpl he
  refine thn (hkw.pk.run pos pins s1 σ H1 _ I1 w2) fun ws s2 ⟨zs, H2, I2, r2, l2, w3⟩ => ⟨I2.kIn, ?_⟩
  rw [hks]
  refine wpAny_call (codeAny_mono (G.run X.A X.stack s2 H2 ⟨us, ks.zip ws⟩ (g us ws) (gV vs zs) Q (WE W σ) hr I2.env0 (hb.to s2 us ws I2.kIn (r1.length.symm.trans l1) (r2.length.symm.trans l2)) (hb.rel r1 r2) w3) fun rr s3 hq => ?_)
  cases rr with
  | error er => exact passAt tk σ pins H2 s2 er s3 I2 hq
  | ok fl =>
    cases fl with
    | ret u => exact I2.after hq
    | _ => exact hq.elim
end
end Dv
set_option Elab.async false
set_option linter.all false
set_option maxRecDepth 100000
set_option maxHeartbeats 2000000
namespace Dv
open PySem PySem.Spec PyProof.Rows L2 He
/-! ### the head's facts: defs, names, exception classes -/
def oexB (K : PySem.W.Frag) (C : Addr) : Bool := match K.lookup C with
  | some ⟨.type t, _, .cls cd, sl⟩ => (match cd.mro, sl.toList with
    | .ref C' :: bm, [_, _, _, _, some (.builtin n), _] => decide (t = "type") && (decide (C' = C) && (decide (n = "ValueError.__new__") && (!cd.hasDel && (cd.hasDict && PySem.HandSPX.refsVE bm))))
    | _, _ => false)
  | _ => false
theorem oexB_ok {K : PySem.W.Frag} {C : Addr} (h : oexB K C = true) :
    ∃ nm q N bs bm sn sub ab col dd k0 k1 k2 k3 k5, K.lookup C = some (excClassObj nm q C N bs bm true sn sub ab col dd k0 k1 k2 k3 k5 "ValueError.__new__") ∧ PySem.HandSPX.refsVE bm = true := by
  unfold oexB at h
  split at h
  · rename_i t dd cd sl ho
    split at h
    · rename_i C' bm k0 k1 k2 k3 n k5 hm hs
      simp only [Bool.and_eq_true, decide_eq_true_eq, Bool.not_eq_true'] at h
      obtain ⟨rfl, rfl, rfl, hd, hh, hb⟩ := h
      obtain ⟨nm, bs, mro, ns, qn, hdt, sn, sub, ab, col, del⟩ := cd
      dsimp only at hm hd hh
      subst hm hd hh
      have hsl : sl = #[k0, k1, k2, k3, some (.builtin "ValueError.__new__"), k5] := by
        obtain ⟨l⟩ := sl
        simp only at hs
        rw [hs]
      subst hsl
      exact ⟨nm, qn, ns, bs, bm, sn, sub, ab, col, dd, k0, k1, k2, k3, k5, ho, hb⟩
    · cases h
  · cases h
/-- an exception class of the program's, by its name: its fields -/
structure ExD where
  x : Str
  fs : List Str
def ExD.ok (K : PySem.W.Frag) (e : ExD) : Bool :=
  oexB K (ga K e.x) && (eqO (PySem.W.findIn K (.ref (ga K e.x)) "__setattr__") (some (some (.builtin "object.__setattr__"))) && (decide (PySem.W.subIn K (.ref (ga K e.x)) (.type "BaseException") = some true) &&
  (decide (PySem.W.typeIn K (.ref (ga K e.x)) = some (.type "type")) && (PySem.W.keepIn K (.ref (ga K e.x)) && (xfB K (ga K e.x) && (eqO (PySem.W.findIn K (.ref (ga K e.x)) "__class__") (some (some (.builtin "object.__class__"))) &&
  (decide (PySem.W.specialIn K (.builtin "object.__class__") "__get__" = some (some (.builtin "getset_descriptor.__get__"))) && (decide (PySem.W.takesIn K (.builtin "object.__class__") = some true) && (decide (PySem.W.mroIn K (ga K e.x) (.type "object") = some true) &&
  (e.fs.all fun f => eqO (PySem.W.findIn K (.ref (ga K e.x)) f) (some none)) && (eqO (PySem.W.findIn K (.ref (ga K e.x)) "__init__") (some (some (.ref (ma K (ga K e.x) "__init__")))) && decide (PySem.W.typeIn K (.ref (ma K (ga K e.x) "__init__")) = some (.type "function"))))))))))))
structure ExF (K : PySem.W.Frag) (C : Addr) (fs : List Str) : Prop where
  oex : OexC K C
  xf : XfC K C
  ec : ExcC K C
  no : ∀ f ∈ fs, PySem.W.findIn K (.ref C) f = some none
  ini : PySem.W.findIn K (.ref C) "__init__" = some (some (.ref (ma K C "__init__")))
  ty : PySem.W.typeIn K (.ref (ma K C "__init__")) = some (.type "function")
theorem ExD.get {K : PySem.W.Frag} {e : ExD} (h : e.ok K = true) : ExF K (ga K e.x) e.fs := by
  obtain ⟨h1, h⟩ := ba h
  obtain ⟨h2, h⟩ := ba h
  obtain ⟨h3, h⟩ := ba h
  obtain ⟨h4, h⟩ := ba h
  obtain ⟨h5, h⟩ := ba h
  obtain ⟨h6, h⟩ := ba h
  obtain ⟨h7, h⟩ := ba h
  obtain ⟨h8, h⟩ := ba h
  obtain ⟨h9, h⟩ := ba h
  obtain ⟨h10, h⟩ := ba h
  obtain ⟨h10, h11⟩ := ba h10
  obtain ⟨h12, h13⟩ := ba h
  have xf := xfB_ok h6
  exact ⟨⟨oexB_ok h1, eqO_ok h2, of_decide_eq_true h3, of_decide_eq_true h4, h5⟩, xf, ⟨xf.ga, xf.gg, xf.exC, xf.hdC, eqO_ok h7, of_decide_eq_true h8, of_decide_eq_true h9, of_decide_eq_true h10⟩,
    fun f hf => eqO_ok (List.all_eq_true.mp h11 f hf), eqO_ok h12, of_decide_eq_true h13⟩
/-- isinstance of an exception of class x asked for class y; except y met by class x -/
structure IsD where
  x : Str
  y : Str
  b : Bool
def IsD.ok (K : PySem.W.Frag) (e : IsD) : Bool := decide (PySem.W.kitOne K (.ref (ga K e.x)) (.ref (ga K e.y)) = some e.b) && decide (PySem.W.exmOne K (.ref (ga K e.x)) (.ref (ga K e.y)) = some e.b)
theorem IsD.get {K : PySem.W.Frag} {e : IsD} (h : e.ok K = true) : PySem.W.kitOne K (.ref (ga K e.x)) (.ref (ga K e.y)) = some e.b ∧ PySem.W.exmOne K (.ref (ga K e.x)) (.ref (ga K e.y)) = some e.b := by
  obtain ⟨h1, h2⟩ := ba h
  exact ⟨of_decide_eq_true h1, of_decide_eq_true h2⟩
/-- the whole head of a program -/
structure HeadD where
  fa : List Fa
  fn : List DefD
  ex : List ExD
  is_ : List IsD
abbrev AlV : Type := AlD × Bool
def HeadD.obs (d : HeadD) (K : PySem.W.Frag) : AlV := (obsD d.fa d.fn K, (d.ex.all fun e => e.ok K) && d.is_.all fun e => e.ok K)
def HeadD.val (d : HeadD) : AlV := (valD d.fn, true)
def HeadD.obsG (n : Nat) (d : HeadD) (g : Addr → Option Obj) : AlV := d.obs (frG g (asD g n))
structure HeadD.Says (d : HeadD) (K : PySem.W.Frag) : Prop where
  e : d.obs K = d.val
def hookV (n : Nat) (d : HeadD) : PySem.W.Hook where
  α := AlV
  obs := fun s => d.obsG n s.heap.get?
  val := fun _ => d.val
  says := fun _ h => ∃ K : PySem.W.Frag, K.In h ∧ d.Says K
  of := fun _ _ e => ⟨_, frG_in, ⟨e⟩⟩
  keeps := fun _ _ _ ⟨K, hK, c⟩ k => ⟨K, PySem.W.Frag.In.keeps hK k, c⟩
theorem obsGV_eq {n : Nat} {d : HeadD} {g : Addr → Option Obj} {s : Shared} (h : ∀ a, g a = s.heap.get? a) : d.obsG n g = (hookV n d).obs s := by
  have e : g = s.heap.get? := funext h
  rw [e] <;> rfl
section
variable {hd : HeadD} {K : PySem.W.Frag}
theorem HeadD.Says.sd (c : hd.Says K) : SaysD hd.fa hd.fn K := congrArg (fun z : AlV => z.1) c.e
theorem HeadD.Says.x (c : hd.Says K) {e : ExD} (i : Nat) (h : hd.ex[i]? = some e := by rfl) : ExF K (ga K e.x) e.fs :=
  ExD.get (List.all_eq_true.mp (ba (congrArg (fun z : AlV => z.2) c.e)).1 e (List.mem_of_getElem? h))
theorem HeadD.Says.i (c : hd.Says K) {e : IsD} (i : Nat) (h : hd.is_[i]? = some e := by rfl) : PySem.W.kitOne K (.ref (ga K e.x)) (.ref (ga K e.y)) = some e.b ∧ PySem.W.exmOne K (.ref (ga K e.x)) (.ref (ga K e.y)) = some e.b :=
  IsD.get (List.all_eq_true.mp (ba (congrArg (fun z : AlV => z.2) c.e)).2 e (List.mem_of_getElem? h))
end
end Dv
set_option Elab.async false
set_option linter.all false
set_option maxRecDepth 100000
set_option maxHeartbeats 2000000
namespace Dv
open PySem PySem.Spec PyProof.Rows L2
/-! ### raise -/
/-- what __init__ leaves -/
def finH (H : Hp) (a C d : Addr) (fs : List (Str × V)) : Hp := upd (upd H d (exd d fs)) a (exo a C (some d))
/-- an exception class's __init__: it stores its arguments under these names -/
def spInit (C : Addr) (names : List Str) : Sp := fun vs H Q _ => ∃ a us, vs = V.ref a :: us ∧ us.length = names.length ∧ H a = some (exo a C none) ∧
  ∀ d fs, H d = none → d ≠ a → (∀ (i : Nat) nm u, names[i]? = some nm → us[i]? = some u → fs.lookup nm = some u) → Q .non (finH H a C d fs)
def raiseQ (cls : Str) (names : List Str) (ds : List PyData) : Mo Fl := fun ρ => if ds.length = names.length then .err ⟨cls, names.zip ds⟩ ρ else .no
def sRaise (cls : Str) (names : List Str) (fs : Mo (List PyData)) : Mo Fl := bnd fs (raiseQ cls names)
theorem zip_at : ∀ {names : List Str} {ds : List PyData} {x : Str} {d : PyData}, (names.zip ds).lookup x = some d → ∃ i : Nat, names[i]? = some x ∧ ds[i]? = some d
  | [], _, _, _, h => by simp at h
  | _ :: _, [], _, _, h => by simp at h
  | n :: ns, e :: es, x, d, h => by
    rw [List.zip_cons_cons, List.lookup_cons] at h
    by_cases hx : x = n
    · subst hx
      simp at h
      exact ⟨0, rfl, by simp [h]⟩
    · have hb : (x == n) = false := by simpa using hx
      rw [hb] at h
      obtain ⟨i, h1, h2⟩ := zip_at h
      exact ⟨i + 1, by simpa using h1, by simpa using h2⟩
theorem fin_del {H : Hp} {a C d : Addr} {fs : List (Str × V)} (ha : H a = none) (hd : d ≠ a) : upd (del (finH (upd H a (exo a C none)) a C d fs) a) d (.xd fs) = upd H d (.xd fs) := by
  funext b
  by_cases hb : b = d
  · rw [hb, upd_same, upd_same]
  · rw [upd_ne hb, upd_ne hb]
    by_cases hba : b = a
    · rw [hba, del_same, ha]
    · rw [del_ne hba]
      unfold finH
      rw [upd_ne hba, upd_ne hb, upd_ne hba]
section
variable {X : Cx} {B : Bs} {W : WX} {e a b c tg iter : Expr} {es : List Expr} {pos pos' p p1 p2 p3 : Pos} {fa fb fc : Mo PyData} {fo : Mo Sl} {ta : Mo Bool} {fs : Mo (List PyData)} {sts : List Stmt} {f g : Mo Fl}
theorem ds_raise {x : Str} {names : List Str} {k : Nat} {fd : FuncData} {ps : List Str} (hc : X.calm = true) (tk : Takes X W) (hr : Room (k + 1) X.A) (ex : ExF X.K (He.ga X.K x) names) (F1 : FnOk X.prog X.w X.K X.mg X.base (L2.CX X.prog X.w) k (He.ma X.K (He.ga X.K x) "__init__") fd ps (spInit (He.ga X.K x) names))
    (hb : Binds X.K fd ps []) (hm : X.mg x = some (.ref (He.ga X.K x))) (hl : names.length ≤ 1000) (ha : DA X B W (e :: es) fs) (hg : Gl X x := by rfl)
    (hdb : (x == ("__debug__" : Str)) = false := by decide) (he : starEach (e :: es) X.env = (false, eval e X.env) :: starEach es X.env := by rfl) (hpl : (backTo pos (starEach es X.env)).any (·.1) = false := by rfl) :
    DS X B W (.Raise (some (.Call (.Name x p) (e :: es) [] pos)) none pos') (sRaise x names fs) := by
  refine ⟨ps_imp (ps_raise hc tk (pmk_oex (dvs := []) (ds := []) ex.oex ex.ini ex.ty F1 hr hb .nil (passes_call tk fun _ _ _ _ z => z.elim) hg hm ha.pa hdb he hpl)) fun D σ H ⟨F, ρ, h, pp⟩ => ?_⟩
  refine ⟨F, ρ, h, (PostS.bnd pp).imp fun ds ρ1 F1 H1 s h1 p1 vs rs => ?_⟩
  unfold raiseQ at p1
  split at p1
  · rename_i hn
    refine ⟨by rw [rs.len, hn]; exact hl, fun a na => ⟨a, vs ++ [], rfl, by rw [List.append_nil, rs.len, hn], upd_same, fun d fs nd hda hfs => ?_⟩⟩
    have nd' : H1 d = none := by
      rwa [upd_ne hda] at nd
    refine ⟨rfl, d, fs, upd_same, ?_, nd', ?_⟩
    · unfold finH
      rw [upd_ne hda, upd_same]
    · show W _ _ σ _
      rw [fin_del na hda]
      refine p1 (upd F1 d (.xd fs)) _ σ _ _ (same_upd (h1.fh.free nd')) (h1.xt (Xt.new h1.fh nd')) ⟨d, fs, rfl, rfl, upd_same, fun y dd ey => ?_⟩
      obtain ⟨i, e1, e2⟩ := zip_at ey
      obtain ⟨v, e3, e4⟩ := rs.get e2
      exact ⟨v, hfs i y v e1 (by rw [List.append_nil]; exact e3), Rp.mono (same_upd (h1.fh.free nd')) _ _ e4⟩
  · exact p1.elim
end
/-! ### __init__ of one, of two fields -/
section
variable {P : Program} {w : World} {K : PySem.W.Frag} {mg : Str → Option Value} {base : Heap} {x qual : Str} {params : Arguments} {sb : List Stmt} {scope : Scope} {fI C : Addr} {fd : FuncData} {N ps : List Str} {k : Nat}
theorem init1 {f : Str} (D : FunD K x qual params sb scope [] [] fI fd) (S : FnScope N ps scope) (hp : ps.length = 2) (hN : N.length = 2) (T : ExF K C [f])
    (hb : ∀ (cdv : Value) (A : Around) (outer : List PySem.Env) (s : Shared) (H : Hp) (E : XK), PSs (cxOf (L2.CX P w) P w K mg base N qual scope fI cdv A outer s H E) sb (tOst K f (tVar 0) (tVar 1))) :
    FnOk P w K mg base (L2.CX P w) (k + 1) fI fd ps (spInit C [f]) := by
  refine D.ok S (fun vs H Q E h => ?_) fun cdv A outer s H vs Q E hr hsp => ?_
  · obtain ⟨a, us, rfl, hl, _⟩ := h
    rw [List.length_cons, hl, hp]
    rfl
  · obtain ⟨a, us, rfl, hl, ha, q⟩ := hsp
    refine ⟨_, hb cdv A outer s H E, ?_⟩
    match us, hl with
    | [u], _ =>
      refine ⟨u, rfl, _, rfl, a, C, rfl, T.oex, T.no f (by simp), .inl ⟨ha, fun dx n ne => ?_⟩⟩
      refine q dx [(f, u)] n ne fun i nm v e1 e2 => ?_
      match i, e1, e2 with
      | 0, e1, e2 =>
        simp only [List.getElem?_cons_zero, Option.some.injEq] at e1 e2
        rw [← e1, ← e2]
        simp [List.lookup]
theorem init2 {f g : Str} (hfg : f ≠ g) (D : FunD K x qual params sb scope [] [] fI fd) (S : FnScope N ps scope) (hp : ps.length = 3) (T : ExF K C [f, g])
    (hb : ∀ (cdv : Value) (A : Around) (outer : List PySem.Env) (s : Shared) (H : Hp) (E : XK), PSs (cxOf (L2.CX P w) P w K mg base N qual scope fI cdv A outer s H E) sb (tSeq (tOst K f (tVar 0) (tVar 1)) (tOst K g (tVar 0) (tVar 2)))) :
    FnOk P w K mg base (L2.CX P w) (k + 1) fI fd ps (spInit C [f, g]) := by
  refine D.ok S (fun vs H Q E h => ?_) fun cdv A outer s H vs Q E hr hsp => ?_
  · obtain ⟨a, us, rfl, hl, _⟩ := h
    rw [List.length_cons, hl, hp]
    rfl
  · obtain ⟨a, us, rfl, hl, ha, q⟩ := hsp
    refine ⟨_, hb cdv A outer s H E, ?_⟩
    match us, hl with
    | [u, v], _ =>
      refine ⟨u, rfl, _, rfl, a, C, rfl, T.oex, T.no f (by simp), .inl ⟨ha, fun dx n ne => ?_⟩⟩
      refine ⟨v, rfl, _, rfl, a, C, rfl, T.oex, T.no g (by simp), .inr ⟨dx, [(f, u)], upd_same, ?_, by simp, ?_⟩⟩
      · rw [upd_ne ne, upd_same]
      · have e : upd (upd (upd H dx (exd dx [(f, u)])) a (exo a C (some dx))) dx (exd dx ((g, v) :: [(f, u)])) = finH H a C dx [(g, v), (f, u)] := by
          funext b
          unfold finH
          by_cases hb : b = dx
          · rw [hb, upd_same, upd_ne ne, upd_same]
          · rw [upd_ne hb]
            by_cases hba : b = a
            · rw [hba, upd_same, upd_same]
            · rw [upd_ne hba, upd_ne hb, upd_ne hba, upd_ne hb]
        show Q .non _
        rw [e]
        refine q dx _ n ne fun i nm y e1 e2 => ?_
        match i, e1, e2 with
        | 0, e1, e2 =>
          simp only [List.getElem?_cons_zero, Option.some.injEq] at e1 e2
          rw [← e1, ← e2, lookup_put, if_neg hfg]
          simp [List.lookup]
        | 1, e1, e2 =>
          simp only [List.getElem?_cons_succ, List.getElem?_cons_zero, Option.some.injEq] at e1 e2
          rw [← e1, ← e2]
          simp [List.lookup]
end
end Dv
set_option Elab.async false
set_option linter.all false
set_option maxRecDepth 100000
set_option maxHeartbeats 2000000
namespace Dv
open PySem PySem.Spec PyProof.Rows L2
/-! ### try -/
def tryQ (is : Str → Option Bool) (g : Mo Fl) : Out Fl → Out Fl
  | .err e ρ => (match is e.cls with
    | some true => g ρ
    | some false => .err e ρ
    | none => .no)
  | o => o
/-- try: f / except c: g -/
def sTry (is : Str → Option Bool) (f g : Mo Fl) : Mo Fl := fun ρ => tryQ is g (f ρ)
section
variable {X : Cx} {B : Bs} {W : WX} {e a b c tg iter : Expr} {es : List Expr} {np pos pos' p p1 p2 p3 : Pos} {fa fb fc : Mo PyData} {fo : Mo Sl} {ta : Mo Bool} {fs : Mo (List PyData)} {sts : List Stmt} {f g : Mo Fl}
theorem ds_try {is : Str → Option Bool} {x : Str} {cv : Value} {body suite : List Stmt} {b₀ : Stmt} (tk : Takes X W) (hc : Names X x cv) (his : ∀ y k, is y = some k → PySem.W.exmOne X.K (.ref (He.ga X.K y)) cv = some k)
    (hb : ∀ (W' : WX) (pn : List (Addr × Obj)) (xe : Value → Shared → Prop), Takes (X.tr pn xe) W' → PassesOwn (model X.prog X.w) X.A X.env xe → DSs (X.tr pn xe) B W' body f)
    (hsu : ∀ (a : Addr) (oe : Obj) (pn : List (Addr × Obj)), DSs (X.suite a ((a, oe) :: pn)) B W (b₀ :: suite) g)
    (hs : X.stack = X.env :: X.outer := by rfl) (hf : X.env.frame = some X.env.locals := by rfl) :
    DS X B W (.Try body [.ExceptHandler (some (.Name x np)) none (b₀ :: suite) pos'] [] [] pos) (sTry is f g) := by
  refine ⟨ps_imp (ps_try_only (tb := fun W' => tS ⟨X.K, B, W'⟩ f) (ts := fun _ _ _ => tS ⟨X.K, B, W⟩ g) (Wout := W) hs hf hc tk (fun W' pn xe t q => (hb W' pn xe t q).pss) fun a oe cls d pn _ _ => (hsu a oe pn).pss) fun D σ H ⟨F, ρ, h, pp⟩ => ?_⟩
  refine ⟨F, ρ, h, ?_⟩
  have pp : PostS (ct X B W) F (tryQ is g (f ρ)) D := pp
  cases q : f ρ with
  | ok y ρ1 =>
    rw [q] at pp
    cases y <;> exact pp
  | no =>
    rw [q] at pp
    exact pp
  | err e ρ1 =>
    rw [q] at pp
    intro F1 H1 σ1 cls dx s1 h1 x1
    obtain ⟨d, fs, rfl, _⟩ := id x1
    unfold tryQ at pp
    dsimp only at pp
    cases qi : is e.cls with
    | none =>
      rw [qi] at pp
      exact pp.elim
    | some k =>
      rw [qi] at pp
      refine ⟨k, his _ _ qi, fun hk a na => ?_, fun hk => ?_⟩
      · subst hk
        exact ⟨F1, ρ1, h1, PostS.later pp s1⟩
      · subst hk
        exact pp F1 H1 σ1 _ dx s1 h1 x1
/-! ### except c as x -/
def exB : Option Sl → Bool
  | some (.ex _) => false
  | _ => true
def noEx (ρ : Rho) : Bool := ρ.all exB
theorem noEx_at {ρ : Rho} (h : noEx ρ = true) {i : Nat} {e : Exn} : ρ[i]? ≠ some (some (.ex e)) := fun z =>
  absurd (List.all_eq_true.mp h _ (List.mem_of_getElem? z)) Bool.false_ne_true
theorem SR.xa {B : Bs} {K : PySem.W.Frag} {F H : Hp} {v : V} {w : Sl} {y : Option (Addr × Value × Option Addr)} (h : SR B K F H v w) (n : exB (some w) = true) : SR { B with xa := y } K F H v w := by
  cases w with
  | fz d => exact h
  | sc ds => exact h
  | ex e => exact absurd n Bool.false_ne_true
  | ob own c => exact h
theorem ER.xa {B : Bs} {K : PySem.W.Frag} {F H : Hp} {σ : L2.St} {ρ : Rho} {y : Option (Addr × Value × Option Addr)} (h : ER B K F H σ ρ) (n : noEx ρ = true) : ER { B with xa := y } K F H σ ρ :=
  ⟨h.fh, h.fr, h.ff, h.fn, h.rh, h.len, fun i w e => by
    obtain ⟨v, h1, h2⟩ := h.sl i w e
    exact ⟨v, h1, h2.xa (List.all_eq_true.mp n _ (List.mem_of_getElem? e))⟩, h.dj⟩
def asQ (i : Nat) : Out Fl → Out Fl
  | .ok (.rt w) ρ => if noEx (ρ.set i none) && exB (some w) then .ok (.rt w) (ρ.set i none) else .no
  | .ok y ρ => if noEx (ρ.set i none) then .ok y (ρ.set i none) else .no
  | _ => .no
def tryAsQ (i : Nat) (is : Str → Option Bool) (g : Mo Fl) : Out Fl → Out Fl
  | .err e ρ => (match is e.cls with
    | some true => if noEx ρ && decide (i < ρ.length) then asQ i (g (ρ.set i (some (.ex e)))) else .no
    | some false => .err e ρ
    | none => .no)
  | o => o
/-- try: f / except c as x: g -/
def sTryAs (i : Nat) (is : Str → Option Bool) (f g : Mo Fl) : Mo Fl := fun ρ => tryAsQ i is g (f ρ)
theorem as_ok {B : Bs} {K : PySem.W.Frag} {Wx : WX} {F : Hp} {i : Nat} {o : Out Fl} {D : Ends} {y z : Option (Addr × Value × Option Addr)} (p : PostS ⟨K, { B with xa := z }, Wx⟩ F (asQ i o) D) :
    PostS ⟨K, { B with xa := y }, Wx⟩ F o { nx := fun σ' H' => D.nx (σ'.set i none) H', rt := D.rt, bk := fun σ' H' => D.bk (σ'.set i none) H', ct := fun σ' H' => D.ct (σ'.set i none) H' } := by
  cases o with
  | err e ρ => exact p.elim
  | no => exact p.elim
  | ok f ρ =>
    have key : noEx (ρ.set i none) = true → ∀ {F' H' σ'}, ER { B with xa := y } K F' H' σ' ρ → ER { B with xa := z } K F' H' (σ'.set i none) (ρ.set i none) := fun n F' H' σ' h => (h.wipe1 i).xa (y := z) n
    cases f with
    | rt w =>
      have p1 : PostS ⟨K, { B with xa := z }, Wx⟩ F (if (noEx (ρ.set i none) && exB (some w)) = true then Out.ok (Fl.rt w) (ρ.set i none) else Out.no) D := p
      by_cases n : (noEx (ρ.set i none) && exB (some w)) = true
      · rw [if_pos n] at p1
        obtain ⟨n1, n2⟩ := Bool.and_eq_true_iff.mp n
        exact fun F' H' σ' v s h r => p1 F' H' _ v s (key n1 h) (SR.xa (B := { B with xa := y }) (y := z) r n2)
      · rw [if_neg n] at p1
        exact p1.elim
    | nx =>
      have p1 : PostS ⟨K, { B with xa := z }, Wx⟩ F (if noEx (ρ.set i none) = true then Out.ok .nx (ρ.set i none) else Out.no) D := p
      by_cases n : noEx (ρ.set i none) = true
      · rw [if_pos n] at p1
        exact fun F' H' σ' s h => p1 F' H' _ s (key n h)
      · rw [if_neg n] at p1
        exact p1.elim
    | bk =>
      have p1 : PostS ⟨K, { B with xa := z }, Wx⟩ F (if noEx (ρ.set i none) = true then Out.ok .bk (ρ.set i none) else Out.no) D := p
      by_cases n : noEx (ρ.set i none) = true
      · rw [if_pos n] at p1
        exact fun F' H' σ' s h => p1 F' H' _ s (key n h)
      · rw [if_neg n] at p1
        exact p1.elim
    | ct =>
      have p1 : PostS ⟨K, { B with xa := z }, Wx⟩ F (if noEx (ρ.set i none) = true then Out.ok .ct (ρ.set i none) else Out.no) D := p
      by_cases n : noEx (ρ.set i none) = true
      · rw [if_pos n] at p1
        exact fun F' H' σ' s h => p1 F' H' _ s (key n h)
      · rw [if_neg n] at p1
        exact p1.elim
theorem ds_tryAs (i : Nat) {is : Str → Option Bool} {x n : Str} {cv : Value} {body suite : List Stmt} {b₀ : Stmt} (hN : X.N.Nodup) (tk : Takes X W) (hc : Names X x cv) (his : ∀ y k, is y = some k → PySem.W.exmOne X.K (.ref (He.ga X.K y)) cv = some k)
    (hb : ∀ (W' : WX) (pn : List (Addr × Obj)) (xe : Value → Shared → Prop), Takes (X.tr pn xe) W' → PassesOwn (model X.prog X.w) X.A X.env xe → DSs (X.tr pn xe) B W' body f)
    (hsu : ∀ (a : Addr) (oe : Obj) (cls : Value) (dx : Option Addr) (pn : List (Addr × Obj)), Zc cls dx oe → (∃ vs, oe.data = .fields vs) → DSs (X.suite a ((a, oe) :: pn)) { B with xa := some (a, cls, dx) } W (b₀ :: suite) g)
    (hi : X.N[i]? = some n := by rfl) (hln : X.env.kindOf n = some .local := by rfl) (hs : X.stack = X.env :: X.outer := by rfl) (hf : X.env.frame = some X.env.locals := by rfl) :
    DS X B W (.Try body [.ExceptHandler (some (.Name x np)) (some n) (b₀ :: suite) pos'] [] [] pos) (sTryAs i is f g) := by
  refine ⟨ps_imp (ps_try_as (tb := fun W' => tS ⟨X.K, B, W'⟩ f) (ts := fun a cls dx => tS ⟨X.K, { B with xa := some (a, cls, dx) }, W⟩ g) (Wout := W) hs hf hN hi hln hc tk (fun W' pn xe t q => (hb W' pn xe t q).pss) fun a oe cls d pn h1 h2 => (hsu a oe cls d pn h1 h2).pss) fun D σ H ⟨F, ρ, h, pp⟩ => ?_⟩
  refine ⟨F, ρ, h, ?_⟩
  have pp : PostS (ct X B W) F (tryAsQ i is g (f ρ)) D := pp
  cases q : f ρ with
  | ok y ρ1 =>
    rw [q] at pp
    cases y <;> exact pp
  | no =>
    rw [q] at pp
    exact pp
  | err e ρ1 =>
    rw [q] at pp
    intro F1 H1 σ1 cls dx s1 h1 x1
    obtain ⟨d, fs, rfl, _⟩ := id x1
    unfold tryAsQ at pp
    dsimp only at pp
    cases qi : is e.cls with
    | none =>
      rw [qi] at pp
      exact pp.elim
    | some k =>
      rw [qi] at pp
      refine ⟨k, his _ _ qi, fun hk a na => ?_, fun hk => ?_⟩
      · subst hk
        dsimp only at pp
        split at pp
        · rename_i n
          obtain ⟨n1, n2⟩ := Bool.and_eq_true_iff.mp n
          refine ⟨F1, ρ1.set i (some (.ex e)), (h1.xa (y := some (a, _, dx)) n1).store (w := .ex e) ⟨⟨a, _, dx, rfl, rfl, x1⟩, trivial⟩ (of_decide_eq_true n2), ?_⟩
          exact as_ok (z := B.xa) (PostS.later pp s1)
        · exact pp.elim
      · subst hk
        exact pp F1 H1 σ1 _ dx s1 h1 x1
/-! ### in the suite: e.f, isinstance(e, ..) -/
def xfQ (okc : Str → Bool) (i : Nat) (f : Str) : Mo PyData := fun ρ => match ρ[i]? with
  | some (some (.ex e)) => if okc e.cls then opt (e.fs.lookup f) ρ else .no
  | _ => .no
section
variable {a : Addr} {oe : Obj} {cls : Value} {dx : Option Addr} {pn : List (Addr × Obj)}
theorem ex_at {i : Nat} {F H : Hp} {σ : L2.St} {ρ : Rho} {y : Exn} {K : PySem.W.Frag} (h : ER { B with xa := some (a, cls, dx) } K F H σ ρ) (q : ρ[i]? = some (some (.ex y))) :
    σ[i]? = some (some (.ref a)) ∧ XR K F cls dx y := by
  obtain ⟨v, h1, a', cls', d', hB, rfl, x⟩ := h.sl i _ q
  cases hB
  exact ⟨h1, x⟩
theorem de_xf (okc : Str → Bool) (i : Nat) {n f : Str} (hx : ∀ y, okc y = true → XfC X.K (He.ga X.K y) ∧ PySem.W.findIn X.K (.ref (He.ga X.K y)) f = some none) (hz : Zc cls dx oe) (hf : ∃ vs, oe.data = .fields vs) (hN : X.N[i]? = some n := by rfl)
    (hv : Vis X.env.scope n := by first | exact Or.inl rfl | exact Or.inr (Or.inl rfl) | exact Or.inr (Or.inr rfl)) (hd : (n == ("__debug__" : Str)) = false := by decide) (hcd : (n == ("__classdict__" : Str)) = false := by decide)
    (hb : attributeBase (.Name n p1) f X.env (eval (.Name n p1) X.env) = eval (.Name n p1) X.env := by rfl) :
    DE (X.suite a ((a, oe) :: pn)) { B with xa := some (a, cls, dx) } W (.Attribute (.Name n p1) f pos) (xfQ okc i f) := by
  refine ⟨⟨fun pins s σ H Q I ⟨F, ρ, h, pp⟩ => ?_⟩⟩
  unfold xfQ at pp
  split at pp
  · rename_i y q
    split at pp
    · rename_i hok
      obtain ⟨hT, hno⟩ := hx _ hok
      obtain ⟨h1, d, fs, rfl, rfl, h2, h3⟩ := ex_at (K := X.K) h q
      cases q2 : y.fs.lookup f with
      | none =>
        rw [q2] at pp
        exact (show False from pp).elim
      | some dd =>
        rw [q2] at pp
        obtain ⟨v, h4, h5⟩ := h3 _ _ q2
        have pp : Post (ct (X.suite a ((a, oe) :: pn)) { B with xa := some (a, .ref (He.ga X.K y.cls), some d) } W) σ F (.ok dd ρ) fun d _ F' H' => ∀ v, Rp X.K F' v d → Q v H' := pp
        exact (pe_xf (X := X) (C := He.ga X.K y.cls) hT hno hz hf (pe_var (X := X.suite a ((a, oe) :: pn)) hN hv hd hcd) hb).run pins s σ H Q I ⟨_, h1, rfl, rfl, d, fs, v, rfl, h.fh _ _ h2, h4, pp.now h v h5⟩
    · exact (show False from pp).elim
  · exact (show False from pp).elim
/-- class names as values -/
structure CLs (X : Cx) (es : List Expr) (ys : List Str) : Prop where
  pa : PA X es fun _ H Q => Q (ys.map fun y => .ref (He.ga X.K y)) H
theorem cl_nil {X : Cx} : CLs X [] [] := ⟨pa_nil⟩
theorem cl_cons {X : Cx} {es : List Expr} {ys : List Str} {y : Str} (hm : X.mg y = some (.ref (He.ga X.K y))) (h : CLs X es ys) (hg : Gl X y := by rfl) (hd : (y == ("__debug__" : Str)) = false := by decide)
    (hs : starEach (.Name y p :: es) X.env = (false, eval (.Name y p) X.env) :: starEach es X.env := by rfl) : CLs X (.Name y p :: es) (y :: ys) :=
  ⟨pa_cons (pe_glob (v := .ref (He.ga X.K y)) hg hm rfl hd) h.pa hs⟩
theorem inst_of {H : Hp} {s : Shared} {pins : List (Addr × Obj)} {σ : L2.St} {D d : Addr} {fs : List (Str × V)} (I : Inv (X.suite a ((a, oe) :: pn)) pins σ H s) (hz : Zc (.ref D) (some d) oe) (hf : ∃ vs, oe.data = .fields vs) (hd : H d = some (.xd fs)) :
    ∃ od, PySem.W.InstAt s.heap a oe D (some od) := by
  obtain ⟨ha, _⟩ := I.pin (a, oe) (List.mem_append_left _ List.mem_cons_self)
  obtain ⟨vs, hv⟩ := hf
  have hx : ObjOk X.prog X.w H s.heap d (.xd fs) := I.hok d _ hd
  obtain ⟨mA, hns, hr⟩ := hx
  obtain ⟨od, ho, hl⟩ := lookIn_ns hns
  exact ⟨od, ha, hz.1, by unfold PySem.W.notCls; rw [hv] <;> rfl, by rw [hz.2]; exact ho⟩
theorem kit_exc {K : PySem.W.Frag} {D x : Addr} {ox : Obj} {od : Option Obj} (C : ExcC K D) : PySem.W.KitX K (.ref x) (.ref D) (fun h => PySem.W.InstAt h x ox D od) := by
  refine PySem.W.kitx_exc ?_ C.hg C.hk C.hs C.ha C.hn C.ht C.hm
  obtain ⟨cd, hc, _⟩ := PySem.W.any_some C.hd
  rw [hc]
  rfl
def rX1 (K : PySem.W.Frag) (a : Addr) (cls : Value) (dx : Option Addr) : List V → Hp → VK → Prop := fun xs H Q => ∃ (D d c : Addr) (fs : List (Str × V)) (b : Bool), xs = [.ref a, .ref c] ∧ cls = .ref D ∧ dx = some d ∧ H d = some (.xd fs) ∧ ExcC K D ∧ PySem.W.kitOne K (.ref D) (.ref c) = some b ∧ Q (.bl b) H
def rX2 (K : PySem.W.Frag) (a : Addr) (cls : Value) (dx : Option Addr) : List V → Hp → VK → Prop := fun xs H Q => ∃ (D d tp : Addr) (cs : List Addr) (fs : List (Str × V)) (b : Bool), xs = [.ref a, .ref tp] ∧ H tp = some (.tup (cs.map V.ref)) ∧ cls = .ref D ∧ dx = some d ∧ H d = some (.xd fs) ∧ ExcC K D ∧
  PySem.W.kitAny K (.ref D) (cs.map Value.ref) = some b ∧ Q (.bl b) H
theorem call_x1 (hz : Zc cls dx oe) (hf : ∃ vs, oe.data = .fields vs) : CallR (X.suite a ((a, oe) :: pn)) (.builtin "isinstance") (rX1 X.K a cls dx) := by
  intro pins s σ H xs us Q I r h
  obtain ⟨D, d, c, fs, b, rfl, rfl, rfl, hd, C, e, q⟩ := h
  obtain ⟨u1, u2, rfl, r1, r2⟩ := vals2 r
  cases (show u1 = Value.ref a from r1)
  cases (show u2 = Value.ref c from r2)
  obtain ⟨od, J⟩ := inst_of I hz hf hd
  exact PySem.W.kia_one (kit_exc C) I.kIn J e (fun z => nomatch z) fun tk => ⟨.bl b, H, I.tok tk, rfl, q⟩
theorem call_x2 (hz : Zc cls dx oe) (hf : ∃ vs, oe.data = .fields vs) : CallR (X.suite a ((a, oe) :: pn)) (.builtin "isinstance") (rX2 X.K a cls dx) := by
  intro pins s σ H xs us Q I r h
  obtain ⟨D, d, tp, cs, fs, b, rfl, hT, rfl, rfl, hd, C, e, q⟩ := h
  obtain ⟨u1, u2, rfl, r1, r2⟩ := vals2 r
  cases (show u1 = Value.ref a from r1)
  cases (show u2 = Value.ref tp from r2)
  obtain ⟨od, J⟩ := inst_of I hz hf hd
  obtain ⟨_, its, rv, o, g1, g2, n, g3⟩ := (show ObjOk X.prog X.w H s.heap tp (.tup (cs.map V.ref)) from I.hok tp _ hT)
  have e3 : its = cs.map Value.ref := by
    have hall : ∀ {l : List Addr} {us : List Value}, Vals (l.map V.ref) us → us = l.map Value.ref := by
      intro l
      induction l with
      | nil =>
        intro us r
        cases r
        rfl
      | cons x l ih =>
        intro us r
        cases r with
        | cons r1 rr =>
          rw [ih rr, (show _ = Value.ref x from r1)]
          rfl
    exact hall rv
  subst e3
  obtain ⟨oc, od', dt, sl⟩ := o
  simp only at g2 g3
  subst g2 g3
  exact PySem.W.kia_tup (kit_exc C) I.kIn J g1 e (fun z => nomatch z) fun tk => ⟨.bl b, H, I.tok tk, rfl, q⟩
/-- isinstance(e, c), isinstance(e, (c1, ..)) -/
def isXQ (isq : Str → Option Bool) (i : Nat) : Mo PyData := fun ρ => match ρ[i]? with
  | some (some (.ex e)) => (match isq e.cls with
    | some b => .ok (.bool b) ρ
    | none => .no)
  | _ => .no
theorem de_isX1 (isq : Str → Option Bool) (i : Nat) {n y : Str} (hx : ∀ x b, isq x = some b → ExcC X.K (He.ga X.K x) ∧ PySem.W.kitOne X.K (.ref (He.ga X.K x)) (.ref (He.ga X.K y)) = some b) (hz : Zc cls dx oe) (hf : ∃ vs, oe.data = .fields vs)
    (hm : X.mg "isinstance" = none) (hy : X.mg y = some (.ref (He.ga X.K y))) (hN : X.N[i]? = some n := by rfl)
    (hv : Vis X.env.scope n := by first | exact Or.inl rfl | exact Or.inr (Or.inl rfl) | exact Or.inr (Or.inr rfl)) (hd : (n == ("__debug__" : Str)) = false := by decide) (hcd : (n == ("__classdict__" : Str)) = false := by decide)
    (hg : Gl X "isinstance" := by rfl) (hgy : Gl X y := by rfl) (hdy : (y == ("__debug__" : Str)) = false := by decide)
    (he1 : starEach [.Name n p1, .Name y p2] X.env = (false, eval (.Name n p1) X.env) :: starEach [.Name y p2] X.env := by rfl) (he2 : starEach [.Name y p2] X.env = (false, eval (.Name y p2) X.env) :: starEach [] X.env := by rfl)
    (hpl : (backTo pos (starEach [.Name y p2] X.env)).any (·.1) = false := by rfl) :
    DE (X.suite a ((a, oe) :: pn)) { B with xa := some (a, cls, dx) } W (.Call (.Name "isinstance" p) [.Name n p1, .Name y p2] [] pos) (isXQ isq i) := by
  refine ⟨pe_imp (pe_callB (X := X.suite a ((a, oe) :: pn)) (call_x1 hz hf) hg hm boot_isinstance (pa_cons (pe_var (X := X.suite a ((a, oe) :: pn)) hN hv hd hcd) (pa_cons (pe_glob (X := X.suite a ((a, oe) :: pn)) (v := .ref (He.ga X.K y)) hgy hy rfl hdy) pa_nil he2) he1) (by decide) (by decide) he1 hpl) fun σ H Q ⟨F, ρ, h, pp⟩ => ?_⟩
  unfold isXQ at pp
  split at pp
  · rename_i z q
    split at pp
    · rename_i b qb
      obtain ⟨hC, hk⟩ := hx _ _ qb
      obtain ⟨h1, d, fs, rfl, rfl, h2, h3⟩ := ex_at (K := X.K) h q
      exact ⟨_, h1, _, d, _, fs, b, rfl, rfl, rfl, h.fh _ _ h2, hC, hk, Post.now pp h _ (.bl b)⟩
    · exact pp.elim
  · exact pp.elim
theorem de_isX2 (isq : Str → Option Bool) (i : Nat) {n : Str} {es : List Expr} {ys : List Str} {kk : Nat} (hx : ∀ x b, isq x = some b → ExcC X.K (He.ga X.K x) ∧ PySem.W.kitAny X.K (.ref (He.ga X.K x)) (ys.map fun y => .ref (He.ga X.K y)) = some b) (hz : Zc cls dx oe) (hf : ∃ vs, oe.data = .fields vs)
    (hm : X.mg "isinstance" = none) (hy : CLs (X.suite a ((a, oe) :: pn)) es ys) (hl : ys.length ≤ 1000) (hN : X.N[i]? = some n := by rfl)
    (hv : Vis X.env.scope n := by first | exact Or.inl rfl | exact Or.inr (Or.inl rfl) | exact Or.inr (Or.inr rfl)) (hd : (n == ("__debug__" : Str)) = false := by decide) (hcd : (n == ("__classdict__" : Str)) = false := by decide)
    (hg : Gl X "isinstance" := by rfl)
    (he1 : starEach [.Name n p1, .Tuple es kk p2] X.env = (false, eval (.Name n p1) X.env) :: starEach [.Tuple es kk p2] X.env := by rfl) (he2 : starEach [.Tuple es kk p2] X.env = (false, eval (.Tuple es kk p2) X.env) :: starEach [] X.env := by rfl)
    (hpl : (backTo pos (starEach [.Tuple es kk p2] X.env)).any (·.1) = false := by rfl) :
    DE (X.suite a ((a, oe) :: pn)) { B with xa := some (a, cls, dx) } W (.Call (.Name "isinstance" p) [.Name n p1, .Tuple es kk p2] [] pos) (isXQ isq i) := by
  refine ⟨pe_imp (pe_callB (X := X.suite a ((a, oe) :: pn)) (call_x2 hz hf) hg hm boot_isinstance (pa_cons (pe_var (X := X.suite a ((a, oe) :: pn)) hN hv hd hcd) (pa_cons (pe_tup hy.pa) pa_nil he2) he1) (by decide) (by decide) he1 hpl) fun σ H Q ⟨F, ρ, h, pp⟩ => ?_⟩
  unfold isXQ at pp
  split at pp
  · rename_i z q
    split at pp
    · rename_i b qb
      obtain ⟨hC, hk⟩ := hx _ _ qb
      obtain ⟨h1, d, fs, rfl, rfl, h2, h3⟩ := ex_at (K := X.K) h q
      refine ⟨_, h1, ?_, fun tp nt => ⟨_, d, tp, ys.map fun y => He.ga X.K y, fs, b, rfl, ?_, rfl, rfl, ?_, hC, ?_, ?_⟩⟩
      · rw [List.length_map, sizeLine_eq]
        omega
      · rw [upd_same, List.map_map]
        rfl
      · have z := h.fh _ _ h2
        rw [upd_ne (ne_of_none z nt)]
        exact z
      · rw [List.map_map]
        exact hk
      · exact Post.newO pp h nt _ (.bl b)
    · exact pp.elim
  · exact pp.elim
end
end
/-! ### isinstance of data -/
def tyN : PyData → String
  | .none => "NoneType"
  | .bool _ => "bool"
  | .int _ => "int"
  | .str _ => "str"
  | .list _ => "list"
  | .tuple _ => "tuple"
  | .dict _ => "dict"
theorem ty_of {K : PySem.W.Frag} {F H : Hp} {v : V} {d : PyData} (s : Same F H) (r : Rp K F v d) : TyX K H v (.type (tyN d)) := by
  cases r with
  | non => exact .base .non
  | bl b => exact .base (.bl b)
  | int i => exact .base (.int i)
  | str x h => exact .base (.str x)
  | lst h r => exact .base (.lst (s _ _ h))
  | tup h r => exact .base (.tup (s _ _ h))
/-- which types the answer is True for -/
def isTs (ts : List String) (d : PyData) : Bool := match d with
  | .bool _ => ts.contains "bool" || ts.contains "int"
  | d => ts.contains (tyN d)
def isTM (ts : List String) (fa : Mo PyData) : Mo PyData := bnd fa fun d => pu (.bool (isTs ts d))
def okT (t : String) : Bool := ["bool", "int", "str", "list", "tuple", "dict"].contains t
theorem kit_data {K : PySem.W.Frag} {t : String} (h : okT t = true) (d : PyData) : PySem.W.kitOne K (.type (tyN d)) (.type t) = some (isTs [t] d) := by
  unfold okT at h
  simp only [List.contains_cons, List.contains_nil, Bool.or_false, Bool.or_eq_true, beq_iff_eq] at h
  rcases h with rfl | rfl | rfl | rfl | rfl | rfl <;> cases d <;> refine kit_ty ?_ <;> simp only [tyN, isTs] <;> decide +kernel
theorem kit_datas {K : PySem.W.Frag} {d : PyData} : ∀ {ts : List String}, ts.all okT = true → PySem.W.kitAny K (.type (tyN d)) (ts.map Value.type) = some (isTs ts d)
  | [], _ => by cases d <;> rfl
  | t :: ts, h => by
    rw [List.all_cons, Bool.and_eq_true] at h
    have e : isTs (t :: ts) d = (isTs [t] d || isTs ts d) := by
      cases d with
      | bool b =>
        simp only [isTs, List.contains_cons, List.contains_nil, Bool.or_false]
        cases ("bool" == t) <;> cases ("int" == t) <;> cases ts.contains "bool" <;> cases ts.contains "int" <;> rfl
      | _ => simp only [isTs, List.contains_cons, List.contains_nil, Bool.or_false]
    refine kitAny_cons (kit_data h.1 d) (fun z => ?_) fun z => ?_
    · rw [e, z, Bool.false_or]
      exact kit_datas h.2
    · rw [e, z, Bool.true_or]
section
variable {X : Cx} {B : Bs} {W : WX} {e a : Expr} {es : List Expr} {pos p p1 p2 : Pos} {fa : Mo PyData}
theorem de_isT {t : String} {y : Str} (hm : X.mg "isinstance" = none) (hy : X.mg y = none) (ha : DE X B W a fa) (ht : okT t = true := by decide) (hyb : bootBuiltins y = some (.type t) := by decide +kernel)
    (hg : Gl X "isinstance" := by rfl) (hgy : Gl X y := by rfl) (hny : y ≠ "__name__" := by decide) (hdy : (y == ("__debug__" : Str)) = false := by decide)
    (he1 : starEach [a, .Name y p2] X.env = (false, eval a X.env) :: starEach [.Name y p2] X.env := by rfl) (he2 : starEach [.Name y p2] X.env = (false, eval (.Name y p2) X.env) :: starEach [] X.env := by rfl)
    (hpl : (backTo pos (starEach [.Name y p2] X.env)).any (·.1) = false := by rfl) :
    DE X B W (.Call (.Name "isinstance" p) [a, .Name y p2] [] pos) (isTM [t] fa) :=
  ⟨pe_imp (pe_callB call_isi hg hm boot_isinstance (pa_cons ha.pe (pa_cons (pe_bltn (v := .ty t) hgy hy hyb rfl hny hdy) pa_nil he2) he1) (by decide) (by decide) he1 hpl) fun σ H Q ⟨F, ρ, h, pp⟩ =>
    ⟨F, ρ, h, pp.bnd.imp fun d ρ1 F1 H1 s h1 p1 v rv => ⟨v, .ty t, _, _, _, rfl, .ty t, ty_of h1.fh rv, kit_data ht d, Post.now p1 h1 _ (.bl _)⟩⟩⟩
/-- built-in types as values -/
structure TLs (X : Cx) (es : List Expr) (ts : List String) : Prop where
  pa : PA X es fun _ H Q => Q (ts.map V.ty) H
theorem tl_nil : TLs X [] [] := ⟨pa_nil⟩
theorem tl_cons {ts : List String} {t : String} {y : Str} (hy : X.mg y = none) (h : TLs X es ts) (hyb : bootBuiltins y = some (.type t) := by decide +kernel) (hgy : Gl X y := by rfl) (hny : y ≠ "__name__" := by decide) (hdy : (y == ("__debug__" : Str)) = false := by decide)
    (hs : starEach (.Name y p :: es) X.env = (false, eval (.Name y p) X.env) :: starEach es X.env := by rfl) : TLs X (.Name y p :: es) (t :: ts) :=
  ⟨pa_cons (pe_bltn (v := .ty t) hgy hy hyb rfl hny hdy) h.pa hs⟩
theorem pair_ty : ∀ (ts : List String), Paired ClsV (ts.map V.ty) (ts.map Value.type)
  | [] => .nil
  | t :: ts => .cons (.ty t) (pair_ty ts)
theorem de_isTs {ts : List String} {kk : Nat} (hm : X.mg "isinstance" = none) (ha : DE X B W a fa) (hy : TLs X es ts) (ht : ts.all okT = true := by decide) (hl : ts.length ≤ 1000 := by decide)
    (hg : Gl X "isinstance" := by rfl)
    (he1 : starEach [a, .Tuple es kk p2] X.env = (false, eval a X.env) :: starEach [.Tuple es kk p2] X.env := by rfl) (he2 : starEach [.Tuple es kk p2] X.env = (false, eval (.Tuple es kk p2) X.env) :: starEach [] X.env := by rfl)
    (hpl : (backTo pos (starEach [.Tuple es kk p2] X.env)).any (·.1) = false := by rfl) :
    DE X B W (.Call (.Name "isinstance" p) [a, .Tuple es kk p2] [] pos) (isTM ts fa) := by
  refine ⟨pe_imp (pe_callB call_isiT hg hm boot_isinstance (pa_cons ha.pe (pa_cons (pe_tup hy.pa) pa_nil he2) he1) (by decide) (by decide) he1 hpl) fun σ H Q ⟨F, ρ, h, pp⟩ =>
    ⟨F, ρ, h, pp.bnd.imp fun d ρ1 F1 H1 s h1 p1 v rv => ⟨?_, fun tp nt => ⟨v, tp, _, _, _, _, rfl, upd_same, pair_ty ts, ty_of (h1.fh.trans (same_upd nt)) rv, kit_datas ht, Post.newO p1 h1 nt _ (.bl _)⟩⟩⟩⟩
  rw [List.length_map, sizeLine_eq]
  omega
end
end Dv
set_option Elab.async false
set_option linter.all false
set_option maxRecDepth 100000
set_option maxHeartbeats 2000000
namespace Dv
open PySem PySem.Spec PyProof.Rows L2
/-! ### list comprehensions -/
def wipeR (ρ : Rho) : List Nat → Rho
  | [] => ρ
  | v :: vs => (wipeR ρ vs).set v none
/-- the block's own names stand again as ahead of it -/
def restR (ρ ρw : Rho) : List Nat → Rho
  | [] => ρw
  | v :: vs => (restR ρ ρw vs).set v (ρ[v]?.getD none)
def plainS : Option (Option Sl) → Bool
  | some none => true
  | some (some (.fz _)) => true
  | _ => false
def okV (ρ : Rho) (vs : List Nat) : Bool := vs.all fun v => plainS ρ[v]?
def lcGo (vs : List Nat) (t : Tg) (tt : Mo Bool) (fe : Mo PyData) : List PyData → List PyData → Rho → Out (List PyData)
  | [], acc, ρ => .ok acc ρ
  | d :: ds, acc, ρ => match t d ρ with
    | none => .no
    | some ρ2 => (match tt ρ2 with
      | .ok true ρ3 => (match fe ρ3 with
        | .ok y ρ4 => if acc.length < 1000000 then lcGo vs t tt fe ds (acc ++ [y]) (wipeR ρ4 vs) else .no
        | _ => .no)
      | .ok false ρ3 => lcGo vs t tt fe ds acc (wipeR ρ3 vs)
      | _ => .no)
def lcFin (vs : List Nat) (ρ : Rho) : Out (List PyData) → Out Sl
  | .ok acc ρw => .ok (.ob true (.l acc)) (restR ρ ρw vs)
  | _ => .no
def lcIn (vs : List Nat) (t : Tg) (tt : Mo Bool) (fe : Mo PyData) (ds : List PyData) : Mo Sl := fun ρ => if okV ρ vs then lcFin vs ρ (lcGo vs t tt fe ds [] (wipeR ρ vs)) else .no
def lcO (vs : List Nat) (items : Mo (List PyData)) (t : Tg) (tt : Mo Bool) (fe : Mo PyData) : Mo Sl := bnd items (lcIn vs t tt fe)
theorem wipeR_len (ρ : Rho) : ∀ vs : List Nat, (wipeR ρ vs).length = ρ.length
  | [] => rfl
  | v :: vs => by unfold wipeR; rw [List.length_set, wipeR_len ρ vs]
theorem rest_some {ρ ρw : Rho} {i : Nat} {w : Sl} : ∀ {vs : List Nat}, (restR ρ ρw vs)[i]? = some (some w) → (i ∈ vs ∧ ρ[i]? = some (some w)) ∨ (i ∉ vs ∧ ρw[i]? = some (some w))
  | [], h => .inr ⟨by simp, h⟩
  | v :: vs, h => by
    unfold restR at h
    by_cases hi : v = i
    · subst hi
      by_cases hv : v < (restR ρ ρw vs).length
      · rw [List.getElem?_set_self hv] at h
        left
        refine ⟨List.mem_cons_self, ?_⟩
        cases q : ρ[v]? with
        | none =>
          rw [q] at h
          cases h
        | some o =>
          rw [q] at h
          exact h
      · rw [List.getElem?_eq_none (by simpa using hv)] at h
        cases h
    · rw [List.getElem?_set_ne hi] at h
      rcases rest_some h with ⟨h1, h2⟩ | ⟨h1, h2⟩
      · exact .inl ⟨List.mem_cons_of_mem _ h1, h2⟩
      · exact .inr ⟨by simp only [List.mem_cons, not_or]; exact ⟨fun e => hi e.symm, h1⟩, h2⟩
theorem rest_len (ρ ρw : Rho) : ∀ vs : List Nat, (restR ρ ρw vs).length = ρw.length
  | [] => rfl
  | v :: vs => by unfold restR; rw [List.length_set, rest_len ρ ρw vs]
theorem wipe_at {σ : L2.St} {i : Nat} : ∀ {vs : List Nat}, i ∉ vs → (wipe σ vs)[i]? = σ[i]?
  | [], _ => rfl
  | v :: vs, h => by
    simp only [List.mem_cons, not_or] at h
    unfold wipe
    rw [List.getElem?_set_ne (fun e => h.1 e.symm)]
    exact wipe_at h.2
theorem wipe_in {σ : L2.St} {i : Nat} : ∀ {vs : List Nat}, i ∈ vs → i < σ.length → (wipe σ vs)[i]? = some none
  | v :: vs, h, hl => by
    unfold wipe
    by_cases hi : v = i
    · subst hi
      rw [List.getElem?_set_self (by rw [wipe_length]; exact hl)]
    · rw [List.getElem?_set_ne hi]
      rcases List.mem_cons.mp h with e | h
      · exact absurd e.symm hi
      · exact wipe_in h hl
theorem wipe_eq {σ σ' : L2.St} {vs : List Nat} (hl : σ'.length = σ.length) (h : ∀ j, j ∉ vs → σ'[j]? = σ[j]?) : wipe σ' vs = wipe σ vs := by
  apply List.ext_getElem?
  intro j
  by_cases hj : j ∈ vs
  · by_cases hb : j < σ.length
    · rw [wipe_in hj (by rw [hl]; exact hb), wipe_in hj hb]
    · rw [List.getElem?_eq_none (by rw [wipe_length, hl]; omega), List.getElem?_eq_none (by rw [wipe_length]; omega)]
  · rw [wipe_at hj, wipe_at hj]
    exact h j hj
theorem wipe_but {σ σ' : L2.St} {ts vs : List Nat} (b : ButAt ts σ σ') (h : ∀ i ∈ ts, i ∈ vs) : wipe σ' vs = wipe σ vs := wipe_eq b.1 fun j hj => b.2 j fun z => hj (h j z)
theorem wipe_wipe {σ : L2.St} {us vs : List Nat} (h : ∀ i ∈ us, i ∈ vs) : wipe (wipe σ us) vs = wipe σ vs := wipe_eq (wipe_length σ us) fun j hj => wipe_at fun z => hj (h j z)
/-- with an object at D to be kept -/
abbrev accB (B : Bs) (D : Addr) (o : HO) : Bs := { B with H0 := upd B.H0 D o }
section
variable {B : Bs} {K : PySem.W.Frag} {F H : Hp} {σ : L2.St} {ρ : Rho} {v : V} {w : Sl} {D : Addr} {o o' : HO}
theorem ER.wipe : ∀ (vs : List Nat), ER B K F H σ ρ → ER B K F H (L2.wipe σ vs) (wipeR ρ vs)
  | [], h => h
  | v :: vs, h => (ER.wipe vs h).wipe1 v
theorem SR.acc (h : SR B K F H v w) (n : v ≠ .ref D) : SR (accB B D o) K F H v w := by
  cases w with
  | fz d => exact h
  | sc ds => exact h
  | ex e => exact h
  | ob own c =>
    obtain ⟨a, u, rfl, h1, h2, h3, h4, h5⟩ := h
    refine ⟨a, u, rfl, h1, h2, h3, fun z => ?_, h5⟩
    show upd B.H0 D o a = none
    rw [upd_ne (fun z => n (by rw [z]))]
    exact h4 z
theorem SR.unacc (h : SR (accB B D o) K F H v w) (hD : B.H0 D = none) : SR B K F H v w := by
  cases w with
  | fz d => exact h
  | sc ds => exact h
  | ex e => exact h
  | ob own c =>
    obtain ⟨a, u, rfl, h1, h2, h3, h4, h5⟩ := h
    refine ⟨a, u, rfl, h1, h2, h3, fun z => ?_, h5⟩
    by_cases ha : a = D
    · rw [ha]
      exact hD
    · have z2 := h4 z
      have z2 : upd B.H0 D o a = none := z2
      rwa [upd_ne ha] at z2
/-- an own object is laid aside -/
theorem ER.aside (h : ER B K F H σ ρ) (n : H D = none) : ER (accB B D o) K F (upd H D o) σ ρ := by
  have h2 := h.xt (Xt.own (o := o) h.fh n)
  have nF : F D = none := h.fh.free n
  have ne : ∀ {a}, H a ≠ none → a ≠ D := fun {a} z e => z (by rw [e]; exact n)
  refine ⟨h2.fh, fun b u e hr => ?_, h2.ff, fun b e1 e2 => ?_, fun a e => ⟨(h2.rh a e).1, ?_, (h2.rh a e).2.2⟩, h2.len, fun i w e => ?_, h2.dj⟩
  · by_cases hb : b = D
    · subst hb
      have e : upd B.H0 b o b = some u := e
      rw [upd_same] at e ⊢
      exact e
    · have e : upd B.H0 D o b = some u := e
      rw [upd_ne hb] at e
      exact h2.fr b u e hr
  · by_cases hb : b = D
    · rw [hb]
      exact nF
    · have e1 : upd B.H0 D o b ≠ none := e1
      rw [upd_ne hb] at e1
      exact h2.fn b e1 e2
  · show upd B.H0 D o a ≠ none
    rw [upd_ne (ne (h.rh a e).1)]
    exact (h.rh a e).2.1
  · obtain ⟨v, h1, h3⟩ := h2.sl i w e
    refine ⟨v, h1, ?_⟩
    cases w with
    | fz d => exact h3
    | sc ds => exact h3
    | ex e => exact h3
    | ob own c =>
      refine h3.acc fun z => ?_
      rw [z] at h1
      exact h.fresh n i own c e h1
/-- it is as it was -/
theorem ER.kept (h : ER (accB B D o) K F H σ ρ) (hr : B.r ≠ some D) : H D = some o := h.fr D o upd_same hr
theorem ER.keptF (h : ER (accB B D o) K F H σ ρ) (hF : B.F0 D = none) : F D = none := h.fn D (by show upd B.H0 D o D ≠ none; rw [upd_same]; exact fun z => nomatch z) hF
theorem ER.notD (h : ER (accB B D o) K F H σ ρ) (hr : B.r ≠ some D) {i : Nat} {own : Bool} {c : BR} (e : ρ[i]? = some (some (.ob own c))) {a : Addr} (s : σ[i]? = some (some (.ref a))) : a ≠ D := fun z => by
  obtain ⟨v, h1, a', u, rfl, _, _, _, h4, h5⟩ := h.sl i _ e
  rw [s] at h1
  cases h1
  subst z
  cases own with
  | true =>
    have z : upd B.H0 a o a = none := h4 rfl
    rw [upd_same] at z
    cases z
  | false => exact hr (h5 rfl)
/-- it is changed -/
theorem ER.again (h : ER (accB B D o) K F H σ ρ) (hr : B.r ≠ some D) (hF : B.F0 D = none) : ER (accB B D o') K F (upd H D o') σ ρ := by
  have nF := h.keptF hF
  refine ⟨fun b u e => ?_, fun b u e hb => ?_, h.ff, fun b e1 e2 => ?_, fun a e => ?_, h.len, fun i w e => ?_, h.dj⟩
  · rw [upd_ne (ne_of_none e nF)]
    exact h.fh b u e
  · have e : upd B.H0 D o' b = some u := e
    by_cases hbD : b = D
    · subst hbD
      rw [upd_same] at e ⊢
      exact e
    · rw [upd_ne hbD] at e ⊢
      exact h.fr b u (by show upd B.H0 D o b = some u; rw [upd_ne hbD]; exact e) hb
  · by_cases hbD : b = D
    · rw [hbD]
      exact nF
    · refine h.fn b ?_ e2
      have e1 : upd B.H0 D o' b ≠ none := e1
      show upd B.H0 D o b ≠ none
      rw [upd_ne hbD] at e1 ⊢
      exact e1
  · have e : B.r = some a := e
    have hne : a ≠ D := fun z => hr (by rw [e, z])
    obtain ⟨h1, h2, h3⟩ := h.rh a e
    refine ⟨by rw [upd_ne hne]; exact h1, ?_, h3⟩
    have h2 : upd B.H0 D o a ≠ none := h2
    show upd B.H0 D o' a ≠ none
    rw [upd_ne hne] at h2 ⊢
    exact h2
  · obtain ⟨v, h1, h2⟩ := h.sl i w e
    refine ⟨v, h1, ?_⟩
    cases w with
    | fz d => exact h2
    | sc ds => exact h2
    | ex e => exact h2
    | ob own c =>
      obtain ⟨a, u, rfl, g1, g2, g3, g4, g5⟩ := h2
      have hne := h.notD hr e h1
      refine ⟨a, u, rfl, g1, by rw [upd_ne hne]; exact g2, g3, fun z => ?_, g5⟩
      have z := g4 z
      have z : upd B.H0 D o a = none := z
      show upd B.H0 D o' a = none
      rw [upd_ne hne] at z ⊢
      exact z
/-- behind the block -/
theorem ER.back {F1 H1 : Hp} {ρw : Rho} {vs : List Nat} (h1 : ER B K F1 H1 σ ρ) (s : Same F1 F) (ok : okV ρ vs = true) (hD : B.H0 D = none) (h : ER (accB B D o) K F H (L2.wipe σ vs) ρw) : ER B K F H σ (restR ρ ρw vs) := by
  have fz : ∀ {i : Nat} {w : Sl}, i ∈ vs → ρ[i]? = some (some w) → ∃ d, w = .fz d := fun {i w} hi e => by
    have z := List.all_eq_true.mp ok i hi
    rw [e] at z
    cases w with
    | fz d => exact ⟨d, rfl⟩
    | _ => exact absurd z Bool.false_ne_true
  have at_ : ∀ {i : Nat} {own : Bool} {c : BR}, (restR ρ ρw vs)[i]? = some (some (.ob own c)) → i ∉ vs ∧ ρw[i]? = some (some (.ob own c)) := fun {i own c} e => by
    rcases rest_some e with ⟨h1, h2⟩ | h2
    · obtain ⟨d, z⟩ := fz h1 h2
      cases z
    · exact h2
  refine ⟨h.fh, fun b u e hr => ?_, h.ff, fun b e1 e2 => ?_, fun a e => ⟨(h.rh a e).1, (h1.rh a e).2⟩, ?_, fun i w e => ?_, fun i j b b' c c' v hij e1 e2 e3 e4 => ?_⟩
  · have hb : b ≠ D := ne_of_none e hD
    exact h.fr b u (by show upd B.H0 D o b = some u; rw [upd_ne hb]; exact e) hr
  · refine h.fn b ?_ e2
    have hb : b ≠ D := fun z => e1 (by rw [z]; exact hD)
    show upd B.H0 D o b ≠ none
    rw [upd_ne hb]
    exact e1
  · rw [rest_len, ← h.len, wipe_length]
  · rcases rest_some e with ⟨hi, q⟩ | ⟨hi, q⟩
    · obtain ⟨d, rfl⟩ := fz hi q
      obtain ⟨v, g1, g2⟩ := h1.sl i _ q
      exact ⟨v, g1, Rp.mono s _ _ g2⟩
    · obtain ⟨v, g1, g2⟩ := h.sl i w q
      rw [wipe_at hi] at g1
      exact ⟨v, g1, g2.unacc hD⟩
  · obtain ⟨n1, q1⟩ := at_ e1
    obtain ⟨n2, q2⟩ := at_ e2
    rw [← wipe_at n1] at e3
    rw [← wipe_at n2] at e4
    exact h.dj i j b b' c c' v hij q1 q2 e3 e4
end
/-! the readings, whatever is laid aside -/
abbrev W0 : WX := fun _ _ _ _ => False
def tGx (K : PySem.W.Frag) (ts : List Nat) (t : Tg) : TG := fun v σ H Q => ∃ B', tG B' K ts t v σ H Q
def tTx (K : PySem.W.Frag) (f : Mo Bool) : TT := fun σ H Q => ∃ B', tT ⟨K, B', W0⟩ f σ H Q
def tEx (K : PySem.W.Frag) (f : Mo PyData) : TE := fun σ H Q => ∃ B', tE ⟨K, B', W0⟩ f σ H Q
def tIx (K : PySem.W.Frag) (f : Mo (List PyData)) : TI := fun σ H Q => ∃ B', tI ⟨K, B', W0⟩ f σ H Q
section
variable {X : Cx} {e tg iter : Expr} {ifs : List Expr} {ts : List Nat} {t : Tg} {fb : Mo Bool} {fe : Mo PyData} {fi : Mo (List PyData)}
theorem pgx (h : ∀ B, DG X B tg ts t) : PG X tg (tGx X.K ts t) := ⟨fun pins s σ H v u Q I r ⟨B', w⟩ => (h B').pg.run pins s σ H v u Q I r w⟩
theorem pex (h : ∀ B, DE X B W0 e fe) : PE X e (tEx X.K fe) := ⟨fun pins s σ H Q I ⟨B', w⟩ => (h B').pe.run pins s σ H Q I w⟩
theorem pix (h : ∀ B, DI X B W0 tg iter fi) : PI X tg iter (tIx X.K fi) := ⟨fun pins s σ H Q I ⟨B', w⟩ => (h B').pi.run pins s σ H Q I w⟩
/-- a clause's tests -/
structure DPs (X : Cx) (ifs : List Expr) (f : Mo Bool) : Prop where
  pts : PTs X ifs (tTx X.K f)
def yesT : Mo Bool := pu true
theorem dps_nil : DPs X [] yesT := ⟨⟨fun pins s σ H Q I ⟨B', F, ρ, h, p⟩ => (pts_nil (X := X)).run pins s σ H Q I (p.now h)⟩⟩
theorem dps_one (h : ∀ B, DT X B W0 e fb) : DPs X [e] fb := ⟨⟨fun pins s σ H Q I ⟨B', w⟩ => (pts_one (h B').pt).run pins s σ H Q I w⟩⟩
end
theorem lc_turn {B : Bs} {K : PySem.W.Frag} {F H : Hp} {σ : L2.St} {ρ : Rho} {D : Addr} {ys : List V} {acc : List PyData} {vs ts : List Nat} {t : Tg} {tt : Mo Bool} {fe : Mo PyData} {fin : Out (List PyData) → Prop} {d : PyData} {ds : List PyData} {x : V} {Nx : Hp → Prop}
    (hfin : ∀ o, fin o → ∃ acc ρ, o = .ok acc ρ) (hr : B.r ≠ some D) (hF : B.F0 D = none) (hts : ∀ i ∈ ts, i ∈ vs) (h : ER (accB B D (.lst ys)) K F H σ ρ) (ra : RpA K F ys acc) (rx : Rp K F x d) (p : fin (lcGo vs t tt fe (d :: ds) acc ρ))
    (hN : ∀ F' H' ρ' ys' acc', Same F F' → ER (accB B D (.lst ys')) K F' H' (L2.wipe σ vs) ρ' → RpA K F' ys' acc' → fin (lcGo vs t tt fe ds acc' ρ') → Nx H') :
    tGx K ts t x σ H fun σ2 H2 => L2.wipe σ2 vs = L2.wipe σ vs ∧ tTx K tt σ2 H2 fun b H3 => if b = true then tEx K fe σ2 H3 fun y H4 => ∃ acc, H4 D = some (.lst acc) ∧ acc.length < sizeLine ∧ Nx (upd H4 D (.lst (acc ++ [y]))) else Nx H3 := by
  have nofin : ∀ {P : Prop}, fin .no → P := fun {P} z => by
    obtain ⟨_, _, e⟩ := hfin _ z
    cases e
  refine ⟨accB B D (.lst ys), F, ρ, d, h, rx, ?_⟩
  unfold lcGo at p
  cases q1 : t d ρ with
  | none =>
    rw [q1] at p
    exact nofin p
  | some ρ2 =>
    rw [q1] at p
    dsimp only at p
    intro σ2 F2 H2 bt s2 h2
    have ew := wipe_but bt hts
    refine ⟨ew, accB B D (.lst ys), F2, ρ2, h2, ?_⟩
    cases q2 : tt ρ2 with
    | no =>
      rw [q2] at p
      exact nofin p
    | err e ρ3 =>
      rw [q2] at p
      exact nofin p
    | ok b ρ3 =>
      rw [q2] at p
      intro F3 H3 s3 h3
      cases b with
      | false =>
        rw [if_neg Bool.false_ne_true]
        dsimp only at p
        have h4 := h3.wipe vs
        rw [ew] at h4
        exact hN F3 H3 _ ys acc (s2.trans s3) h4 (RpA.mono (s2.trans s3) _ _ ra) p
      | true =>
        rw [if_pos rfl]
        dsimp only at p
        refine ⟨accB B D (.lst ys), F3, ρ3, h3, ?_⟩
        cases q3 : fe ρ3 with
        | no =>
          rw [q3] at p
          exact nofin p
        | err e ρ4 =>
          rw [q3] at p
          exact nofin p
        | ok y ρ4 =>
          rw [q3] at p
          dsimp only at p
          intro F4 H4 s4 h4 v rv
          by_cases hl : acc.length < 1000000
          · rw [if_pos hl] at p
            have s14 := (s2.trans s3).trans s4
            refine ⟨ys, h4.kept hr, by rw [ra.len]; exact Nat.lt_of_lt_of_le hl line_le, ?_⟩
            have h5 := (h4.again (o' := .lst (ys ++ [v])) hr hF).wipe vs
            rw [ew] at h5
            exact hN F4 _ _ _ _ s14 h5 ((RpA.mono s14 _ _ ra).app (RpA.one rv)) p
          · rw [if_neg hl] at p
            exact nofin p
theorem lc_ok {C : Ct} {vs ts : List Nat} {items : Mo (List PyData)} {t : Tg} {tt : Mo Bool} {fe : Mo PyData} {σ : L2.St} {H : Hp} {Q : VK} (hts : ∀ i ∈ ts, i ∈ vs) (w : tO C (lcO vs items t tt fe) σ H Q) :
    tLc (tI C items) (tGx C.K ts t) (tTx C.K tt) (tEx C.K fe) vs σ H Q := by
  obtain ⟨F, ρ, h, p⟩ := w
  refine ⟨F, ρ, h, p.bnd.imp fun ds ρ1 F1 H1 s1 h1 p1 J hJ => fun D nD => ?_⟩
  unfold lcIn at p1
  by_cases hok : okV ρ1 vs = true
  · rw [if_pos hok] at p1
    have hr : C.B.r ≠ some D := fun z => (h1.rh D z).1 nD
    have hF : C.B.F0 D = none := by
      cases q : C.B.F0 D with
      | none => rfl
      | some o =>
        have z := h1.fh _ _ (h1.ff _ _ q)
        rw [nD] at z
        cases z
    have hD0 : C.B.H0 D = none := h1.h0 nD
    generalize hfin : (fun o => Post C σ F1 (lcFin vs ρ1 o) fun w ρ' F' H' => ∀ v, SN C.B C.K F' H' σ ρ' v w → Q v H') = fin at *
    have fin_ok : ∀ o, fin o → ∃ acc ρ, o = .ok acc ρ := fun o z => by
      rw [← hfin] at z
      cases o with
      | ok acc ρ => exact ⟨acc, ρ, rfl⟩
      | err e ρ => exact (show False from z).elim
      | no => exact (show False from z).elim
    have p2 : fin (lcGo vs t tt fe ds [] (wipeR ρ1 vs)) := by
      rw [← hfin]
      exact p1
    refine ⟨fun i m H' => m = ds.length - i ∧ i ≤ ds.length ∧ ∃ F2 ρw ys acc, Same F1 F2 ∧ ER (accB C.B D (.lst ys)) C.K F2 H' (L2.wipe σ vs) ρw ∧ RpA C.K F2 ys acc ∧ fin (lcGo vs t tt fe (ds.drop i) acc ρw),
      ⟨ds.length, by simp, Nat.zero_le _, F1, wipeR ρ1 vs, [], [], Same.refl _, (h1.aside nD).wipe vs, .nil, p2⟩, ?_⟩
    rintro i m H' ⟨rfl, hle, F2, ρw, ys, acc, s2, h2, ra, p3⟩
    by_cases hlt : i < ds.length
    · have ed : ds.drop i = ds[i] :: ds.drop (i + 1) := List.drop_eq_getElem_cons hlt
      rw [ed] at p3
      refine .inr ⟨hJ.go F2 H' i hlt s2 h2.fh, fun H'' => ∃ F2 ρw ys acc, Same F1 F2 ∧ ER (accB C.B D (.lst ys)) C.K F2 H'' (L2.wipe σ vs) ρw ∧ RpA C.K F2 ys acc ∧ fin (lcGo vs t tt fe (ds.drop (i + 1)) acc ρw),
        fun H'' z => ⟨ds.length - (i + 1), by omega, rfl, hlt, z⟩, fun x H'' hy => ?_⟩
      obtain ⟨F3, xt, rx⟩ := hJ.yl F2 H' i ds[i] x H'' (List.getElem?_eq_getElem hlt) s2 h2.fh hy
      have key := lc_turn (Nx := fun H'' => ∃ F2 ρw ys acc, Same F1 F2 ∧ ER (accB C.B D (.lst ys)) C.K F2 H'' (L2.wipe σ vs) ρw ∧ RpA C.K F2 ys acc ∧ fin (lcGo vs t tt fe (ds.drop (i + 1)) acc ρw)) fin_ok hr hF hts (h2.xt xt) (RpA.mono xt.sf _ _ ra) rx p3
        fun F' H' ρ' ys' acc' s h r p => by
          rw [wipe_wipe fun i hi => hi] at h
          exact ⟨F', ρ', ys', acc', (s2.trans xt.sf).trans s, h, r, p⟩
      rw [wipe_wipe fun i hi => hi] at key
      exact key
    · have ei : i = ds.length := by omega
      subst ei
      rw [List.drop_length] at p3
      refine .inl ⟨hJ.st F2 H' s2 h2.fh, ?_⟩
      rw [← hfin] at p3
      have hb := h1.back s2 hok hD0 h2
      refine p3 F2 H' s2 hb (.ref D) ⟨⟨D, .lst ys, rfl, h2.keptF hF, h2.kept hr, ra, fun _ => hD0, fun z => nomatch z⟩, rfl, fun j b c e1 e2 => ?_⟩
      rcases rest_some e1 with ⟨hj, q⟩ | ⟨hj, q⟩
      · have z := List.all_eq_true.mp hok j hj
        rw [q] at z
        exact absurd z Bool.false_ne_true
      · rw [← wipe_at hj] at e2
        exact h2.notD hr q e2 rfl
  · rw [if_neg hok] at p1
    exact p1.elim
section
variable {X : Cx} {B : Bs} {W : WX} {elt tg iter : Expr} {ifs : List Expr} {scope : Scope} {own : List (Str × Nat)} {ts : List Nat} {pos spos : Pos} {items : Mo (List PyData)} {t : Tg} {tt : Mo Bool} {fe : Mo PyData}
theorem do_lc (own : List (Str × Nat)) (hc : X.calm = true) (hN : X.N.Nodup) (hi : DI X B W tg iter items) (ok : BlkOk X.N X.env.scope scope own) (hts : ∀ i ∈ ts, i ∈ own.map (·.2))
    (hg : ∀ (s : Shared) (H : Hp) (C : Addr) (cl : List (Str × Addr)) (fp : List Addr) (B' : Bs), DG (X.blk s H scope (compEnvC scope cl C X.env) fp) B' tg ts t)
    (ht : ∀ (s : Shared) (H : Hp) (C : Addr) (cl : List (Str × Addr)) (fp : List Addr), DPs (X.blk s H scope (compEnvC scope cl C X.env) fp) ifs tt)
    (he : ∀ (s : Shared) (H : Hp) (C : Addr) (cl : List (Str × Addr)) (fp : List Addr) (B' : Bs), DE (X.blk s H scope (compEnvC scope cl C X.env) fp) B' W0 elt fe)
    (hs : ∀ x, foldedSetIterable iter X.env x = pure x := by intro _; rfl) : DO X B W (.ListComp elt [⟨tg, iter, ifs, 0⟩] scope pos) (lcO (own.map (·.2)) items t tt fe) :=
  ⟨pe_imp (pe_lc hc hN hi.pi ok (fun s H C cl fp => pgx (hg s H C cl fp)) (fun s H C cl fp => (ht s H C cl fp).pts) (fun s H C cl fp => pex (he s H C cl fp)) hs) fun σ H Q w => lc_ok (C := ct X B W) hts w⟩
/-- x = [..] -/
theorem ds_setLc (i : Nat) (own : List (Str × Nat)) {y : Str} {py : Pos} (hc : X.calm = true) (hN : X.N.Nodup) (hi : DI X B W tg iter items) (ok : BlkOk X.N X.env.scope scope own) (hts : ∀ i ∈ ts, i ∈ own.map (·.2))
    (hg : ∀ (s : Shared) (H : Hp) (C : Addr) (cl : List (Str × Addr)) (fp : List Addr) (B' : Bs), DG (X.blk s H scope (compEnvC scope cl C X.env) fp) B' tg ts t)
    (ht : ∀ (s : Shared) (H : Hp) (C : Addr) (cl : List (Str × Addr)) (fp : List Addr), DPs (X.blk s H scope (compEnvC scope cl C X.env) fp) ifs tt)
    (he : ∀ (s : Shared) (H : Hp) (C : Addr) (cl : List (Str × Addr)) (fp : List Addr) (B' : Bs), DE (X.blk s H scope (compEnvC scope cl C X.env) fp) B' W0 elt fe)
    (hy : X.N[i]? = some y := by rfl) (hyl : X.env.scope.names.lookup y = some .local := by rfl)
    (hsw : swapsWith (.ListComp elt [⟨tg, iter, ifs, 0⟩] scope pos) (some (.Name y py)) spos.line X.env = pure true := by rfl)
    (hs : ∀ x, foldedSetIterable iter X.env x = pure x := by intro _; rfl) : DS X B W (.Assign [.Name y py] (.ListComp elt [⟨tg, iter, ifs, 0⟩] scope pos) spos) (sSetO i (lcO (own.map (·.2)) items t tt fe)) :=
  ⟨ps_imp (ps_setLc hc hN hy hyl hsw hi.pi ok (fun s H C cl fp => pgx (hg s H C cl fp)) (fun s H C cl fp => (ht s H C cl fp).pts) (fun s H C cl fp => pex (he s H C cl fp)) hs) fun D σ H ⟨F, ρ, h, p⟩ =>
    lc_ok (C := ct X B W) hts ⟨F, ρ, h, (PostS.bnd p).imp fun w ρ1 F1 H1 s h1 p1 v rv => put_ok h1 rv p1⟩⟩
end
end Dv
set_option Elab.async false
set_option linter.all false
set_option maxRecDepth 100000
set_option maxHeartbeats 2000000
namespace Dv
open PySem PySem.Spec PyProof.Rows L2
/-! ### list comprehensions of two clauses -/
def bindO (o : Out (List PyData)) (g : List PyData → Rho → Out (List PyData)) : Out (List PyData) := match o with
  | .ok acc ρ => g acc ρ
  | _ => .no
def lc2Go (vs vs1 : List Nat) (t : Tg) (tt : Mo Bool) (items1 : Mo (List PyData)) (t1 : Tg) (tt1 : Mo Bool) (fe : Mo PyData) : List PyData → List PyData → Rho → Out (List PyData)
  | [], acc, ρ => .ok acc ρ
  | d :: ds, acc, ρ => match t d ρ with
    | none => .no
    | some ρ2 => (match tt ρ2 with
      | .ok true ρ3 => (match items1 ρ3 with
        | .ok es ρ4 => bindO (lcGo vs1 t1 tt1 fe es acc (wipeR ρ4 vs1)) fun acc' ρ5 => lc2Go vs vs1 t tt items1 t1 tt1 fe ds acc' (wipeR ρ5 vs)
        | _ => .no)
      | .ok false ρ3 => lc2Go vs vs1 t tt items1 t1 tt1 fe ds acc (wipeR ρ3 vs)
      | _ => .no)
def lc2In (vs vs1 : List Nat) (t : Tg) (tt : Mo Bool) (items1 : Mo (List PyData)) (t1 : Tg) (tt1 : Mo Bool) (fe : Mo PyData) (ds : List PyData) : Mo Sl :=
  fun ρ => if okV ρ vs then lcFin vs ρ (lc2Go vs vs1 t tt items1 t1 tt1 fe ds [] (wipeR ρ vs)) else .no
def lc2O (vs vs1 : List Nat) (items : Mo (List PyData)) (t : Tg) (tt : Mo Bool) (items1 : Mo (List PyData)) (t1 : Tg) (tt1 : Mo Bool) (fe : Mo PyData) : Mo Sl := bnd items (lc2In vs vs1 t tt items1 t1 tt1 fe)
theorem lc2_ok {C : Ct} {vs vs1 ts ts1 : List Nat} {items items1 : Mo (List PyData)} {t t1 : Tg} {tt tt1 : Mo Bool} {fe : Mo PyData} {σ : L2.St} {H : Hp} {Q : VK} (hts : ∀ i ∈ ts, i ∈ vs) (hts1 : ∀ i ∈ ts1, i ∈ vs1) (hv : ∀ i ∈ vs1, i ∈ vs)
    (w : tO C (lc2O vs vs1 items t tt items1 t1 tt1 fe) σ H Q) :
    tLc2 (tI C items) (tGx C.K ts t) (tTx C.K tt) (tIx C.K items1) (tGx C.K ts1 t1) (tTx C.K tt1) (tEx C.K fe) vs vs1 σ H Q := by
  obtain ⟨F, ρ, h, p⟩ := w
  refine ⟨F, ρ, h, p.bnd.imp fun ds ρ1 F1 H1 s1 h1 p1 J hJ => fun D nD => ?_⟩
  unfold lc2In at p1
  by_cases hok : okV ρ1 vs = true
  · rw [if_pos hok] at p1
    have hr : C.B.r ≠ some D := fun z => (h1.rh D z).1 nD
    have hF : C.B.F0 D = none := by
      cases q : C.B.F0 D with
      | none => rfl
      | some o =>
        have z := h1.fh _ _ (h1.ff _ _ q)
        rw [nD] at z
        cases z
    have hD0 : C.B.H0 D = none := h1.h0 nD
    generalize hfin : (fun o => Post C σ F1 (lcFin vs ρ1 o) fun w ρ' F' H' => ∀ v, SN C.B C.K F' H' σ ρ' v w → Q v H') = fin at *
    have nofin : ∀ {P : Prop}, fin .no → P := fun {P} z => by
      rw [← hfin] at z
      exact (show False from z).elim
    have p2 : fin (lc2Go vs vs1 t tt items1 t1 tt1 fe ds [] (wipeR ρ1 vs)) := by
      rw [← hfin]
      exact p1
    refine ⟨fun i m H' => m = ds.length - i ∧ i ≤ ds.length ∧ ∃ F2 ρw ys acc, Same F1 F2 ∧ ER (accB C.B D (.lst ys)) C.K F2 H' (L2.wipe σ vs) ρw ∧ RpA C.K F2 ys acc ∧ fin (lc2Go vs vs1 t tt items1 t1 tt1 fe (ds.drop i) acc ρw),
      ⟨ds.length, by simp, Nat.zero_le _, F1, wipeR ρ1 vs, [], [], Same.refl _, (h1.aside nD).wipe vs, .nil, p2⟩, ?_⟩
    rintro i m H' ⟨rfl, hle, F2, ρw, ys, acc, s2, h2, ra, p3⟩
    by_cases hlt : i < ds.length
    · have ed : ds.drop i = ds[i] :: ds.drop (i + 1) := List.drop_eq_getElem_cons hlt
      rw [ed] at p3
      refine .inr ⟨hJ.go F2 H' i hlt s2 h2.fh, fun H'' => ∃ F2 ρw ys acc, Same F1 F2 ∧ ER (accB C.B D (.lst ys)) C.K F2 H'' (L2.wipe σ vs) ρw ∧ RpA C.K F2 ys acc ∧ fin (lc2Go vs vs1 t tt items1 t1 tt1 fe (ds.drop (i + 1)) acc ρw),
        fun H'' z => ⟨ds.length - (i + 1), by omega, rfl, hlt, z⟩, fun x H'' hy => ?_⟩
      obtain ⟨F3, xt, rx⟩ := hJ.yl F2 H' i ds[i] x H'' (List.getElem?_eq_getElem hlt) s2 h2.fh hy
      have h3 := h2.xt xt
      have ra3 := RpA.mono xt.sf _ _ ra
      have s3 := s2.trans xt.sf
      refine ⟨accB C.B D (.lst ys), F3, ρw, ds[i], h3, rx, ?_⟩
      unfold lc2Go at p3
      cases q1 : t ds[i] ρw with
      | none =>
        rw [q1] at p3
        exact nofin p3
      | some ρ2 =>
        rw [q1] at p3
        dsimp only at p3
        intro σ2 F4 H4 bt s4 h4
        have ew := wipe_but bt hts
        rw [wipe_wipe fun i hi => hi] at ew
        refine ⟨ew, accB C.B D (.lst ys), F4, ρ2, h4, ?_⟩
        cases q2 : tt ρ2 with
        | no =>
          rw [q2] at p3
          exact nofin p3
        | err e ρ3 =>
          rw [q2] at p3
          exact nofin p3
        | ok b ρ3 =>
          rw [q2] at p3
          intro F5 H5 s5 h5
          cases b with
          | false =>
            rw [if_neg Bool.false_ne_true]
            dsimp only at p3
            have h6 := h5.wipe vs
            rw [ew] at h6
            exact ⟨F5, _, ys, acc, (s3.trans s4).trans s5, h6, RpA.mono (s4.trans s5) _ _ ra3, p3⟩
          | true =>
            rw [if_pos rfl]
            dsimp only at p3
            refine ⟨accB C.B D (.lst ys), F5, ρ3, h5, ?_⟩
            cases q3 : items1 ρ3 with
            | no =>
              rw [q3] at p3
              exact nofin p3
            | err e ρ4 =>
              rw [q3] at p3
              exact nofin p3
            | ok es ρ4 =>
              rw [q3] at p3
              dsimp only at p3
              intro F6 H6 s6 h6 J1 hJ1
              have s16 := ((s3.trans s4).trans s5).trans s6
              have ra6 := RpA.mono ((s4.trans s5).trans s6) _ _ ra3
              generalize hfin1 : (fun o : Out (List PyData) => fin (bindO o fun acc' ρ5 => lc2Go vs vs1 t tt items1 t1 tt1 fe (ds.drop (i + 1)) acc' (wipeR ρ5 vs))) = fin1
              have fin1_ok : ∀ o, fin1 o → ∃ acc ρ, o = .ok acc ρ := fun o z => by
                rw [← hfin1] at z
                cases o with
                | ok acc ρ => exact ⟨acc, ρ, rfl⟩
                | err e ρ => exact nofin z
                | no => exact nofin z
              have p4 : fin1 (lcGo vs1 t1 tt1 fe es acc (wipeR ρ4 vs1)) := by
                rw [← hfin1]
                exact p3
              refine ⟨fun j k H' => k = es.length - j ∧ j ≤ es.length ∧ ∃ F7 ρ7 ys acc, Same F6 F7 ∧ ER (accB C.B D (.lst ys)) C.K F7 H' (L2.wipe σ2 vs1) ρ7 ∧ RpA C.K F7 ys acc ∧ fin1 (lcGo vs1 t1 tt1 fe (es.drop j) acc ρ7),
                ⟨es.length, by simp, Nat.zero_le _, F6, wipeR ρ4 vs1, ys, acc, Same.refl _, h6.wipe vs1, ra6, p4⟩, ?_⟩
              rintro j k H' ⟨rfl, hle1, F7, ρ7, ys7, acc7, s7, h7, ra7, p5⟩
              by_cases hlt1 : j < es.length
              · have ed1 : es.drop j = es[j] :: es.drop (j + 1) := List.drop_eq_getElem_cons hlt1
                rw [ed1] at p5
                refine .inr ⟨hJ1.go F7 H' j hlt1 s7 h7.fh, fun H'' => ∃ F7 ρ7 ys acc, Same F6 F7 ∧ ER (accB C.B D (.lst ys)) C.K F7 H'' (L2.wipe σ2 vs1) ρ7 ∧ RpA C.K F7 ys acc ∧ fin1 (lcGo vs1 t1 tt1 fe (es.drop (j + 1)) acc ρ7),
                  fun H'' z => ⟨es.length - (j + 1), by omega, rfl, hlt1, z⟩, fun x1 H'' hy1 => ?_⟩
                obtain ⟨F8, xt1, rx1⟩ := hJ1.yl F7 H' j es[j] x1 H'' (List.getElem?_eq_getElem hlt1) s7 h7.fh hy1
                have key := lc_turn (Nx := fun H'' => ∃ F7 ρ7 ys acc, Same F6 F7 ∧ ER (accB C.B D (.lst ys)) C.K F7 H'' (L2.wipe σ2 vs1) ρ7 ∧ RpA C.K F7 ys acc ∧ fin1 (lcGo vs1 t1 tt1 fe (es.drop (j + 1)) acc ρ7)) fin1_ok hr hF hts1 (h7.xt xt1) (RpA.mono xt1.sf _ _ ra7) rx1 p5
                  fun F' H' ρ' ys' acc' s h r p => by
                    rw [wipe_wipe fun i hi => hi] at h
                    exact ⟨F', ρ', ys', acc', (s7.trans xt1.sf).trans s, h, r, p⟩
                rw [wipe_wipe fun i hi => hi] at key
                exact key
              · have ej : j = es.length := by omega
                subst ej
                rw [List.drop_length] at p5
                refine .inl ⟨hJ1.st F7 H' s7 h7.fh, ?_⟩
                rw [← hfin1] at p5
                have h8 := h7.wipe vs
                rw [wipe_wipe hv, ew] at h8
                exact ⟨F7, _, ys7, acc7, s16.trans s7, h8, ra7, p5⟩
    · have ei : i = ds.length := by omega
      subst ei
      rw [List.drop_length] at p3
      refine .inl ⟨hJ.st F2 H' s2 h2.fh, ?_⟩
      rw [← hfin] at p3
      have hb := h1.back s2 hok hD0 h2
      refine p3 F2 H' s2 hb (.ref D) ⟨⟨D, .lst ys, rfl, h2.keptF hF, h2.kept hr, ra, fun _ => hD0, fun z => nomatch z⟩, rfl, fun j b c e1 e2 => ?_⟩
      rcases rest_some e1 with ⟨hj, q⟩ | ⟨hj, q⟩
      · have z := List.all_eq_true.mp hok j hj
        rw [q] at z
        exact absurd z Bool.false_ne_true
      · rw [← wipe_at hj] at e2
        exact h2.notD hr q e2 rfl
  · rw [if_neg hok] at p1
    exact p1.elim
section
variable {X : Cx} {B : Bs} {W : WX} {elt tg iter tg1 iter1 : Expr} {ifs ifs1 : List Expr} {scope : Scope} {ts ts1 : List Nat} {pos spos : Pos} {items items1 : Mo (List PyData)} {t t1 : Tg} {tt tt1 : Mo Bool} {fe : Mo PyData}
theorem do_lc2 (own : List (Str × Nat)) (vs1 : List Nat) (hc : X.calm = true) (hN : X.N.Nodup) (hi : DI X B W tg iter items) (ok : BlkOk X.N X.env.scope scope own) (hts : ∀ i ∈ ts, i ∈ own.map (·.2)) (hts1 : ∀ i ∈ ts1, i ∈ vs1) (hv : ∀ i ∈ vs1, i ∈ own.map (·.2))
    (hg : ∀ (s : Shared) (H : Hp) (C : Addr) (cl : List (Str × Addr)) (fp : List Addr) (B' : Bs), DG (X.blk s H scope (compEnvC scope cl C X.env) fp) B' tg ts t)
    (ht : ∀ (s : Shared) (H : Hp) (C : Addr) (cl : List (Str × Addr)) (fp : List Addr), DPs (X.blk s H scope (compEnvC scope cl C X.env) fp) ifs tt)
    (hi1 : ∀ (s : Shared) (H : Hp) (C : Addr) (cl : List (Str × Addr)) (fp : List Addr) (B' : Bs), DI (X.blk s H scope (compEnvC scope cl C X.env) fp) B' W0 tg1 iter1 items1)
    (hg1 : ∀ (s : Shared) (H : Hp) (C : Addr) (cl : List (Str × Addr)) (fp : List Addr) (B' : Bs), DG (X.blk s H scope (compEnvC scope cl C X.env) fp) B' tg1 ts1 t1)
    (ht1 : ∀ (s : Shared) (H : Hp) (C : Addr) (cl : List (Str × Addr)) (fp : List Addr), DPs (X.blk s H scope (compEnvC scope cl C X.env) fp) ifs1 tt1)
    (he : ∀ (s : Shared) (H : Hp) (C : Addr) (cl : List (Str × Addr)) (fp : List Addr) (B' : Bs), DE (X.blk s H scope (compEnvC scope cl C X.env) fp) B' W0 elt fe)
    (hs : ∀ x, foldedSetIterable iter X.env x = pure x := by intro _; rfl) (hs1 : ∀ env x, foldedSetIterable iter1 env x = pure x := by intro _ _; rfl) :
    DO X B W (.ListComp elt [⟨tg, iter, ifs, 0⟩, ⟨tg1, iter1, ifs1, 0⟩] scope pos) (lc2O (own.map (·.2)) vs1 items t tt items1 t1 tt1 fe) :=
  ⟨pe_imp (pe_lc2 hc hN hi.pi ok hv (fun s H C cl fp => pgx (hg s H C cl fp)) (fun s H C cl fp => (ht s H C cl fp).pts) (fun s H C cl fp => pix (hi1 s H C cl fp)) (fun s H C cl fp => pgx (hg1 s H C cl fp)) (fun s H C cl fp => (ht1 s H C cl fp).pts)
    (fun s H C cl fp => pex (he s H C cl fp)) hs hs1) fun σ H Q w => lc2_ok (C := ct X B W) hts hts1 hv w⟩
end
end Dv
set_option Elab.async false
set_option linter.all false
set_option maxRecDepth 100000
set_option maxHeartbeats 2000000
namespace Dv
open PySem PySem.Spec PyProof.Rows L2
/-! ### list comprehensions whose turns may raise -/
section
open PySem.HandSPX
variable {M : Model} {A : Around} {E : Value → Shared → Prop} {s : Shared} {Z : Obj → Prop} {bs : Heap} {env : PySem.Env} {out : List PySem.Env} {L x : Addr} {fl : Value}
/-- noted by the frame at L, whoever noted it ahead -/
theorem note_any {Q : Unit → Shared → Prop} (zs : Steady Z) (ha : A.frames = some (env :: out)) (he : env.frame = some L) (hb : bs.StaysIn s.heap) (hx : bs.get? x = none) (hl : s.heap.FunFrames bs (env :: out)) (ht : TracedZ s.heap bs x Z fl)
    (k : ∀ h', HeldZ bs (env :: out) x Z L h' → s.heap.UpToSlots h' → Q () { s with heap := h' }) : wpAny M A (noteFrame (.ref x) env) Q E s := by
  obtain ⟨ox, us, T, oT, ws, gx, zx, dx, u1, nT, neT, gT, dT, w3⟩ := id ht
  by_cases hfl : fl = rawInt L
  · subst hfl
    exact againZ he ht (k s.heap ⟨hb, hx, hl, ht⟩ (Heap.UpToSlots.refl _))
  · unfold noteFrame
    simp only [he]
    refine wpAny_bind (wpAny_field gx dx u1 ?_)
    rw [if_pos (by simp)]
    refine wpAny_bind (wpAny_field gT dT w3 ?_)
    rw [if_neg (by simpa using hfl)]
    refine wpAny_bind (wpAny_setField gT dT (Array.getElem?_eq_some_iff.mp w3).1 ?_)
    have oth : ∀ c, c ≠ T → (s.heap.update T (Obj.mapFields (·.setIfInBounds 3 Value.none))).get? c = s.heap.get? c := fun c hc => Heap.get?_update_other _ _ fun z => hc z.symm
    have nrec : ∀ c o, s.heap.get? c = some o → (∀ vs, o.data ≠ .fields vs) → c ≠ T := fun c o e n z => by
      rw [z, gT] at e
      cases e
      exact n _ dT
    have nbs : ∀ c o, bs.get? c = some o → c ≠ T := fun c o e z => by
      rw [z, nT] at e
      cases e
    refine wpAny_entryZ zs ha (hl.of_keeps fun c o e n => ⟨o, (oth c (nrec c o e n)).trans e, rfl⟩) he ((oth x fun z => neT z.symm).trans gx) (fun c o e => (oth c (nbs c o e)).trans (hb c o e)) hx dx (Array.getElem?_eq_some_iff.mp u1).1 zx fun h' ⟨y1, y2, y3, y4⟩ => ?_
    exact k h' ⟨y1, hx, y2, y3⟩ fun c o e n => y4 c o ((oth c (nrec c o e n)).trans e) n
end
section
variable {X : Cx} {pins : List (Addr × Obj)} {σ : L2.St}
/-- what leaves a block: noted by the def's frame, on its way in the def's air -/
theorem blk_out {W W' : WX} {s3 : Shared} {H3 : Hp} {scope : Scope} {ce : PySem.Env} {fp : List Addr} (hst : X.stack = X.env :: X.outer) (hfr : X.env.frame = some X.env.locals) (tk : Takes X W) (I3 : Inv X pins σ H3 s3)
    (f3 : ∀ b ∈ fp, FpOk X pins H3 b ∧ b < s3.heap.objs.size) (cL : ce.locals = s3.heap.objs.size) (cF : ce.frame = X.env.frame) (hW : ∀ cls d τ Ha, W' cls d τ Ha → W cls d σ Ha) {xe : Value → Shared → Prop} :
    ∀ u t, XE ((X.blk s3 H3 scope ce fp).wish xe) W' u t → notedBy (model X.prog X.w) X.A ce (CompFails (model X.prog X.w) X.A X.xe ce) u t := by
  rintro u t ⟨a, B, sI, pins', τ, Ha, cls, d, rfl, J, nb, up, sky, na, os, ag, w'⟩
  show wpAny _ X.A (noteFrame (.ref a) ce) _ _ t
  rw [noteFrame_env _ cF]
  have hA : X.A.frames = some (X.env :: X.outer) := by rw [I3.ok.frames, hst]
  have sky : Sky B (X.env :: X.outer) a (Zc cls d) ce.locals t.heap := by
    rw [← hst]
    exact sky
  have fin : ∀ h1, HandSPX.HeldZ B (X.env :: X.outer) a (Zc cls d) X.env.locals h1 → t.heap.UpToSlots h1 → CompFails (model X.prog X.w) X.A X.xe ce (.ref a) { t with heap := h1 } := fun h1 hh up1 => by
    obtain ⟨mC, hC, _⟩ := id J.loc
    have hC : sI.heap.Ns ce.locals mC := hC
    have hC1 : h1.Ns ce.locals mC := hC.upToSlots (up.trans up1)
    refine ⟨mC, hC1, fun h2 m2 hn2 hs2 => ?_⟩
    obtain ⟨b1, b0, f1, oe, vs, T, oT, ts, he, hz, hd, e1, nT, hTe, hT, hdT, e3⟩ := hh
    have neC : ∀ {b : Addr} {o : Obj} {vs : Array Value}, h1.get? b = some o → o.data = .fields vs → b ≠ ce.locals := fun {b o vs} e dd z => by
      obtain ⟨oC, es, ep, g1, g2, _⟩ := hC1
      rw [z, g1] at e
      cases e
      rw [g2] at dd
      cases dd
    obtain ⟨G, g1, g2⟩ := restrict B fun b => decide (b ≠ ce.locals)
    obtain ⟨S, k1, k2⟩ := restrict sI.heap fun b => decide (b ≠ ce.locals)
    have gB : ∀ b o, G.get? b = some o → b ≠ ce.locals ∧ B.get? b = some o := fun b o e => by
      by_cases hb : b = ce.locals
      · rw [g2 b (by simp [hb])] at e
        cases e
      · exact ⟨hb, by rw [← g1 b (by simpa using hb)]; exact e⟩
    have gS : ∀ b o, S.get? b = some o → b ≠ ce.locals ∧ sI.heap.get? b = some o := fun b o e => by
      by_cases hb : b = ce.locals
      · rw [k2 b (by simp [hb])] at e
        cases e
      · exact ⟨hb, by rw [← k1 b (by simpa using hb)]; exact e⟩
    have toS : ∀ {b}, b ≠ ce.locals → S.get? b = sI.heap.get? b := fun {b} hb => k1 b (by simpa using hb)
    have Gnone : ∀ {b}, B.get? b = none → G.get? b = none := fun {b} n => by
      cases q : G.get? b with
      | none => rfl
      | some o =>
        rw [(gB b o q).2] at n
        cases n
    have held : HandSPX.HeldZ G (X.env :: X.outer) a (Zc cls d) X.env.locals h2 := by
      refine ⟨fun b o e => ?_, Gnone b0, funFrames_none (Heap.FunFrames.sameBut hs2 hn2 f1) fun L hL => Gnone (f1.mem hL).1, oe, vs, T, oT, ts, (hs2.2 a (neC he hd)).trans he, hz, hd, e1, Gnone nT, hTe, (hs2.2 T (neC hT hdT)).trans hT, hdT, e3⟩
      obtain ⟨e1, e2⟩ := gB b o e
      exact (hs2.2 b e1).trans (b1 b o e2)
    have he2 := (hs2.2 a (neC he hd)).trans he
    unfold PySem.passOn
    refine wpAny_bind (wpAny_field he2 hd e1 ?_)
    rw [if_neg (by simp), cF, hfr]
    have stop : wpAny (model X.prog X.w) X.A (setFlight (.ref a) (some X.env.locals)) (fun _ s4 => wpAny (model X.prog X.w) X.A (throw (.ref a) : Sem Value) (fun _ _ => False) X.xe s4) X.xe { t with heap := h2 } := by
      refine HandSPX.setFlight_onZ held fun h4 held4 up4 => wpAny_throw (tk _ _ ?_)
      have hHC : Ha ce.locals = none := J.free
      have I2 : Inv X pins σ Ha { sI with heap := S } := by
        have un := J.base
        have un : Un (frs X.stack) fp H3 Ha s3.heap sI.heap := un
        have nC : ∀ {b : Addr} {o : Obj}, s3.heap.get? b = some o → b ≠ ce.locals := fun {b o} e => by
          rw [cL]
          exact Nat.ne_of_lt (Heap.lt_size e)
        refine I3.call' (ch := fp) J.os ⟨fun b o q n hf hx => ?_, fun b o q n hf hx => ?_, un.free, fun b o q hx => ?_, un.tups, un.frzs, un.tbls⟩ (fun b o q => (J.hok b o q).stay (fun c v hc z => ?_) (fun _ z => z) fun _ _ z => z) J.bare fun b hb => ⟨(f3 b hb).1.2.2.2.1, (f3 b hb).1.2.1, (f3 b hb).1.2.2.2.2.1, (f3 b hb).1.2.2.2.2.2⟩
        · rw [toS (nC q)]
          exact un.keep b o q n hf hx
        · rw [toS (nC q)]
          exact un.slot b o q n hf hx
        · rw [toS (nC q)]
          exact un.there b o q hx
        · refine (toS fun y => ?_).trans z
          rcases hc with hc | hc
          · rw [← hc, y, hHC] at q
            cases q
          · rw [y, hHC] at hc
            cases hc
      refine ⟨a, G, { sI with heap := S }, pins, σ, Ha, cls, d, rfl, I2, fun b o e hb => ?_, fun b o e hn => ?_, .inr (.inr (by rw [hst]; exact held4)), na, os, ag, hW _ _ _ _ w'⟩
      · obtain ⟨e1, e2⟩ := gS b o e
        rw [g1 b (by simpa using e1)]
        exact nb b o e2 hb
      · obtain ⟨e1, e2⟩ := gS b o e
        obtain ⟨sl, z1⟩ := (up.trans up1) b o e2 hn
        have z2 := (hs2.2 b e1).trans z1
        obtain ⟨sl2, z3⟩ := up4 b _ z2 hn
        exact ⟨sl2, z3⟩
    first
      | exact wpAny_bind (wpAny_pure (wpAny_bind stop))
      | exact wpAny_bind stop
  rcases sky with ⟨hB, hn, hl, oe, vs, he, hz, hd, h1⟩ | fly | hh
  · exact HandSPX.look_newZ Zc.steady hA hl hfr he hB hn hd h1 hz fin
  · exact HandSPX.looks_onZ Zc.steady hA hfr fly fin
  · obtain ⟨y1, y2, y3, y4⟩ := hh
    exact note_any Zc.steady hA hfr y1 y2 y3 y4 fin
/-- the reading: tests and element under a wish of their own about exceptions -/
def tLcX (wi : TI) (g : TG) (tt : WX → TT) (te : WX → TE) (vs : List Nat) (W : WX) : TE := fun σ H Q => wi σ H fun J Hb => ∀ D, Hb D = none → ∃ (W' : WX) (Wm : Nat → Nat → Hp → Prop), (∀ cls d τ Ha, W' cls d τ Ha → W cls d σ Ha) ∧ (∃ m, Wm 0 m (upd Hb D (.lst []))) ∧
  ∀ i m Hc, Wm i m Hc → (J.stop i Hc ∧ Q (.ref D) Hc) ∨ (J.go i Hc ∧ ∃ Nx : Hp → Prop, (∀ Hd, Nx Hd → ∃ m', m' < m ∧ Wm (i + 1) m' Hd) ∧
    ∀ x Hd, J.yld i Hc x Hd → g x (wipe σ vs) Hd fun τ He => wipe τ vs = wipe σ vs ∧ tt W' τ He fun b Hf => if b = true then te W' τ Hf fun y Hg => ∃ acc, Hg D = some (.lst acc) ∧ acc.length < sizeLine ∧ Nx (upd Hg D (.lst (acc ++ [y]))) else Nx Hf)
/-- the block's context -/
abbrev blkX (X : Cx) (s : Shared) (H : Hp) (scope : Scope) (cl : List (Str × Addr)) (C : Addr) (fp : List Addr) (xe : Value → Shared → Prop) : Cx := (X.blk s H scope (compEnvC scope cl C X.env) fp).wish xe
theorem lcx_core {W : WX} {s : Shared} {H : Hp} {Q : VK} {elt tg iter : Expr} {ifs : List Expr} {scope : Scope} {own : List (Str × Nat)} {pos pos' : Pos} {wi : TI} {g : TG} {tt : WX → TT} {te : WX → TE} {use : Option (Value → Sem Unit)} {Qf : Value → Shared → Prop}
    (hst : X.stack = X.env :: X.outer) (hfr : X.env.frame = some X.env.locals) (tk : Takes X W) (hc : X.calm = true) (hN : X.N.Nodup) (I : Inv X pins σ H s) (hi : PI X tg iter wi) (ok : BlkOk X.N X.env.scope scope own)
    (hg : ∀ s H cl C fp xe, PG (blkX X s H scope cl C fp xe) tg g) (ht : ∀ s H cl C fp xe W', Takes (blkX X s H scope cl C fp xe) W' → PTs (blkX X s H scope cl C fp xe) ifs (tt W'))
    (he : ∀ s H cl C fp xe W', Takes (blkX X s H scope cl C fp xe) W' → PE (blkX X s H scope cl C fp xe) elt (te W')) (hs : ∀ x, foldedSetIterable iter X.env x = pure x) (h : tLcX wi g tt te (own.map (·.2)) W σ H Q)
    (hend : ∀ D C t m Ha, Inv X pins σ Ha t → Q (.ref D) Ha → t.heap.Ns C m → FpOk X pins Ha C → ∀ ce : PySem.Env, ce.locals = C → compEnds (model X.prog X.w) X.A X.xe use Qf (.ref D) ce (.ok .next) t) :
    wpAny (model X.prog X.w) X.A (comprehension (.ListComp elt [⟨tg, iter, ifs, 0⟩] scope pos) scope X.env pos' (newList []) false (eval iter X.env) use) Qf X.xe s := by
  have hfree : ∀ y ∈ scope.names, y.2 = .free → ∃ c, X.env.cells.lookup y.1 = some c := fun y hy e => (ok.free y hy e).elim (fun k => I.ok.has _ (.inl k)) fun k => I.ok.has _ (.inr k)
  refine comprehension_at (use := use) rfl hs (closure_ok hfree) ok.kind (fun y hy e => (ok.uniq y hy).trans (congrArg some e)) (thn (hi.run pins s σ H _ I h) fun xv s1 hx => thn hx fun itv s2 h2 => ?_)
  obtain ⟨it, fp, tn, J, Hb, rfl, I2, T, st2, f2, q⟩ := h2
  refine wpAny_newObj_type (newEnv_comp ?_) (by show 0 ≤ sizeLine; decide)
  generalize hD : s2.heap.objs.size = D
  obtain ⟨W', Wm, hWW, ⟨m0, w0⟩, turn⟩ := q D (I2.hok.fresh (Nat.le_of_eq hD))
  generalize hs3 : ({ s2 with heap := s2.heap.push { cls := .type "list", data := .seq ([] : List Value).toArray } } : Shared) = s3
  have h3 : s3.heap = s2.heap.push { cls := .type "list", data := .seq ([] : List Value).toArray } := by rw [← hs3]
  have I3 : Inv X pins σ (upd Hb D (.lst [])) s3 := by
    rw [← hs3]
    refine I2.laid (t' := s2.toks) (fun b o e => Heap.get?_push_of_some _ e) (Nat.le_of_eq hD) ⟨Nat.zero_le _, [], 0, .nil, ?_⟩
    rw [← hD]
    exact Heap.get?_push_size _ rfl
  have f3 : ∀ b ∈ fp, FpOk X pins (upd Hb D (.lst [])) b ∧ b < s3.heap.objs.size := fun b hb => by
    obtain ⟨o, e, _⟩ := T.obj _ _ st2 b hb
    have hlt : b < s2.heap.objs.size := Heap.lt_size e
    refine ⟨⟨?_, (f2 b hb).2⟩, by rw [h3, Heap.size_push]; exact Nat.lt_of_lt_of_le hlt (Nat.le_succ _)⟩
    rw [upd_ne fun z => Nat.lt_irrefl _ (by rw [z, ← hD] at hlt; exact hlt)]
    exact (f2 b hb).1
  have st3 : tn 0 s3.heap := T.keep _ _ _ st2 fun b _ o e => by
    rw [h3]
    exact Heap.get?_push_of_some _ e
  generalize hH3 : upd Hb D (.lst []) = H3 at I3 w0 f3
  have I4 := block_start I3 ok hN f3
  generalize hcl : cellsFrom (s3.heap.objs.size + 1) scope.names (cloFrom X.env.cells scope.names []) = cl at I4
  show codeAny _ _ (.compStart (.ListComp elt [⟨tg, iter, ifs, 0⟩] scope pos) 0 (.ref it) (.ref D) (compEnvC scope cl s3.heap.objs.size X.env)) (compEnds (model X.prog X.w) X.A X.xe use Qf (.ref D) (compEnvC scope cl s3.heap.objs.size X.env))
    { s3 with heap := pushCells (s3.heap.push { cls := .type "dict", data := .dict #[] }) scope.names }
  generalize hs4 : ({ s3 with heap := pushCells (s3.heap.push { cls := .type "dict", data := .dict #[] }) scope.names } : Shared) = s4 at I4 ⊢
  have st4 : tn 0 s4.heap := T.keep _ _ _ st3 fun b _ o e => by
    rw [← hs4]
    exact pushCells_keeps _ _ _ _ (Heap.get?_push_of_some _ e)
  generalize hce : compEnvC scope cl s3.heap.objs.size X.env = ce at I4 ⊢
  have cL : ce.locals = s3.heap.objs.size := by rw [← hce]; rfl
  have cF : ce.frame = X.env.frame := by rw [← hce]; rfl
  have eR : ∀ e t, compEnds (model X.prog X.w) X.A X.xe use Qf (.ref D) ce (.error e) t = CompFails (model X.prog X.w) X.A X.xe ce e t := fun e t => by cases use <;> rfl
  generalize hE : (notedBy (model X.prog X.w) X.A ce fun e t => compEnds (model X.prog X.w) X.A X.xe use Qf (.ref D) ce (.error e) t) = E1
  have tkB : ∀ {xe}, xe = E1 → Takes ((X.blk s3 H3 scope ce fp).wish xe) W' := fun {xe} hxe u t x => by
    have z := blk_out hst hfr tk I3 f3 cL cF hWW u t x
    rw [hxe, ← hE]
    have e2 : (fun e t => compEnds (model X.prog X.w) X.A X.xe use Qf (.ref D) ce (.error e) t) = CompFails (model X.prog X.w) X.A X.xe ce := funext fun e => funext fun t => eR e t
    rw [e2]
    exact z
  have pg := hg s3 H3 cl s3.heap.objs.size fp E1
  have pt := ht s3 H3 cl s3.heap.objs.size fp E1 W' (by rw [show blkX X s3 H3 scope cl s3.heap.objs.size fp E1 = (X.blk s3 H3 scope ce fp).wish E1 by rw [← hce]]; exact tkB rfl)
  have pe := he s3 H3 cl s3.heap.objs.size fp E1 W' (by rw [show blkX X s3 H3 scope cl s3.heap.objs.size fp E1 = (X.blk s3 H3 scope ce fp).wish E1 by rw [← hce]]; exact tkB rfl)
  unfold blkX at pg pt pe
  rw [hce] at pg pt pe
  have I4 := I4.wish E1
  generalize hY : (X.blk s3 H3 scope ce fp).wish E1 = Y at pg pt pe I4
  have yP : Y.prog = X.prog := by rw [← hY]
  have yW : Y.w = X.w := by rw [← hY]
  have yK : Y.K = X.K := by rw [← hY]
  have yC : Y.calm = true := by rw [← hY]; exact hc
  have stat : ∀ {τ Ha t}, Inv Y [] τ Ha t → (∀ b ∈ fp, Ha b = none) → ∀ b ∈ fp, FpOk Y [] Ha b := fun {τ Ha t} I' hn b hb => by
    subst hY
    exact ⟨hn b hb, (I'.ok.exf b hb).1, I'.ok.exfs b hb, .inl hb, fun x c e => (I'.ok.exf b hb).2 x c e, fun p hp => nomatch (show p ∈ ([] : List (Addr × Obj)) from by simpa using hp)⟩
  have lp : codeAny (model X.prog X.w) X.A (.compLoop (.ListComp elt [⟨tg, iter, ifs, 0⟩] scope pos) 0 (.ref it) (.ref D) ce) (compEnds (model X.prog X.w) X.A X.xe use Qf (.ref D) ce) s4 := by
    refine compLoop_any (fun n t => ∃ i Ha, Inv Y [] (wipe σ (own.map (·.2))) Ha t ∧ tn i t.heap ∧ (∀ b ∈ fp, Ha b = none) ∧ Wm i n Ha) ?_ m0 ⟨0, H3, I4, st4, fun b hb => (f3 b hb).1.1, w0⟩
    rw [hE]
    rintro n s5 ⟨i, H5, I5, st5, n5, w5⟩
    have yA : Y.A = X.A := by rw [← hY]
    have yE : Y.env = ce := by rw [← hY]
    have yX : Y.xe = E1 := by rw [← hY]
    rcases turn i n H5 w5 with ⟨stop, qq⟩ | ⟨go, Nx, hNx, step⟩
    · have td := T.done Y yP yW yK yC i [] s5 _ H5 E1 I5 (stat I5 n5) st5 stop
      rw [yA] at td
      refine thn td fun r s6 ⟨hr, I6⟩ => ?_
      subst hr
      subst hY
      have I7 : Inv X pins σ H5 s6 := I3.call' (ch := fp) I6.os I6.base I6.hok I6.bare fun b hb => ⟨(f3 b hb).1.2.2.2.1, (f3 b hb).1.2.1, (f3 b hb).1.2.2.2.2.1, (f3 b hb).1.2.2.2.2.2⟩
      have nC : H5 s3.heap.objs.size = none := by
        have z : H5 ce.locals = none := I6.free
        rwa [cL] at z
      obtain ⟨m, hn, _⟩ := I6.loc
      have hn : s6.heap.Ns ce.locals m := hn
      rw [cL] at hn
      exact hend D s3.heap.objs.size s6 m H5 I7 qq hn (I3.fpOk (Nat.le_refl _) nC) ce cL
    · have ti := T.item Y yP yW yK yC i [] s5 _ H5 E1 I5 (stat I5 n5) st5 go
      rw [yA] at ti
      refine thn ti fun r s6 ⟨u, hr, h6⟩ => ?_
      subst hr
      refine thn h6 fun _ s7 ⟨x, H7, I7, r7, y7, st7, n7⟩ => ?_
      have I7' := I7.pinned (stat I7 n7) (T.obj _ _ st7)
      have r1 := pg.run _ s7 _ H7 x u _ I7' r7 (step x H7 y7)
      rw [yA, yE, yX, yP, yW] at r1
      refine thn r1 fun _ s8 ⟨τ, H8, I8, hw8, q8⟩ => ?_
      have r2 := pt.run _ s8 τ H8 _ I8 q8
      rw [yA, yE, yX, yP, yW] at r2
      refine thn r2 fun b s9 ⟨H9, I9, q9⟩ => ?_
      have fin : ∀ {t : Shared} {Ha : Hp}, Inv Y ([] ++ pinsAt fp s7.heap) τ Ha t → Nx Ha → ∃ m, m < n ∧ ∃ i Ha, Inv Y [] (wipe σ (own.map (·.2))) Ha t ∧ tn i t.heap ∧ (∀ b ∈ fp, Ha b = none) ∧ Wm i m Ha := fun {t Ha} J' nx => by
        obtain ⟨m', hm, w'⟩ := hNx Ha nx
        have pin' : ∀ b ∈ fp, ∀ o, s7.heap.get? b = some o → t.heap.get? b = some o ∧ Ha b = none := fun b hb o e => by
          obtain ⟨z1, z2, _⟩ := J'.pin (b, o) (List.mem_append_right _ (List.mem_append_right _ (mem_pinsAt hb e)))
          exact ⟨z1, z2⟩
        refine ⟨m', hm, i + 1, Ha, (J'.unpinned (pins := [])).weak (by rw [← hw8, wipe_length]) (fun j v e => ?_), T.keep _ _ _ st7 fun b hb o e => (pin' b hb o e).1, fun b hb => ?_, w'⟩
        · rw [← hw8] at e
          exact (wipe_some e).1
        · obtain ⟨o, e, _⟩ := T.obj _ _ st7 b hb
          exact (pin' b hb o e).2
      cases b with
      | false =>
        rw [if_neg Bool.false_ne_true] at q9 ⊢
        exact fin I9 q9
      | true =>
        rw [if_pos rfl] at q9 ⊢
        have r3 := pe.run _ s9 τ H9 _ I9 q9
        rw [yA, yE, yX, yP, yW] at r3
        refine thn r3 fun z s10 ⟨yv, H10, I10, r10, acc, hD10, hz10, nx⟩ => ?_
        have r4 := app_ok (X := Y) (E := E1) (Q := fun _ t => ∃ m, m < n ∧ ∃ i Ha, Inv Y [] (wipe σ (own.map (·.2))) Ha t ∧ tn i t.heap ∧ (∀ b ∈ fp, Ha b = none) ∧ Wm i m Ha) I10 hD10 hz10 r10 fun s11 I11 => fin I11 nx
        rw [yA, yP, yW] at r4
        exact r4
  exact codeAny_compStart_list lp (T.self X.A 0 _ _ _ st4 lp)
end
def lcxGo (vs : List Nat) (t : Tg) (tt : Mo Bool) (fe : Mo PyData) : List PyData → List PyData → Rho → Out (List PyData)
  | [], acc, ρ => .ok acc ρ
  | d :: ds, acc, ρ => match t d ρ with
    | none => .no
    | some ρ2 => (match tt ρ2 with
      | .ok true ρ3 => (match fe ρ3 with
        | .ok y ρ4 => if acc.length < 1000000 then lcxGo vs t tt fe ds (acc ++ [y]) (wipeR ρ4 vs) else .no
        | .err e ρ4 => .err e (wipeR ρ4 vs)
        | .no => .no)
      | .ok false ρ3 => lcxGo vs t tt fe ds acc (wipeR ρ3 vs)
      | .err e ρ3 => .err e (wipeR ρ3 vs)
      | .no => .no)
def lcxFin (vs : List Nat) (ρ : Rho) : Out (List PyData) → Out Sl
  | .ok acc ρw => .ok (.ob true (.l acc)) (restR ρ ρw vs)
  | .err e ρw => .err e (restR ρ ρw vs)
  | .no => .no
def lcxIn (vs : List Nat) (t : Tg) (tt : Mo Bool) (fe : Mo PyData) (ds : List PyData) : Mo Sl := fun ρ => if okV ρ vs then lcxFin vs ρ (lcxGo vs t tt fe ds [] (wipeR ρ vs)) else .no
def lcxO (vs : List Nat) (items : Mo (List PyData)) (t : Tg) (tt : Mo Bool) (fe : Mo PyData) : Mo Sl := bnd items (lcxIn vs t tt fe)
def tTw (K : PySem.W.Frag) (f : Mo Bool) : WX → TT := fun W σ H Q => ∃ B', tT ⟨K, B', W⟩ f σ H Q
def tEw (K : PySem.W.Frag) (f : Mo PyData) : WX → TE := fun W σ H Q => ∃ B', tE ⟨K, B', W⟩ f σ H Q
structure DPw (X : Cx) (W : WX) (ifs : List Expr) (f : Mo Bool) : Prop where
  pts : PTs X ifs (tTw X.K f W)
theorem dpw_nil {X : Cx} {W : WX} : DPw X W [] yesT := ⟨⟨fun pins s σ H Q I ⟨B', F, ρ, h, p⟩ => (pts_nil (X := X)).run pins s σ H Q I (p.now h)⟩⟩
theorem dpw_one {X : Cx} {W : WX} {e : Expr} {fb : Mo Bool} (h : ∀ B, DT X B W e fb) : DPw X W [e] fb := ⟨⟨fun pins s σ H Q I ⟨B', w⟩ => (pts_one (h B').pt).run pins s σ H Q I w⟩⟩
theorem lcx_ok {C : Ct} {vs ts : List Nat} {items : Mo (List PyData)} {t : Tg} {tt : Mo Bool} {fe : Mo PyData} {σ : L2.St} {H : Hp} {Q : VK} (hts : ∀ i ∈ ts, i ∈ vs) (w : tO C (lcxO vs items t tt fe) σ H Q) :
    tLcX (tI C items) (tGx C.K ts t) (tTw C.K tt) (tEw C.K fe) vs C.Wx σ H Q := by
  obtain ⟨F, ρ, h, p⟩ := w
  refine ⟨F, ρ, h, p.bnd.imp fun ds ρ1 F1 H1 s1 h1 p1 J hJ => fun D nD => ?_⟩
  unfold lcxIn at p1
  by_cases hok : okV ρ1 vs = true
  · rw [if_pos hok] at p1
    have hr : C.B.r ≠ some D := fun z => (h1.rh D z).1 nD
    have hF : C.B.F0 D = none := by
      cases q : C.B.F0 D with
      | none => rfl
      | some o =>
        have z := h1.fh _ _ (h1.ff _ _ q)
        rw [nD] at z
        cases z
    have hD0 : C.B.H0 D = none := h1.h0 nD
    generalize hfin : (fun o => Post C σ F1 (lcxFin vs ρ1 o) fun w ρ' F' H' => ∀ v, SN C.B C.K F' H' σ ρ' v w → Q v H') = fin at *
    have nofin : ∀ {P : Prop}, fin .no → P := fun {P} z => by
      rw [← hfin] at z
      exact (show False from z).elim
    have oops : ∀ {e ρ' F' H' τ ys cls dx}, fin (.err e (wipeR ρ' vs)) → Same F1 F' → L2.wipe τ vs = L2.wipe σ vs → ER (accB C.B D (.lst ys)) C.K F' H' τ ρ' → XR C.K F' cls dx e → C.Wx cls dx σ H' := fun {e ρ' F' H' τ ys cls dx} z s et h x => by
      rw [← hfin] at z
      have h2 := h.wipe vs
      rw [et] at h2
      exact z F' H' cls dx s (h1.back s hok hD0 h2) x
    have p2 : fin (lcxGo vs t tt fe ds [] (wipeR ρ1 vs)) := by
      rw [← hfin]
      exact p1
    refine ⟨fun cls d _ Ha => C.Wx cls d σ Ha, fun i m H' => m = ds.length - i ∧ i ≤ ds.length ∧ ∃ F2 ρw ys acc, Same F1 F2 ∧ ER (accB C.B D (.lst ys)) C.K F2 H' (L2.wipe σ vs) ρw ∧ RpA C.K F2 ys acc ∧ fin (lcxGo vs t tt fe (ds.drop i) acc ρw),
      fun _ _ _ _ z => z, ⟨ds.length, by simp, Nat.zero_le _, F1, wipeR ρ1 vs, [], [], Same.refl _, (h1.aside nD).wipe vs, .nil, p2⟩, ?_⟩
    rintro i m H' ⟨rfl, hle, F2, ρw, ys, acc, s2, h2, ra, p3⟩
    by_cases hlt : i < ds.length
    · have ed : ds.drop i = ds[i] :: ds.drop (i + 1) := List.drop_eq_getElem_cons hlt
      rw [ed] at p3
      refine .inr ⟨hJ.go F2 H' i hlt s2 h2.fh, fun H'' => ∃ F2 ρw ys acc, Same F1 F2 ∧ ER (accB C.B D (.lst ys)) C.K F2 H'' (L2.wipe σ vs) ρw ∧ RpA C.K F2 ys acc ∧ fin (lcxGo vs t tt fe (ds.drop (i + 1)) acc ρw),
        fun H'' z => ⟨ds.length - (i + 1), by omega, rfl, hlt, z⟩, fun x H'' hy => ?_⟩
      obtain ⟨F3, xt, rx⟩ := hJ.yl F2 H' i ds[i] x H'' (List.getElem?_eq_getElem hlt) s2 h2.fh hy
      have h3 := h2.xt xt
      have ra3 := RpA.mono xt.sf _ _ ra
      have s3 := s2.trans xt.sf
      refine ⟨accB C.B D (.lst ys), F3, ρw, ds[i], h3, rx, ?_⟩
      unfold lcxGo at p3
      cases q1 : t ds[i] ρw with
      | none =>
        rw [q1] at p3
        exact nofin p3
      | some ρ2 =>
        rw [q1] at p3
        dsimp only at p3
        intro σ2 F4 H4 bt s4 h4
        have ew := wipe_but bt hts
        rw [wipe_wipe fun i hi => hi] at ew
        refine ⟨ew, accB C.B D (.lst ys), F4, ρ2, h4, ?_⟩
        cases q2 : tt ρ2 with
        | no =>
          rw [q2] at p3
          exact nofin p3
        | err e ρ3 =>
          rw [q2] at p3
          exact fun F5 H5 cls dx s5 h5 x5 => oops p3 ((s3.trans s4).trans s5) ew h5 x5
        | ok b ρ3 =>
          rw [q2] at p3
          intro F5 H5 s5 h5
          cases b with
          | false =>
            rw [if_neg Bool.false_ne_true]
            dsimp only at p3
            have h6 := h5.wipe vs
            rw [ew] at h6
            exact ⟨F5, _, ys, acc, (s3.trans s4).trans s5, h6, RpA.mono (s4.trans s5) _ _ ra3, p3⟩
          | true =>
            rw [if_pos rfl]
            dsimp only at p3
            refine ⟨accB C.B D (.lst ys), F5, ρ3, h5, ?_⟩
            cases q3 : fe ρ3 with
            | no =>
              rw [q3] at p3
              exact nofin p3
            | err e ρ4 =>
              rw [q3] at p3
              exact fun F6 H6 cls dx s6 h6 x6 => oops p3 (((s3.trans s4).trans s5).trans s6) ew h6 x6
            | ok y ρ4 =>
              rw [q3] at p3
              dsimp only at p3
              intro F6 H6 s6 h6 v rv
              by_cases hl : acc.length < 1000000
              · rw [if_pos hl] at p3
                have s36 := (s4.trans s5).trans s6
                refine ⟨ys, h6.kept hr, by rw [ra.len]; exact Nat.lt_of_lt_of_le hl line_le, ?_⟩
                have h7 := (h6.again (o' := .lst (ys ++ [v])) hr hF).wipe vs
                rw [ew] at h7
                exact ⟨F6, _, _, _, s3.trans s36, h7, (RpA.mono s36 _ _ ra3).app (RpA.one rv), p3⟩
              · rw [if_neg hl] at p3
                exact nofin p3
    · have ei : i = ds.length := by omega
      subst ei
      rw [List.drop_length] at p3
      refine .inl ⟨hJ.st F2 H' s2 h2.fh, ?_⟩
      rw [← hfin] at p3
      have hb := h1.back s2 hok hD0 h2
      refine p3 F2 H' s2 hb (.ref D) ⟨⟨D, .lst ys, rfl, h2.keptF hF, h2.kept hr, ra, fun _ => hD0, fun z => nomatch z⟩, rfl, fun j b c e1 e2 => ?_⟩
      rcases rest_some e1 with ⟨hj, q⟩ | ⟨hj, q⟩
      · have z := List.all_eq_true.mp hok j hj
        rw [q] at z
        exact absurd z Bool.false_ne_true
      · rw [← wipe_at hj] at e2
        exact h2.notD hr q e2 rfl
  · rw [if_neg hok] at p1
    exact p1.elim
section
variable {X : Cx} {B : Bs} {W : WX} {elt tg iter : Expr} {ifs : List Expr} {scope : Scope} {ts : List Nat} {pos spos : Pos} {items : Mo (List PyData)} {t : Tg} {tt : Mo Bool} {fe : Mo PyData}
theorem do_lcx (own : List (Str × Nat)) (tk : Takes X W) (hc : X.calm = true) (hN : X.N.Nodup) (hi : DI X B W tg iter items) (ok : BlkOk X.N X.env.scope scope own) (hts : ∀ i ∈ ts, i ∈ own.map (·.2))
    (hg : ∀ s H cl C fp xe B', DG (blkX X s H scope cl C fp xe) B' tg ts t)
    (ht : ∀ s H cl C fp xe W', Takes (blkX X s H scope cl C fp xe) W' → DPw (blkX X s H scope cl C fp xe) W' ifs tt)
    (he : ∀ s H cl C fp xe W' B', Takes (blkX X s H scope cl C fp xe) W' → DE (blkX X s H scope cl C fp xe) B' W' elt fe)
    (hs : ∀ x, foldedSetIterable iter X.env x = pure x := by intro _; rfl) (hst : X.stack = X.env :: X.outer := by rfl) (hfr : X.env.frame = some X.env.locals := by rfl) : DO X B W (.ListComp elt [⟨tg, iter, ifs, 0⟩] scope pos) (lcxO (own.map (·.2)) items t tt fe) := by
  refine ⟨⟨fun pins s σ H Q I w => ?_⟩⟩
  rw [eval_ListComp]
  refine lcx_core (tt := tTw X.K tt) (te := tEw X.K fe) hst hfr tk hc hN I hi.pi ok (fun s H cl C fp xe => pgx (hg s H cl C fp xe)) (fun s H cl C fp xe W' tk' => (ht s H cl C fp xe W' tk').pts)
    (fun s H cl C fp xe W' tk' => ⟨fun pins s1 σ1 H1 Q1 I1 ⟨B', w1⟩ => (he s H cl C fp xe W' B' tk').pe.run pins s1 σ1 H1 Q1 I1 w1⟩) hs (lcx_ok (C := ct X B W) hts w) fun D C u m Ha I' q hn f ce cL => ?_
  subst cL
  obtain ⟨f0, f1, f2, f3, f4, f5⟩ := f
  exact ⟨m, hn, fun h'' sb => ⟨.ref D, Ha, I'.turned (t' := u.toks) (fun b o hb e => (sb.2 b hb).trans e) f0 f1 f3 f4 f5, rfl, q⟩⟩
theorem ds_setLcx (i : Nat) (own : List (Str × Nat)) {y : Str} {py : Pos} (tk : Takes X W) (hc : X.calm = true) (hN : X.N.Nodup) (hi : DI X B W tg iter items) (ok : BlkOk X.N X.env.scope scope own) (hts : ∀ i ∈ ts, i ∈ own.map (·.2))
    (hg : ∀ s H cl C fp xe B', DG (blkX X s H scope cl C fp xe) B' tg ts t)
    (ht : ∀ s H cl C fp xe W', Takes (blkX X s H scope cl C fp xe) W' → DPw (blkX X s H scope cl C fp xe) W' ifs tt)
    (he : ∀ s H cl C fp xe W' B', Takes (blkX X s H scope cl C fp xe) W' → DE (blkX X s H scope cl C fp xe) B' W' elt fe)
    (hy : X.N[i]? = some y := by rfl) (hyl : X.env.scope.names.lookup y = some .local := by rfl)
    (hsw : swapsWith (.ListComp elt [⟨tg, iter, ifs, 0⟩] scope pos) (some (.Name y py)) spos.line X.env = pure true := by rfl)
    (hs : ∀ x, foldedSetIterable iter X.env x = pure x := by intro _; rfl) (hst : X.stack = X.env :: X.outer := by rfl) (hfr : X.env.frame = some X.env.locals := by rfl) :
    DS X B W (.Assign [.Name y py] (.ListComp elt [⟨tg, iter, ifs, 0⟩] scope pos) spos) (sSetO i (lcxO (own.map (·.2)) items t tt fe)) := by
  refine ⟨⟨fun pins s σ H D I ⟨F, ρ, h, p⟩ => ?_⟩⟩
  rw [exec_Assign_Name_used _ _ _ _ hsw]
  refine wpAny_bind (wpAny_standAt (wpAny_bind ?_))
  have w : tO (ct X B W) (lcxO (own.map (·.2)) items t tt fe) σ H fun x H1 => gName i x σ H1 D.nx := ⟨F, ρ, h, (PostS.bnd p).imp fun w ρ1 F1 H1 s h1 p1 v rv => put_ok h1 rv p1⟩
  refine wpAny_bind (thn (lcx_core (Qf := fun _ t => SP X pins D .next t) (use := some (assign (.Name y py) X.env)) (tt := tTw X.K tt) (te := tEw X.K fe) hst hfr tk hc hN I hi.pi ok (fun s H cl C fp xe => pgx (hg s H cl C fp xe)) (fun s H cl C fp xe W' tk' => (ht s H cl C fp xe W' tk').pts)
    (fun s H cl C fp xe W' tk' => ⟨fun pins s1 σ1 H1 Q1 I1 ⟨B', w1⟩ => (he s H cl C fp xe W' B' tk').pe.run pins s1 σ1 H1 Q1 I1 w1⟩) hs (lcx_ok (C := ct X B W) hts w) fun L C u m Ha I' q hn f ce cL => ?_) fun _ t hq => wpAny_pure (wpAny_pure hq))
  subst cL
  show wpAny _ _ (assign (.Name y py) X.env (.ref L)) _ _ _
  refine wpAny_assign_Name (store_ok2 (v := V.ref L) I' hN hy (.inl hyl) rfl (fun s2 I2 ⟨a, sb, ha⟩ => ?_) (.inr hyl))
  obtain ⟨f0, f1, f2, f3, f4, f5⟩ := f
  have neC : ce.locals ≠ a := by
    rcases ha with z | z
    · rw [z]
      exact f1
    · exact fun e => f4 y a z e.symm
  exact ⟨m, hn.sameBut sb neC, fun h3 sb3 => ⟨_, Ha, I2.turned (t' := s2.toks) (fun b o hb e => (sb3.2 b hb).trans e) f0 f1 f3 f4 f5, q⟩⟩
end
end Dv
set_option Elab.async false
set_option linter.all false
set_option maxRecDepth 100000
set_option maxHeartbeats 2000000
namespace Dv
open PySem PySem.Spec PyProof.Rows L2
/-! ### sorted, any length: ints, texts, tuples of these -/
/-- a total order -/
structure Lin {α : Type} (lt : α → α → Bool) : Prop where
  sw : SrtO.Swo lt
  tri : ∀ x y, lt x y = false → lt y x = false → x = y
def lexG {α : Type} [DecidableEq α] (lt : α → α → Bool) : List α → List α → Bool
  | _, [] => false
  | [], _ :: _ => true
  | x :: xs, y :: ys => if x = y then lexG lt xs ys else lt x y
section
variable {α : Type} [DecidableEq α] {lt : α → α → Bool}
theorem lexG_nil {xs : List α} : lexG lt xs [] = false := by cases xs <;> rfl
theorem lexG_cons {x y : α} {xs ys : List α} : lexG lt (x :: xs) (y :: ys) = if x = y then lexG lt xs ys else lt x y := rfl
theorem lexG_asym (L : Lin lt) : ∀ xs ys, lexG lt xs ys = true → lexG lt ys xs = false
  | _, [], h => by
    rw [lexG_nil] at h
    cases h
  | [], _ :: _, _ => lexG_nil
  | x :: xs, y :: ys, h => by
    rw [lexG_cons] at h ⊢
    by_cases e : x = y
    · rw [if_pos e] at h
      rw [if_pos e.symm]
      exact lexG_asym L xs ys h
    · rw [if_neg e] at h
      rw [if_neg fun z => e z.symm]
      exact L.sw.asym _ _ h
theorem lexG_tri (L : Lin lt) : ∀ xs ys, lexG lt xs ys = false → lexG lt ys xs = false → xs = ys
  | [], [], _, _ => rfl
  | [], _ :: _, h, _ => by cases h
  | _ :: _, [], _, h => by cases h
  | x :: xs, y :: ys, h, g => by
    rw [lexG_cons] at h g
    by_cases e : x = y
    · rw [if_pos e] at h
      rw [if_pos e.symm] at g
      rw [e, lexG_tri L xs ys h g]
    · rw [if_neg e] at h
      rw [if_neg fun z => e z.symm] at g
      exact absurd (L.tri x y h g) e
theorem lexG_tr (L : Lin lt) : ∀ xs ys zs, lexG lt ys xs = false → lexG lt zs ys = false → lexG lt zs xs = false
  | [], _, _, _, _ => lexG_nil
  | x :: xs, [], _, h, _ => by cases h
  | x :: xs, y :: ys, [], _, g => by cases g
  | x :: xs, y :: ys, z :: zs, h, g => by
    rw [lexG_cons] at h g ⊢
    by_cases e1 : y = x
    · rw [if_pos e1] at h
      by_cases e2 : z = y
      · rw [if_pos e2] at g
        rw [if_pos (e2.trans e1)]
        exact lexG_tr L xs ys zs h g
      · rw [if_neg e2] at g
        rw [if_neg (by rw [← e1]; exact e2), ← e1]
        exact g
    · rw [if_neg e1] at h
      by_cases e2 : z = y
      · rw [if_pos e2] at g
        rw [if_neg (by rw [e2]; exact e1), e2]
        exact h
      · rw [if_neg e2] at g
        by_cases e3 : z = x
        · rw [e3] at g
          exact absurd (L.tri y x h g) e1
        · rw [if_neg e3]
          exact L.sw.tr x y z h g
theorem lexG_lin (L : Lin lt) : Lin (lexG lt) := ⟨⟨lexG_asym L, lexG_tr L⟩, lexG_tri L⟩
end
def ltI (i j : Int) : Bool := decide (i < j)
theorem ltI_lin : Lin ltI := by
  refine ⟨⟨fun x y h => ?_, fun x y z h g => ?_⟩, fun x y h g => ?_⟩
  · have h := of_decide_eq_true h
    exact decide_eq_false (by omega)
  · have h := of_decide_eq_false h
    have g := of_decide_eq_false g
    exact decide_eq_false (by omega)
  · have h := of_decide_eq_false h
    have g := of_decide_eq_false g
    omega
def ltK : List (List Int) → List (List Int) → Bool := lexG (lexG ltI)
theorem ltK_lin : Lin ltK := lexG_lin (lexG_lin ltI_lin)
theorem lex_nat : ∀ xs ys : List Nat, lexG ltI (xs.map Int.ofNat) (ys.map Int.ofNat) = decide (xs < ys)
  | xs, [] => by
    rw [List.map_nil, lexG_nil]
    exact (decide_eq_false (List.not_lt_nil xs)).symm
  | [], y :: ys => (decide_eq_true (List.nil_lt_cons y ys)).symm
  | x :: xs, y :: ys => by
    rw [List.map_cons, List.map_cons, lexG_cons, lex_nat xs ys]
    by_cases e : x = y
    · subst e
      rw [if_pos rfl]
      exact decide_eq_decide.mpr (by rw [List.cons_lt_cons_iff]; simp)
    · rw [if_neg fun z => e (Int.ofNat.inj z)]
      unfold ltI
      refine decide_eq_decide.mpr ?_
      rw [List.cons_lt_cons_iff]
      constructor
      · intro h
        exact .inl (Int.ofNat_lt.mp h)
      · intro h
        rcases h with h | ⟨h, _⟩
        · exact Int.ofNat_lt.mpr h
        · exact absurd h e
/-! the keys of data -/
def kdF : PyData → List Int
  | .int i => [i]
  | .str x => x.cps.toList.map Int.ofNat
  | _ => []
def kd : PyData → List (List Int)
  | .tuple es => es.map kdF
  | d => [kdF d]
def shF : PyData → Option Bool
  | .int _ => some false
  | .str _ => some true
  | _ => none
def shA : List PyData → Option (List Bool)
  | [] => some []
  | d :: ds => (shF d).bind fun b => (shA ds).map (b :: ·)
/-- of one kind: an int, a text, a tuple with these columns -/
def sh : PyData → Option (Bool × List Bool)
  | .tuple es => (match shA es with
    | some (b :: bs) => some (true, b :: bs)
    | _ => none)
  | d => (shF d).map fun b => (false, [b])
def okSort : List PyData → Bool
  | [] => true
  | d :: ds => (sh d).isSome && ds.all fun e => decide (sh e = sh d)
def insD (d : PyData) : List PyData → List PyData
  | [] => [d]
  | e :: r => if ltK (kd e) (kd d) then e :: insD d r else d :: e :: r
def srtD : List PyData → List PyData
  | [] => []
  | d :: ds => insD d (srtD ds)
/-- x stands rightly ahead of y -/
def Le (x y : PyData) : Prop := ltK (kd y) (kd x) = false
theorem ins_perm (d : PyData) : ∀ l, (insD d l).Perm (d :: l)
  | [] => .refl _
  | e :: r => by
    unfold insD
    split
    · exact ((ins_perm d r).cons e).trans (List.Perm.swap d e r)
    · exact .refl _
theorem srt_perm : ∀ l, (srtD l).Perm l
  | [] => .refl _
  | d :: ds => (ins_perm d (srtD ds)).trans ((srt_perm ds).cons d)
theorem ins_srt {d : PyData} : ∀ {l : List PyData}, l.Pairwise Le → (insD d l).Pairwise Le
  | [], _ => List.pairwise_singleton _ _
  | e :: r, h => by
    obtain ⟨h1, h2⟩ := List.pairwise_cons.mp h
    unfold insD
    split
    · rename_i c
      refine List.pairwise_cons.mpr ⟨fun x hx => ?_, ins_srt h2⟩
      rcases List.mem_cons.mp ((ins_perm d r).mem_iff.mp hx) with rfl | hx
      · exact ltK_lin.sw.asym _ _ c
      · exact h1 x hx
    · rename_i c
      have c : ltK (kd e) (kd d) = false := by simpa using c
      refine List.pairwise_cons.mpr ⟨fun x hx => ?_, h⟩
      rcases List.mem_cons.mp hx with rfl | hx
      · exact c
      · exact ltK_lin.sw.tr _ _ _ c (h1 x hx)
theorem srt_srt : ∀ l : List PyData, (srtD l).Pairwise Le
  | [] => .nil
  | d :: ds => ins_srt (srt_srt ds)
theorem uniq {l m : List (List (List Int))} (hp : l.Perm m) (hl : l.Pairwise fun x y => ltK y x = false) (hm : m.Pairwise fun x y => ltK y x = false) : l = m := by
  induction l generalizing m with
  | nil => exact (List.Perm.eq_nil hp.symm).symm
  | cons x l ih =>
    cases m with
    | nil => exact absurd hp.length_eq (by simp)
    | cons y m =>
      obtain ⟨h1, h2⟩ := List.pairwise_cons.mp hl
      obtain ⟨g1, g2⟩ := List.pairwise_cons.mp hm
      have refl : ∀ z, ltK z z = false := fun z => ltK_lin.sw.refl z
      have a1 : ltK y x = false := by
        rcases List.mem_cons.mp (hp.mem_iff.mpr (List.mem_cons_self (a := y) (l := m))) with e | hy
        · rw [e]
          exact refl x
        · exact h1 y hy
      have a2 : ltK x y = false := by
        rcases List.mem_cons.mp (hp.mem_iff.mp (List.mem_cons_self (a := x) (l := l))) with e | hx
        · rw [e]
          exact refl y
        · exact g1 x hx
      have e := ltK_lin.tri x y a2 a1
      subst e
      rw [ih hp.cons_inv h2 g2]
theorem kdF_inj {d e : PyData} {b : Bool} (h : shF d = some b) (g : shF e = some b) (k : kdF d = kdF e) : d = e := by
  cases d with
  | int i =>
    cases h
    cases e with
    | int j =>
      have k : [i] = [j] := k
      cases k
      rfl
    | str y => cases g
    | _ => cases g
  | str x =>
    cases h
    cases e with
    | str y =>
      have k : x.cps.toList.map Int.ofNat = y.cps.toList.map Int.ofNat := k
      have k2 := List.map_inj_right (f := Int.ofNat) (fun _ _ z => Int.ofNat.inj z) |>.mp k
      have k3 : x.cps = y.cps := Array.toList_inj.mp k2
      obtain ⟨x⟩ := x
      obtain ⟨y⟩ := y
      cases k3
      rfl
    | int j => cases g
    | _ => cases g
  | _ => cases h
theorem kdA_inj : ∀ {ds es : List PyData} {bs : List Bool}, shA ds = some bs → shA es = some bs → ds.map kdF = es.map kdF → ds = es
  | [], [], _, _, _, _ => rfl
  | [], _ :: _, _, _, _, k => by cases k
  | _ :: _, [], _, _, _, k => by cases k
  | d :: ds, e :: es, bs, h, g, k => by
    unfold shA at h g
    cases q1 : shF d with
    | none =>
      rw [q1] at h
      cases h
    | some b =>
      cases q2 : shA ds with
      | none =>
        rw [q1, q2] at h
        cases h
      | some cs =>
        cases q3 : shF e with
        | none =>
          rw [q3] at g
          cases g
        | some b' =>
          cases q4 : shA es with
          | none =>
            rw [q3, q4] at g
            cases g
          | some cs' =>
            rw [q1, q2] at h
            rw [q3, q4] at g
            have h : some (b :: cs) = some bs := h
            have g : some (b' :: cs') = some bs := g
            cases h
            cases g
            rw [List.map_cons, List.map_cons] at k
            obtain ⟨k1, k2⟩ := List.cons.inj k
            rw [kdF_inj q1 q3 k1, kdA_inj q2 q4 k2]
theorem kd_inj {d e : PyData} {w : Bool × List Bool} (h : sh d = some w) (g : sh e = some w) (k : kd d = kd e) : d = e := by
  have flat : ∀ {x : PyData} {b}, (∀ es, x ≠ .tuple es) → sh x = some (b, w.2) → b = false ∧ ∃ c, shF x = some c ∧ w.2 = [c] ∧ kd x = [kdF x] := fun {x b} n hx => by
    have e1 : sh x = (shF x).map fun b => (false, [b]) := by cases x <;> first | rfl | exact absurd rfl (n _)
    have e2 : kd x = [kdF x] := by cases x <;> first | rfl | exact absurd rfl (n _)
    rw [e1] at hx
    cases q : shF x with
    | none =>
      rw [q] at hx
      cases hx
    | some c =>
      rw [q] at hx
      have hx : some (false, [c]) = some (b, w.2) := hx
      injection hx with hx
      injection hx with h1 h2
      exact ⟨h1.symm, c, rfl, h2.symm, e2⟩
  have tup : ∀ {es : List PyData}, sh (.tuple es) = some w → w.1 = true ∧ shA es = some w.2 := fun {es} hx => by
    have hx : (match shA es with | some (b :: bs) => some (true, b :: bs) | _ => none) = some w := hx
    split at hx
    · rename_i b bs q
      cases hx
      exact ⟨rfl, q⟩
    · cases hx
  by_cases hd : ∃ es, d = .tuple es
  · obtain ⟨es, rfl⟩ := hd
    obtain ⟨w1, h1⟩ := tup h
    by_cases he : ∃ fs, e = .tuple fs
    · obtain ⟨fs, rfl⟩ := he
      obtain ⟨_, g1⟩ := tup g
      rw [kdA_inj h1 g1 k]
    · have z := (flat (b := w.1) (fun fs z => he ⟨fs, z⟩) g).1
      rw [w1] at z
      cases z
  · obtain ⟨w1, c, h1, h2, h3⟩ := flat (b := w.1) (fun fs z => hd ⟨fs, z⟩) h
    by_cases he : ∃ fs, e = .tuple fs
    · obtain ⟨fs, rfl⟩ := he
      have z := (tup g).1
      rw [w1] at z
      cases z
    · obtain ⟨_, c', g1, g2, g3⟩ := flat (b := w.1) (fun fs z => he ⟨fs, z⟩) g
      rw [h3, g3] at k
      rw [h2] at g2
      cases g2
      exact kdF_inj h1 g1 (List.cons.inj k).1
theorem map_inj_on {l m : List PyData} {w : Bool × List Bool} (hl : ∀ x ∈ l, sh x = some w) (hm : ∀ x ∈ m, sh x = some w) (k : l.map kd = m.map kd) : l = m := by
  induction l generalizing m with
  | nil =>
    cases m with
    | nil => rfl
    | cons y m => cases k
  | cons x l ih =>
    cases m with
    | nil => cases k
    | cons y m =>
      rw [List.map_cons, List.map_cons] at k
      obtain ⟨k1, k2⟩ := List.cons.inj k
      rw [kd_inj (hl x List.mem_cons_self) (hm y List.mem_cons_self) k1, ih (fun z hz => hl z (List.mem_cons_of_mem _ hz)) (fun z hz => hm z (List.mem_cons_of_mem _ hz)) k2]
/-- the sorted list is the one of srtD -/
theorem srt_uniq {ds es : List PyData} {w : Bool × List Bool} (hw : ∀ x ∈ ds, sh x = some w) (hp : es.Perm ds) (hs : es.Pairwise Le) : es = srtD ds := by
  have p2 : es.Perm (srtD ds) := hp.trans (srt_perm ds).symm
  refine map_inj_on (w := w) (fun x hx => hw x (hp.mem_iff.mp hx)) (fun x hx => hw x ((srt_perm ds).mem_iff.mp hx)) ?_
  exact uniq (p2.map kd) (List.pairwise_map.mpr hs) (List.pairwise_map.mpr (srt_srt ds))
/-! values of that kind -/
def kvF : Value → List Int
  | .int i _ => [i]
  | .str x _ => x.cps.toList.map Int.ofNat
  | _ => []
def kv (h : Heap) : Value → List (List Int)
  | .ref a => (match h.get? a with
    | some o => (match o.data with
      | .seq its _ => its.toList.map kvF
      | _ => [])
    | none => [])
  | v => [kvF v]
def IsF (v : Value) : PyData → Prop
  | .int i => ∃ t, v = .int i t
  | .str x => ∃ t, v = .str x t
  | _ => False
inductive IsFA : List Value → List PyData → Prop
  | nil : IsFA [] []
  | cons {v : Value} {d : PyData} {vs : List Value} {ds : List PyData} (h : IsF v d) (r : IsFA vs ds) : IsFA (v :: vs) (d :: ds)
def ItD (h : Heap) (v : Value) : PyData → Prop
  | .tuple es => ∃ a o its n, v = .ref a ∧ h.get? a = some o ∧ o.cls = .type "tuple" ∧ o.data = .seq its n ∧ IsFA its.toList es
  | d => IsF v d
theorem IsF.kv {v : Value} {d : PyData} (h : IsF v d) : kvF v = kdF d := by
  cases d with
  | int i =>
    obtain ⟨t, rfl⟩ := h
    rfl
  | str x =>
    obtain ⟨t, rfl⟩ := h
    rfl
  | _ => exact h.elim
theorem IsFA.kv : ∀ {vs : List Value} {ds : List PyData}, IsFA vs ds → vs.map kvF = ds.map kdF
  | _, _, .nil => rfl
  | _, _, .cons h r => by rw [List.map_cons, List.map_cons, h.kv, r.kv]
theorem IsFA.len : ∀ {vs : List Value} {ds : List PyData}, IsFA vs ds → vs.length = ds.length
  | _, _, .nil => rfl
  | _, _, .cons h r => congrArg (· + 1) r.len
theorem ItD.kv {h : Heap} {v : Value} {d : PyData} (x : ItD h v d) : Dv.kv h v = kd d := by
  cases d with
  | tuple es =>
    obtain ⟨a, o, its, n, rfl, e1, e2, e3, e4⟩ := x
    show (match h.get? a with | some o => (match o.data with | .seq its _ => its.toList.map kvF | _ => []) | none => []) = _
    rw [e1]
    show (match o.data with | .seq its _ => its.toList.map kvF | _ => []) = _
    rw [e3]
    exact e4.kv
  | int i =>
    obtain ⟨t, rfl⟩ := x
    rfl
  | str x =>
    obtain ⟨t, rfl⟩ := x
    rfl
  | _ => exact x.elim
theorem ItD.keeps {h h' : Heap} {v : Value} {d : PyData} (x : ItD h v d) (k : ∀ b o, h.get? b = some o → o.cls = .type "tuple" → h'.get? b = some o) : ItD h' v d := by
  cases d with
  | tuple es =>
    obtain ⟨a, o, its, n, e0, e1, e2, e3, e4⟩ := x
    exact ⟨a, o, its, n, e0, k _ _ e1 e2, e2, e3, e4⟩
  | int i => exact x
  | str x' => exact x
  | _ => exact x.elim
def ltV (h : Heap) (v u : Value) : Bool := ltK (kv h v) (kv h u)
theorem swoV (h : Heap) : SrtO.Swo (ltV h) := ⟨fun _ _ => ltK_lin.sw.asym _ _, fun _ _ _ => ltK_lin.sw.tr _ _ _⟩
section
variable {prog : Program} {w : World} {A : Around} {E : Value → Shared → Prop} {s : Shared}
theorem oneF {f : Bool} {u v : Value} {d e : PyData} {b : Bool} {Q : Bool → Shared → Prop} (h1 : IsF u d) (h2 : IsF v e) (g1 : shF d = some b) (g2 : shF e = some b) (q : Q (lexG ltI (kdF d) (kdF e)) s) : wpAny (model prog w) A (oneLt' f u v) Q E s := by
  cases d with
  | int i =>
    obtain ⟨t, rfl⟩ := h1
    cases g1
    cases e with
    | int j =>
      obtain ⟨t', rfl⟩ := h2
      refine oneLt_any_int ?_
      have e : lexG ltI [i] [j] = decide (i < j) := by
        rw [lexG_cons]
        by_cases z : i = j
        · rw [if_pos z, z]
          exact (decide_eq_false (Int.lt_irrefl j)).symm
        · rw [if_neg z]
          rfl
      have q : Q (lexG ltI [i] [j]) s := q
      rw [e] at q
      exact q
    | _ => first | cases g2 | exact h2.elim
  | str x =>
    obtain ⟨t, rfl⟩ := h1
    cases g1
    cases e with
    | str y =>
      obtain ⟨t', rfl⟩ := h2
      refine oneLt_any_str ?_
      have q : Q (lexG ltI (x.cps.toList.map Int.ofNat) (y.cps.toList.map Int.ofNat)) s := q
      rw [lex_nat] at q
      exact q
    | _ => first | cases g2 | exact h2.elim
  | _ => exact h1.elim
theorem eqF {u v : Value} {d e : PyData} {b : Bool} (h1 : IsF u d) (h2 : IsF v e) (g1 : shF d = some b) (g2 : shF e = some b) : SeqAt.EqAt A s u v (decide (kdF d = kdF e)) := by
  cases d with
  | int i =>
    obtain ⟨t, rfl⟩ := h1
    cases g1
    cases e with
    | int j =>
      obtain ⟨t', rfl⟩ := h2
      have e : decide (kdF (.int i) = kdF (.int j)) = (i == j) := by
        show decide ([i] = [j]) = _
        by_cases z : i = j <;> simp [z]
      rw [e]
      exact SeqAt.EqAt.int_int i t j t'
    | _ => first | cases g2 | exact h2.elim
  | str x =>
    obtain ⟨t, rfl⟩ := h1
    cases g1
    cases e with
    | str y =>
      obtain ⟨t', rfl⟩ := h2
      have e : decide (kdF (.str x) = kdF (.str y)) = (x == y) := by
        by_cases z : x = y
        · subst z
          simp
        · have n : ¬ kdF (.str x) = kdF (.str y) := fun k => z (PyData.str.inj (kdF_inj (b := true) rfl rfl k))
          rw [decide_eq_false n]
          exact (beq_eq_false_iff_ne.mpr z).symm
      rw [e]
      exact SeqAt.EqAt.str_str x t y t'
    | _ => first | cases g2 | exact h2.elim
  | _ => exact h1.elim
theorem lexA {b : Bool} {Q : Bool → Shared → Prop} : ∀ {us vs : List Value} {ds es : List PyData} {bs : List Bool} {i : Nat}, IsFA us ds → IsFA vs es → shA ds = some bs → shA es = some bs → Q (ltK (ds.map kdF) (es.map kdF)) s →
    PySem.W.KatLex prog w A b false Q (us.zip vs) i s
  | _, _, _, _, _, _, .nil, .nil, _, _, q => PySem.W.kat_nil q
  | _, _, _, _, _, _, .nil, .cons h r, g1, g2, q => by
    cases g1
    unfold shA at g2
    rename_i v d vs ds
    cases q1 : shF d with
    | none => rw [q1] at g2; cases g2
    | some c =>
      cases q2 : shA ds with
      | none => rw [q1, q2] at g2; cases g2
      | some cs => rw [q1, q2] at g2; cases g2
  | _, _, _, _, _, _, .cons h r, .nil, g1, g2, q => by
    cases g2
    unfold shA at g1
    rename_i v d vs ds
    cases q1 : shF d with
    | none => rw [q1] at g1; cases g1
    | some c =>
      cases q2 : shA ds with
      | none => rw [q1, q2] at g1; cases g1
      | some cs => rw [q1, q2] at g1; cases g1
  | _, _, _, _, _, i, @IsFA.cons u d us ds h1 r1, @IsFA.cons v e vs es h2 r2, g1, g2, q => by
    unfold shA at g1 g2
    cases q1 : shF d with
    | none => rw [q1] at g1; cases g1
    | some c =>
      cases q2 : shA ds with
      | none => rw [q1, q2] at g1; cases g1
      | some cs =>
        cases q3 : shF e with
        | none => rw [q3] at g2; cases g2
        | some c' =>
          cases q4 : shA es with
          | none => rw [q3, q4] at g2; cases g2
          | some cs' =>
            rw [q1, q2] at g1
            rw [q3, q4] at g2
            have g1 : some (c :: cs) = _ := g1
            have g2 : some (c' :: cs') = _ := g2
            have ee := g1.trans g2.symm
            simp only [Option.some.injEq, List.cons.injEq] at ee
            obtain ⟨rfl, rfl⟩ := ee
            have q : Q (ltK (kdF d :: ds.map kdF) (kdF e :: es.map kdF)) s := q
            have eq : ltK (kdF d :: ds.map kdF) (kdF e :: es.map kdF) = if kdF d = kdF e then ltK (ds.map kdF) (es.map kdF) else lexG ltI (kdF d) (kdF e) := rfl
            rw [eq] at q
            refine PySem.W.kat_cons (eqF h1 h2 q1 q3 prog w _ _ ?_)
            refine PySem.W.kat_go (fun z => ?_) fun z => ?_
            · have z := of_decide_eq_true z
              rw [if_pos z] at q
              exact PySem.W.kat_yes (lexA r1 r2 q2 q4 q)
            · have z := of_decide_eq_false z
              rw [if_neg z] at q
              exact PySem.W.kat_no (oneF h1 h2 q1 q3 q)
theorem sh_cases {d : PyData} {w : Bool × List Bool} (h : sh d = some w) : (w = (false, [false]) ∧ ∃ i, d = .int i) ∨ (w = (false, [true]) ∧ ∃ x, d = .str x) ∨ (∃ b bs es, w = (true, b :: bs) ∧ d = .tuple es ∧ shA es = some (b :: bs)) := by
  cases d with
  | int i =>
    cases h
    exact .inl ⟨rfl, i, rfl⟩
  | str x =>
    cases h
    exact .inr (.inl ⟨rfl, x, rfl⟩)
  | tuple es =>
    have h : (match shA es with | some (b :: bs) => some (true, b :: bs) | _ => none) = some w := h
    split at h
    · rename_i b bs q
      cases h
      exact .inr (.inr ⟨b, bs, es, rfl, rfl, q⟩)
    · cases h
  | _ => cases h
/-- all of these values are of the kind w -/
def AllD (h : Heap) (w : Bool × List Bool) (vs : List Value) : Prop := ∀ v ∈ vs, ∃ d, ItD h v d ∧ sh d = some w
theorem all_ints {h : Heap} : ∀ {vs : List Value}, AllD h (false, [false]) vs → ∃ ns, IntsAre vs ns
  | [], _ => ⟨[], .nil⟩
  | v :: vs, a => by
    obtain ⟨d, h1, h2⟩ := a v List.mem_cons_self
    obtain ⟨ns, h3⟩ := all_ints fun u hu => a u (List.mem_cons_of_mem _ hu)
    rcases sh_cases h2 with ⟨_, i, rfl⟩ | ⟨z, _⟩ | ⟨_, _, _, z, _⟩
    · obtain ⟨t, rfl⟩ := h1
      exact ⟨i :: ns, .cons i t h3⟩
    · cases z
    · cases z
theorem all_strs {h : Heap} : ∀ {vs : List Value}, AllD h (false, [true]) vs → ∃ ns, StrsAre vs ns
  | [], _ => ⟨[], .nil⟩
  | v :: vs, a => by
    obtain ⟨d, h1, h2⟩ := a v List.mem_cons_self
    obtain ⟨ns, h3⟩ := all_strs fun u hu => a u (List.mem_cons_of_mem _ hu)
    rcases sh_cases h2 with ⟨z, _⟩ | ⟨_, x, rfl⟩ | ⟨_, _, _, z, _⟩
    · cases z
    · obtain ⟨t, rfl⟩ := h1
      exact ⟨x :: ns, .cons x t h3⟩
    · cases z
def tyB : Bool → Value
  | false => .type "int"
  | true => .type "str"
theorem firsts {h : Heap} {b : Bool} {bs : List Bool} : ∀ {vs : List Value}, AllD h (true, b :: bs) vs → ∃ fs, PySem.W.KatTups h vs fs ∧ fs.length = vs.length ∧ ∀ f ∈ fs, ∀ (M : Model), PySem.W.Looks M h (typeOf f) (tyB b)
  | [], _ => ⟨[], trivial, rfl, fun f hf => absurd hf (by simp)⟩
  | v :: vs, a => by
    obtain ⟨d, h1, h2⟩ := a v List.mem_cons_self
    obtain ⟨fs, h3, h4, h5⟩ := firsts fun u hu => a u (List.mem_cons_of_mem _ hu)
    rcases sh_cases h2 with ⟨z, _⟩ | ⟨z, _⟩ | ⟨b', bs', es, z, rfl, q⟩
    · cases z
    · cases z
    · cases z
      obtain ⟨x, o, its, n, rfl, e1, e2, e3, e4⟩ := h1
      obtain ⟨its⟩ := its
      have e4 : IsFA its es := e4
      cases e4 with
      | nil => cases q
      | @cons f d us ds hf r =>
        refine ⟨f :: fs, ⟨⟨x, o, _, n, rfl, e1, e2, e3, rfl⟩, h3⟩, by rw [List.length_cons, h4]; rfl, fun g hg M => ?_⟩
        rcases List.mem_cons.mp hg with rfl | hg
        · unfold shA at q
          cases q1 : shF d with
          | none => rw [q1] at q; cases q
          | some c =>
            cases q2 : shA ds with
            | none => rw [q1, q2] at q; cases q
            | some cs =>
              rw [q1, q2] at q
              have q : some (c :: cs) = some (b :: bs) := q
              cases q
              cases d with
              | int i =>
                obtain ⟨t, rfl⟩ := hf
                cases q1
                exact PySem.W.Looks.now
              | str x =>
                obtain ⟨t, rfl⟩ := hf
                cases q1
                exact PySem.W.Looks.now
              | _ => exact hf.elim
        · exact h5 g hg M
theorem cmpD {κ : SortKind} {wd : Bool × List Bool} {vs : List Value} {h0 : Heap} (a : AllD s.heap wd vs) (e0 : ∀ v ∈ vs, kv h0 v = kv s.heap v) (hκ : (wd.1 = false ∧ κ = oneType') ∨ (wd.1 = true ∧ κ = tuples' true)) : SrtO.Cmp prog w A s κ (fun p => p.1 ∈ vs) (SrtO.lt2 (ltV h0)) := by
  intro p q hp hq
  obtain ⟨d, hd, sd⟩ := a _ hp
  obtain ⟨e, he, se⟩ := a _ hq
  have el : SrtO.lt2 (ltV h0) p q = ltK (kd d) (kd e) := by
    show ltK (kv h0 p.1) (kv h0 q.1) = _
    rw [e0 _ hp, e0 _ hq, hd.kv, he.kv]
  rw [el]
  rcases hκ with ⟨hw, rfl⟩ | ⟨hw, rfl⟩
  · have flat : ∀ {x : PyData}, sh x = some wd → ∃ b, wd = (false, [b]) ∧ shF x = some b ∧ kd x = [kdF x] ∧ ∀ {h v}, ItD h v x → IsF v x := fun {x} hx => by
      rcases sh_cases hx with ⟨z, i, rfl⟩ | ⟨z, y, rfl⟩ | ⟨b, bs, es, z, _⟩
      · exact ⟨false, z, rfl, rfl, fun h => h⟩
      · exact ⟨true, z, rfl, rfl, fun h => h⟩
      · rw [z] at hw
        cases hw
    obtain ⟨b, w1, f1, k1, c1⟩ := flat sd
    obtain ⟨b', w2, f2, k2, c2⟩ := flat se
    rw [w1] at w2
    cases w2
    rw [keyLt'_oneType]
    refine oneF (c1 hd) (c2 he) f1 f2 ⟨rfl, ?_⟩
    rw [k1, k2]
    show _ = lexG (lexG ltI) [kdF d] [kdF e]
    rw [lexG_cons]
    by_cases z : kdF d = kdF e
    · rw [if_pos z, z]
      exact (lexG_lin ltI_lin).sw.refl _
    · rw [if_neg z]
  · rcases sh_cases sd with ⟨z, _⟩ | ⟨z, _⟩ | ⟨b, bs, es, z, rfl, g1⟩
    · rw [z] at hw
      cases hw
    · rw [z] at hw
      cases hw
    · rcases sh_cases se with ⟨z2, _⟩ | ⟨z2, _⟩ | ⟨b', bs', es', z2, rfl, g2⟩
      · rw [z2] at hw
        cases hw
      · rw [z2] at hw
        cases hw
      · rw [z] at z2
        cases z2
        obtain ⟨x, o, its, n, e1, e2, e3, e4, e5⟩ := hd
        obtain ⟨x', o', its', n', e1', e2', e3', e4', e5'⟩ := he
        rw [e1, e1']
        refine PySem.W.kat_lt e2 e4 e2' e4' ?_
        have hl : ∀ {ds : List PyData} {cs : List Bool}, shA ds = some cs → ds.length = cs.length := by
          intro ds
          induction ds with
          | nil =>
            intro cs h
            cases h
            rfl
          | cons d ds ih =>
            intro cs h
            unfold shA at h
            cases q1 : shF d with
            | none => rw [q1] at h; cases h
            | some c =>
              cases q2 : shA ds with
              | none => rw [q1, q2] at h; cases h
              | some cs' =>
                rw [q1, q2] at h
                have h : some (c :: cs') = some cs := h
                cases h
                rw [List.length_cons, List.length_cons, ih q2]
        have ez : decide (its.size < its'.size) = false := by
          refine decide_eq_false ?_
          rw [← Array.length_toList, ← Array.length_toList, e5.len, e5'.len, hl g1, hl g2]
          exact Nat.lt_irrefl _
        rw [ez]
        exact lexA e5 e5' g1 g2 ⟨rfl, rfl⟩
theorem sortableD {a : Addr} {vs : List Value} {wd : Bool × List Bool} (h2 : 2 ≤ vs.length) (al : AllD s.heap wd vs) (na : ∀ o, s.heap.get? a = some o → o.cls ≠ .type "tuple") {h0 : Heap} (e0 : ∀ v ∈ vs, kv h0 v = kv s.heap v) : SrtO.SortableO prog w A s a vs (ltV h0) := by
  intro h' keep
  have al' : AllD h' wd vs := fun v hv => by
    obtain ⟨d, h1, h3⟩ := al v hv
    exact ⟨d, h1.keeps fun b o e c => keep b o (fun z => by subst z; exact na o e c) e, h3⟩
  have e0' : ∀ v ∈ vs, kv h0 v = kv h' v := fun v hv => by
    obtain ⟨d, h1, h3⟩ := al v hv
    rw [e0 v hv, h1.kv, (h1.keeps (h' := h') fun b o e c => keep b o (fun z => by subst z; exact na o e c) e).kv]
  obtain ⟨v0, hv0⟩ : ∃ v, v ∈ vs := by
    cases vs with
    | nil => exact absurd h2 (by decide)
    | cons v _ => exact ⟨v, List.mem_cons_self⟩
  obtain ⟨d0, _, sd0⟩ := al v0 hv0
  rcases sh_cases sd0 with ⟨z, _⟩ | ⟨z, _⟩ | ⟨b, bs, _, z, _⟩
  · subst z
    refine ⟨oneType', fun Q E hq => ?_, cmpD (s := { s with heap := h' }) al' e0' (.inl ⟨rfl, rfl⟩)⟩
    obtain ⟨ns, hI⟩ := all_ints al'
    match vs, hI, h2 with
    | v1 :: v2 :: rest, hI, _ =>
      rw [keyKind_ints hI]
      exact wpAny_pure hq
    | [v], _, h => exact absurd h (by simp)
    | [], _, h => exact absurd h (by simp)
  · subst z
    refine ⟨oneType', fun Q E hq => ?_, cmpD (s := { s with heap := h' }) al' e0' (.inl ⟨rfl, rfl⟩)⟩
    obtain ⟨ns, hI⟩ := all_strs al'
    match vs, hI, h2 with
    | v1 :: v2 :: rest, hI, _ =>
      rw [keyKind_strs hI]
      exact wpAny_pure hq
    | [v], _, h => exact absurd h (by simp)
    | [], _, h => exact absurd h (by simp)
  · subst z
    refine ⟨tuples' true, fun Q E hq => ?_, cmpD (s := { s with heap := h' }) al' e0' (.inr ⟨rfl, rfl⟩)⟩
    obtain ⟨fs, h1, h3, h4⟩ := firsts al'
    refine PySem.W.kat_kind (T := tyB b) h1 (by omega) (fun f hm => h4 f hm _) (by cases b <;> rfl) ?_
    have e : (tyB b != Value.type "tuple") = true := by cases b <;> first | decide +kernel | rfl | decide
    rw [e]
    exact hq
end
theorem perm_lift {α β : Type} {P : List (α × β)} {out : List α} (h : out.Perm (P.map (·.1))) : ∃ P' : List (α × β), P'.Perm P ∧ P'.map (·.1) = out := by
  generalize hm : P.map (·.1) = m at h
  induction h generalizing P with
  | nil =>
    cases P with
    | nil => exact ⟨[], .refl _, rfl⟩
    | cons _ _ => cases hm
  | cons x _ ih =>
    cases P with
    | nil => cases hm
    | cons p P =>
      rw [List.map_cons] at hm
      obtain ⟨e1, e2⟩ := List.cons.inj hm
      subst e1
      obtain ⟨P', h1, h2⟩ := ih e2
      exact ⟨p :: P', h1.cons p, by rw [List.map_cons, h2]⟩
  | swap x y l =>
    match P, hm with
    | p :: q :: P, hm =>
      rw [List.map_cons, List.map_cons] at hm
      obtain ⟨e1, e2⟩ := List.cons.inj hm
      obtain ⟨e3, e4⟩ := List.cons.inj e2
      subst e1 e3 e4
      exact ⟨q :: p :: P, List.Perm.swap p q P, rfl⟩
  | trans _ _ ih1 ih2 =>
    obtain ⟨P1, h1, h2⟩ := ih2 hm
    obtain ⟨P2, h3, h4⟩ := ih1 h2
    exact ⟨P2, h3.trans h1, h4⟩
/-! the rule -/
def rSortD (K : PySem.W.Frag) : List V → Hp → VK → Prop := fun vs H Q => ∃ (a : Addr) (xs : List V) (ds : List PyData) (F : Hp), vs = [V.ref a] ∧ SqL K H a xs ∧ RpA K F xs ds ∧ Same F H ∧ okSort ds = true ∧ ∀ ys p, RpA K F ys (srtD ds) → H p = none → Q (.ref p) (upd H p (.lst ys))
theorem okSort_w {ds : List PyData} (h : okSort ds = true) : ∃ w, ∀ x ∈ ds, sh x = some w := by
  cases ds with
  | nil => exact ⟨(false, []), fun x hx => absurd hx (by simp)⟩
  | cons d ds =>
    obtain ⟨h1, h2⟩ := Bool.and_eq_true_iff.mp h
    obtain ⟨w, hw⟩ := Option.isSome_iff_exists.mp h1
    refine ⟨w, fun x hx => ?_⟩
    rcases List.mem_cons.mp hx with rfl | hx
    · exact hw
    · rw [of_decide_eq_true (List.all_eq_true.mp h2 x hx), hw]
theorem isF_of {K : PySem.W.Frag} {F : Hp} {v : V} {d : PyData} {u : Value} {b : Bool} (r : Rp K F v d) (g : shF d = some b) (ru : RelV v u) : IsF u d := by
  cases r with
  | int i => exact ru
  | str x h => exact ru
  | _ => cases g
theorem isFA_of {K : PySem.W.Frag} {F : Hp} : ∀ {vs : List V} {ds : List PyData} {us : List Value} {bs : List Bool}, RpA K F vs ds → shA ds = some bs → Vals vs us → IsFA us ds
  | _, _, _, _, .nil, _, .nil => .nil
  | _, _, _, _, @RpA.cons _ _ v vs d ds r rs, g, .cons ru rus => by
    unfold shA at g
    cases q1 : shF d with
    | none => rw [q1] at g; cases g
    | some c =>
      cases q2 : shA ds with
      | none => rw [q1, q2] at g; cases g
      | some cs => exact .cons (isF_of r q1 ru) (isFA_of rs q2 rus)
theorem isD_of {K : PySem.W.Frag} {P : Program} {w : World} {F H : Hp} {h : Heap} {v : V} {d : PyData} {u : Value} {wd : Bool × List Bool} (s : Same F H) (ok : HOk P w H h) (r : Rp K F v d) (g : sh d = some wd) (ru : RelV v u) : ItD h u d := by
  rcases sh_cases g with ⟨_, i, rfl⟩ | ⟨_, x, rfl⟩ | ⟨b, bs, es, _, rfl, q⟩
  · exact isF_of (b := false) r rfl ru
  · exact isF_of (b := true) r rfl ru
  · cases r with
    | @tup a vs _ e rs =>
      cases (show u = Value.ref a from ru)
      obtain ⟨_, its, rv, o, ho, hc, n, hd⟩ := (show ObjOk P w H h a (.tup vs) from ok a _ (s _ _ e))
      exact ⟨a, o, its.toArray, n, rfl, ho, hc, hd, by simpa using isFA_of rs q rv⟩
theorem trip {K : PySem.W.Frag} {P : Program} {w : World} {F H : Hp} {h : Heap} {wd : Bool × List Bool} (sm : Same F H) (ok : HOk P w H h) : ∀ {us : List Value} {xs : List V} {ds : List PyData}, Vals xs us → RpA K F xs ds → (∀ x ∈ ds, sh x = some wd) →
    ∃ P : List (Value × (V × PyData)), P.map (·.1) = us ∧ P.map (·.2.2) = ds ∧ ∀ p ∈ P, RelV p.2.1 p.1 ∧ Rp K F p.2.1 p.2.2 ∧ ItD h p.1 p.2.2 ∧ sh p.2.2 = some wd
  | [], [], [], _, _, _ => ⟨[], rfl, rfl, fun p hp => absurd hp (by simp)⟩
  | u :: us, x :: xs, d :: ds, .cons ru rus, .cons r rs, hw => by
    obtain ⟨P, h1, h2, h3⟩ := trip sm ok rus rs fun x hx => hw x (List.mem_cons_of_mem _ hx)
    refine ⟨(u, (x, d)) :: P, by rw [List.map_cons, h1], by rw [List.map_cons, h2], fun p hp => ?_⟩
    rcases List.mem_cons.mp hp with rfl | hp
    · exact ⟨ru, r, isD_of sm ok r (hw _ List.mem_cons_self) ru, hw _ List.mem_cons_self⟩
    · exact h3 p hp
section
variable {X : Cx}
theorem cr_sortedD : CallR X (.builtin "sorted") (rSortD X.K) := by
  intro pins s σ H vs us Q I r h
  obtain ⟨a, xs, ds, F, rfl, hs, ra, sm, ho, q⟩ := h
  obtain ⟨its, rv, hl, hz⟩ := I.list hs
  rw [Vals.ref1 r]
  obtain ⟨wd, hw⟩ := okSort_w ho
  obtain ⟨P, p1, p2, p3⟩ := trip sm I.hok rv ra hw
  have al : AllD s.heap wd its := fun v hv => by
    rw [← p1] at hv
    obtain ⟨p, hp, rfl⟩ := List.mem_map.mp hv
    exact ⟨p.2.2, (p3 p hp).2.2.1, (p3 p hp).2.2.2⟩
  refine SrtO.sorted_ord (swoV s.heap) hl.isList (by rw [← rv.length]; exact hz) (fun h2 h₁ a' ha' k1 => ?_) fun out h1 h2 => ?_
  · have al1 : AllD h₁ wd its := fun v hv => by
      obtain ⟨d, g1, g2⟩ := al v hv
      exact ⟨d, g1.keeps fun b o e _ => (k1 b o e).2, g2⟩
    refine sortableD (s := { s with heap := h₁ }) h2 al1 (fun o e c => ?_) fun v hv => ?_
    · have e' : some o = some (seqObj "list" its.toArray 0) := e.symm.trans ha'
      cases e'
      exact absurd (Value.type.inj c) (by decide)
    · obtain ⟨d, g1, g2⟩ := al v hv
      rw [g1.kv, (g1.keeps (h' := h₁) fun b o e _ => (k1 b o e).2).kv]
  · obtain ⟨P', q1, q2⟩ := perm_lift (P := P) (out := out) (by rw [p1]; exact h2.perm)
    have m3 : ∀ p ∈ P', RelV p.2.1 p.1 ∧ Rp X.K F p.2.1 p.2.2 ∧ ItD s.heap p.1 p.2.2 ∧ sh p.2.2 = some wd := fun p hp => p3 p (q1.mem_iff.mp hp)
    have es : P'.map (·.2.2) = srtD ds := by
      refine srt_uniq hw (by rw [← p2]; exact q1.map _) ?_
      have h1' : (P'.map (·.1)).Pairwise fun x y => ltV s.heap y x = false := by
        rw [q2]
        exact h1
      rw [List.pairwise_map] at h1' ⊢
      refine h1'.imp_of_mem fun {x y} hx hy z => ?_
      show ltK (kd y.2.2) (kd x.2.2) = false
      rw [← (m3 y hy).2.2.1.kv, ← (m3 x hx).2.2.1.kv]
      exact z
    have rp : RpA X.K F (P'.map (·.2.1)) (srtD ds) := by
      rw [← es]
      clear es q2 q1
      induction P' with
      | nil => exact .nil
      | cons p P' ih => exact .cons (m3 p List.mem_cons_self).2.1 (ih fun z hz => m3 z (List.mem_cons_of_mem _ hz))
    have vo : Vals (P'.map (·.2.1)) out := by
      rw [← q2]
      clear es q2 q1 rp
      induction P' with
      | nil => exact .nil
      | cons p P' ih => exact .cons (m3 p List.mem_cons_self).1 (ih fun z hz => m3 z (List.mem_cons_of_mem _ hz))
    obtain ⟨ep, he'⟩ := PyProof.Rows.sortedAll_at s.heap its out.toArray
    have hlen : (P'.map (·.2.1)).length ≤ sizeLine := by
      rw [vo.length, h2.perm.length_eq, ← rv.length]
      exact hz
    exact ⟨.ref _, upd H (s.heap.objs.size + 1) (.lst (P'.map (·.2.1))), I.laid (t' := s.toks) (fun _ _ => PyProof.Rows.sortedAll_old) (Nat.le_succ _) ⟨hlen, out, ep, vo, he'⟩, rfl, q _ _ rp (I.hok.fresh (Nat.le_succ _))⟩
end
def sortO : List PyData → Mo Sl
  | [.list ds] => if okSort ds then pu (.ob true (.l (srtD ds))) else no
  | _ => no
theorem cs_sorted {K : PySem.W.Frag} : CSo K (rSortD K) sortO := by
  intro C F H σ ρ vs ds Q hK h rs p
  subst hK
  unfold sortO at p
  split at p
  · split at p
    · rename_i ho
      cases rs with
      | cons r rs =>
        cases rs
        cases r with
        | lst e r => exact ⟨_, _, _, F, rfl, SqL.of (h.fh _ _ e), r, h.fh, ho, fun ys q ry n => p.newO h n _ (own_sn h n ry)⟩
    · exact p.elim
  · exact p.elim
end Dv
set_option Elab.async false
set_option linter.all false
set_option maxRecDepth 100000
set_option maxHeartbeats 2000000
namespace Dv
open PySem PySem.Spec PyProof.Rows L2
theorem same_none {F : Hp} : Same (fun _ => none) F := fun _ _ z => by cases z
theorem sort_out {K : PySem.W.Frag} {P : Program} {w : World} {F H : Hp} {h : Heap} {its : List Value} {xs : List V} {ds : List PyData} (sm : Same F H) (ok : HOk P w H h) (rv : Vals xs its) (ra : RpA K F xs ds) (ho : okSort ds = true) :
    ∃ wd, AllD h wd its ∧ ∀ out, SrtO.Srtd (ltV h) out → SrtO.Stb (ltV h) out its → ∃ ys, RpA K F ys (srtD ds) ∧ Vals ys out := by
  obtain ⟨wd, hw⟩ := okSort_w ho
  obtain ⟨P, p1, p2, p3⟩ := trip sm ok rv ra hw
  refine ⟨wd, fun v hv => ?_, fun out h1 h2 => ?_⟩
  · rw [← p1] at hv
    obtain ⟨p, hp, rfl⟩ := List.mem_map.mp hv
    exact ⟨p.2.2, (p3 p hp).2.2.1, (p3 p hp).2.2.2⟩
  · obtain ⟨P', q1, q2⟩ := perm_lift (P := P) (out := out) (by rw [p1]; exact h2.perm)
    have m3 : ∀ p ∈ P', RelV p.2.1 p.1 ∧ Rp K F p.2.1 p.2.2 ∧ ItD h p.1 p.2.2 ∧ sh p.2.2 = some wd := fun p hp => p3 p (q1.mem_iff.mp hp)
    have es : P'.map (·.2.2) = srtD ds := by
      refine srt_uniq hw (by rw [← p2]; exact q1.map _) ?_
      have h1' : (P'.map (·.1)).Pairwise fun x y => ltV h y x = false := by
        rw [q2]
        exact h1
      rw [List.pairwise_map] at h1' ⊢
      refine h1'.imp_of_mem fun {x y} hx hy z => ?_
      show ltK (kd y.2.2) (kd x.2.2) = false
      rw [← (m3 y hy).2.2.1.kv, ← (m3 x hx).2.2.1.kv]
      exact z
    refine ⟨P'.map (·.2.1), ?_, ?_⟩
    · rw [← es]
      clear es q2 q1
      induction P' with
      | nil => exact .nil
      | cons p P' ih => exact .cons (m3 p List.mem_cons_self).2.1 (ih fun z hz => m3 z (List.mem_cons_of_mem _ hz))
    · rw [← q2]
      clear es q2 q1
      induction P' with
      | nil => exact .nil
      | cons p P' ih => exact .cons (m3 p List.mem_cons_self).1 (ih fun z hz => m3 z (List.mem_cons_of_mem _ hz))
/-! ### sorted(d), d a dict of a slot -/
def kyD : Key → PyData
  | .inl i => .int i
  | .inr x => .str x
def okK : Key → Bool
  | .inl _ => true
  | .inr x => okS x
theorem ky_rp {K : PySem.W.Frag} {F : Hp} {k : Key} (h : okK k = true) : Rp K F (kV k) (kyD k) := by
  cases k with
  | inl i => exact .int i
  | inr x => exact .str x h
theorem kys_rp {K : PySem.W.Frag} {F : Hp} {α : Type} : ∀ {kvs : List (Key × α)}, (kvs.all fun p => okK p.1) = true → RpA K F (kvs.map fun p => kV p.1) (kvs.map fun p => kyD p.1)
  | [], _ => .nil
  | p :: ps, h => by
    rw [List.all_cons, Bool.and_eq_true] at h
    exact .cons (ky_rp h.1) (kys_rp h.2)
def rSortK (K : PySem.W.Frag) : List V → Hp → VK → Prop := fun xs H Q => ∃ (a : Addr) (kvs : List (Key × V)), xs = [.ref a] ∧ Rd H a (.dK kvs) ∧ (kvs.all fun p => okK p.1) = true ∧ okSort (kvs.map fun p => kyD p.1) = true ∧
  ∀ ys p, RpA K (fun _ => none) ys (srtD (kvs.map fun p => kyD p.1)) → H p = none → Q (.ref p) (upd H p (.lst ys))
section
variable {X : Cx}
theorem cr_sortedK (hc : X.calm = true) : CallR X (.builtin "sorted") (rSortK X.K) := by
  intro pins s σ H xs us Q I r h
  obtain ⟨a, kvs, rfl, hd, ha, ho, q⟩ := h
  obtain ⟨u, rfl, rx⟩ := vals1 r
  obtain rfl : u = Value.ref a := rx
  obtain ⟨hz, lo, vs, rel, dd⟩ := dk_rd I.hok hd
  obtain ⟨ep, hat⟩ := dd.dictAt
  have el : kvs.map (·.1) = vs.map (·.1) := rel.keys
  have hl : vs.length = kvs.length := by
    have z := congrArg List.length el
    simpa using z.symm
  refine Calls.call_function_entry kind_sorted plain_sorted entry_sorted (args_sorted1 _) ?_
  unfold Builtin.«sorted»
  refine wpAny_bind (m := checkCount "sorted" 1 1 _) (wpAny_pure (wpAny_bind ?_))
  refine PySem.W.kdu_collect (A := X.A.in1) (PySem.W.kdl_dict (knd := mixKind X.prog X.w) (kvs := vs) (ep := ep) lo) (I.ok.hd hc) hat (by rw [hl]; exact hz) fun h1 tk acc keep hacc => ?_
  have rv : Vals (kvs.map fun p => kV p.1) acc.toList := by
    have z := keys_at (us := acc.toList) (vs := vs) (by rw [Array.length_toList, hacc.1]) fun j v e => by
      obtain ⟨k, x, e1, e2⟩ := hacc.2 j v (by rw [← Array.getElem?_toList]; exact e)
      exact ⟨k, x, e1, e2⟩
    have e : (kvs.map fun p => kV p.1) = vs.map fun p => kV p.1 := by
      have z2 := congrArg (List.map kV) el
      rw [List.map_map, List.map_map] at z2
      exact z2
    rw [e]
    exact z
  have hal : acc.toList.length ≤ sizeLine := by
    rw [← rv.length, List.length_map]
    exact hz
  have I1 : Inv X pins σ H { s with heap := h1, toks := tk } := I.kept keep
  obtain ⟨wd, al, fin⟩ := sort_out (K := X.K) (F := fun _ => none) same_none I1.hok rv (kys_rp ha) ho
  have al : AllD h1 wd acc.toList := al
  refine wpAny_bind (wpAny_newList ?_ hal)
  have hob : (h1.push (seqObj "list" acc.toList.toArray 0)).get? h1.objs.size = some (seqObj "list" acc.toList.toArray 0) := Heap.get?_push_size _ rfl
  show wpAny _ _ _ _ _ { s with heap := h1.push (seqObj "list" acc.toList.toArray 0), toks := tk }
  have kk : ∀ b o, h1.get? b = some o → (h1.push (seqObj "list" acc.toList.toArray 0)).get? b = some o := fun b o e => Heap.get?_push_of_some _ e
  refine wpAny_bind (wpAny_holding (wpAny_call_entry slot_list_sort ⟨_, hob, rfl⟩ entry_list_sort (SrtO.list_sort_ord (s := { s with heap := h1.push (seqObj "list" acc.toList.toArray 0), toks := tk }) (swoV h1) hob hal (fun h2 => ?_) fun out g1 g2 => ⟨_, rfl, ?_⟩) (args_list_sort _)))
  · refine sortableD (s := { s with heap := h1.push (seqObj "list" acc.toList.toArray 0), toks := tk }) (wd := wd) h2 (fun v hv => ?_) (fun o e c => ?_) fun v hv => ?_
    · obtain ⟨d, k1, k2⟩ := al v hv
      exact ⟨d, k1.keeps fun b o e _ => kk b o e, k2⟩
    · have e' : some o = some (seqObj "list" acc.toList.toArray 0) := e.symm.trans hob
      cases e'
      exact absurd (Value.type.inj c) (by decide)
    · obtain ⟨d, k1, k2⟩ := al v hv
      rw [k1.kv, (k1.keeps (h' := h1.push (seqObj "list" acc.toList.toArray 0)) fun b o e _ => kk b o e).kv]
  · obtain ⟨ys, rp, vo⟩ := fin out g1 g2
    obtain ⟨e', he'⟩ := sortedHeap_at (vs := acc.toList) (out := out.toArray) hob
    have hlen : ys.length ≤ sizeLine := by
      rw [vo.length, g2.perm.length_eq]
      exact hal
    refine wpAny_pure ⟨_, rfl, .ref h1.objs.size, upd H h1.objs.size (.lst ys), I1.laid (t' := tk) (fun b u e => ?_) (Nat.le_refl _) (show ObjOk X.prog X.w _ _ _ (.lst ys) from ⟨hlen, out, e', vo, he'⟩), rfl, q ys _ rp (I1.hok.fresh (Nat.le_refl _))⟩
    have hb : b < h1.objs.size := Heap.lt_size e
    rw [sortedHeap_old (Nat.ne_of_lt hb) (by rw [size_push']; exact Nat.lt_of_lt_of_le hb (Nat.le_succ _))]
    exact kk b u e
end
def sortK (i : Nat) : Mo Sl := fun ρ => match dct ρ i with
  | some es => if (es.all fun p => okK p.1) && okSort (es.map fun p => kyD p.1) then .ok (.ob true (.l (srtD (es.map fun p => kyD p.1)))) ρ else .no
  | none => .no
theorem kvr_map {K : PySem.W.Frag} {F : Hp} {β : Type} (f : Key → β) : ∀ {kvs : List (Key × V)} {es : List (Key × PyData)}, KvR K F kvs es → (kvs.map fun p => f p.1) = es.map fun p => f p.1
  | [], [], _ => rfl
  | p :: ps, q :: qs, h => by rw [List.map_cons, List.map_cons, h.1, kvr_map f h.2.2]
  | [], _ :: _, h => h.elim
  | _ :: _, [], h => h.elim
theorem kvr_all {K : PySem.W.Frag} {F : Hp} (f : Key → Bool) {kvs : List (Key × V)} {es : List (Key × PyData)} (h : KvR K F kvs es) : (kvs.all fun p => f p.1) = es.all fun p => f p.1 := by
  have z := congrArg (fun l => l.all id) (kvr_map f h)
  simpa [List.all_map, Function.comp_def] using z
section
variable {X : Cx} {B : Bs} {W : WX} {e a b c : Expr} {es : List Expr} {pos p p1 p2 p3 : Pos} {fa fb fc : Mo PyData} {fs : Mo (List PyData)}
theorem do_sortK (i : Nat) {x : Str} (hc : X.calm = true) (hm : X.mg "sorted" = none) (hN : X.N[i]? = some x := by rfl) (hv : Vis X.env.scope x := by first | exact Or.inl rfl | exact Or.inr (Or.inl rfl) | exact Or.inr (Or.inr rfl)) (hd : (x == ("__debug__" : Str)) = false := by decide)
    (hcd : (x == ("__classdict__" : Str)) = false := by decide) (hg : Gl X "sorted" := by rfl) (he : starEach [.Name x p1] X.env = (false, eval (.Name x p1) X.env) :: starEach [] X.env := by rfl) (hpl : (backTo pos (starEach [] X.env)).any (·.1) = false := by rfl) :
    DO X B W (.Call (.Name "sorted" p) [.Name x p1] [] pos) (sortK i) := by
  refine ⟨pe_imp (pe_callB (cr_sortedK hc) hg hm (by decide +kernel) (pa_cons (pe_var hN hv hd hcd) pa_nil he) (by decide) (by decide) he hpl) fun σ H Q ⟨F, ρ, h, pp⟩ => ?_⟩
  unfold sortK at pp
  split at pp
  · rename_i es q
    split at pp
    · rename_i hok
      obtain ⟨o1, o2⟩ := Bool.and_eq_true_iff.mp hok
      obtain ⟨A, kvs, h2, h3, h4⟩ := dct_ok (C := ct X B W) h q
      refine ⟨_, h2, A, kvs, rfl, .inl h3, by rw [kvr_all okK h4]; exact o1, by rw [kvr_map kyD h4]; exact o2, fun ys p rp n => ?_⟩
      rw [kvr_map kyD h4] at rp
      exact Post.newO pp h n _ (own_sn h n (RpA.mono same_none _ _ rp))
    · exact pp.elim
  · exact pp.elim
/-! ### max(xs, default=d), ints -/
theorem maxI_fold : ∀ (ns : List Int) (n : Int), maxI (n :: ns) = some (ns.foldl max n)
  | [], n => rfl
  | m :: ns, n => by
    have h := maxI_fold ns (max n m)
    have h2 : maxI (n :: m :: ns) = maxI (max n m :: ns) := by
      unfold maxI
      have e : maxI (m :: ns) = (match maxI ns with | none => some m | some k => some (if m < k then k else m)) := rfl
      rw [e]
      cases maxI ns with
      | none =>
        simp only [Option.some.injEq]
        omega
      | some k =>
        simp only [Option.some.injEq]
        split <;> split <;> omega
    rw [h2, h]
    rfl
def maxDM : List PyData → List PyData → Mo PyData
  | [.list []], [.int d] => pu (.int d)
  | [.list (x :: xs)], [.int _] => bnd (opt (intsD (x :: xs))) fun ns => bnd (opt (maxI ns)) fun m => pu (.int m)
  | _, _ => no
def rMaxDf (K : PySem.W.Frag) : List V → List V → Hp → VK → Prop := fun xs zs H Q => ∃ (a : Addr) (ns : List Int) (d : Int), xs = [.ref a] ∧ zs = [.int d] ∧ SqL K H a (ns.map V.int) ∧ (ns = [] → Q (.int d) H) ∧ ∀ m, maxI ns = some m → Q (.int m) H
theorem ints_alike (ns : List Int) : PySem.W.AlikeAll (ns.map .int) := by
  refine ⟨fun x hx y hy => ?_, fun x hx => ?_⟩
  · obtain ⟨i, _, rfl⟩ := List.mem_map.mp hx
    obtain ⟨j, _, rfl⟩ := List.mem_map.mp hy
    rfl
  · obtain ⟨i, _, rfl⟩ := List.mem_map.mp hx
    exact fun z => nomatch z
theorem ints_depth (ns : List Int) : PyData.depthAll (ns.map .int) ≤ 1 := by
  induction ns with
  | nil => simp [PyData.depthAll]
  | cons n ns ih =>
    rw [List.map_cons]
    simp only [PyData.depthAll, PyData.depth]
    omega
theorem cr_maxDf (hc : X.calm = true) (hu : X.A.units + 64 < cLine) : CallRK X (.builtin "max") [Str.ofString "default"] (rMaxDf X.K) := by
  intro pins s σ H xs zs us ws Q I r rz h
  obtain ⟨a, ns, d, rfl, rfl, hs, h0, hq⟩ := h
  obtain ⟨its, rv, hl, hz⟩ := I.list hs
  rw [Vals.ref1 r]
  obtain ⟨u, rfl, t, rfl⟩ := vals1 rz
  have dp : DpAll X.K H (ns.map V.int) (ns.map .int) := by
    clear hs h0 hq rv hz
    induction ns with
    | nil => exact .nil
    | cons n ns ih => exact .cons (.int n) ih
  obtain ⟨as, hr⟩ := Dp.readsAll I _ _ its dp rv
  refine PySem.W.max_list_default (I.ok.hd hc) hl.isList (by rw [List.toList_toArray]; exact hr) (ints_alike ns) (by have := ints_depth ns; omega) (fun e h' tk k => ?_) fun y ys i v h' tk bs e hv rd k => ?_
  · have e : ns = [] := List.map_eq_nil_iff.mp e
    exact ⟨.int d, H, I.kept k, ⟨t, rfl⟩, h0 e⟩
  · cases ns with
    | nil => cases e
    | cons n ns =>
      rw [List.map_cons] at e
      obtain ⟨rfl, rfl⟩ := List.cons.inj e
      rw [PySem.W.maxD_ints] at rd
      have hv' : ∃ j t', v = .int j t' := by
        have hm : v ∈ its := by
          have z : its[i]? = some v := by simpa using hv
          exact List.mem_of_getElem? z
        have key : ∀ {ns : List Int} {us : List Value}, Vals (ns.map V.int) us → ∀ v ∈ us, ∃ j t', v = Value.int j t' := by
          intro ns
          induction ns with
          | nil =>
            intro us r v hv
            cases r
            cases hv
          | cons n ns ih =>
            intro us r v hv
            cases r with
            | cons r1 rr =>
              rcases List.mem_cons.mp hv with rfl | hv
              · obtain ⟨t', rfl⟩ := r1
                exact ⟨n, t', rfl⟩
              · exact ih rr v hv
        exact key rv v hm
      obtain ⟨j, t', rfl⟩ := hv'
      have ej : j = ns.foldl max n := by
        cases rd
        rfl
      rw [ej]
      exact ⟨.int _, H, I.kept k, ⟨t', rfl⟩, hq _ (maxI_fold ns n)⟩
def maxDf (fs ks : Mo (List PyData)) : Mo PyData := bnd fs fun ds => bnd ks fun zs => maxDM ds zs
theorem de_maxDf {kws : List Keyword} {fk : Mo (List PyData)} (hc : X.calm = true) (hu : X.A.units + 64 < cLine) (hm : X.mg "max" = none) (ha : DA X B W [a] fs) (hk : DK X B W kws fk) (hg : Gl X "max" := by rfl)
    (he : backTo pos (starEach [a] X.env) = (false, eval a X.env) :: backTo pos (starEach [] X.env) := by rfl) (hpl : (backTo pos (starEach [a] X.env)).any (·.1) = false := by rfl)
    (hall : (backToKw pos (keywordEach kws X.env)).all (·.1.isSome) = true := by rfl) (hnone : (backToKw pos (keywordEach kws X.env)).any (·.1.isNone) = false := by rfl) (hks : (backToKw pos (keywordEach kws X.env)).filterMap (·.1) = [Str.ofString "default"] := by rfl) :
    DE X B W (.Call (.Name "max" p) [a] kws pos) (maxDf fs fk) := by
  refine ⟨pe_imp (pe_callBK (cr_maxDf hc hu) hg hm (by decide +kernel) ha.pa hk.pk (by decide) (by decide) he hpl hall hnone hks) fun σ H Q ⟨F, ρ, h, pp⟩ => ⟨F, ρ, h, pp.bnd.imp fun ds ρ1 F1 H1 s1 h1 p1 vs rs => ⟨F1, ρ1, h1, p1.bnd.imp fun es ρ2 F2 H2 s2 h2 p2 us ru => ?_⟩⟩⟩
  unfold maxDM at p2
  split at p2
  · cases rs with
    | cons r rs =>
      cases rs
      cases ru with
      | cons r2 ru =>
        cases ru
        cases r with
        | lst e r =>
          cases r
          cases r2
          exact ⟨_, [], _, rfl, rfl, SqL.of (h2.fh _ _ (s2 _ _ e)), fun _ => Post.now p2 h2 _ (.int _), fun m z => nomatch z⟩
  · rename_i x xs d
    obtain ⟨ns, q, p2⟩ := opt_in p2
    obtain ⟨m, q2, p2⟩ := opt_in p2
    cases rs with
    | cons r rs =>
      cases rs
      cases ru with
      | cons r2 ru =>
        cases ru
        cases r with
        | lst e r =>
          cases r2
          refine ⟨_, ns, d, rfl, rfl, ?_, fun z => ?_, fun m' z => ?_⟩
          · rw [← ints_of r q]
            exact SqL.of (h2.fh _ _ (s2 _ _ e))
          · subst z
            cases q2
          · rw [q2] at z
            cases z
            exact Post.now p2 h2 _ (.int _)
  · exact p2.elim
/-! ### s.join(xs), xs.index(y) -/
def strsD : List PyData → Option (List Str)
  | [] => some []
  | .str x :: r => (strsD r).map (x :: ·)
  | _ :: _ => none
theorem strs_of {K : PySem.W.Frag} {F : Hp} : ∀ {ds : List PyData} {vs : List V} {ns : List Str}, RpA K F vs ds → strsD ds = some ns → vs = ns.map V.str ∧ ns.all okS = true
  | [], _, _, r, e => by
    cases r
    cases e
    exact ⟨rfl, rfl⟩
  | d :: ds, _, ns, r, e => by
    cases r with
    | cons r rs =>
      cases d with
      | str x =>
        cases r with
        | str _ hx =>
          cases q : strsD ds with
          | none =>
            have z : (strsD ds).map (x :: ·) = some ns := e
            rw [q] at z
            cases z
          | some ms =>
            have z : (strsD ds).map (x :: ·) = some ns := e
            rw [q] at z
            cases z
            obtain ⟨h1, h2⟩ := strs_of rs q
            refine ⟨by rw [h1]; rfl, ?_⟩
            rw [List.all_cons, hx, h2]
            rfl
      | _ => cases e
def joinM : PyData → PyData → Mo PyData
  | .str a, .list ds => bnd (opt (strsD ds)) fun ys => if (ys.map (·.length)).sum + ys.length * a.length ≤ 16777216 ∧ okS (Txt.join a ys) = true then pu (.str (Txt.join a ys)) else no
  | _, _ => no
def isStr : PyData → Mo PyData
  | .str x => pu (.str x)
  | _ => no
theorem de_join (ha : DE X B W a fa) (hb : DE X B W b fb) (hs : starEach [b] X.env = [(false, eval b X.env)] := by rfl) (hbase : attributeBase a "join" X.env (eval a X.env) = eval a X.env := by rfl) (hline : (p2.endLine == p3.line) = true := by rfl) :
    DE X B W (.Call (.Attribute a "join" p2) [b] [] p3) (bnd (bnd fa isStr) fun x => bnd fb fun y => joinM x y) := by
  refine ⟨pe_imp (pe_join ha.pe hb.pe hs hbase hline) fun σ H Q ⟨F, ρ, h, pp⟩ => ⟨F, ρ, h, (pp.bnd).bnd.imp fun x ρ1 F1 H1 s1 h1 p1 v rv => ?_⟩⟩
  cases x with
  | str z =>
    cases rv with
    | str _ hz =>
      refine ⟨⟨z, rfl⟩, F1, ρ1, h1, Post.imp (Post.bnd (Post.now p1 h1)) fun y ρ2 F2 H2 s2 h2 p2 u ru => ?_⟩
      cases y with
      | list ds =>
        have p2 : Post (ct X B W) σ F2 ((bnd (opt (strsD ds)) fun ys => if (ys.map (·.length)).sum + ys.length * z.length ≤ 16777216 ∧ okS (Txt.join z ys) = true then pu (.str (Txt.join z ys)) else no) ρ2) fun d _ F' H' => ∀ v, Rp X.K F' v d → Q v H' := p2
        obtain ⟨ys, q, p2⟩ := opt_in p2
        by_cases hl : (ys.map (·.length)).sum + ys.length * z.length ≤ 16777216 ∧ okS (Txt.join z ys) = true
        · rw [if_pos hl] at p2
          cases ru with
          | lst e r =>
            refine ⟨_, _, ys, rfl, rfl, .inl ?_, hl.1, Post.now p2 h2 _ (.str _ hl.2)⟩
            rw [← (strs_of r q).1]
            exact SqL.of (h2.fh _ _ e)
        · rw [if_neg hl] at p2
          exact (show False from p2).elim
      | _ => exact (show False from p2).elim
  | _ => exact (show False from p1).elim
/-- the place of the first one -/
def idxD (d : PyData) : List PyData → Option Nat
  | [] => none
  | e :: r => if PyData.eqv e d then some 0 else (idxD d r).map (· + 1)
theorem idx_spec {d : PyData} : ∀ {l : List PyData} {j : Nat}, idxD d l = some j → (∃ z, l[j]? = some z ∧ PyData.eqv z d = true) ∧ ∀ (m : Nat) z, m < j → l[m]? = some z → PyData.eqv z d = false
  | [], _, h => by cases h
  | e :: r, j, h => by
    unfold idxD at h
    by_cases he : PyData.eqv e d = true
    · rw [if_pos he] at h
      cases h
      exact ⟨⟨e, rfl, he⟩, fun m z hm => absurd hm (Nat.not_lt_zero _)⟩
    · rw [if_neg he] at h
      cases q : idxD d r with
      | none =>
        rw [q] at h
        cases h
      | some i =>
        rw [q] at h
        cases h
        obtain ⟨⟨z, h1, h2⟩, h3⟩ := idx_spec q
        refine ⟨⟨z, by simpa using h1, h2⟩, fun m y hm hy => ?_⟩
        cases m with
        | zero =>
          cases hy
          simpa using he
        | succ m => exact h3 m y (Nat.lt_of_succ_lt_succ hm) (by simpa using hy)
def idxM : PyData → PyData → Mo PyData
  | .list ds, d => if flatD d && ds.all flatD then bnd (opt (idxD d ds)) fun j => pu (.int (j : Nat)) else no
  | _, _ => no
def isLst : PyData → Mo PyData
  | .list x => pu (.list x)
  | _ => no
theorem de_index (ha : DE X B W a fa) (hb : DE X B W b fb) (hbase : attributeBase a "index" X.env (eval a X.env) = eval a X.env := by rfl)
    (hfew : ((backTo p3 (starEach [b] X.env)).all (fun x => !x.1) && (backToKw p3 (keywordEach [] X.env)).all (fun x => x.1.isSome)
      && decide (([b] : List Expr).length + ([] : List Keyword).length + (if ([] : List Keyword).isEmpty then 0 else 1) < 30)) = true := by rfl)
    (hline : (p2.endLine == p3.line) = true := by rfl) (hs : starEach [b] X.env = (false, eval b X.env) :: starEach [] X.env := by rfl) (hplain : (backTo p3 (starEach [] X.env)).any (·.1) = false := by rfl) :
    DE X B W (.Call (.Attribute a "index" p2) [b] [] p3) (bnd (bnd fa isLst) fun x => bnd fb fun y => idxM x y) := by
  refine ⟨pe_imp (pe_bm PySem.F.plainAttrs_list PySem.F.slot_list_index PySem.F.type_list_index mt_index ha.pe (pa_cons hb.pe pa_nil hs) hbase hfew hline hs hplain) fun σ H Q ⟨F, ρ, h, pp⟩ => ⟨F, ρ, h, (pp.bnd).bnd.imp fun x ρ1 F1 H1 s1 h1 p1 v rv => ?_⟩⟩
  cases x with
  | list ds =>
    cases rv with
    | @lst A vs _ e r =>
      refine ⟨.inl ⟨rfl, _, SqL.of (h1.fh _ _ e)⟩, F1, ρ1, h1, Post.imp (Post.bnd (Post.now p1 h1)) fun y ρ2 F2 H2 s2 h2 p2 u ru => ?_⟩
      have p2 : Post (ct X B W) σ F2 ((if (flatD y && ds.all flatD) = true then bnd (opt (idxD y ds)) fun j => pu (.int (j : Nat)) else no) ρ2) fun d _ F' H' => ∀ v, Rp X.K F' v d → Q v H' := p2
      · by_cases hf : (flatD y && ds.all flatD) = true
        · rw [if_pos hf] at p2
          obtain ⟨f1, f2⟩ := Bool.and_eq_true_iff.mp hf
          obtain ⟨j, q, p2⟩ := opt_in p2
          obtain ⟨⟨z, g1, g2⟩, g3⟩ := idx_spec q
          obtain ⟨vz, k1, k2⟩ := r.get g1
          have fz : ∀ {m : Nat} {z : PyData}, ds[m]? = some z → flatD z = true := fun {m z} e => List.all_eq_true.mp f2 _ (List.mem_of_getElem? e)
          refine ⟨A, vs, u, j, vz, rfl, rfl, SqL.of (h2.fh _ _ (s2 _ _ e)), flat_of ru f1, flats_of r f2, k1, ?_, fun m z' hm hz => ?_, Post.now p2 h2 _ (.int _)⟩
          · rw [eqv_of (Rp.mono s2 _ _ k2) ru (fz g1) f1]
            exact g2
          · obtain ⟨d', k3, k4⟩ := r.get' hz
            rw [eqv_of (Rp.mono s2 _ _ k4) ru (fz k3) f1]
            exact g3 m d' hm k3
        · rw [if_neg hf] at p2
          exact (show False from p2).elim
  | _ => exact (show False from p1).elim
end
end Dv
set_option Elab.async false
set_option linter.all false
set_option maxRecDepth 100000
set_option maxHeartbeats 2000000
namespace Dv
open PySem PySem.Spec PyProof.Rows L2
/-! ### bundles: what a walk takes by one name -/
def ltQ : PyData → PyData → Mo PyData := cmpM (fun i j => decide (i < j)) fun i j => decide (i.cps.toList < j.cps.toList)
def leQ : PyData → PyData → Mo PyData := cmpM (fun i j => decide (i ≤ j)) fun i j => !decide (j.cps.toList < i.cps.toList)
def gtQ : PyData → PyData → Mo PyData := cmpM (fun i j => decide (j < i)) fun i j => decide (j.cps.toList < i.cps.toList)
def geQ : PyData → PyData → Mo PyData := cmpM (fun i j => decide (j ≤ i)) fun i j => !decide (i.cps.toList < j.cps.toList)
/-- the head's facts, with the module's names -/
structure Txt (d : HeadD) (K : PySem.W.Frag) (mg : Str → Option Value) (base : Heap) : Prop where
  kin : K.In base
  ns : base.Ns mainGlobals mg
  says : d.Says K
section
variable {d : HeadD} {K : PySem.W.Frag} {mg : Str → Option Value} {base : Heap}
theorem Txt.glo (T : Txt d K mg base) {x : Str} (i : Nat) (h : d.fa[i]? = some (.glo x) := by rfl) : mg x = some (.ref (He.ga K x)) := He.glo_ok T.kin T.ns (T.says.sd.fact i h)
theorem Txt.free (T : Txt d K mg base) {x : Str} (i : Nat) (h : d.fa[i]? = some (.free x) := by rfl) : mg x = none := He.free_ok T.kin T.ns (T.says.sd.fact i h)
theorem Txt.int (T : Txt d K mg base) {x : Str} {n : Int} (i : Nat) (h : d.fa[i]? = some (.int x n) := by rfl) : ∃ t, mg x = some (.int n t) := He.int_ok T.kin T.ns (T.says.sd.fact i h)
theorem Txt.str (T : Txt d K mg base) {x z : Str} (i : Nat) (h : d.fa[i]? = some (.str x z) := by rfl) : ∃ t, mg x = some (.str z t) := He.str_ok T.kin T.ns (T.says.sd.fact i h)
theorem Txt.dfn (T : Txt d K mg base) {e : He.DefD} (i : Nat) (h : d.fn[i]? = some e := by rfl) : ∃ fd, FunD K e.name e.qual e.params e.body e.scope (e.dvs K) (e.kws K) (He.fAd K e.at_) fd := T.says.sd.def_ i h
/-- isinstance, except: by the table -/
def isqOf (l : List IsD) (y x : Str) : Option Bool := (l.find? fun e => decide (e.x = x) && decide (e.y = y)).map (·.b)
theorem Txt.isq (T : Txt d K mg base) {x y : Str} {b : Bool} (h : isqOf d.is_ y x = some b) : PySem.W.kitOne K (.ref (He.ga K x)) (.ref (He.ga K y)) = some b ∧ PySem.W.exmOne K (.ref (He.ga K x)) (.ref (He.ga K y)) = some b := by
  unfold isqOf at h
  cases q : d.is_.find? fun e => decide (e.x = x) && decide (e.y = y) with
  | none =>
    rw [q] at h
    cases h
  | some e =>
    rw [q] at h
    have hb : e.b = b := Option.some.inj h
    have hm := List.mem_of_find?_eq_some q
    have hp := List.find?_some q
    obtain ⟨h1, h2⟩ := Bool.and_eq_true_iff.mp hp
    have e1 : e.x = x := of_decide_eq_true h1
    have e2 : e.y = y := of_decide_eq_true h2
    subst e1 e2 hb
    exact IsD.get (List.all_eq_true.mp (He.ba (congrArg (fun z : AlV => z.2) T.says.e)).2 e hm)
def isqs (l : List IsD) : List Str → Str → Option Bool
  | [], _ => some false
  | y :: ys, x => match isqOf l y x with
    | some true => some true
    | some false => isqs l ys x
    | none => none
theorem Txt.isqs (T : Txt d K mg base) {x : Str} : ∀ {ys : List Str} {b : Bool}, isqs d.is_ ys x = some b → PySem.W.kitAny K (.ref (He.ga K x)) (ys.map fun y => .ref (He.ga K y)) = some b
  | [], _, h => by
    cases h
    rfl
  | y :: ys, b, h => by
    unfold Dv.isqs at h
    cases q : isqOf d.is_ y x with
    | none =>
      rw [q] at h
      cases h
    | some k =>
      rw [q] at h
      refine kitAny_cons (T.isq q).1 (fun z => ?_) fun z => ?_
      · subst z
        exact T.isqs h
      · subst z
        cases h
        rfl
/-- the classes that have this field -/
def okcOf (l : List ExD) (f x : Str) : Bool := l.any fun e => decide (e.x = x) && e.fs.contains f
theorem Txt.okc (T : Txt d K mg base) {f x : Str} (h : okcOf d.ex f x = true) : XfC K (He.ga K x) ∧ PySem.W.findIn K (.ref (He.ga K x)) f = some none := by
  obtain ⟨e, hm, hp⟩ := List.any_eq_true.mp h
  obtain ⟨h1, h2⟩ := Bool.and_eq_true_iff.mp hp
  have e1 : e.x = x := of_decide_eq_true h1
  subst e1
  have X := ExD.get (List.all_eq_true.mp (He.ba (congrArg (fun z : AlV => z.2) T.says.e)).1 e hm)
  exact ⟨X.xf, X.no f (by simpa using h2)⟩
def exOf (l : List ExD) (x : Str) : Bool := l.any fun e => decide (e.x = x)
theorem Txt.exc (T : Txt d K mg base) {x : Str} (h : exOf d.ex x = true) : ExcC K (He.ga K x) := by
  obtain ⟨e, hm, hp⟩ := List.any_eq_true.mp h
  have e1 : e.x = x := of_decide_eq_true hp
  subst e1
  exact (ExD.get (List.all_eq_true.mp (He.ba (congrArg (fun z : AlV => z.2) T.says.e)).1 e hm)).ec
/-- with the class known to be one with a dict -/
def isqE (d : HeadD) (y x : Str) : Option Bool := if exOf d.ex x then isqOf d.is_ y x else none
def isqsE (d : HeadD) (ys : List Str) (x : Str) : Option Bool := if exOf d.ex x then isqs d.is_ ys x else none
theorem Txt.isqE (T : Txt d K mg base) (y : Str) : ∀ x b, isqE d y x = some b → ExcC K (He.ga K x) ∧ PySem.W.kitOne K (.ref (He.ga K x)) (.ref (He.ga K y)) = some b := fun x b h => by
  unfold Dv.isqE at h
  split at h
  · rename_i q
    exact ⟨T.exc q, (T.isq h).1⟩
  · cases h
theorem Txt.isqsE (T : Txt d K mg base) (ys : List Str) : ∀ x b, isqsE d ys x = some b → ExcC K (He.ga K x) ∧ PySem.W.kitAny K (.ref (He.ga K x)) (ys.map fun y => .ref (He.ga K y)) = some b := fun x b h => by
  unfold Dv.isqsE at h
  split at h
  · rename_i q
    exact ⟨T.exc q, T.isqs h⟩
  · cases h
end
/-- a def of the program, called by its n arguments -/
structure Fn (P : Program) (w : World) (K : PySem.W.Frag) (mg : Str → Option Value) (base : Heap) (k : Nat) (x : Str) (n : Nat) (f : FnF) : Prop where
  gl : mg x = some (.ref (He.ga K x))
  ex : ∃ fd ps, FnOk P w K mg base (L2.CX P w) k (He.ga K x) fd ps (spD K n f) ∧ PySem.W.keepIn K (.ref (He.ga K x)) = true ∧ Binds K fd ps []
/-- .. by m arguments and keywords ks -/
structure FnK (P : Program) (w : World) (K : PySem.W.Frag) (mg : Str → Option Value) (base : Heap) (k : Nat) (x : Str) (n m : Nat) (ks : List Str) (gD : List PyData → List PyData → List PyData) (f : FnF) : Prop where
  gl : mg x = some (.ref (He.ga K x))
  ex : ∃ (fd : FuncData) (ps : List Str) (g : List Value → List Value → List Value) (gV : List V → List V → List V), FnOk P w K mg base (L2.CX P w) k (He.ga K x) fd ps (spD K n f) ∧ PySem.W.keepIn K (.ref (He.ga K x)) = true ∧ KBn K fd ps m ks g gV ∧
    ∀ {F : Hp} {vs zs : List V} {ds es : List PyData}, ds.length = m → es.length = ks.length → RpA K F vs ds → RpA K F zs es → RpA K F (gV vs zs) (gD ds es)
/-- an exception class of the program -/
structure Xc (P : Program) (w : World) (K : PySem.W.Frag) (mg : Str → Option Value) (base : Heap) (x : Str) (names : List Str) : Prop where
  gl : mg x = some (.ref (He.ga K x))
  ef : ExF K (He.ga K x) names
  ex : ∃ fd ps, FnOk P w K mg base (L2.CX P w) 1 (He.ma K (He.ga K x) "__init__") fd ps (spInit (He.ga K x) names) ∧ Binds K fd ps []
section
variable {X : Cx} {B : Bs} {W : WX} {e a b c tg iter : Expr} {es : List Expr} {pos pos' p p1 p2 p3 : Pos} {fa fb fc : Mo PyData} {fo : Mo Sl} {ta : Mo Bool} {fs : Mo (List PyData)} {sts : List Stmt} {f g : Mo Fl}
theorem do_callG {x : Str} {k j n : Nat} {fn : FnF} (G : Fn X.prog X.w X.K X.mg X.base k x n fn) (hr : Room j X.A) (tk : Takes X W) (ha : DA X B W (e :: es) fs) (hk : k ≤ j := by decide) (hg : Gl X x := by rfl) (hdb : (x == ("__debug__" : Str)) = false := by decide)
    (he : starEach (e :: es) X.env = (false, eval e X.env) :: starEach es X.env := by rfl) (hpl : (backTo pos (starEach es X.env)).any (·.1) = false := by rfl) :
    DO X B W (.Call (.Name x p) (e :: es) [] pos) (callF n fn fs) := by
  obtain ⟨fd, ps, F, kp, hb⟩ := G.ex
  exact do_call F (hr.mono hk) tk G.gl kp hb ha hg hdb he hpl
theorem do_callGB (i : Nat) {x y : Str} {k j n : Nat} {fn : FnF} (G : Fn X.prog X.w X.K X.mg X.base k x n fn) (hr : Room j X.A) (tk : Takes X W) (ha : DA X B W es fs) (hk : k ≤ j := by decide) (hN : X.N[i]? = some y := by rfl)
    (hv : Vis X.env.scope y := by first | exact Or.inl rfl | exact Or.inr (Or.inl rfl) | exact Or.inr (Or.inr rfl)) (hd : (y == ("__debug__" : Str)) = false := by decide)
    (hcd : (y == ("__classdict__" : Str)) = false := by decide) (hg : Gl X x := by rfl) (hdb : (x == ("__debug__" : Str)) = false := by decide) (he : starEach (.Name y p1 :: es) X.env = (false, eval (.Name y p1) X.env) :: starEach es X.env := by rfl) (hpl : (backTo pos (starEach es X.env)).any (·.1) = false := by rfl) :
    DO X B W (.Call (.Name x p) (.Name y p1 :: es) [] pos) (callB i n fn fs) := by
  obtain ⟨fd, ps, F, kp, hb⟩ := G.ex
  exact do_callB i F (hr.mono hk) tk G.gl kp hb ha hN hv hd hcd hg hdb he hpl
theorem do_callGS (i : Nat) {x y : Str} {k j n : Nat} {fn : FnF} (G : Fn X.prog X.w X.K X.mg X.base k x n fn) (hr : Room j X.A) (tk : Takes X W) (ha : DA X B W es fs) (hk : k ≤ j := by decide) (hN : X.N[i]? = some y := by rfl)
    (hv : Vis X.env.scope y := by first | exact Or.inl rfl | exact Or.inr (Or.inl rfl) | exact Or.inr (Or.inr rfl)) (hd : (y == ("__debug__" : Str)) = false := by decide)
    (hcd : (y == ("__classdict__" : Str)) = false := by decide) (hg : Gl X x := by rfl) (hdb : (x == ("__debug__" : Str)) = false := by decide) (he : starEach (.Name y p1 :: es) X.env = (false, eval (.Name y p1) X.env) :: starEach es X.env := by rfl) (hpl : (backTo pos (starEach es X.env)).any (·.1) = false := by rfl) :
    DO X B W (.Call (.Name x p) (.Name y p1 :: es) [] pos) (callS i n fn fs) := by
  obtain ⟨fd, ps, F, kp, hb⟩ := G.ex
  exact do_callS i F (hr.mono hk) tk G.gl kp hb ha hN hv hd hcd hg hdb he hpl
/-- how many arguments -/
def lenA (n : Nat) (fs : Mo (List PyData)) : Mo (List PyData) := bnd fs fun ds => if ds.length = n then pu ds else no
theorem da_len (n : Nat) (h : DA X B W es fs) : DA X B W es (lenA n fs) :=
  ⟨pa_imp h.pa fun σ H Q ⟨F, ρ, h, p⟩ => ⟨F, ρ, h, p.bnd.imp fun ds ρ1 F1 H1 s h1 p1 vs rs => by
    by_cases q : ds.length = n
    · rw [if_pos q] at p1
      exact Post.now p1 h1 vs rs
    · rw [if_neg q] at p1
      exact (show False from p1).elim⟩⟩
theorem dk_len {kws : List Keyword} (n : Nat) (h : DK X B W kws fs) : DK X B W kws (lenA n fs) :=
  ⟨pk_imp h.pk fun σ H Q ⟨F, ρ, h, p⟩ => ⟨F, ρ, h, p.bnd.imp fun ds ρ1 F1 H1 s h1 p1 vs rs => by
    by_cases q : ds.length = n
    · rw [if_pos q] at p1
      exact Post.now p1 h1 vs rs
    · rw [if_neg q] at p1
      exact (show False from p1).elim⟩⟩
theorem lenA_ok {n : Nat} {ρ ρ' : Rho} {ds : List PyData} (h : lenA n fs ρ = .ok ds ρ') : ds.length = n := by
  unfold lenA bnd at h
  split at h
  · rename_i es ρ1 _
    by_cases q : es.length = n
    · have h : (if es.length = n then pu es else no) ρ1 = .ok ds ρ' := h
      rw [if_pos q] at h
      cases h
      exact q
    · have h : (if es.length = n then pu es else no) ρ1 = .ok ds ρ' := h
      rw [if_neg q] at h
      cases h
  · cases h
  · cases h
theorem do_callGK {x : Str} {k j n m : Nat} {ks : List Str} {fn : FnF} {gD : List PyData → List PyData → List PyData} {kws : List Keyword} {fk : Mo (List PyData)} (G : FnK X.prog X.w X.K X.mg X.base k x n m ks gD fn) (hr : Room j X.A) (tk : Takes X W)
    (ha : DA X B W (e :: es) fs) (hkw : DK X B W kws fk) (hk : k ≤ j := by decide)
    (hall : (backToKw pos (keywordEach kws X.env)).all (·.1.isSome) = true := by rfl) (hks : (backToKw pos (keywordEach kws X.env)).filterMap (·.1) = ks := by rfl)
    (hg : Gl X x := by rfl) (hdb : (x == ("__debug__" : Str)) = false := by decide) (he : starEach (e :: es) X.env = (false, eval e X.env) :: starEach es X.env := by rfl)
    (hpl : ((backTo pos (starEach (e :: es) X.env)).any (·.1) || (backToKw pos (keywordEach kws X.env)).any (·.1.isNone)) = false := by rfl) :
    DO X B W (.Call (.Name x p) (e :: es) kws pos) (callK n fn gD (lenA m fs) (lenA ks.length fk)) := by
  obtain ⟨fd, ps, g, gV, F, kp, hb, hgV⟩ := G.ex
  exact do_callK F (hr.mono hk) tk G.gl kp hb hgV (da_len m ha) (dk_len ks.length hkw) (fun h => lenA_ok h) (fun h => lenA_ok h) hall hks hg hdb he hpl
theorem ds_raiseG {x : Str} {names : List Str} {j : Nat} (G : Xc X.prog X.w X.K X.mg X.base x names) (hc : X.calm = true) (tk : Takes X W) (hr : Room j X.A) (ha : DA X B W (e :: es) fs) (hj : 2 ≤ j := by decide) (hl : names.length ≤ 1000 := by decide) (hg : Gl X x := by rfl)
    (hdb : (x == ("__debug__" : Str)) = false := by decide) (he : starEach (e :: es) X.env = (false, eval e X.env) :: starEach es X.env := by rfl) (hpl : (backTo pos (starEach es X.env)).any (·.1) = false := by rfl) :
    DS X B W (.Raise (some (.Call (.Name x p) (e :: es) [] pos)) none pos') (sRaise x names fs) := by
  obtain ⟨fd, ps, F, hb⟩ := G.ex
  exact ds_raise hc tk (hr.mono hj) G.ef F hb G.gl hl ha hg hdb he hpl
/-! ### for over anything -/
def anyD : PyData → Mo (List PyData)
  | .list ds => pu ds
  | .tuple ds => pu ds
  | .str z => pu (z.cps.toList.map fun c => .str ⟨#[c]⟩)
  | _ => no
theorem di_any (ha : DE X B W a fa) : DI X B W tg a (bnd fa anyD) := by
  refine ⟨⟨fun pins s σ H R I ⟨F, ρ, h, p⟩ => ?_⟩⟩
  have key : ∀ {g : PyData → Mo (List PyData)}, DI X B W tg a (bnd fa g) → (bnd fa anyD ρ = bnd fa g ρ) → wpAny (model X.prog X.w) X.A (eval a X.env) (fun v s1 => wpAny (model X.prog X.w) X.A (pyIter v) (PIE X pins σ tg R) X.xe s1) X.xe s := fun {g} hd e => by
    rw [e] at p
    exact hd.pi.run pins s σ H R I ⟨F, ρ, h, p⟩
  cases q : fa ρ with
  | no =>
    rw [bnd_no q] at p
    exact p.elim
  | err e ρ1 => exact key (g := lstD) (di_list ha) (by rw [bnd_err q, bnd_err q])
  | ok d ρ1 =>
    cases d with
    | list ds => exact key (g := lstD) (di_list ha) (by rw [bnd_ok q, bnd_ok q]; rfl)
    | tuple ds => exact key (g := tupD) (di_tup ha) (by rw [bnd_ok q, bnd_ok q]; rfl)
    | str z => exact key (g := strD) (di_str ha) (by rw [bnd_ok q, bnd_ok q]; rfl)
    | _ =>
      rw [bnd_ok q] at p
      exact (show False from p).elim
/-- list(x), x a list of a slot -/
def listP (i : Nat) : Mo Sl := fun ρ => match plc ρ i with
  | some ds => .ok (.ob true (.l ds)) ρ
  | none => .no
theorem do_listP (i : Nat) {x : Str} (hm : X.mg "list" = none) (hN : X.N[i]? = some x := by rfl) (hv : Vis X.env.scope x := by first | exact Or.inl rfl | exact Or.inr (Or.inl rfl) | exact Or.inr (Or.inr rfl)) (hd : (x == ("__debug__" : Str)) = false := by decide)
    (hcd : (x == ("__classdict__" : Str)) = false := by decide) (hg : Gl X "list" := by rfl) (he : starEach [.Name x p1] X.env = (false, eval (.Name x p1) X.env) :: starEach [] X.env := by rfl) (hpl : (backTo pos (starEach [] X.env)).any (·.1) = false := by rfl) :
    DO X B W (.Call (.Name "list" p) [.Name x p1] [] pos) (listP i) := by
  refine ⟨pe_imp (pe_callTy call_list_of hg hm boot_list (pa_cons (pe_var hN hv hd hcd) pa_nil he) (by decide) (by decide) he hpl) fun σ H Q ⟨F, ρ, h, pp⟩ => ?_⟩
  unfold listP at pp
  cases q : plc ρ i with
  | none =>
    rw [q] at pp
    exact pp.elim
  | some ds =>
    rw [q] at pp
    obtain ⟨A, vs, h1, h2, h3⟩ := plc_ok (C := ct X B W) h q
    exact ⟨_, h1, A, vs, rfl, .inl h2, fun l n => Post.newO pp h n _ (own_sn h n h3)⟩
end
theorem tkW0 {X : Cx} : Takes X W0 := fun _ _ ⟨_, _, _, _, _, _, _, _, _, _, _, _, _, _, _, _, w⟩ => w.elim
theorem _root_.L2.Room.un1 {k : Nat} {A : Around} (r : Room k A) : A.units + 1 < cLine := by
  have := r.units
  omega
def joinV (fa fb : Mo PyData) : Mo PyData := bnd (bnd fa isStr) fun x => bnd fb fun y => joinM x y
def indexV (fa fb : Mo PyData) : Mo PyData := bnd (bnd fa isLst) fun x => bnd fb fun y => idxM x y
theorem call_intA {X : Cx} : CallR X (.type "int") (fun xs H Q => (∃ i, xs = [.int i] ∧ Q (.int i) H) ∨ ∃ k, xs = [.bl k] ∧ Q (.int (if k then 1 else 0)) H) := call_int1
def min3M : List PyData → Mo PyData
  | [.int i, .int j, .int k] => pu (.int (if k < (if j < i then j else i) then k else if j < i then j else i))
  | _ => no
theorem min3_ok {i j k : Int} : nuMin3 (.int i) (.int j) (.int k) = some (.int (if k < (if j < i then j else i) then k else if j < i then j else i)) := by
  have e2 : ∀ x y : Int, nuMin2 (.int x) (.int y) = some (.int (if y < x then y else x)) := fun x y => by
    show some (if decide (y < x) = true then V.int y else V.int x) = _
    by_cases h : y < x
    · rw [if_pos (decide_eq_true h), if_pos h]
    · rw [if_neg (by simpa using h), if_neg h]
  show (nuMin2 (.int i) (.int j)).bind (fun m => nuMin2 m (.int k)) = _
  rw [e2]
  exact e2 _ k
theorem cs_min3 {K : PySem.W.Frag} : CSd K (rNuC3 nuMin3) min3M := by
  intro C F H σ ρ vs ds Q hK h rs p
  unfold min3M at p
  split at p
  · cases rs with
    | cons r rs =>
      cases rs with
      | cons r2 rs =>
        cases rs with
        | cons r3 rs =>
          cases rs
          cases r
          cases r2
          cases r3
          exact ⟨_, _, _, _, rfl, min3_ok, p.now h _ (.int _)⟩
  · exact p.elim
/-! ### a def that calls itself, cut at some depth -/
def noFn : FnF := fun _ _ => .no
theorem fn_none {P : Program} {w : World} {K : PySem.W.Frag} {mg : Str → Option Value} {base : Heap} {x qual : Str} {params : Arguments} {sb : List Stmt} {scope : Scope} {dvs : List V} {kws : List (Str × V)} {f : Addr} {fd : FuncData} {N ps : List Str} {k : Nat}
    (D : FunD K x qual params sb scope dvs kws f fd) (S : FnScope N ps scope) : FnOk P w K mg base (L2.CX P w) (k + 1) f fd ps (spD K ps.length noFn) := by
  refine D.ok S (fun vs H Q E h => h.1) fun cdv A outer s H vs Q E hr hsp => ?_
  obtain ⟨hl, F, r, xx, vs', ds, sm, a, rs, p⟩ := hsp
  exact (show False from p).elim
end Dv
set_option Elab.async false
set_option linter.all false
set_option maxRecDepth 100000
set_option maxHeartbeats 2000000
namespace Dv
open PySem PySem.Spec PyProof.Rows L2
/-- the law's def, asked at a script -/
theorem sp_law {K : PySem.W.Frag} {f : FnF} {H : Hp} {a : Addr} {ns : List Int} (hS : SqL K H a (ns.map V.int)) (h : ∃ c, f (.s (ns.map .int)) [] = .ok (.fz (.bool true)) c) : spD K 1 f [.ref a] H (fun v _ => v = .bl true) fun _ _ _ => False := by
  obtain ⟨c, h⟩ := h
  have ra : RpA K H (ns.map V.int) (ns.map .int) := by
    clear h hS
    induction ns with
    | nil => exact .nil
    | cons n ns ih => exact .cons (.int n) ih
  refine ⟨rfl, H, none, .s (ns.map .int), [], [], Same.refl _, ⟨a, _, rfl, rfl, hS, ra⟩, .nil, ?_⟩
  rw [h]
  intro v F' H' _ _ r
  cases r
  rfl
/-- the end of a law's walk -/
theorem law_end {l : PySem.W.OpenLaw} {n k : Nat} {q : Program} {loose : List Str} {XP : (Str → Option Value) → Heap → Prop} {YP : World → Heap → Prop} {dr : DefRec} {m : FnF} (hn : l.most = some n) (hn2 : n ≤ sizeLine) (hdf : dr.params.defaults = []) (hr : Room k callerA)
    (tr : ∀ ns : List Int, ns.length ≤ n → ∃ c, m (.s (ns.map .int)) [] = .ok (.fz (.bool true)) c)
    (wk : ∀ (w : World) (mg : Str → Option Value) (fa : Addr) (h : Heap), YP w h → h.Ns mainGlobals mg → mg dr.name = some (.ref fa) → ∃ (K : PySem.W.Frag) (fd : FuncData), K.In h ∧ (∀ (s : Shared) (u : Value), BindsTo s fd ⟨[u], []⟩ [("script", u)]) ∧
      ∀ base : Heap, K.In base → base.Ns mainGlobals mg → FnOk l.prog w K mg base (L2.CX l.prog w) k fa fd ["script"] (spD K 1 m)) :
    PySem.W.WalkO q loose XP YP l.row.toRowW dr [] (fun f vs => PySem.call f vs) := by
  refine Att.attach_call hn hdf fun w s₀ s₁ mg mb fa o pm cd doc a vs ns G Y ho h1 h2 hmg hobj hints hlen hg => ?_
  obtain ⟨K, fd, kx, hb, hF⟩ := wk w mg fa _ Y G.T.g hmg
  refine law_call kx G.T.g G.T.b G.T.builtins G.T.nolimit hg hobj hints (Nat.le_trans hlen hn2) hr hF hb (fun H hO hS => sp_law hS (tr ns hlen)) fun H e s' x => ?_
  obtain ⟨_, _, _, _, _, _, _, _, _, _, _, _, z⟩ := x
  exact z
end Dv
set_option Elab.async false
set_option linter.all false
set_option maxRecDepth 100000
set_option maxHeartbeats 2000000
/-! What a mirror does, by wishes: plain Lean, no program and no heap. -/
namespace Dv
open PySem PySem.Spec PyProof.Rows
/-- f at ρ ends well: by Q, or by an exception that E takes -/
def wp {α : Type} (f : Mo α) (ρ : Rho) (Q : α → Rho → Prop) (E : Exn → Rho → Prop) : Prop := match f ρ with
  | .ok a ρ' => Q a ρ'
  | .err e ρ' => E e ρ'
  | .no => False
section
variable {α β : Type} {f : Mo α} {g : α → Mo β} {ρ : Rho} {Q Q' : α → Rho → Prop} {E E' : Exn → Rho → Prop}
theorem wp_imp (h : wp f ρ Q E) (hq : ∀ a ρ', Q a ρ' → Q' a ρ') (he : ∀ e ρ', E e ρ' → E' e ρ') : wp f ρ Q' E' := by
  unfold wp at h ⊢
  cases q : f ρ with
  | ok a ρ' =>
    rw [q] at h
    exact hq _ _ h
  | err e ρ' =>
    rw [q] at h
    exact he _ _ h
  | no =>
    rw [q] at h
    exact h
theorem wp_ok {a : α} {ρ' : Rho} (h : f ρ = .ok a ρ') (q : Q a ρ') : wp f ρ Q E := by
  unfold wp
  rw [h]
  exact q
@[simp] theorem wp_pu {a : α} : wp (pu a) ρ Q E = Q a ρ := propext Iff.rfl
@[simp] theorem wp_no : wp (no : Mo α) ρ Q E = False := propext Iff.rfl
@[simp] theorem wp_bnd {Q : β → Rho → Prop} : wp (bnd f g) ρ Q E = wp f ρ (fun a ρ' => wp (g a) ρ' Q E) E := by
  unfold wp bnd
  cases f ρ <;> rfl
@[simp] theorem wp_opt {a : α} : wp (opt (some a)) ρ Q E = Q a ρ := propext Iff.rfl
@[simp] theorem wp_ite {c : Prop} [Decidable c] {f g : Mo α} : wp (if c then f else g) ρ Q E = if c then wp f ρ Q E else wp g ρ Q E := by
  by_cases h : c
  · rw [if_pos h, if_pos h]
  · rw [if_neg h, if_neg h]
theorem wp_dite {c : Prop} [Decidable c] {f g : Mo α} (h1 : c → wp f ρ Q E) (h2 : ¬ c → wp g ρ Q E) : wp (if c then f else g) ρ Q E := by
  by_cases h : c
  · rw [if_pos h]
    exact h1 h
  · rw [if_neg h]
    exact h2 h
end
section
variable {ρ : Rho} {E : Exn → Rho → Prop} {Q : PyData → Rho → Prop} {Qs : Sl → Rho → Prop} {Qb : Bool → Rho → Prop} {Ql : List PyData → Rho → Prop} {Qf : Fl → Rho → Prop} {Qo : Option Int → Rho → Prop}
/-! reading a slot -/
def rdQ (o : Option (Option Sl)) (i : Nat) (ρ : Rho) (Q : PyData → Rho → Prop) : Prop := match o with
  | some (some (.fz d)) => Q d ρ
  | some (some (.ob true (.l ds))) => Q (.list ds) (ρ.set i (some (.fz (.list ds))))
  | _ => False
@[simp] theorem wp_rd {i : Nat} : wp (rd i) ρ Q E = rdQ ρ[i]? i ρ Q := by
  unfold wp rd rdQ
  split <;> rename_i h <;> split at h <;> first | (cases h; simp_all; done) | simp_all
@[simp] theorem rdQ_fz {i : Nat} {d : PyData} : rdQ (some (some (.fz d))) i ρ Q = Q d ρ := propext Iff.rfl
@[simp] theorem rdQ_ob {i : Nat} {ds : List PyData} : rdQ (some (some (.ob true (.l ds)))) i ρ Q = Q (.list ds) (ρ.set i (some (.fz (.list ds)))) := propext Iff.rfl
@[simp] theorem wp_cI {i : Int} : wp (cI i) ρ Q E = Q (.int i) ρ := propext Iff.rfl
@[simp] theorem wp_cS {x : Str} : wp (cS x) ρ Q E = Q (.str x) ρ := propext Iff.rfl
@[simp] theorem wp_cB {b : Bool} : wp (cB b) ρ Q E = Q (.bool b) ρ := propext Iff.rfl
@[simp] theorem wp_cN : wp cN ρ Q E = Q .none ρ := propext Iff.rfl
@[simp] theorem wp_bin {g : PyData → PyData → Mo PyData} {fa fb : Mo PyData} : wp (bin g fa fb) ρ Q E = wp fa ρ (fun x ρ1 => wp fb ρ1 (fun y ρ2 => wp (g x y) ρ2 Q E) E) E := by
  unfold bin
  rw [wp_bnd]
  congr 1
  funext x ρ1
  rw [wp_bnd]
@[simp] theorem wp_binO {g : PyData → PyData → Mo Sl} {fa fb : Mo PyData} : wp (binO g fa fb) ρ Qs E = wp fa ρ (fun x ρ1 => wp fb ρ1 (fun y ρ2 => wp (g x y) ρ2 Qs E) E) E := by
  unfold binO
  rw [wp_bnd]
  congr 1
  funext x ρ1
  rw [wp_bnd]
/-! operators on data -/
@[simp] theorem wp_addI {i j : Int} : wp (addM (.int i) (.int j)) ρ Q E = Q (.int (i + j)) ρ := propext Iff.rfl
theorem wp_addS {x y : Str} (h : x.length + y.length ≤ 1000000) : wp (addM (.str x) (.str y)) ρ Q E = Q (.str (x ++ y)) ρ := by
  unfold addM
  dsimp only
  rw [if_pos h]
  rfl
theorem wp_addL {x y : List PyData} (h : x.length + y.length ≤ 1000000) : wp (addM (.list x) (.list y)) ρ Q E = Q (.list (x ++ y)) ρ := by
  unfold addM
  dsimp only
  rw [if_pos h]
  rfl
@[simp] theorem wp_subI {i j : Int} : wp (subM (.int i) (.int j)) ρ Q E = Q (.int (i - j)) ρ := propext Iff.rfl
theorem wp_mulI {i j : Int} (h : (-(2 ^ 64) < i ∧ i < 2 ^ 64) ∨ (-(2 ^ 64) < j ∧ j < 2 ^ 64)) : wp (mulM (.int i) (.int j)) ρ Q E = Q (.int (i * j)) ρ := by
  unfold mulM
  dsimp only
  rw [if_pos h]
  rfl
theorem wp_mulL {x : List PyData} {k : Int} (h : x.length * k.toNat ≤ 1000000 ∧ -(2 ^ 63) ≤ k ∧ k < 2 ^ 63) : wp (mulM (.list x) (.int k)) ρ Q E = Q (.list (List.replicate k.toNat x).flatten) ρ := by
  unfold mulM
  dsimp only
  rw [if_pos h]
  rfl
theorem wp_divI {i j : Int} (h : 0 < j ∧ j < 1073741824) : wp (divM (.int i) (.int j)) ρ Q E = Q (.int (i / j)) ρ := by
  unfold divM
  dsimp only
  rw [if_pos h]
  rfl
theorem wp_modI {i j : Int} (h : 0 < j) : wp (modM (.int i) (.int j)) ρ Q E = Q (.int (i % j)) ρ := by
  unfold modM
  dsimp only
  rw [if_pos h]
  rfl
theorem wp_powI {i j : Int} (h : 0 ≤ j ∧ (Builtin.Int.intBits i : Int) * j ≤ 2 ^ 27) : wp (powM (.int i) (.int j)) ρ Q E = Q (.int (i ^ j.toNat)) ρ := by
  unfold powM
  dsimp only
  rw [if_pos h]
  rfl
theorem wp_eq {d e : PyData} (h : min d.depth e.depth ≤ 60) : wp (eqM d e) ρ Q E = Q (.bool (PyData.eqv d e)) ρ := by
  unfold eqM
  rw [if_pos h]
  rfl
theorem wp_ne {d e : PyData} (h : min d.depth e.depth ≤ 60) : wp (neM d e) ρ Q E = Q (.bool (!PyData.eqv d e)) ρ := by
  unfold neM
  rw [if_pos h]
  rfl
@[simp] theorem wp_eqI {i j : Int} : wp (eqM (.int i) (.int j)) ρ Q E = Q (.bool (decide (i = j))) ρ := by
  rw [wp_eq (by simp [PyData.depth])]
  simp only [PyData.eqv]
  rfl
@[simp] theorem wp_neI {i j : Int} : wp (neM (.int i) (.int j)) ρ Q E = Q (.bool (!decide (i = j))) ρ := by
  rw [wp_ne (by simp [PyData.depth])]
  simp only [PyData.eqv]
  rfl
theorem eqv_str {x y : Str} : PyData.eqv (.str x) (.str y) = decide (x = y) := by
  simp only [PyData.eqv]
  by_cases h : x = y
  · subst h
    simp
  · simp [h]
@[simp] theorem wp_eqS {x y : Str} : wp (eqM (.str x) (.str y)) ρ Q E = Q (.bool (decide (x = y))) ρ := by
  rw [wp_eq (by simp [PyData.depth]), eqv_str]
@[simp] theorem wp_neS {x y : Str} : wp (neM (.str x) (.str y)) ρ Q E = Q (.bool (!decide (x = y))) ρ := by
  rw [wp_ne (by simp [PyData.depth]), eqv_str]
@[simp] theorem wp_neB {x y : Bool} : wp (neM (.bool x) (.bool y)) ρ Q E = Q (.bool (!(x == y))) ρ := by
  rw [wp_ne (by simp [PyData.depth])]
  simp only [PyData.eqv]
@[simp] theorem wp_ltI {i j : Int} : wp (ltQ (.int i) (.int j)) ρ Q E = Q (.bool (decide (i < j))) ρ := propext Iff.rfl
@[simp] theorem wp_leI {i j : Int} : wp (leQ (.int i) (.int j)) ρ Q E = Q (.bool (decide (i ≤ j))) ρ := propext Iff.rfl
@[simp] theorem wp_gtI {i j : Int} : wp (gtQ (.int i) (.int j)) ρ Q E = Q (.bool (decide (j < i))) ρ := propext Iff.rfl
@[simp] theorem wp_geI {i j : Int} : wp (geQ (.int i) (.int j)) ρ Q E = Q (.bool (decide (j ≤ i))) ρ := propext Iff.rfl
/-- x ahead of y -/
def sLt (x y : Str) : Bool := decide (x.cps.toList < y.cps.toList)
@[simp] theorem wp_ltS {x y : Str} : wp (ltQ (.str x) (.str y)) ρ Q E = Q (.bool (sLt x y)) ρ := propext Iff.rfl
@[simp] theorem wp_leS {x y : Str} : wp (leQ (.str x) (.str y)) ρ Q E = Q (.bool (!sLt y x)) ρ := propext Iff.rfl
@[simp] theorem wp_gtS {x y : Str} : wp (gtQ (.str x) (.str y)) ρ Q E = Q (.bool (sLt y x)) ρ := propext Iff.rfl
theorem wp_inL {d : PyData} {ds : List PyData} (h : (flatD d && ds.all flatD) = true) : wp (inM d (.list ds)) ρ Q E = Q (.bool (ds.any fun y => PyData.eqv y d)) ρ := by
  unfold inM
  dsimp only
  rw [if_pos h]
  rfl
theorem wp_ninL {d : PyData} {ds : List PyData} (h : (flatD d && ds.all flatD) = true) : wp (ninM d (.list ds)) ρ Q E = Q (.bool (!ds.any fun y => PyData.eqv y d)) ρ := by
  unfold ninM
  dsimp only
  rw [if_pos h]
  rfl
theorem wp_ninT {d : PyData} {ds : List PyData} (h : (flatD d && ds.all flatD) = true) : wp (ninM d (.tuple ds)) ρ Q E = Q (.bool (!ds.any fun y => PyData.eqv y d)) ρ := by
  unfold ninM
  dsimp only
  rw [if_pos h]
  rfl
/-! tests -/
@[simp] theorem wp_tst {fa : Mo PyData} : wp (tst fa) ρ Qb E = wp fa ρ (fun d ρ1 => wp (tstM d) ρ1 Qb E) E := by
  unfold tst
  rw [wp_bnd]
@[simp] theorem wp_tstM {b : Bool} : wp (tstM (.bool b)) ρ Qb E = Qb b ρ := propext Iff.rfl
@[simp] theorem wp_tru {fa : Mo PyData} : wp (tru fa) ρ Qb E = wp fa ρ (fun d ρ1 => wp (truM d) ρ1 Qb E) E := by
  unfold tru
  rw [wp_bnd]
@[simp] theorem wp_truB {b : Bool} : wp (truM (.bool b)) ρ Qb E = Qb b ρ := propext Iff.rfl
@[simp] theorem wp_truL {ds : List PyData} : wp (truM (.list ds)) ρ Qb E = Qb (!ds.isEmpty) ρ := propext Iff.rfl
@[simp] theorem wp_notT {t : Mo Bool} : wp (notT t) ρ Qb E = wp t ρ (fun b ρ1 => Qb (!b) ρ1) E := by
  unfold notT
  rw [wp_bnd]
  rfl
@[simp] theorem wp_andT {t u : Mo Bool} : wp (andT t u) ρ Qb E = wp t ρ (fun b ρ1 => if b = true then wp u ρ1 Qb E else Qb false ρ1) E := by
  unfold andT
  rw [wp_bnd]
  congr 1
  funext b ρ1
  cases b <;> rfl
@[simp] theorem wp_orT {t u : Mo Bool} : wp (orT t u) ρ Qb E = wp t ρ (fun b ρ1 => if b = true then Qb true ρ1 else wp u ρ1 Qb E) E := by
  unfold orT
  rw [wp_bnd]
  congr 1
  funext b ρ1
  cases b <;> rfl
@[simp] theorem wp_andV {fa fb : Mo PyData} : wp (andV fa fb) ρ Q E = wp (tst fa) ρ (fun b ρ1 => if b = true then wp fb ρ1 Q E else Q (.bool false) ρ1) E := by
  unfold andV
  rw [wp_bnd]
  congr 1
  funext b ρ1
  cases b <;> rfl
@[simp] theorem wp_notV {fa : Mo PyData} : wp (notV fa) ρ Q E = wp (tst fa) ρ (fun b ρ1 => Q (.bool (!b)) ρ1) E := by
  unfold notV
  rw [wp_bnd]
  rfl
@[simp] theorem wp_isT {ts : List String} {fa : Mo PyData} : wp (isTM ts fa) ρ Q E = wp fa ρ (fun d ρ1 => Q (.bool (isTs ts d)) ρ1) E := by
  unfold isTM
  rw [wp_bnd]
  rfl
@[simp] theorem wp_isN {fa : Mo PyData} : wp (isN fa) ρ Q E = wp fa ρ (fun d ρ1 => Q (.bool (noneB d)) ρ1) E := by
  unfold isN
  rw [wp_bnd]
  rfl
/-- a < b < c -/
def chnQ (g' : PyData → PyData → Mo PyData) (fc : Mo PyData) (y : PyData) (Q : PyData → Rho → Prop) (E : Exn → Rho → Prop) : PyData → Rho → Prop
  | .bool true, ρ => wp fc ρ (fun u ρ1 => wp (g' y u) ρ1 Q E) E
  | .bool false, ρ => Q (.bool false) ρ
  | _, _ => False
@[simp] theorem wp_chn {g g' : PyData → PyData → Mo PyData} {fa fb fc : Mo PyData} : wp (chn g g' fa fb fc) ρ Q E = wp fa ρ (fun x ρ1 => wp fb ρ1 (fun y ρ2 => wp (g x y) ρ2 (chnQ g' fc y Q E) E) E) E := by
  unfold chn
  rw [wp_bnd]
  congr 1
  funext x ρ1
  rw [wp_bnd]
  congr 1
  funext y ρ2
  rw [wp_bnd]
  congr 1
  funext z ρ3
  cases z with
  | bool b => cases b <;> first | rfl | (unfold chnQ; rw [wp_bnd])
  | _ => rfl
@[simp] theorem chnQ_b {g' : PyData → PyData → Mo PyData} {fc : Mo PyData} {y : PyData} {b : Bool} : chnQ g' fc y Q E (.bool b) ρ = if b = true then wp fc ρ (fun u ρ1 => wp (g' y u) ρ1 Q E) E else Q (.bool false) ρ := by
  cases b <;> rfl
/-! arguments, displays, data of objects -/
@[simp] theorem wp_aNil : wp aNil ρ Ql E = Ql [] ρ := propext Iff.rfl
@[simp] theorem wp_aCons {f : Mo PyData} {g : Mo (List PyData)} : wp (aCons f g) ρ Ql E = wp f ρ (fun d ρ1 => wp g ρ1 (fun ds ρ2 => Ql (d :: ds) ρ2) E) E := by
  unfold aCons
  rw [wp_bnd]
  congr 1
  funext x ρ1
  rw [wp_bnd]
  rfl
@[simp] theorem wp_lstO {f : Mo (List PyData)} : wp (lstO f) ρ Qs E = wp f ρ (fun ds ρ1 => ds.length ≤ 1000000 ∧ Qs (.ob true (.l ds)) ρ1) E := by
  unfold lstO
  rw [wp_bnd]
  congr 1
  funext ds ρ1
  by_cases h : ds.length ≤ 1000000
  · rw [if_pos h, eq_iff_iff]
    exact ⟨fun z => ⟨h, z⟩, fun z => z.2⟩
  · rw [if_neg h, eq_iff_iff]
    exact ⟨fun z => z.elim, fun z => absurd z.1 h⟩
@[simp] theorem wp_tupV {f : Mo (List PyData)} : wp (tupV f) ρ Q E = wp f ρ (fun ds ρ1 => ds.length ≤ 1000000 ∧ Q (.tuple ds) ρ1) E := by
  unfold tupV
  rw [wp_bnd]
  congr 1
  funext ds ρ1
  by_cases h : ds.length ≤ 1000000
  · rw [if_pos h, eq_iff_iff]
    exact ⟨fun z => ⟨h, z⟩, fun z => z.2⟩
  · rw [if_neg h, eq_iff_iff]
    exact ⟨fun z => z.elim, fun z => absurd z.1 h⟩
def fzQ (Q : PyData → Rho → Prop) : Sl → Rho → Prop
  | .fz d, ρ => Q d ρ
  | .ob true (.l ds), ρ => Q (.list ds) ρ
  | _, _ => False
@[simp] theorem wp_fzM {f : Mo Sl} : wp (fzM f) ρ Q E = wp f ρ (fzQ Q) E := by
  unfold fzM
  rw [wp_bnd]
  congr 1
  funext w ρ1
  cases w with
  | fz d => rfl
  | sc _ => rfl
  | ex _ => rfl
  | ob own c => cases own <;> cases c <;> rfl
@[simp] theorem fzQ_fz {d : PyData} : fzQ Q (.fz d) ρ = Q d ρ := propext Iff.rfl
@[simp] theorem fzQ_ob {ds : List PyData} : fzQ Q (.ob true (.l ds)) ρ = Q (.list ds) ρ := propext Iff.rfl
@[simp] theorem wp_upM {f : Mo PyData} : wp (upM f) ρ Qs E = wp f ρ (fun d ρ1 => Qs (.fz d) ρ1) E := by
  unfold upM
  rw [wp_bnd]
  rfl
theorem wp_ixL {ds : List PyData} {i : Int} {d : PyData} (h : L2.atI ds i = some d) : wp (ixM (.list ds) (.int i)) ρ Q E = Q d ρ := by
  unfold ixM
  dsimp only
  rw [h]
  rfl
theorem wp_ixT {ds : List PyData} {i : Int} {d : PyData} (h : L2.atI ds i = some d) : wp (ixM (.tuple ds) (.int i)) ρ Q E = Q d ρ := by
  unfold ixM
  dsimp only
  rw [h]
  rfl
theorem atI_nat {α : Type} {l : List α} {i : Int} {a : α} (h0 : 0 ≤ i) (h : l[i.toNat]? = some a) : L2.atI l i = some a := by
  obtain ⟨hl, _⟩ := List.getElem?_eq_some_iff.mp h
  unfold L2.atI
  have e : L2.ixN l.length i = some i.toNat := by
    have h1 : i < (l.length : Int) := by omega
    unfold L2.ixN
    split <;> first | rfl | (split <;> first | rfl | omega) | omega
  rw [e]
  exact h
@[simp] theorem wp_lenL {ds : List PyData} : wp (lenM [.list ds]) ρ Q E = Q (.int (ds.length : Int)) ρ := propext Iff.rfl
@[simp] theorem wp_lenT {ds : List PyData} : wp (lenM [.tuple ds]) ρ Q E = Q (.int (ds.length : Int)) ρ := propext Iff.rfl
theorem wp_lenS {x : Str} (h : x.length ≤ 1000000) : wp (lenM [.str x]) ρ Q E = Q (.int (x.length : Int)) ρ := by
  unfold lenM
  dsimp only
  rw [if_pos h]
  rfl
@[simp] theorem wp_intM {i : Int} : wp (intM [.int i]) ρ Q E = Q (.int i) ρ := propext Iff.rfl
@[simp] theorem wp_intB {b : Bool} : wp (intM [.bool b]) ρ Q E = Q (.int (if b then 1 else 0)) ρ := propext Iff.rfl
@[simp] theorem wp_absM {i : Int} : wp (absM [.int i]) ρ Q E = Q (.int (if i < 0 then -i else i)) ρ := propext Iff.rfl
@[simp] theorem wp_max2 {i j : Int} : wp (max2M [.int i, .int j]) ρ Q E = Q (.int (if j > i then j else i)) ρ := propext Iff.rfl
@[simp] theorem wp_min2 {i j : Int} : wp (min2M [.int i, .int j]) ρ Q E = Q (.int (if j < i then j else i)) ρ := propext Iff.rfl
@[simp] theorem wp_min3 {i j k : Int} : wp (min3M [.int i, .int j, .int k]) ρ Q E = Q (.int (if k < (if j < i then j else i) then k else if j < i then j else i)) ρ := propext Iff.rfl
@[simp] theorem wp_listL {ds : List PyData} : wp (listO [.list ds]) ρ Qs E = Qs (.ob true (.l ds)) ρ := propext Iff.rfl
theorem wp_sumM {ds : List PyData} {ns : List Int} (h : intsD ds = some ns) : wp (sumM [.list ds]) ρ Q E = Q (.int ns.sum) ρ := by
  unfold sumM
  dsimp only
  rw [h]
  rfl
theorem wp_maxM {ds : List PyData} {ns : List Int} {m : Int} (h : intsD ds = some ns) (hm : maxI ns = some m) : wp (maxM [.list ds]) ρ Q E = Q (.int m) ρ := by
  unfold maxM
  dsimp only
  rw [h]
  show wp (bnd (opt (maxI ns)) fun m => pu (.int m)) ρ Q E = _
  rw [hm]
  rfl
theorem wp_sortO {ds : List PyData} (h : okSort ds = true) : wp (sortO [.list ds]) ρ Qs E = Qs (.ob true (.l (srtD ds))) ρ := by
  unfold sortO
  dsimp only
  rw [if_pos h]
  rfl
/-! slices -/
@[simp] theorem wp_pN : wp pN ρ Qo E = Qo none ρ := propext Iff.rfl
def pSQ (Qo : Option Int → Rho → Prop) : PyData → Rho → Prop
  | .int i, ρ => Qo (some i) ρ
  | _, _ => False
@[simp] theorem wp_pS {f : Mo PyData} : wp (pS f) ρ Qo E = wp f ρ (pSQ Qo) E := by
  unfold pS
  rw [wp_bnd]
  congr 1
  funext d ρ1
  cases d <;> rfl
@[simp] theorem pSQ_i {i : Int} : pSQ Qo (.int i) ρ = Qo (some i) ρ := propext Iff.rfl
@[simp] theorem wp_slO {fa : Mo PyData} {fl fh : Mo (Option Int)} : wp (slO fa fl fh) ρ Qs E = wp fa ρ (fun d ρ1 => wp fl ρ1 (fun l ρ2 => wp fh ρ2 (fun u ρ3 => wp (slM d l u) ρ3 Qs E) E) E) E := by
  unfold slO
  rw [wp_bnd]
  congr 1
  funext d ρ1
  rw [wp_bnd]
  congr 1
  funext l ρ2
  rw [wp_bnd]
@[simp] theorem wp_slL {ds : List PyData} {lo hi : Option Int} : wp (slM (.list ds) lo hi) ρ Qs E = Qs (.ob true (.l (cutD ds lo hi))) ρ := propext Iff.rfl
theorem wp_slS {x : Str} {lo hi : Option Int} (h : x.length ≤ 1000000) : wp (slM (.str x) lo hi) ρ Qs E = Qs (.fz (.str (L2.cutS x lo hi))) ρ := by
  unfold slM
  dsimp only
  rw [if_pos h]
  rfl
/-! statements -/
@[simp] theorem wp_sNil : wp sNil ρ Qf E = Qf .nx ρ := propext Iff.rfl
@[simp] theorem wp_sCont : wp sCont ρ Qf E = Qf .ct ρ := propext Iff.rfl
@[simp] theorem wp_sBreak : wp sBreak ρ Qf E = Qf .bk ρ := propext Iff.rfl
def seqQ (g : Mo Fl) (Qf : Fl → Rho → Prop) (E : Exn → Rho → Prop) : Fl → Rho → Prop
  | .nx, ρ => wp g ρ Qf E
  | y, ρ => Qf y ρ
@[simp] theorem wp_sSeq {f g : Mo Fl} : wp (sSeq f g) ρ Qf E = wp f ρ (seqQ g Qf E) E := by
  unfold sSeq
  rw [wp_bnd]
  congr 1
  funext y ρ1
  cases y <;> rfl
@[simp] theorem seqQ_nx {g : Mo Fl} : seqQ g Qf E .nx ρ = wp g ρ Qf E := propext Iff.rfl
@[simp] theorem seqQ_rt {g : Mo Fl} {w : Sl} : seqQ g Qf E (.rt w) ρ = Qf (.rt w) ρ := propext Iff.rfl
@[simp] theorem seqQ_bk {g : Mo Fl} : seqQ g Qf E .bk ρ = Qf .bk ρ := propext Iff.rfl
@[simp] theorem seqQ_ct {g : Mo Fl} : seqQ g Qf E .ct ρ = Qf .ct ρ := propext Iff.rfl
@[simp] theorem wp_sDo {fa : Mo PyData} : wp (sDo fa) ρ Qf E = wp fa ρ (fun _ ρ1 => Qf .nx ρ1) E := by
  unfold sDo
  rw [wp_bnd]
  rfl
@[simp] theorem wp_sRet {fa : Mo PyData} : wp (sRet fa) ρ Qf E = wp fa ρ (fun d ρ1 => Qf (.rt (.fz d)) ρ1) E := by
  unfold sRet
  rw [wp_bnd]
  rfl
@[simp] theorem wp_sRetO {fo : Mo Sl} : wp (sRetO fo) ρ Qf E = wp fo ρ (fun w ρ1 => Qf (.rt w) ρ1) E := by
  unfold sRetO
  rw [wp_bnd]
  rfl
def retQ (o : Option (Option Sl)) (ρ : Rho) (Qf : Fl → Rho → Prop) : Prop := match o with
  | some (some w) => Qf (.rt w) ρ
  | _ => False
@[simp] theorem wp_sRetV {i : Nat} : wp (sRetV i) ρ Qf E = retQ ρ[i]? ρ Qf := by
  unfold wp sRetV retQ
  split <;> rename_i h <;> split at h <;> first | (cases h; simp_all; done) | simp_all
@[simp] theorem retQ_w {w : Sl} : retQ (some (some w)) ρ Qf = Qf (.rt w) ρ := propext Iff.rfl
@[simp] theorem wp_sIf {t : Mo Bool} {f g : Mo Fl} : wp (sIf t f g) ρ Qf E = wp t ρ (fun k ρ1 => if k = true then wp f ρ1 Qf E else wp g ρ1 Qf E) E := by
  unfold sIf
  rw [wp_bnd]
  congr 1
  funext k ρ1
  cases k <;> rfl
def putQ (o : Option Rho) (Qf : Fl → Rho → Prop) : Prop := match o with
  | some ρ' => Qf .nx ρ'
  | none => False
@[simp] theorem wp_putM {i : Nat} {w : Sl} : wp (putM i w) ρ Qf E = (i < ρ.length ∧ Qf .nx (ρ.set i (some w))) := by
  unfold wp putM put
  by_cases h : i < ρ.length
  · rw [if_pos h, eq_iff_iff]
    exact ⟨fun z => ⟨h, z⟩, fun z => z.2⟩
  · rw [if_neg h, eq_iff_iff]
    exact ⟨fun z => z.elim, fun z => absurd z.1 h⟩
@[simp] theorem wp_sSet {i : Nat} {fa : Mo PyData} : wp (sSet i fa) ρ Qf E = wp fa ρ (fun d ρ1 => i < ρ1.length ∧ Qf .nx (ρ1.set i (some (.fz d)))) E := by
  unfold sSet
  rw [wp_bnd]
  congr 1
  funext d ρ1
  rw [wp_putM]
@[simp] theorem wp_sSetO {i : Nat} {fo : Mo Sl} : wp (sSetO i fo) ρ Qf E = wp fo ρ (fun w ρ1 => i < ρ1.length ∧ Qf .nx (ρ1.set i (some w))) E := by
  unfold sSetO
  rw [wp_bnd]
  congr 1
  funext d ρ1
  rw [wp_putM]
@[simp] theorem wp_tgt {t : Tg} {d : PyData} : wp (tgt t d) ρ Qf E = putQ (t d ρ) Qf := by
  unfold wp tgt putQ
  cases t d ρ <;> rfl
@[simp] theorem wp_sAsg {t : Tg} {fa : Mo PyData} : wp (sAsg t fa) ρ Qf E = wp fa ρ (fun d ρ1 => putQ (t d ρ1) Qf) E := by
  unfold sAsg
  rw [wp_bnd]
  congr 1
  funext d ρ1
  rw [wp_tgt]
@[simp] theorem wp_sRaise {cls : Str} {names : List Str} {fs : Mo (List PyData)} : wp (sRaise cls names fs) ρ Qf E = wp fs ρ (fun ds ρ1 => ds.length = names.length ∧ E ⟨cls, names.zip ds⟩ ρ1) E := by
  unfold sRaise
  rw [wp_bnd]
  congr 1
  funext ds ρ1
  unfold raiseQ wp
  dsimp only
  by_cases h : ds.length = names.length
  · rw [if_pos h, eq_iff_iff]
    exact ⟨fun z => ⟨h, z⟩, fun z => z.2⟩
  · rw [if_neg h, eq_iff_iff]
    exact ⟨fun z => z.elim, fun z => absurd z.1 h⟩
/-! for -/
def lpQ (k : Rho → Prop) (Qf : Fl → Rho → Prop) : Fl → Rho → Prop
  | .nx, ρ => k ρ
  | .ct, ρ => k ρ
  | .bk, ρ => Qf .nx ρ
  | .rt w, ρ => Qf (.rt w) ρ
@[simp] theorem wp_sFor {items : Mo (List PyData)} {t : Tg} {body : Mo Fl} : wp (sFor items t body) ρ Qf E = wp items ρ (fun ds ρ1 => wp (loop t body ds) ρ1 Qf E) E := by
  unfold sFor
  rw [wp_bnd]
@[simp] theorem wp_loop_nil {t : Tg} {body : Mo Fl} : wp (loop t body []) ρ Qf E = Qf .nx ρ := propext Iff.rfl
theorem wp_loop_cons {t : Tg} {body : Mo Fl} {d : PyData} {ds : List PyData} : wp (loop t body (d :: ds)) ρ Qf E = putQ (t d ρ) fun _ ρ1 => wp body ρ1 (lpQ (fun ρ2 => wp (loop t body ds) ρ2 Qf E) Qf) E := by
  show wp (bnd (tgt t d) fun _ => bnd body (lpK (loop t body ds))) ρ Qf E = _
  rw [wp_bnd, wp_tgt]
  congr 1
  funext _ ρ1
  rw [wp_bnd]
  congr 1
  funext y ρ2
  cases y <;> rfl
@[simp] theorem lpQ_nx {k : Rho → Prop} : lpQ k Qf .nx ρ = k ρ := propext Iff.rfl
@[simp] theorem lpQ_ct {k : Rho → Prop} : lpQ k Qf .ct ρ = k ρ := propext Iff.rfl
@[simp] theorem lpQ_bk {k : Rho → Prop} : lpQ k Qf .bk ρ = Qf .nx ρ := propext Iff.rfl
@[simp] theorem lpQ_rt {k : Rho → Prop} {w : Sl} : lpQ k Qf (.rt w) ρ = Qf (.rt w) ρ := propext Iff.rfl
/-- by an invariant over what is left -/
theorem wp_loop {t : Tg} {body : Mo Fl} (I : List PyData → Rho → Prop) (hs : ∀ d ds ρ, I (d :: ds) ρ → putQ (t d ρ) fun _ ρ1 => wp body ρ1 (lpQ (I ds) Qf) E) (he : ∀ ρ, I [] ρ → Qf .nx ρ) : ∀ {ds : List PyData} {ρ : Rho}, I ds ρ → wp (loop t body ds) ρ Qf E
  | [], ρ, h => he ρ h
  | d :: ds, ρ, h => by
    rw [wp_loop_cons]
    have z := hs d ds ρ h
    unfold putQ at z ⊢
    cases q : t d ρ with
    | none =>
      rw [q] at z
      exact z
    | some ρ1 =>
      rw [q] at z
      refine wp_imp z (fun y ρ2 w => ?_) fun _ _ w => w
      cases y with
      | nx => exact wp_loop I hs he w
      | ct => exact wp_loop I hs he w
      | bk => exact w
      | rt v => exact w
@[simp] theorem putQ_some {ρ' : Rho} : putQ (some ρ') Qf = Qf .nx ρ' := propext Iff.rfl
@[simp] theorem gV_eq {i : Nat} {d : PyData} : gV i d ρ = if i < ρ.length then some (ρ.set i (some (.fz d))) else none := rfl
@[simp] theorem gT_eq {n : Nat} {u : List PyData → Rho → Option Rho} {ds : List PyData} : gT n u (.tuple ds) ρ = if ds.length = n then u ds ρ else none := rfl
@[simp] theorem gsC_eq {t : Tg} {u : List PyData → Rho → Option Rho} {d : PyData} {ds : List PyData} : gsC t u (d :: ds) ρ = (t d ρ).bind (u ds) := rfl
@[simp] theorem gsN_eq : gsN [] ρ = some ρ := rfl
@[simp] theorem wp_anyL {ds : List PyData} : wp (anyD (.list ds)) ρ Ql E = Ql ds ρ := propext Iff.rfl
@[simp] theorem wp_anyT {ds : List PyData} : wp (anyD (.tuple ds)) ρ Ql E = Ql ds ρ := propext Iff.rfl
@[simp] theorem wp_anyS {x : Str} : wp (anyD (.str x)) ρ Ql E = Ql (x.cps.toList.map fun c => .str ⟨#[c]⟩) ρ := propext Iff.rfl
theorem wp_rng1 {j : Int} (h : -(2 ^ 62) ≤ j ∧ j < 2 ^ 62) : wp (rng1D [.int j]) ρ Ql E = Ql (rngD 0 j.toNat) ρ := by
  unfold rng1D
  dsimp only
  rw [if_pos h]
  rfl
theorem wp_rng2 {i j : Int} (h : -(2 ^ 62) ≤ i ∧ i < 2 ^ 62 ∧ -(2 ^ 62) ≤ j ∧ j < 2 ^ 62) : wp (rng2D [.int i, .int j]) ρ Ql E = Ql (rngD i (j - i).toNat) ρ := by
  unfold rng2D
  dsimp only
  rw [if_pos h]
  rfl
@[simp] theorem wp_enumD {ds : List PyData} : wp (enumD [.list ds]) ρ Ql E = Ql (enD ds) ρ := propext Iff.rfl
/-! the same, their conditions as a part of the wish -/
theorem ite_no {α : Type} {c : Prop} [Decidable c] {f : Mo α} {Q : α → Rho → Prop} : wp (if c then f else no) ρ Q E = (c ∧ wp f ρ Q E) := by
  by_cases h : c
  · rw [if_pos h, eq_iff_iff]
    exact ⟨fun z => ⟨h, z⟩, fun z => z.2⟩
  · rw [if_neg h, eq_iff_iff]
    exact ⟨fun z => z.elim, fun z => absurd z.1 h⟩
@[simp] theorem wq_addS {x y : Str} : wp (addM (.str x) (.str y)) ρ Q E = (x.length + y.length ≤ 1000000 ∧ Q (.str (x ++ y)) ρ) := ite_no
@[simp] theorem wq_addL {x y : List PyData} : wp (addM (.list x) (.list y)) ρ Q E = (x.length + y.length ≤ 1000000 ∧ Q (.list (x ++ y)) ρ) := ite_no
@[simp] theorem wq_addO {x y : List PyData} : wp (addO (.list x) (.list y)) ρ Qs E = (x.length + y.length ≤ 1000000 ∧ Qs (.ob true (.l (x ++ y))) ρ) := ite_no
def mulB (i j : Int) : Prop := (-(2 ^ 64) < i ∧ i < 2 ^ 64) ∨ (-(2 ^ 64) < j ∧ j < 2 ^ 64)
theorem mulB_l {i j : Int} (h : -1000000000000000000 ≤ i ∧ i ≤ 1000000000000000000) : mulB i j := .inl (by omega)
theorem mulB_r {i j : Int} (h : -1000000000000000000 ≤ j ∧ j ≤ 1000000000000000000) : mulB i j := .inr (by omega)
@[simp] theorem wq_mulI {i j : Int} : wp (mulM (.int i) (.int j)) ρ Q E = (mulB i j ∧ Q (.int (i * j)) ρ) := ite_no
def repB (n : Nat) (k : Int) : Prop := n * k.toNat ≤ 1000000 ∧ -(2 ^ 63) ≤ k ∧ k < 2 ^ 63
theorem repB_of {n : Nat} {k : Int} (h1 : n * k.toNat ≤ 1000000) (h2 : -1000000 ≤ k ∧ k ≤ 1000000) : repB n k := ⟨h1, by omega, by omega⟩
@[simp] theorem wq_mulL {x : List PyData} {k : Int} : wp (mulM (.list x) (.int k)) ρ Q E = (repB x.length k ∧ Q (.list (List.replicate k.toNat x).flatten) ρ) := ite_no
@[simp] theorem wq_mulO {x : List PyData} {k : Int} : wp (mulO (.list x) (.int k)) ρ Qs E = (repB x.length k ∧ Qs (.ob true (.l (List.replicate k.toNat x).flatten)) ρ) := ite_no
@[simp] theorem wq_divI {i j : Int} : wp (divM (.int i) (.int j)) ρ Q E = ((0 < j ∧ j < 1073741824) ∧ Q (.int (i / j)) ρ) := ite_no
@[simp] theorem wq_modI {i j : Int} : wp (modM (.int i) (.int j)) ρ Q E = (0 < j ∧ Q (.int (i % j)) ρ) := ite_no
def powB (i j : Int) : Prop := 0 ≤ j ∧ (Builtin.Int.intBits i : Int) * j ≤ 2 ^ 27
@[simp] theorem wq_powI {i j : Int} : wp (powM (.int i) (.int j)) ρ Q E = (powB i j ∧ Q (.int (i ^ j.toNat)) ρ) := ite_no
theorem wq_eq {d e : PyData} : wp (eqM d e) ρ Q E = (min d.depth e.depth ≤ 60 ∧ Q (.bool (PyData.eqv d e)) ρ) := ite_no
theorem wq_ne {d e : PyData} : wp (neM d e) ρ Q E = (min d.depth e.depth ≤ 60 ∧ Q (.bool (!PyData.eqv d e)) ρ) := ite_no
/-- membership -/
def memD (d : PyData) (ds : List PyData) : Bool := ds.any fun y => PyData.eqv y d
def flatQ (d : PyData) (ds : List PyData) : Prop := (flatD d && ds.all flatD) = true
def inS (c : Str) (os : List Str) : Bool := os.any fun o => decide (o = c)
@[simp] theorem memD_strs {c : Str} {os : List Str} : memD (.str c) (os.map .str) = inS c os := by
  unfold memD inS
  rw [List.any_map]
  congr 1
@[simp] theorem memD_nil {d : PyData} : memD d [] = false := rfl
@[simp] theorem flatQ_strs {c : Str} {os : List Str} : flatQ (.str c) (os.map .str) := by
  unfold flatQ
  rw [List.all_map]
  exact List.all_eq_true.mpr fun _ _ => rfl
@[simp] theorem flatQ_nil {c : Str} : flatQ (.str c) [] := rfl
theorem inS_iff {c : Str} {os : List Str} : inS c os = true ↔ c ∈ os := by
  unfold inS
  rw [List.any_eq_true]
  exact ⟨fun ⟨x, h1, h2⟩ => of_decide_eq_true h2 ▸ h1, fun h => ⟨c, h, decide_eq_true rfl⟩⟩
@[simp] theorem wq_inL {d : PyData} {ds : List PyData} : wp (inM d (.list ds)) ρ Q E = (flatQ d ds ∧ Q (.bool (memD d ds)) ρ) := ite_no
@[simp] theorem wq_ninL {d : PyData} {ds : List PyData} : wp (ninM d (.list ds)) ρ Q E = (flatQ d ds ∧ Q (.bool (!memD d ds)) ρ) := ite_no
@[simp] theorem wq_ninT {d : PyData} {ds : List PyData} : wp (ninM d (.tuple ds)) ρ Q E = (flatQ d ds ∧ Q (.bool (!memD d ds)) ρ) := ite_no
theorem opt_ex {α β : Type} {o : Option α} {g : α → Mo β} {Q : β → Rho → Prop} : wp (bnd (opt o) g) ρ Q E = ∃ a, o = some a ∧ wp (g a) ρ Q E := by
  cases o with
  | none =>
    rw [eq_iff_iff]
    exact ⟨fun z => (show False from z).elim, fun ⟨a, z, _⟩ => nomatch z⟩
  | some a =>
    rw [eq_iff_iff]
    exact ⟨fun z => ⟨a, rfl, z⟩, fun ⟨b, e, z⟩ => by cases e; exact z⟩
theorem wp_optE {α : Type} {o : Option α} {Q : α → Rho → Prop} : wp (opt o) ρ Q E = ∃ a, o = some a ∧ Q a ρ := by
  cases o with
  | none =>
    rw [eq_iff_iff]
    exact ⟨fun z => (show False from z).elim, fun ⟨a, z, _⟩ => nomatch z⟩
  | some a =>
    rw [eq_iff_iff]
    exact ⟨fun z => ⟨a, rfl, z⟩, fun ⟨b, e, z⟩ => by cases e; exact z⟩
@[simp] theorem wq_ixL {ds : List PyData} {i : Int} : wp (ixM (.list ds) (.int i)) ρ Q E = ∃ d, L2.atI ds i = some d ∧ Q d ρ := wp_optE
@[simp] theorem wq_ixT {ds : List PyData} {i : Int} : wp (ixM (.tuple ds) (.int i)) ρ Q E = ∃ d, L2.atI ds i = some d ∧ Q d ρ := wp_optE
@[simp] theorem wq_ixS {x : Str} {i : Int} : wp (ixM (.str x) (.int i)) ρ Q E = (x.length ≤ 1000000 ∧ ∃ c, L2.atI x.cps.toList i = some c ∧ Q (.str ⟨#[c]⟩) ρ) := by
  show wp (if x.length ≤ 1000000 then bnd (opt (L2.atI x.cps.toList i)) fun c => pu (.str ⟨#[c]⟩) else no) ρ Q E = _
  rw [ite_no, opt_ex]
  rfl
@[simp] theorem wq_lenS {x : Str} : wp (lenM [.str x]) ρ Q E = (x.length ≤ 1000000 ∧ Q (.int (x.length : Int)) ρ) := ite_no
@[simp] theorem wq_sumM {ds : List PyData} : wp (sumM [.list ds]) ρ Q E = ∃ ns, intsD ds = some ns ∧ Q (.int ns.sum) ρ := opt_ex
@[simp] theorem wq_maxM {ds : List PyData} : wp (maxM [.list ds]) ρ Q E = ∃ ns, intsD ds = some ns ∧ ∃ m, maxI ns = some m ∧ Q (.int m) ρ := by
  show wp (bnd (opt (intsD ds)) fun ns => bnd (opt (maxI ns)) fun m => pu (.int m)) ρ Q E = _
  rw [opt_ex]
  simp only [opt_ex]
  rfl
@[simp] theorem wq_sortO {ds : List PyData} : wp (sortO [.list ds]) ρ Qs E = (okSort ds = true ∧ Qs (.ob true (.l (srtD ds))) ρ) := ite_no
@[simp] theorem wq_slS {x : Str} {lo hi : Option Int} : wp (slM (.str x) lo hi) ρ Qs E = (x.length ≤ 1000000 ∧ Qs (.fz (.str (L2.cutS x lo hi))) ρ) := ite_no
def rngB (i : Int) : Prop := -(2 ^ 62) ≤ i ∧ i < 2 ^ 62
def rngB2 (i j : Int) : Prop := -(2 ^ 62) ≤ i ∧ i < 2 ^ 62 ∧ -(2 ^ 62) ≤ j ∧ j < 2 ^ 62
theorem rngB_of {i : Int} (h : -1000000000000 ≤ i ∧ i ≤ 1000000000000) : rngB i := ⟨by omega, by omega⟩
theorem rngB2_of {i j : Int} (h : -1000000000000 ≤ i ∧ i ≤ 1000000000000 ∧ -1000000000000 ≤ j ∧ j ≤ 1000000000000) : rngB2 i j := ⟨by omega, by omega, by omega, by omega⟩
@[simp] theorem wq_rng1 {j : Int} : wp (rng1D [.int j]) ρ Ql E = (rngB j ∧ Ql (rngD 0 j.toNat) ρ) := ite_no
@[simp] theorem wq_rng2 {i j : Int} : wp (rng2D [.int i, .int j]) ρ Ql E = (rngB2 i j ∧ Ql (rngD i (j - i).toNat) ρ) := ite_no
/-! own lists of a slot -/
def plcQ (o : Option (List PyData)) (Q : List PyData → Prop) : Prop := match o with
  | some ds => Q ds
  | none => False
@[simp] theorem plcQ_some {ds : List PyData} {Q : List PyData → Prop} : plcQ (some ds) Q = Q ds := propext Iff.rfl
@[simp] theorem wq_lenP {i : Nat} : wp (lenP i) ρ Q E = plcQ (plc ρ i) fun ds => Q (.int (ds.length : Int)) ρ := by
  unfold wp lenP plcQ
  cases plc ρ i <;> rfl
@[simp] theorem wq_listP {i : Nat} : wp (listP i) ρ Qs E = plcQ (plc ρ i) fun ds => Qs (.ob true (.l ds)) ρ := by
  unfold wp listP plcQ
  cases plc ρ i <;> rfl
def hasQ (o : Option (Option Sl)) (q : Prop) : Prop := match o with
  | some (some _) => q
  | _ => False
@[simp] theorem hasQ_some {w : Sl} {q : Prop} : hasQ (some (some w)) q = q := propext Iff.rfl
@[simp] theorem wp_hasS {i : Nat} {Q : Unit → Rho → Prop} : wp (hasS i) ρ Q E = hasQ ρ[i]? (Q () ρ) := by
  unfold wp hasS hasQ
  split <;> rename_i h <;> split at h <;> first | (cases h; simp_all; done) | simp_all
@[simp] theorem wp_ixP {i : Nat} {fb : Mo PyData} : wp (ixP i fb) ρ Q E = hasQ ρ[i]? (wp fb ρ (fun k ρ1 => wp (ixQ i k) ρ1 Q E) E) := by
  unfold ixP
  rw [wp_bnd, wp_hasS]
  congr 1
  rw [wp_bnd]
@[simp] theorem wp_ixQ {i : Nat} {k : Int} : wp (ixQ i (.int k)) ρ Q E = plcQ (plc ρ i) fun ds => ∃ d, L2.atI ds k = some d ∧ Q d ρ := by
  unfold wp ixQ plcQ
  dsimp only
  cases plc ρ i with
  | none => rfl
  | some ds =>
    have z := wp_optE (o := L2.atI ds k) (ρ := ρ) (E := E) (Q := Q)
    unfold wp at z
    exact z
def isLsQ (o : Option (Option Sl)) (q : Prop) : Prop := match o with
  | some (some (.ob _ (.l _))) => q
  | _ => False
@[simp] theorem isLsQ_some {b : Bool} {ds : List PyData} {q : Prop} : isLsQ (some (some (.ob b (.l ds)))) q = q := propext Iff.rfl
theorem wp_isLs {i : Nat} {Q : Unit → Rho → Prop} : wp (isLs i) ρ Q E = isLsQ ρ[i]? (Q () ρ) := by
  unfold wp isLs isLsQ
  split <;> rename_i h <;> split at h <;> first | (cases h; simp_all; done) | simp_all
def appW (o : Option (Option Sl)) (i : Nat) (d : PyData) (ρ : Rho) (Qf : Fl → Rho → Prop) : Prop := match o with
  | some (some (.ob b (.l ds))) => ds.length < 1000000 ∧ Qf .nx (ρ.set i (some (.ob b (.l (ds ++ [d])))))
  | _ => False
@[simp] theorem appW_some {i : Nat} {d : PyData} {b : Bool} {ds : List PyData} : appW (some (some (.ob b (.l ds)))) i d ρ Qf = (ds.length < 1000000 ∧ Qf .nx (ρ.set i (some (.ob b (.l (ds ++ [d])))))) := propext Iff.rfl
theorem wp_appQ {i : Nat} {d : PyData} : wp (appQ i d) ρ Qf E = appW ρ[i]? i d ρ Qf := by
  unfold wp appQ appW
  cases q : ρ[i]? with
  | none => rfl
  | some o =>
    cases o with
    | none => rfl
    | some w =>
      cases w with
      | ob b c =>
        cases c with
        | l ds =>
          dsimp only
          by_cases h : ds.length < 1000000
          · rw [if_pos h, eq_iff_iff]
            exact ⟨fun z => ⟨h, z⟩, fun z => z.2⟩
          · rw [if_neg h, eq_iff_iff]
            exact ⟨fun z => z.elim, fun z => absurd z.1 h⟩
        | d _ => rfl
      | _ => rfl
@[simp] theorem wp_sApp {i : Nat} {fa : Mo PyData} : wp (sApp i fa) ρ Qf E = isLsQ ρ[i]? (wp fa ρ (fun d ρ1 => appW ρ1[i]? i d ρ1 Qf) E) := by
  unfold sApp
  rw [wp_bnd, wp_isLs]
  congr 1
  rw [wp_bnd]
  congr 1
  funext d ρ1
  rw [wp_appQ]
def stW (o : Option (Option Sl)) (i : Nat) (d k : PyData) (ρ : Rho) (Qf : Fl → Rho → Prop) : Prop := match o, k with
  | some (some (.ob b (.l ds))), .int k => ∃ j, L2.ixN ds.length k = some j ∧ Qf .nx (ρ.set i (some (.ob b (.l (ds.set j d)))))
  | _, _ => False
@[simp] theorem stW_some {i : Nat} {d : PyData} {b : Bool} {ds : List PyData} {k : Int} : stW (some (some (.ob b (.l ds)))) i d (.int k) ρ Qf = ∃ j, L2.ixN ds.length k = some j ∧ Qf .nx (ρ.set i (some (.ob b (.l (ds.set j d))))) := propext Iff.rfl
theorem wp_stQ {i : Nat} {d k : PyData} : wp (stQ i d k) ρ Qf E = stW ρ[i]? i d k ρ Qf := by
  unfold wp stQ stW
  cases q : ρ[i]? with
  | none => rfl
  | some o =>
    cases o with
    | none => rfl
    | some w =>
      cases w with
      | ob b c =>
        cases c with
        | l ds =>
          cases k with
          | int k =>
            dsimp only
            cases q2 : L2.ixN ds.length k with
            | none =>
              rw [eq_iff_iff]
              exact ⟨fun z => (show False from z).elim, fun ⟨j, z, _⟩ => nomatch z⟩
            | some j =>
              rw [eq_iff_iff]
              exact ⟨fun z => ⟨j, rfl, z⟩, fun ⟨j', e, z⟩ => by cases e; exact z⟩
          | _ => rfl
        | d _ => rfl
      | _ => rfl
@[simp] theorem wp_sSt {i : Nat} {fk fa : Mo PyData} : wp (sSt i fk fa) ρ Qf E = wp fa ρ (fun d ρ1 => hasQ ρ1[i]? (wp fk ρ1 (fun k ρ2 => stW ρ2[i]? i d k ρ2 Qf) E)) E := by
  unfold sSt
  rw [wp_bnd]
  congr 1
  funext d ρ1
  rw [wp_bnd, wp_hasS]
  congr 1
  rw [wp_bnd]
  congr 1
  funext k ρ2
  rw [wp_stQ]
/-! calls -/
def okQ (o : FOut) (ρ : Rho) (Qs : Sl → Rho → Prop) (E : Exn → Rho → Prop) : Prop := match o with
  | .ok w _ => Qs w ρ
  | .err e _ => E e ρ
  | .no => False
@[simp] theorem okQ_ok {w : Sl} {c : Option BR} : okQ (.ok w c) ρ Qs E = Qs w ρ := propext Iff.rfl
@[simp] theorem okQ_err {e : Exn} {c : Option BR} : okQ (.err e c) ρ Qs E = E e ρ := propext Iff.rfl
@[simp] theorem wp_callF {n : Nat} {f : FnF} {fs : Mo (List PyData)} : wp (callF n f fs) ρ Qs E = wp fs ρ (fun ds ρ1 => ds.length = n ∧ okQ (f .n ds) ρ1 Qs E) E := by
  unfold callF
  rw [wp_bnd]
  congr 1
  funext ds ρ1
  unfold wp callQ okQ
  by_cases h : ds.length = n
  · rw [if_pos h, eq_iff_iff]
    cases f .n ds <;> exact ⟨fun z => ⟨h, z⟩, fun z => z.2⟩
  · rw [if_neg h, eq_iff_iff]
    exact ⟨fun z => z.elim, fun z => absurd z.1 h⟩
@[simp] theorem wp_callK {n : Nat} {f : FnF} {gD : List PyData → List PyData → List PyData} {fs ks : Mo (List PyData)} : wp (callK n f gD fs ks) ρ Qs E = wp fs ρ (fun ds ρ1 => wp ks ρ1 (fun zs ρ2 => (gD ds zs).length = n ∧ okQ (f .n (gD ds zs)) ρ2 Qs E) E) E := by
  unfold callK
  rw [wp_bnd]
  congr 1
  funext ds ρ1
  rw [wp_bnd]
  congr 1
  funext zs ρ2
  unfold wp callQ okQ
  by_cases h : (gD ds zs).length = n
  · rw [if_pos h, eq_iff_iff]
    cases f .n (gD ds zs) <;> exact ⟨fun z => ⟨h, z⟩, fun z => z.2⟩
  · rw [if_neg h, eq_iff_iff]
    exact ⟨fun z => z.elim, fun z => absurd z.1 h⟩
@[simp] theorem wp_lenA {n : Nat} {fs : Mo (List PyData)} : wp (lenA n fs) ρ Ql E = wp fs ρ (fun ds ρ1 => ds.length = n ∧ Ql ds ρ1) E := by
  unfold lenA
  rw [wp_bnd]
  congr 1
  funext ds ρ1
  rw [ite_no]
  rfl
/-- a call whose first argument is an object of slot i -/
def okB (i : Nat) (b : Bool) (o : FOut) (ρ : Rho) (Qs : Sl → Rho → Prop) (E : Exn → Rho → Prop) : Prop := match o with
  | .ok w (some c) => Qs w (ρ.set i (some (.ob b c)))
  | .err e (some c) => E e (ρ.set i (some (.ob b c)))
  | _ => False
@[simp] theorem okB_ok {i : Nat} {b : Bool} {w : Sl} {c : BR} : okB i b (.ok w (some c)) ρ Qs E = Qs w (ρ.set i (some (.ob b c))) := propext Iff.rfl
def brQ (o : Option (Option Sl)) (i : Nat) (f : FnF) (ds : List PyData) (ρ : Rho) (Qs : Sl → Rho → Prop) (E : Exn → Rho → Prop) : Prop := match o with
  | some (some (.ob b c)) => okB i b (f (.b c) ds) ρ Qs E
  | _ => False
@[simp] theorem brQ_some {i : Nat} {f : FnF} {ds : List PyData} {b : Bool} {c : BR} : brQ (some (some (.ob b c))) i f ds ρ Qs E = okB i b (f (.b c) ds) ρ Qs E := propext Iff.rfl
@[simp] theorem wp_callB {i n : Nat} {f : FnF} {fs : Mo (List PyData)} : wp (callB i n f fs) ρ Qs E = hasQ ρ[i]? (wp fs ρ (fun ds ρ1 => ds.length + 1 = n ∧ brQ ρ1[i]? i f ds ρ1 Qs E) E) := by
  unfold callB
  rw [wp_bnd, wp_hasS]
  congr 1
  rw [wp_bnd]
  congr 1
  funext ds ρ1
  unfold wp callBQ brQ
  by_cases h : ds.length + 1 = n
  · rw [if_pos h, eq_iff_iff]
    cases q : ρ1[i]? with
    | none => exact ⟨fun z => (show False from z).elim, fun z => z.2⟩
    | some o =>
      cases o with
      | none => exact ⟨fun z => (show False from z).elim, fun z => z.2⟩
      | some w =>
        cases w with
        | ob b c =>
          dsimp only
          unfold okB
          cases f (.b c) ds with
          | ok w c' => cases c' <;> exact ⟨fun z => ⟨h, z⟩, fun z => z.2⟩
          | err e c' => cases c' <;> exact ⟨fun z => ⟨h, z⟩, fun z => z.2⟩
          | no => exact ⟨fun z => (show False from z).elim, fun z => z.2⟩
        | _ => exact ⟨fun z => (show False from z).elim, fun z => z.2⟩
  · rw [if_neg h, eq_iff_iff]
    exact ⟨fun z => z.elim, fun z => absurd z.1 h⟩
/-! a def's end -/
def retN : Fl → FOut
  | .rt (.fz d) => .ok (.fz d) none
  | .rt (.ob true c) => .ok (.ob true c) none
  | .nx => .ok (.fz .none) none
  | _ => .no
@[simp] theorem retN_fz {d : PyData} : retN (.rt (.fz d)) = .ok (.fz d) none := rfl
@[simp] theorem retN_ob {c : BR} : retN (.rt (.ob true c)) = .ok (.ob true c) none := rfl
@[simp] theorem retN_nx : retN .nx = .ok (.fz .none) none := rfl
theorem mk_n {N : Nat} {body : Mo Fl} {ds : List PyData} {o : FOut} (h : wp body (env0 N .n ds) (fun fl _ => retN fl = o) (fun e _ => FOut.err e none = o)) : mkFn N body .n ds = o := by
  unfold wp at h
  unfold mkFn
  cases q : body (env0 N .n ds) with
  | ok fl ρ' =>
    rw [q] at h
    cases fl with
    | rt w =>
      cases w with
      | fz d => exact h
      | sc _ => exact h
      | ex _ => exact h
      | ob own c => cases own <;> exact h
    | _ => exact h
  | err e ρ' =>
    rw [q] at h
    exact h
  | no =>
    rw [q] at h
    exact h.elim
/-- what a call gives, by wishes -/
def fout (o : FOut) (Q : Sl → Option BR → Prop) (E : Exn → Option BR → Prop) : Prop := match o with
  | .ok w c => Q w c
  | .err e c => E e c
  | .no => False
def retX (x : FA) (Q : Sl → Option BR → Prop) (E : Exn → Option BR → Prop) (fl : Fl) (ρ' : Rho) : Prop := match fl with
  | .rt w => fout (finO x w ρ') Q E
  | .nx => fout (finO x (.fz .none) ρ') Q E
  | _ => False
theorem mk_x {N : Nat} {body : Mo Fl} {x : FA} {ds : List PyData} {Q : Sl → Option BR → Prop} {E : Exn → Option BR → Prop} (h : wp body (env0 N x ds) (retX x Q E) (fun e ρ' => fout (finE x e ρ') Q E)) : fout (mkFn N body x ds) Q E := by
  unfold wp at h
  unfold mkFn
  cases q : body (env0 N x ds) with
  | ok fl ρ' =>
    rw [q] at h
    cases fl with
    | rt w => exact h
    | nx => exact h
    | bk => exact h.elim
    | ct => exact h.elim
  | err e ρ' =>
    rw [q] at h
    exact h
  | no =>
    rw [q] at h
    exact h.elim
theorem fout_ok {o : FOut} {Q : Sl → Option BR → Prop} (h : fout o Q fun _ _ => False) : ∃ w c, o = .ok w c ∧ Q w c := by
  cases o with
  | ok w c => exact ⟨w, c, rfl, h⟩
  | err _ _ => exact h.elim
  | no => exact h.elim
/-- .. when the first argument may change: slot 0 holds it at the end -/
def rtB (o : Option (Option Sl)) (w : Sl) (Q : Sl → BR → Prop) : Prop := match o, w with
  | some (some (.ob false c)), .fz d => Q (.fz d) c
  | some (some (.ob false c)), .ob true c' => Q (.ob true c') c
  | _, _ => False
@[simp] theorem rtB_fz {c : BR} {d : PyData} {Q : Sl → BR → Prop} : rtB (some (some (.ob false c))) (.fz d) Q = Q (.fz d) c := propext Iff.rfl
@[simp] theorem rtB_ob {c c' : BR} {Q : Sl → BR → Prop} : rtB (some (some (.ob false c))) (.ob true c') Q = Q (.ob true c') c := propext Iff.rfl
def retB (Q : Sl → BR → Prop) (fl : Fl) (ρ' : Rho) : Prop := match fl with
  | .rt w => rtB ρ'[(0 : Nat)]? w Q
  | .nx => rtB ρ'[(0 : Nat)]? (.fz .none) Q
  | _ => False
@[simp] theorem retB_rt {Q : Sl → BR → Prop} {w : Sl} : retB Q (.rt w) ρ = rtB ρ[(0 : Nat)]? w Q := propext Iff.rfl
@[simp] theorem retB_nx {Q : Sl → BR → Prop} : retB Q .nx ρ = rtB ρ[(0 : Nat)]? (.fz .none) Q := propext Iff.rfl
theorem mk_b {N : Nat} {body : Mo Fl} {c : BR} {ds : List PyData} {Q : Sl → BR → Prop} (h : wp body (env0 N (.b c) ds) (retB Q) (fun _ _ => False)) : ∃ w c', mkFn N body (.b c) ds = .ok w (some c') ∧ Q w c' := by
  have key : ∀ w ρ', rtB ρ'[(0 : Nat)]? w Q → ∃ w' c', finO (.b c) w ρ' = .ok w' (some c') ∧ Q w' c' := fun w ρ' z => by
    unfold rtB at z
    split at z
    · rename_i c' d q
      refine ⟨_, c', ?_, z⟩
      unfold finO brOf
      simp [q, rtOk]
    · rename_i c' c2 q
      refine ⟨_, c', ?_, z⟩
      unfold finO brOf
      simp [q, rtOk]
    · exact z.elim
  unfold wp at h
  unfold mkFn
  cases q : body (env0 N (.b c) ds) with
  | ok fl ρ' =>
    rw [q] at h
    cases fl with
    | rt w => exact key w ρ' h
    | nx => exact key _ ρ' h
    | bk => exact h.elim
    | ct => exact h.elim
  | err e ρ' =>
    rw [q] at h
    exact h.elim
  | no =>
    rw [q] at h
    exact h.elim
/-! list comprehensions -/
theorem wp_lcO {vs : List Nat} {items : Mo (List PyData)} {t : Tg} {tt : Mo Bool} {fe : Mo PyData} : wp (lcO vs items t tt fe) ρ Qs E = wp items ρ (fun ds ρ1 => wp (lcIn vs t tt fe ds) ρ1 Qs E) E := by
  unfold lcO
  rw [wp_bnd]
/-- one turn: nothing, or an item -/
def Turn1 (vs : List Nat) (t : Tg) (tt : Mo Bool) (fe : Mo PyData) (ρ : Rho) (d : PyData) (Qt : Option PyData → Rho → Prop) : Prop := match t d ρ with
  | none => False
  | some ρ2 => wp tt ρ2 (fun b ρ3 => if b = true then wp fe ρ3 (fun y ρ4 => Qt (some y) (wipeR ρ4 vs)) (fun _ _ => False) else Qt none (wipeR ρ3 vs)) (fun _ _ => False)
/-- by an invariant over what is left, what was got -/
theorem lc_go {vs : List Nat} {t : Tg} {tt : Mo Bool} {fe : Mo PyData} (I : List PyData → List PyData → Rho → Prop)
    (hs : ∀ d ds acc ρ, I (d :: ds) acc ρ → Turn1 vs t tt fe ρ d fun o ρ' => match o with
      | some y => acc.length < 1000000 ∧ I ds (acc ++ [y]) ρ'
      | none => I ds acc ρ') : ∀ {ds acc : List PyData} {ρ : Rho}, I ds acc ρ → ∃ acc' ρ', lcGo vs t tt fe ds acc ρ = .ok acc' ρ' ∧ I [] acc' ρ'
  | [], acc, ρ, h => ⟨acc, ρ, rfl, h⟩
  | d :: ds, acc, ρ, h => by
    have z := hs d ds acc ρ h
    unfold Turn1 at z
    unfold lcGo
    cases q : t d ρ with
    | none =>
      rw [q] at z
      exact z.elim
    | some ρ2 =>
      rw [q] at z
      dsimp only at z ⊢
      unfold wp at z
      cases q2 : tt ρ2 with
      | no =>
        rw [q2] at z
        exact z.elim
      | err e ρ3 =>
        rw [q2] at z
        exact z.elim
      | ok b ρ3 =>
        rw [q2] at z
        dsimp only at z ⊢
        cases b with
        | false =>
          rw [if_neg Bool.false_ne_true] at z
          exact lc_go I hs z
        | true =>
          rw [if_pos rfl] at z
          cases q3 : fe ρ3 with
          | no =>
            rw [q3] at z
            exact z.elim
          | err e ρ4 =>
            rw [q3] at z
            exact z.elim
          | ok y ρ4 =>
            rw [q3] at z
            obtain ⟨z1, z2⟩ := z
            simp only [q3, if_pos z1]
            exact lc_go I hs z2
theorem wp_lc {vs : List Nat} {t : Tg} {tt : Mo Bool} {fe : Mo PyData} {ds : List PyData} (ok : okV ρ vs = true) (I : List PyData → List PyData → Rho → Prop) (h0 : I ds [] (wipeR ρ vs))
    (hs : ∀ d ds acc ρ, I (d :: ds) acc ρ → Turn1 vs t tt fe ρ d fun o ρ' => match o with
      | some y => acc.length < 1000000 ∧ I ds (acc ++ [y]) ρ'
      | none => I ds acc ρ') (he : ∀ acc ρw, I [] acc ρw → Qs (.ob true (.l acc)) (restR ρ ρw vs)) : wp (lcIn vs t tt fe ds) ρ Qs E := by
  obtain ⟨acc', ρ', e, h⟩ := lc_go I hs h0
  unfold wp lcIn
  rw [if_pos ok, e]
  exact he acc' ρ' h
/-- a comprehension that changes nothing: the items by h -/
theorem wp_lc_map {vs : List Nat} {t : Tg} {tt : Mo Bool} {fe : Mo PyData} {ds : List PyData} (h : PyData → Option PyData) (ok : okV ρ vs = true) (hl : ds.length < 1000000)
    (hs : ∀ d ∈ ds, Turn1 vs t tt fe (wipeR ρ vs) d fun o ρ' => o = h d ∧ ρ' = wipeR ρ vs) (he : Qs (.ob true (.l (ds.filterMap h))) (restR ρ (wipeR ρ vs) vs)) : wp (lcIn vs t tt fe ds) ρ Qs E := by
  refine wp_lc ok (fun ds' acc ρ' => ρ' = wipeR ρ vs ∧ (∀ d ∈ ds', d ∈ ds) ∧ acc.length + ds'.length ≤ ds.length ∧ acc ++ ds'.filterMap h = ds.filterMap h) ⟨rfl, fun _ z => z, by simp, by simp⟩ (fun d ds' acc ρ' ⟨e, hm, hl', ha⟩ => ?_) fun acc ρw ⟨e, _, _, ha⟩ => ?_
  · subst e
    have z := hs d (hm d List.mem_cons_self)
    unfold Turn1 at z ⊢
    cases q : t d (wipeR ρ vs) with
    | none =>
      rw [q] at z
      exact z
    | some ρ2 =>
      rw [q] at z
      have hm' : ∀ x ∈ ds', x ∈ ds := fun x hx => hm x (List.mem_cons_of_mem _ hx)
      refine wp_imp z (fun b ρ3 w => ?_) fun _ _ w => w
      cases b with
      | false =>
        rw [if_neg Bool.false_ne_true] at w ⊢
        obtain ⟨w1, w2⟩ := w
        rw [List.length_cons] at hl'
        refine ⟨w2, hm', by omega, ?_⟩
        rw [← ha, List.filterMap_cons, ← w1]
      | true =>
        rw [if_pos rfl] at w ⊢
        refine wp_imp w (fun y ρ4 w => ?_) fun _ _ w => w
        obtain ⟨w1, w2⟩ := w
        rw [List.length_cons] at hl'
        refine ⟨by omega, w2, hm', by simp only [List.length_append, List.length_cons, List.length_nil]; omega, ?_⟩
        rw [← ha, List.filterMap_cons, ← w1]
        simp
  · subst e
    rw [List.filterMap_nil, List.append_nil] at ha
    rw [ha]
    exact he
end
end Dv
set_option Elab.async false
set_option linter.all false
set_option maxRecDepth 100000
set_option maxHeartbeats 2000000
/-! More wishes: dicts, try, two clauses. -/
namespace Dv
open PySem PySem.Spec PyProof.Rows
section
variable {ρ : Rho} {E : Exn → Rho → Prop} {Q : PyData → Rho → Prop} {Qs : Sl → Rho → Prop} {Qb : Bool → Rho → Prop} {Ql : List PyData → Rho → Prop} {Qf : Fl → Rho → Prop} {Qo : Option Int → Rho → Prop}
@[simp] theorem wp_yesT : wp yesT ρ Qb E = Qb true ρ := propext Iff.rfl
/-! dicts -/
def dctQ (o : Option (List (L2.Key × PyData))) (Q : List (L2.Key × PyData) → Prop) : Prop := match o with
  | some es => Q es
  | none => False
@[simp] theorem dctQ_some {es : List (L2.Key × PyData)} {Q : List (L2.Key × PyData) → Prop} : dctQ (some es) Q = Q es := propext Iff.rfl
@[simp] theorem wp_dNew : wp dNew ρ Qs E = Qs (.ob true (.d [])) ρ := propext Iff.rfl
@[simp] theorem wp_dGet {i : Nat} {fk : Mo PyData} : wp (dGet i fk) ρ Q E = hasQ ρ[i]? (wp fk ρ (fun k ρ1 => wp (dgQ i k) ρ1 Q E) E) := by
  unfold dGet
  rw [wp_bnd, wp_hasS]
  congr 1
  rw [wp_bnd]
@[simp] theorem wp_dgQ {i : Nat} {x : Str} : wp (dgQ i (.str x)) ρ Q E = dctQ (dct ρ i) fun es => ∃ d, lkD es (.inr x) = some d ∧ Q d ρ := by
  unfold wp dgQ dctQ
  dsimp only [keyD]
  cases dct ρ i with
  | none => rfl
  | some es => exact wp_optE (E := E) (Q := Q)
@[simp] theorem wp_dIn {n : Bool} {i : Nat} {fk : Mo PyData} : wp (dIn n i fk) ρ Q E = wp fk ρ (fun k ρ1 => wp (diQ n i k) ρ1 Q E) E := by
  unfold dIn
  rw [wp_bnd]
@[simp] theorem wp_diQ {n : Bool} {i : Nat} {x : Str} : wp (diQ n i (.str x)) ρ Q E = dctQ (dct ρ i) fun es => Q (.bool (if n then !(lkD es (.inr x)).isSome else (lkD es (.inr x)).isSome)) ρ := by
  unfold wp diQ dctQ
  dsimp only [keyD]
  cases dct ρ i <;> rfl
def dpW (o : Option (Option Sl)) (i : Nat) (d : PyData) (x : Str) (ρ : Rho) (Qf : Fl → Rho → Prop) : Prop := match o with
  | some (some (.ob b (.d es))) => es.length < 1000000 ∧ Qf .nx (ρ.set i (some (.ob b (.d (putD es (.inr x) d)))))
  | _ => False
@[simp] theorem dpW_some {i : Nat} {d : PyData} {x : Str} {b : Bool} {es : List (L2.Key × PyData)} : dpW (some (some (.ob b (.d es)))) i d x ρ Qf = (es.length < 1000000 ∧ Qf .nx (ρ.set i (some (.ob b (.d (putD es (.inr x) d)))))) := propext Iff.rfl
@[simp] theorem wp_dpQ {i : Nat} {d : PyData} {x : Str} : wp (dpQ i d (.str x)) ρ Qf E = dpW ρ[i]? i d x ρ Qf := by
  unfold wp dpQ dpW
  dsimp only [keyD]
  cases q : ρ[i]? with
  | none => rfl
  | some o =>
    cases o with
    | none => rfl
    | some w =>
      cases w with
      | ob b c =>
        cases c with
        | d es =>
          dsimp only
          by_cases h : es.length < 1000000
          · rw [if_pos h, eq_iff_iff]
            exact ⟨fun z => ⟨h, z⟩, fun z => z.2⟩
          · rw [if_neg h, eq_iff_iff]
            exact ⟨fun z => z.elim, fun z => absurd z.1 h⟩
        | l _ => rfl
      | _ => rfl
@[simp] theorem wp_dPut {i : Nat} {fk fv : Mo PyData} : wp (dPut i fk fv) ρ Qf E = wp fv ρ (fun d ρ1 => hasQ ρ1[i]? (wp fk ρ1 (fun k ρ2 => wp (dpQ i d k) ρ2 Qf E) E)) E := by
  unfold dPut
  rw [wp_bnd]
  congr 1
  funext d ρ1
  rw [wp_bnd, wp_hasS]
  congr 1
  rw [wp_bnd]
@[simp] theorem wp_dg2Q {i : Nat} {x : Str} {d : PyData} : wp (dg2Q i (.str x) d) ρ Q E = dctQ (dct ρ i) fun es => Q ((lkD es (.inr x)).getD d) ρ := by
  unfold wp dg2Q dctQ
  dsimp only [keyD]
  cases dct ρ i <;> rfl
theorem wp_ok_eq {α : Type} {f : Mo α} {Q : α → Rho → Prop} {a : α} {ρ ρ' : Rho} (h : f ρ = .ok a ρ') : wp f ρ Q E = Q a ρ' := by
  unfold wp
  rw [h]
@[simp] theorem wp_dGet2 {i : Nat} {fk fx : Mo PyData} : wp (dGet2 i fk fx) ρ Q E = dctQ (dct ρ i) fun _ => wp fk ρ (fun k ρ1 => wp fx ρ1 (fun x ρ2 => wp (dg2Q i k x) ρ2 Q E) E) E := by
  unfold dGet2
  rw [wp_bnd]
  unfold dctQ
  cases q : dct ρ i with
  | none =>
    unfold wp isDs
    rw [q]
  | some es =>
    rw [wp_ok_eq (ρ' := ρ) (a := ()) (by unfold isDs; rw [q])]
    rw [wp_bnd]
    congr 1
    funext k ρ1
    rw [wp_bnd]
def keysD (es : List (L2.Key × PyData)) : List PyData := es.map fun p => kyD p.1
def okKeys (es : List (L2.Key × PyData)) : Prop := ((es.all fun p => okK p.1) && okSort (keysD es)) = true
@[simp] theorem wp_sortK {i : Nat} : wp (sortK i) ρ Qs E = dctQ (dct ρ i) fun es => okKeys es ∧ Qs (.ob true (.l (srtD (keysD es)))) ρ := by
  unfold wp sortK dctQ okKeys keysD
  cases dct ρ i with
  | none => rfl
  | some es =>
    dsimp only
    by_cases h : ((es.all fun p => okK p.1) && okSort (es.map fun p => kyD p.1)) = true
    · rw [if_pos h, eq_iff_iff]
      exact ⟨fun z => ⟨h, z⟩, fun z => z.2⟩
    · rw [if_neg h, eq_iff_iff]
      exact ⟨fun z => z.elim, fun z => absurd z.1 h⟩
/-! max with a default, join, index -/
@[simp] theorem wp_maxDf {fs ks : Mo (List PyData)} : wp (maxDf fs ks) ρ Q E = wp fs ρ (fun ds ρ1 => wp ks ρ1 (fun zs ρ2 => wp (maxDM ds zs) ρ2 Q E) E) E := by
  unfold maxDf
  rw [wp_bnd]
  congr 1
  funext k ρ1
  rw [wp_bnd]
theorem wp_maxDM {ds : List PyData} {k : Int} : wp (maxDM [.list ds] [.int k]) ρ Q E = ∃ ns, intsD ds = some ns ∧ Q (.int ((maxI ns).getD k)) ρ := by
  cases ds with
  | nil =>
    rw [eq_iff_iff]
    exact ⟨fun z => ⟨[], rfl, z⟩, fun ⟨ns, e, z⟩ => by cases e; exact z⟩
  | cons d ds =>
    show wp (bnd (opt (intsD (d :: ds))) fun ns => bnd (opt (maxI ns)) fun m => pu (.int m)) ρ Q E = _
    rw [opt_ex]
    congr 1
    funext ns
    rw [eq_iff_iff]
    constructor
    · rintro ⟨e, z⟩
      rw [opt_ex] at z
      obtain ⟨m, em, z⟩ := z
      rw [em]
      exact ⟨e, z⟩
    · rintro ⟨e, z⟩
      refine ⟨e, ?_⟩
      rw [opt_ex]
      cases q : maxI ns with
      | none =>
        cases ns with
        | nil =>
          cases d <;> simp [intsD] at e
        | cons n ns =>
          unfold maxI at q
          split at q <;> cases q
      | some m =>
        rw [q] at z
        exact ⟨m, rfl, z⟩
@[simp] theorem wp_isStr {x : Str} : wp (isStr (.str x)) ρ Q E = Q (.str x) ρ := propext Iff.rfl
@[simp] theorem wp_isLst {x : List PyData} : wp (isLst (.list x)) ρ Q E = Q (.list x) ρ := propext Iff.rfl
@[simp] theorem wp_joinV {fa fb : Mo PyData} : wp (joinV fa fb) ρ Q E = wp fa ρ (fun d ρ1 => wp (isStr d) ρ1 (fun x ρ2 => wp fb ρ2 (fun y ρ3 => wp (joinM x y) ρ3 Q E) E) E) E := by
  unfold joinV
  rw [wp_bnd, wp_bnd]
  congr 1
  funext d ρ1
  congr 1
  funext x ρ2
  rw [wp_bnd]
@[simp] theorem wp_joinM {a : Str} {ds : List PyData} : wp (joinM (.str a) (.list ds)) ρ Q E = ∃ ys, strsD ds = some ys ∧ ((ys.map (·.length)).sum + ys.length * a.length ≤ 16777216 ∧ okS (Txt.join a ys) = true) ∧ Q (.str (Txt.join a ys)) ρ := by
  show wp (bnd (opt (strsD ds)) _) ρ Q E = _
  rw [opt_ex]
  congr 1
  funext ys
  rw [ite_no]
  rfl
@[simp] theorem wp_indexV {fa fb : Mo PyData} : wp (indexV fa fb) ρ Q E = wp fa ρ (fun d ρ1 => wp (isLst d) ρ1 (fun x ρ2 => wp fb ρ2 (fun y ρ3 => wp (idxM x y) ρ3 Q E) E) E) E := by
  unfold indexV
  rw [wp_bnd, wp_bnd]
  congr 1
  funext d ρ1
  congr 1
  funext x ρ2
  rw [wp_bnd]
@[simp] theorem wp_idxM {d : PyData} {ds : List PyData} : wp (idxM (.list ds) d) ρ Q E = (flatQ d ds ∧ ∃ j, idxD d ds = some j ∧ Q (.int (j : Nat)) ρ) := by
  show wp (if flatD d && ds.all flatD then bnd (opt (idxD d ds)) fun j => pu (.int (j : Nat)) else no) ρ Q E = _
  rw [ite_no, opt_ex]
  rfl
/-! try -/
def tryE (is : Str → Option Bool) (g : Mo Fl) (Qf : Fl → Rho → Prop) (E : Exn → Rho → Prop) (e : Exn) (ρ : Rho) : Prop := match is e.cls with
  | some true => wp g ρ Qf E
  | some false => E e ρ
  | none => False
@[simp] theorem wp_sTry {is : Str → Option Bool} {f g : Mo Fl} : wp (sTry is f g) ρ Qf E = wp f ρ Qf (tryE is g Qf E) := by
  unfold wp sTry
  cases q : f ρ with
  | ok y ρ1 => rfl
  | no => rfl
  | err e ρ1 =>
    unfold tryQ tryE
    dsimp only
    cases is e.cls with
    | none => rfl
    | some b => cases b <;> rfl
theorem tryE_y {is : Str → Option Bool} {g : Mo Fl} {e : Exn} (h : is e.cls = some true) : tryE is g Qf E e ρ = wp g ρ Qf E := by
  unfold tryE
  rw [h]
theorem tryE_n {is : Str → Option Bool} {g : Mo Fl} {e : Exn} (h : is e.cls = some false) : tryE is g Qf E e ρ = E e ρ := by
  unfold tryE
  rw [h]
def asW (i : Nat) (Qf : Fl → Rho → Prop) : Fl → Rho → Prop
  | .rt w, ρ => (noEx (ρ.set i none) && exB (some w)) = true ∧ Qf (.rt w) (ρ.set i none)
  | y, ρ => noEx (ρ.set i none) = true ∧ Qf y (ρ.set i none)
@[simp] theorem asW_rt {i : Nat} {w : Sl} : asW i Qf (.rt w) ρ = ((noEx (ρ.set i none) && exB (some w)) = true ∧ Qf (.rt w) (ρ.set i none)) := propext Iff.rfl
@[simp] theorem asW_nx {i : Nat} : asW i Qf .nx ρ = (noEx (ρ.set i none) = true ∧ Qf .nx (ρ.set i none)) := propext Iff.rfl
def tryAsE (i : Nat) (is : Str → Option Bool) (g : Mo Fl) (Qf : Fl → Rho → Prop) (E : Exn → Rho → Prop) (e : Exn) (ρ : Rho) : Prop := match is e.cls with
  | some true => (noEx ρ && decide (i < ρ.length)) = true ∧ wp g (ρ.set i (some (.ex e))) (asW i Qf) (fun _ _ => False)
  | some false => E e ρ
  | none => False
theorem wp_sTryAs {i : Nat} {is : Str → Option Bool} {f g : Mo Fl} (h : wp f ρ Qf (tryAsE i is g Qf E)) : wp (sTryAs i is f g) ρ Qf E := by
  unfold wp at h
  unfold wp sTryAs
  cases q : f ρ with
  | ok y ρ1 =>
    rw [q] at h
    exact h
  | no =>
    rw [q] at h
    exact h
  | err e ρ1 =>
    rw [q] at h
    unfold tryAsE at h
    unfold tryAsQ
    dsimp only at h ⊢
    cases q2 : is e.cls with
    | none =>
      rw [q2] at h
      exact h
    | some b =>
      rw [q2] at h
      cases b with
      | false => exact h
      | true =>
        obtain ⟨h1, h2⟩ := h
        dsimp only
        rw [if_pos h1]
        unfold wp at h2
        cases q3 : g (ρ1.set i (some (.ex e))) with
        | no =>
          rw [q3] at h2
          exact h2.elim
        | err _ _ =>
          rw [q3] at h2
          exact h2.elim
        | ok y ρ2 =>
          rw [q3] at h2
          cases y with
          | rt w =>
            obtain ⟨a, b⟩ := h2
            unfold asQ
            dsimp only
            rw [if_pos a]
            exact b
          | nx =>
            obtain ⟨a, b⟩ := h2
            unfold asQ
            dsimp only
            rw [if_pos a]
            exact b
          | bk =>
            obtain ⟨a, b⟩ := h2
            unfold asQ
            dsimp only
            rw [if_pos a]
            exact b
          | ct =>
            obtain ⟨a, b⟩ := h2
            unfold asQ
            dsimp only
            rw [if_pos a]
            exact b
def exW (o : Option (Option Sl)) (Q : Exn → Prop) : Prop := match o with
  | some (some (.ex e)) => Q e
  | _ => False
@[simp] theorem exW_some {e : Exn} {Q : Exn → Prop} : exW (some (some (.ex e))) Q = Q e := propext Iff.rfl
@[simp] theorem wp_xfQ {okc : Str → Bool} {i : Nat} {f : Str} : wp (xfQ okc i f) ρ Q E = exW ρ[i]? fun e => okc e.cls = true ∧ ∃ d, e.fs.lookup f = some d ∧ Q d ρ := by
  unfold wp xfQ exW
  cases q : ρ[i]? with
  | none => rfl
  | some o =>
    cases o with
    | none => rfl
    | some w =>
      cases w with
      | ex e =>
        dsimp only
        by_cases h : okc e.cls = true
        · rw [if_pos h]
          have z := wp_optE (o := e.fs.lookup f) (ρ := ρ) (E := E) (Q := Q)
          unfold wp at z
          rw [z, eq_iff_iff]
          exact ⟨fun z => ⟨h, z⟩, fun z => z.2⟩
        · rw [if_neg h, eq_iff_iff]
          exact ⟨fun z => z.elim, fun z => absurd z.1 h⟩
      | _ => rfl
@[simp] theorem wp_isXQ {isq : Str → Option Bool} {i : Nat} : wp (isXQ isq i) ρ Q E = exW ρ[i]? fun e => ∃ b, isq e.cls = some b ∧ Q (.bool b) ρ := by
  unfold wp isXQ exW
  cases q : ρ[i]? with
  | none => rfl
  | some o =>
    cases o with
    | none => rfl
    | some w =>
      cases w with
      | ex e =>
        dsimp only
        cases isq e.cls with
        | none =>
          rw [eq_iff_iff]
          exact ⟨fun z => z.elim, fun ⟨_, z, _⟩ => nomatch z⟩
        | some b =>
          rw [eq_iff_iff]
          exact ⟨fun z => ⟨b, rfl, z⟩, fun ⟨b', e, z⟩ => by cases e; exact z⟩
      | _ => rfl
/-! a call whose first argument is the script -/
def scQ (o : Option (Option Sl)) (f : FnF) (ds : List PyData) (ρ : Rho) (Qs : Sl → Rho → Prop) (E : Exn → Rho → Prop) : Prop := match o with
  | some (some (.sc es)) => okQ (f (.s es) ds) ρ Qs E
  | _ => False
@[simp] theorem scQ_some {es : List PyData} {f : FnF} {ds : List PyData} : scQ (some (some (.sc es))) f ds ρ Qs E = okQ (f (.s es) ds) ρ Qs E := propext Iff.rfl
@[simp] theorem wp_callS {i n : Nat} {f : FnF} {fs : Mo (List PyData)} : wp (callS i n f fs) ρ Qs E = hasQ ρ[i]? (wp fs ρ (fun ds ρ1 => ds.length + 1 = n ∧ scQ ρ1[i]? f ds ρ1 Qs E) E) := by
  unfold callS
  rw [wp_bnd, wp_hasS]
  congr 1
  rw [wp_bnd]
  congr 1
  funext ds ρ1
  unfold wp callSQ scQ
  by_cases h : ds.length + 1 = n
  · rw [if_pos h, eq_iff_iff]
    cases q : ρ1[i]? with
    | none => exact ⟨fun z => (show False from z).elim, fun z => z.2⟩
    | some o =>
      cases o with
      | none => exact ⟨fun z => (show False from z).elim, fun z => z.2⟩
      | some w =>
        cases w with
        | sc es =>
          dsimp only
          unfold okQ
          cases f (.s es) ds with
          | ok w c' => exact ⟨fun z => ⟨h, z⟩, fun z => z.2⟩
          | err e c' => exact ⟨fun z => ⟨h, z⟩, fun z => z.2⟩
          | no => exact ⟨fun z => (show False from z).elim, fun z => z.2⟩
        | _ => exact ⟨fun z => (show False from z).elim, fun z => z.2⟩
  · rw [if_neg h, eq_iff_iff]
    exact ⟨fun z => z.elim, fun z => absurd z.1 h⟩
/-! comprehensions that may raise; of two clauses -/
@[simp] theorem wp_lcxO {vs : List Nat} {items : Mo (List PyData)} {t : Tg} {tt : Mo Bool} {fe : Mo PyData} : wp (lcxO vs items t tt fe) ρ Qs E = wp items ρ (fun ds ρ1 => wp (lcxIn vs t tt fe ds) ρ1 Qs E) E := by
  unfold lcxO
  rw [wp_bnd]
/-- one turn that may raise -/
def Turn2 (vs : List Nat) (t : Tg) (tt : Mo Bool) (fe : Mo PyData) (ρ : Rho) (d : PyData) (Qt : Option PyData → Rho → Prop) (Et : Exn → Prop) : Prop := match t d ρ with
  | none => False
  | some ρ2 => wp tt ρ2 (fun b ρ3 => if b = true then wp fe ρ3 (fun y ρ4 => Qt (some y) (wipeR ρ4 vs)) (fun e ρ4 => wipeR ρ4 vs = ρ ∧ Et e) else Qt none (wipeR ρ3 vs)) (fun e ρ3 => wipeR ρ3 vs = ρ ∧ Et e)
/-- by h: an item, nothing, or an exception -/
def cx {γ : Type} (h : γ → Except Exn (Option PyData)) : List γ → Except Exn (List PyData)
  | [] => .ok []
  | d :: ds => (match h d with
    | .error e => .error e
    | .ok o => (match cx h ds with
      | .error e => .error e
      | .ok r => .ok (o.toList ++ r)))
theorem lcx_go {vs : List Nat} {t : Tg} {tt : Mo Bool} {fe : Mo PyData} {γ : Type} (f : γ → PyData) {h : γ → Except Exn (Option PyData)} {ρ : Rho} : ∀ {ds : List γ} {acc : List PyData} (hl : acc.length + ds.length < 1000000)
    (hs : ∀ d ∈ ds, Turn2 vs t tt fe ρ (f d) (fun o ρ' => h d = .ok o ∧ ρ' = ρ) (fun e => h d = .error e)), lcxGo vs t tt fe (ds.map f) acc ρ = match cx h ds with
      | .ok r => .ok (acc ++ r) ρ
      | .error e => .err e ρ
  | [], acc, _, _ => by
    rw [List.map_nil]
    unfold lcxGo cx
    simp
  | d :: ds, acc, hl, hs => by
    have z := hs d List.mem_cons_self
    have hs' : ∀ x ∈ ds, _ := fun x hx => hs x (List.mem_cons_of_mem _ hx)
    rw [List.length_cons] at hl
    unfold Turn2 at z
    rw [List.map_cons]
    unfold lcxGo cx
    cases q : t (f d) ρ with
    | none =>
      rw [q] at z
      exact z.elim
    | some ρ2 =>
      rw [q] at z
      dsimp only at z ⊢
      unfold wp at z
      cases q2 : tt ρ2 with
      | no =>
        rw [q2] at z
        exact z.elim
      | err e ρ3 =>
        rw [q2] at z
        obtain ⟨z1, z2⟩ := z
        rw [z2]
        dsimp only
        rw [z1]
      | ok b ρ3 =>
        rw [q2] at z
        dsimp only at z ⊢
        cases b with
        | false =>
          rw [if_neg Bool.false_ne_true] at z
          obtain ⟨z1, z2⟩ := z
          dsimp only
          rw [z1, z2, lcx_go f (by omega) hs']
          cases cx h ds <;> rfl
        | true =>
          rw [if_pos rfl] at z
          dsimp only
          cases q3 : fe ρ3 with
          | no =>
            rw [q3] at z
            exact z.elim
          | err e ρ4 =>
            rw [q3] at z
            obtain ⟨z1, z2⟩ := z
            rw [z2]
            dsimp only
            rw [z1]
          | ok y ρ4 =>
            rw [q3] at z
            obtain ⟨z1, z2⟩ := z
            dsimp only
            rw [if_pos (by omega), z1, z2, lcx_go f (by simp only [List.length_append, List.length_cons, List.length_nil]; omega) hs']
            cases cx h ds with
            | error e => rfl
            | ok r => simp
theorem wp_lcx {vs : List Nat} {t : Tg} {tt : Mo Bool} {fe : Mo PyData} {γ : Type} (f : γ → PyData) {ds : List γ} (h : γ → Except Exn (Option PyData)) (ok : okV ρ vs = true) (hl : ds.length < 1000000)
    (hs : ∀ d ∈ ds, Turn2 vs t tt fe (wipeR ρ vs) (f d) (fun o ρ' => h d = .ok o ∧ ρ' = wipeR ρ vs) (fun e => h d = .error e))
    (he : match cx h ds with
      | .ok r => Qs (.ob true (.l r)) (restR ρ (wipeR ρ vs) vs)
      | .error e => E e (restR ρ (wipeR ρ vs) vs)) : wp (lcxIn vs t tt fe (ds.map f)) ρ Qs E := by
  unfold wp lcxIn
  rw [if_pos ok, lcx_go f (by simpa using hl) hs]
  cases q : cx h ds with
  | ok r =>
    rw [q] at he
    exact he
  | error e =>
    rw [q] at he
    exact he
@[simp] theorem wp_lc2O {vs vs1 : List Nat} {items items1 : Mo (List PyData)} {t t1 : Tg} {tt tt1 : Mo Bool} {fe : Mo PyData} : wp (lc2O vs vs1 items t tt items1 t1 tt1 fe) ρ Qs E = wp items ρ (fun ds ρ1 => wp (lc2In vs vs1 t tt items1 t1 tt1 fe ds) ρ1 Qs E) E := by
  unfold lc2O
  rw [wp_bnd]
/-- d in front, e behind it, each e an item -/
theorem lc2_go {vs vs1 : List Nat} {t t1 : Tg} {tt tt1 : Mo Bool} {items1 : Mo (List PyData)} {fe : Mo PyData} {h : PyData → List PyData} {ρ : Rho} : ∀ {ds acc : List PyData} (hl : acc.length + (ds.flatMap h).length < 1000000)
    (hs : ∀ d ∈ ds, putQ (t d ρ) fun _ ρ2 => wp tt ρ2 (fun b ρ3 => b = true ∧ wp items1 ρ3 (fun es ρ4 => h d = es ∧ wipeR (wipeR ρ4 vs1) vs = ρ ∧ ∀ e ∈ es, Turn1 vs1 t1 tt1 fe (wipeR ρ4 vs1) e fun o ρ' => o = some e ∧ ρ' = wipeR ρ4 vs1) (fun _ _ => False)) (fun _ _ => False)),
    lc2Go vs vs1 t tt items1 t1 tt1 fe ds acc ρ = .ok (acc ++ ds.flatMap h) ρ
  | [], acc, _, _ => by
    unfold lc2Go
    simp
  | d :: ds, acc, hl, hs => by
    have z := hs d List.mem_cons_self
    have hs' : ∀ x ∈ ds, _ := fun x hx => hs x (List.mem_cons_of_mem _ hx)
    rw [List.flatMap_cons, List.length_append] at hl
    unfold putQ at z
    unfold lc2Go
    cases q : t d ρ with
    | none =>
      rw [q] at z
      exact z.elim
    | some ρ2 =>
      rw [q] at z
      dsimp only at z ⊢
      unfold wp at z
      cases q2 : tt ρ2 with
      | no =>
        rw [q2] at z
        exact z.elim
      | err e ρ3 =>
        rw [q2] at z
        exact z.elim
      | ok b ρ3 =>
        rw [q2] at z
        obtain ⟨rfl, z⟩ := z
        dsimp only at z ⊢
        cases q3 : items1 ρ3 with
        | no =>
          rw [q3] at z
          exact z.elim
        | err e ρ4 =>
          rw [q3] at z
          exact z.elim
        | ok es ρ4 =>
          rw [q3] at z
          obtain ⟨z1, z2, z3⟩ := z
          obtain ⟨acc', ρ', e1, ⟨m, e2, e3, e4⟩⟩ := lc_go (vs := vs1) (t := t1) (tt := tt1) (fe := fe) (fun ds' acc' ρ' => ρ' = wipeR ρ4 vs1 ∧ (∀ e ∈ ds', e ∈ es) ∧ acc'.length + ds'.length ≤ acc.length + es.length ∧ acc' ++ ds' = acc ++ es) (fun e ds' acc' ρ' ⟨m, e2, e3, e4⟩ => by
            subst m
            have z := z3 e (e2 e List.mem_cons_self)
            unfold Turn1 at z ⊢
            cases q : t1 e (wipeR ρ4 vs1) with
            | none =>
              rw [q] at z
              exact z
            | some ρ5 =>
              rw [q] at z
              refine wp_imp z (fun b ρ6 w => ?_) fun _ _ w => w
              cases b with
              | false =>
                rw [if_neg Bool.false_ne_true] at w
                exact nomatch w.1
              | true =>
                rw [if_pos rfl] at w ⊢
                refine wp_imp w (fun y ρ7 w => ?_) fun _ _ w => w
                obtain ⟨w1, w2⟩ := w
                cases w1
                rw [List.length_cons] at e3
                rw [← z1] at e3
                refine ⟨by omega, w2, fun x hx => e2 x (List.mem_cons_of_mem _ hx), ?_, ?_⟩
                · rw [← z1]
                  simp only [List.length_append, List.length_cons, List.length_nil]
                  omega
                · rw [← e4]
                  simp) (ds := es) (acc := acc) (ρ := wipeR ρ4 vs1) ⟨rfl, fun _ hx => hx, Nat.le_refl _, rfl⟩
          rw [List.append_nil] at e4
          subst e4 m
          dsimp only
          rw [e1]
          unfold bindO
          dsimp only
          rw [z2, lc2_go (by rw [List.length_append, ← z1]; omega) hs', List.flatMap_cons, z1, List.append_assoc]
theorem wp_lc2 {vs vs1 : List Nat} {t t1 : Tg} {tt tt1 : Mo Bool} {items1 : Mo (List PyData)} {fe : Mo PyData} {ds : List PyData} (h : PyData → List PyData) (ok : okV ρ vs = true) (hl : (ds.flatMap h).length < 1000000)
    (hs : ∀ d ∈ ds, putQ (t d (wipeR ρ vs)) fun _ ρ2 => wp tt ρ2 (fun b ρ3 => b = true ∧ wp items1 ρ3 (fun es ρ4 => h d = es ∧ wipeR (wipeR ρ4 vs1) vs = wipeR ρ vs ∧ ∀ e ∈ es, Turn1 vs1 t1 tt1 fe (wipeR ρ4 vs1) e fun o ρ' => o = some e ∧ ρ' = wipeR ρ4 vs1) (fun _ _ => False)) (fun _ _ => False))
    (he : Qs (.ob true (.l (ds.flatMap h))) (restR ρ (wipeR ρ vs) vs)) : wp (lc2In vs vs1 t tt items1 t1 tt1 fe ds) ρ Qs E := by
  unfold wp lc2In
  rw [if_pos ok, lc2_go (by simpa using hl) hs]
  exact he
/-! the same over typed items -/
theorem wp_loopT {γ : Type} (f : γ → PyData) {t : Tg} {body : Mo Fl} (I : List γ → Rho → Prop) {xs : List γ} {ρ : Rho} (h : I xs ρ) (hs : ∀ x xs ρ, I (x :: xs) ρ → putQ (t (f x) ρ) fun _ ρ1 => wp body ρ1 (lpQ (I xs) Qf) E) (he : ∀ ρ, I [] ρ → Qf .nx ρ) :
    wp (loop t body (xs.map f)) ρ Qf E := by
  refine wp_loop (fun ds ρ => ∃ xs : List γ, ds = xs.map f ∧ I xs ρ) ?_ ?_ ⟨xs, rfl, h⟩
  · rintro d ds ρ ⟨xs, e, i⟩
    cases xs with
    | nil => cases e
    | cons x xs =>
      cases e
      have z := hs x xs ρ i
      unfold putQ at z ⊢
      split at z
      · refine wp_imp z (fun y ρ2 w => ?_) fun _ _ w => w
        cases y with
        | nx => exact ⟨xs, rfl, w⟩
        | ct => exact ⟨xs, rfl, w⟩
        | bk => exact w
        | rt v => exact w
      · exact z
  · rintro ρ ⟨xs, e, i⟩
    cases xs with
    | nil => exact he ρ i
    | cons x xs => cases e
theorem wp_lcT {γ : Type} (f : γ → PyData) {vs : List Nat} {t : Tg} {tt : Mo Bool} {fe : Mo PyData} {xs : List γ} (h : γ → Option PyData) (ok : okV ρ vs = true) (hl : xs.length < 1000000)
    (hs : ∀ x ∈ xs, Turn1 vs t tt fe (wipeR ρ vs) (f x) fun o ρ' => o = h x ∧ ρ' = wipeR ρ vs) (he : Qs (.ob true (.l (xs.filterMap h))) (restR ρ (wipeR ρ vs) vs)) : wp (lcIn vs t tt fe (xs.map f)) ρ Qs E := by
  refine wp_lc ok (fun ds' acc ρ' => ∃ ys : List γ, ds' = ys.map f ∧ ρ' = wipeR ρ vs ∧ (∀ d ∈ ys, d ∈ xs) ∧ acc.length + ys.length ≤ xs.length ∧ acc ++ ys.filterMap h = xs.filterMap h) ⟨xs, rfl, rfl, fun _ z => z, by simp, by simp⟩ ?_ fun acc ρw ⟨ys, e0, e, _, _, ha⟩ => ?_
  · rintro d ds' acc ρ' ⟨ys, e0, e, hm, hl', ha⟩
    subst e
    cases ys with
    | nil => cases e0
    | cons y ys =>
      cases e0
      have z := hs y (hm y List.mem_cons_self)
      unfold Turn1 at z ⊢
      cases q : t (f y) (wipeR ρ vs) with
      | none =>
        rw [q] at z
        exact z
      | some ρ2 =>
        rw [q] at z
        have hm' : ∀ x ∈ ys, x ∈ xs := fun x hx => hm x (List.mem_cons_of_mem _ hx)
        refine wp_imp z (fun b ρ3 w => ?_) fun _ _ w => w
        cases b with
        | false =>
          rw [if_neg Bool.false_ne_true] at w ⊢
          obtain ⟨w1, w2⟩ := w
          rw [List.length_cons] at hl'
          refine ⟨ys, rfl, w2, hm', by omega, ?_⟩
          rw [← ha, List.filterMap_cons, ← w1]
        | true =>
          rw [if_pos rfl] at w ⊢
          refine wp_imp w (fun y2 ρ4 w => ?_) fun _ _ w => w
          obtain ⟨w1, w2⟩ := w
          rw [List.length_cons] at hl'
          refine ⟨by omega, ys, rfl, w2, hm', by simp only [List.length_append, List.length_cons, List.length_nil]; omega, ?_⟩
          rw [← ha, List.filterMap_cons, ← w1]
          simp
  · subst e
    cases ys with
    | nil =>
      rw [List.filterMap_nil, List.append_nil] at ha
      rw [ha]
      exact he
    | cons y ys => cases e0
end
section
variable {α : Type} {a b c d e : α} {l : List α}
theorem atI_nat' {l : List α} {k : Nat} : L2.atI l (k : Int) = l[k]? := by
  unfold L2.atI
  by_cases h : k < l.length
  · rw [show L2.ixN l.length (k : Int) = some k by
      unfold L2.ixN
      simp
      omega]
    rfl
  · rw [show L2.ixN l.length (k : Int) = none by
      unfold L2.ixN
      simp
      omega, List.getElem?_eq_none (by omega)]
    rfl
@[simp] theorem atI_0 : L2.atI (a :: l) 0 = some a := atI_nat' (k := 0)
@[simp] theorem atI_1 : L2.atI (a :: b :: l) 1 = some b := atI_nat' (k := 1)
@[simp] theorem atI_2 : L2.atI (a :: b :: c :: l) 2 = some c := atI_nat' (k := 2)
@[simp] theorem atI_3 : L2.atI (a :: b :: c :: d :: l) 3 = some d := atI_nat' (k := 3)
@[simp] theorem atI_4 : L2.atI (a :: b :: c :: d :: e :: l) 4 = some e := atI_nat' (k := 4)
theorem ixN_nat {n k : Nat} (h : k < n) : L2.ixN n (k : Int) = some k := by
  unfold L2.ixN
  simp
  omega
end
end Dv
set_option Elab.async false
set_option linter.all false
set_option maxRecDepth 100000
set_option maxHeartbeats 2000000
/-! Sorting and dicts, over typed items. -/
namespace Dv
open PySem PySem.Spec PyProof.Rows
theorem sLt_kd {x y : Str} : lexG ltI (kdF (.str x)) (kdF (.str y)) = sLt x y := lex_nat _ _
theorem sLt_asym {x y : Str} (h : sLt x y = true) : sLt y x = false := by
  rw [← sLt_kd] at h ⊢
  exact (lexG_lin ltI_lin).sw.asym _ _ h
/-- not behind, by steps -/
theorem sLe_tr {x y z : Str} (h : sLt y x = false) (g : sLt z y = false) : sLt z x = false := by
  rw [← sLt_kd] at h g ⊢
  exact (lexG_lin ltI_lin).sw.tr _ _ _ h g
theorem map_ofNat_inj : ∀ {xs ys : List Nat}, xs.map Int.ofNat = ys.map Int.ofNat → xs = ys
  | [], [], _ => rfl
  | x :: xs, y :: ys, h => by
    rw [List.map_cons, List.map_cons] at h
    injection h with h1 h2
    rw [Int.ofNat.inj h1, map_ofNat_inj h2]
  | [], _ :: _, h => nomatch h
  | _ :: _, [], h => nomatch h
theorem str_ext {x y : Str} (h : x.cps.toList = y.cps.toList) : x = y := by
  obtain ⟨⟨a⟩⟩ := x
  obtain ⟨⟨b⟩⟩ := y
  dsimp at h
  rw [h]
theorem sLt_tri {x y : Str} (h : sLt x y = false) (g : sLt y x = false) : x = y := by
  rw [← sLt_kd] at h g
  exact str_ext (map_ofNat_inj ((lexG_lin ltI_lin).tri _ _ h g))
theorem sLt_irr {x : Str} : sLt x x = false := by
  cases h : sLt x x with
  | false => rfl
  | true => rw [← h]; exact sLt_asym h
theorem sLt_tr {x y z : Str} (h : sLt x y = true) (g : sLt y z = true) : sLt x z = true := by
  cases q : sLt x z with
  | true => rfl
  | false =>
    have a := sLe_tr (x := z) (y := x) (z := y) q (sLt_asym h)
    rw [a] at g
    cases g
theorem sLt_ne {x y : Str} (h : sLt x y = true) : x ≠ y := fun e => by
  rw [e, sLt_irr] at h
  cases h
theorem perm_map {α β : Type} {f : α → β} {l l' : List β} (p : l.Perm l') : ∀ {xs : List α}, l = xs.map f → ∃ ys, l' = ys.map f ∧ xs.Perm ys := by
  induction p with
  | nil =>
    intro xs e
    exact ⟨xs, e, .refl _⟩
  | cons a p ih =>
    intro xs e
    cases xs with
    | nil => cases e
    | cons x xs =>
      rw [List.map_cons] at e
      injection e with e1 e2
      obtain ⟨ys, h1, h2⟩ := ih e2
      exact ⟨x :: ys, by rw [h1, e1]; rfl, h2.cons x⟩
  | swap a b l =>
    intro xs e
    match xs, e with
    | x :: y :: xs, e =>
      rw [List.map_cons, List.map_cons] at e
      injection e with e1 e2
      injection e2 with e2 e3
      exact ⟨y :: x :: xs, by rw [e1, e2, e3]; rfl, .swap y x xs⟩
  | trans p q ih1 ih2 =>
    intro xs e
    obtain ⟨ys, h1, h2⟩ := ih1 e
    obtain ⟨zs, h3, h4⟩ := ih2 h1
    exact ⟨zs, h3, h2.trans h4⟩
theorem srt_typed {α : Type} (f : α → PyData) (xs : List α) : ∃ ys : List α, srtD (xs.map f) = ys.map f ∧ ys.Perm xs ∧ ys.Pairwise fun a b => Le (f a) (f b) := by
  obtain ⟨ys, h1, h2⟩ := perm_map (srt_perm (xs.map f)).symm rfl
  refine ⟨ys, h1, h2.symm, ?_⟩
  have z := srt_srt (xs.map f)
  rw [h1, List.pairwise_map] at z
  exact z
theorem okSort_typed {α : Type} (f : α → PyData) {w : Bool × List Bool} (h : ∀ x, sh (f x) = some w) : ∀ xs : List α, okSort (xs.map f) = true
  | [] => rfl
  | x :: xs => by
    show ((sh (f x)).isSome && (xs.map f).all fun e => decide (sh e = sh (f x))) = true
    rw [h x, List.all_map]
    simp only [Option.isSome_some, Bool.true_and]
    exact List.all_eq_true.mpr fun y _ => decide_eq_true (h y)
theorem lexG_irr (l : List Int) : lexG ltI l l = false := by
  cases h : lexG ltI l l with
  | false => rfl
  | true => rw [← h]; exact (lexG_lin ltI_lin).sw.asym _ _ h
theorem Le_str {x y : Str} : Le (.str x) (.str y) ↔ sLt y x = false := by
  unfold Le ltK kd
  rw [lexG_cons, sLt_kd, lexG_nil]
  split
  · rename_i e
    exact ⟨fun _ => by rw [← sLt_kd, e]; exact lexG_irr _, fun _ => rfl⟩
  · exact Iff.rfl
theorem srt_strs (xs : List Str) : ∃ ys : List Str, srtD (xs.map .str) = ys.map .str ∧ ys.Perm xs ∧ ys.Pairwise fun a b => sLt b a = false := by
  obtain ⟨ys, h1, h2, h3⟩ := srt_typed .str xs
  exact ⟨ys, h1, h2, h3.imp fun h => Le_str.mp h⟩
theorem okSort_strs (xs : List Str) : okSort (xs.map .str) = true := okSort_typed .str (w := (false, [true])) (fun _ => rfl) xs
/-! pairs of a text and a number -/
abbrev Ty := List (Str × Int)
abbrev prD (p : Str × Int) : PyData := .tuple [.str p.1, .int p.2]
abbrev tlD (t : Ty) : PyData := .list (t.map prD)
theorem Le_pr {p q : Str × Int} (h : Le (prD p) (prD q)) : sLt q.1 p.1 = false := by
  have h : lexG (lexG ltI) [kdF (.str q.1), kdF (.int q.2)] [kdF (.str p.1), kdF (.int p.2)] = false := h
  rw [lexG_cons] at h
  split at h
  · rename_i e
    rw [← sLt_kd, e]
    exact lexG_irr _
  · rw [sLt_kd] at h
    exact h
theorem srt_prs (t : Ty) : ∃ ys : Ty, srtD (t.map prD) = ys.map prD ∧ ys.Perm t ∧ ys.Pairwise fun a b => sLt b.1 a.1 = false := by
  obtain ⟨ys, h1, h2, h3⟩ := srt_typed prD t
  exact ⟨ys, h1, h2, h3.imp fun h => Le_pr h⟩
theorem okSort_prs (t : Ty) : okSort (t.map prD) = true := okSort_typed prD (w := (true, [true, false])) (fun _ => rfl) t
/-- marks rise -/
def Rise (t : Ty) : Prop := t.Pairwise fun p q => sLt p.1 q.1 = true
/-- a rising list is known by its members -/
theorem rise_uniq : ∀ {a b : Ty}, Rise a → Rise b → (∀ p, p ∈ a ↔ p ∈ b) → a = b
  | [], [], _, _, _ => rfl
  | [], q :: b, _, _, h => nomatch (h q).mpr List.mem_cons_self
  | p :: a, [], _, _, h => nomatch (h p).mp List.mem_cons_self
  | p :: a, q :: b, ha, hb, h => by
    obtain ⟨a1, a2⟩ := List.pairwise_cons.mp ha
    obtain ⟨b1, b2⟩ := List.pairwise_cons.mp hb
    have e : p = q := by
      rcases List.mem_cons.mp ((h p).mp List.mem_cons_self) with e | e
      · exact e
      · rcases List.mem_cons.mp ((h q).mpr List.mem_cons_self) with g | g
        · exact g.symm
        · have x := b1 p e
          have y := a1 q g
          rw [sLt_asym x] at y
          cases y
    subst e
    rw [rise_uniq a2 b2 fun x => ?_]
    constructor
    · intro hx
      rcases List.mem_cons.mp ((h x).mp (List.mem_cons_of_mem _ hx)) with e | e
      · subst e
        have z := a1 x hx
        rw [sLt_irr] at z
        cases z
      · exact e
    · intro hx
      rcases List.mem_cons.mp ((h x).mpr (List.mem_cons_of_mem _ hx)) with e | e
      · subst e
        have z := b1 x hx
        rw [sLt_irr] at z
        cases z
      · exact e
/-- sorted and of different marks: rising -/
theorem rise_of : ∀ {t : Ty}, (t.Pairwise fun a b => sLt b.1 a.1 = false) → (t.map (·.1)).Nodup → Rise t
  | [], _, _ => .nil
  | p :: t, h, n => by
    obtain ⟨h1, h2⟩ := List.pairwise_cons.mp h
    rw [List.map_cons] at n
    obtain ⟨n1, n2⟩ := List.nodup_cons.mp n
    refine List.pairwise_cons.mpr ⟨fun q hq => ?_, rise_of h2 n2⟩
    cases e : sLt p.1 q.1 with
    | true => rfl
    | false =>
      refine absurd ?_ n1
      rw [sLt_tri e (h1 q hq)]
      exact List.mem_map_of_mem hq
/-! dicts from texts to numbers -/
abbrev kvD (p : Str × Int) : L2.Key × PyData := (.inr p.1, .int p.2)
def lkT (m : Ty) (x : Str) : Option Int := (m.find? fun p => decide (p.1 = x)).map (·.2)
def putT (m : Ty) (x : Str) (n : Int) : Ty := if (m.any fun p => decide (p.1 = x)) = true then m.map (fun p => if p.1 = x then (p.1, n) else p) else m ++ [(x, n)]
theorem inr_eq {x y : Str} : (decide ((Sum.inr x : L2.Key) = .inr y)) = decide (x = y) := by
  by_cases h : x = y
  · rw [h]
    simp
  · rw [decide_eq_false h]
    exact decide_eq_false fun e => h (Sum.inr.inj e)
theorem lkD_kv : ∀ (m : Ty) (x : Str), lkD (m.map kvD) (.inr x) = (lkT m x).map .int
  | [], _ => rfl
  | p :: m, x => by
    have z := lkD_kv m x
    unfold lkD lkT at z ⊢
    rw [List.map_cons, List.find?_cons, List.find?_cons]
    dsimp only
    rw [inr_eq]
    cases decide (p.1 = x) with
    | true => rfl
    | false => exact z
theorem putD_kv (m : Ty) (x : Str) (n : Int) : putD (m.map kvD) (.inr x) (.int n) = (putT m x n).map kvD := by
  unfold putD putT
  have e : ((m.map kvD).any fun kv => decide (kv.1 = (Sum.inr x : L2.Key))) = m.any fun p => decide (p.1 = x) := by
    rw [List.any_map]
    congr 1
    funext p
    exact inr_eq
  rw [e]
  split
  · rw [List.map_map, List.map_map]
    congr 1
    funext p
    dsimp only [Function.comp]
    by_cases h : p.1 = x
    · rw [if_pos h, if_pos (by rw [h])]
    · rw [if_neg h, if_neg fun z => h (Sum.inr.inj z)]
  · rw [List.map_append]
    rfl
theorem lkT_none {m : Ty} {x : Str} : lkT m x = none ↔ x ∉ m.map (·.1) := by
  unfold lkT
  rw [Option.map_eq_none_iff, List.find?_eq_none]
  constructor
  · intro h z
    obtain ⟨p, h1, h2⟩ := List.mem_map.mp z
    exact h p h1 (decide_eq_true h2)
  · intro h p hp z
    exact h (List.mem_map.mpr ⟨p, hp, of_decide_eq_true z⟩)
theorem any_mem {m : Ty} {x : Str} : (m.any fun p => decide (p.1 = x)) = true ↔ x ∈ m.map (·.1) := by
  rw [List.any_eq_true, List.mem_map]
  exact ⟨fun ⟨p, h1, h2⟩ => ⟨p, h1, of_decide_eq_true h2⟩, fun ⟨p, h1, h2⟩ => ⟨p, h1, decide_eq_true h2⟩⟩
theorem putT_keys (m : Ty) (x : Str) (n : Int) : (putT m x n).map (·.1) = if x ∈ m.map (·.1) then m.map (·.1) else m.map (·.1) ++ [x] := by
  unfold putT
  by_cases h : x ∈ m.map (·.1)
  · rw [if_pos (any_mem.mpr h), if_pos h, List.map_map]
    congr 1
    funext p
    dsimp only [Function.comp]
    split <;> rfl
  · rw [if_neg fun z => h (any_mem.mp z), if_neg h, List.map_append]
    rfl
theorem putT_nd {m : Ty} {x : Str} {n : Int} (h : (m.map (·.1)).Nodup) : ((putT m x n).map (·.1)).Nodup := by
  rw [putT_keys]
  split
  · exact h
  · rename_i z
    rw [List.nodup_append]
    exact ⟨h, by simp, fun a ha b hb e => by
      rw [List.mem_singleton] at hb
      subst e hb
      exact z ha⟩
theorem lkT_cons {p : Str × Int} {m : Ty} {x : Str} : lkT (p :: m) x = if p.1 = x then some p.2 else lkT m x := by
  unfold lkT
  rw [List.find?_cons]
  by_cases h : p.1 = x
  · rw [decide_eq_true h, if_pos h]
    rfl
  · rw [decide_eq_false h, if_neg h]
theorem lkT_put : ∀ {m : Ty} {x y : Str} {n : Int}, lkT (putT m x n) y = if x = y then some n else lkT m y
  | [], x, y, n => by
    show lkT [(x, n)] y = _
    rw [lkT_cons]
  | p :: m, x, y, n => by
    have ih := lkT_put (m := m) (x := x) (y := y) (n := n)
    rw [lkT_cons]
    unfold putT at ih ⊢
    rw [List.any_cons]
    by_cases h : p.1 = x
    · rw [decide_eq_true h]
      simp only [Bool.true_or, if_true, List.map_cons, if_pos h]
      rw [lkT_cons, h]
      dsimp only
      by_cases g : x = y
      · rw [if_pos g, if_pos g]
      · rw [if_neg g, if_neg g, if_neg g]
        by_cases k : (m.any fun p => decide (p.1 = x)) = true
        · rw [if_pos k, if_neg g] at ih
          exact ih
        · have e : m.map (fun p => if p.1 = x then (p.1, n) else p) = m := by
            conv => rhs; rw [← List.map_id m]
            refine List.map_congr_left fun q hq => ?_
            rw [if_neg fun z => k (List.any_eq_true.mpr ⟨q, hq, decide_eq_true z⟩)]
            rfl
          rw [e]
    · rw [decide_eq_false h]
      simp only [Bool.false_or]
      by_cases k : (m.any fun p => decide (p.1 = x)) = true
      · rw [if_pos k] at ih ⊢
        rw [List.map_cons, if_neg h, lkT_cons, ih]
        by_cases g : p.1 = y
        · rw [if_pos g, if_pos g, if_neg fun z => h (g.trans z.symm)]
        · rw [if_neg g, if_neg g]
      · rw [if_neg k] at ih ⊢
        rw [List.cons_append, lkT_cons, ih]
        by_cases g : p.1 = y
        · rw [if_pos g, if_pos g, if_neg fun z => h (g.trans z.symm)]
        · rw [if_neg g, if_neg g]
theorem lkT_mem {m : Ty} (h : (m.map (·.1)).Nodup) {x : Str} {n : Int} : lkT m x = some n ↔ (x, n) ∈ m := by
  induction m with
  | nil => simp [lkT]
  | cons p m ih =>
    rw [List.map_cons] at h
    obtain ⟨n1, n2⟩ := List.nodup_cons.mp h
    rw [lkT_cons, List.mem_cons]
    by_cases e : p.1 = x
    · rw [if_pos e]
      constructor
      · intro z
        left
        rw [← e, ← Option.some.inj z]
      · rintro (z | z)
        · rw [← z]
        · refine absurd ?_ n1
          rw [e]
          exact List.mem_map_of_mem (f := (·.1)) z
    · rw [if_neg e, ih n2]
      constructor
      · exact .inr
      · rintro (z | z)
        · rw [← z] at e
          exact absurd rfl e
        · exact z
theorem putT_len {m : Ty} {x : Str} {n : Int} : (putT m x n).length ≤ m.length + 1 := by
  unfold putT
  split
  · rw [List.length_map]
    omega
  · rw [List.length_append]
    exact Nat.le_refl _
/-! ranges -/
abbrev natD (k : Nat) : PyData := .int (k : Nat)
theorem rngD_nat (lo n : Nat) : rngD (lo : Int) n = (List.range' lo n).map natD := by
  unfold rngD
  rw [List.range'_eq_map_range, List.map_map]
  refine List.map_congr_left fun k _ => ?_
  show PyData.int _ = PyData.int _
  congr 1
theorem rngD_0 (n : Nat) : rngD 0 n = (List.range' 0 n).map natD := rngD_nat 0 n
theorem rngD_1 (n : Nat) : rngD 1 n = (List.range' 1 n).map natD := rngD_nat 1 n
/-! equality of typed data -/
theorem eqvAll_typed {γ : Type} [DecidableEq γ] {f : γ → PyData} (h : ∀ x y, PyData.eqv (f x) (f y) = decide (x = y)) : ∀ xs ys : List γ, PyData.eqvAll (xs.map f) (ys.map f) = decide (xs = ys)
  | [], [] => by
    rw [List.map_nil]
    unfold PyData.eqvAll
    rfl
  | [], y :: ys => by
    rw [List.map_nil, List.map_cons]
    unfold PyData.eqvAll
    rfl
  | x :: xs, [] => by
    rw [List.map_nil, List.map_cons]
    unfold PyData.eqvAll
    rfl
  | x :: xs, y :: ys => by
    rw [List.map_cons, List.map_cons]
    unfold PyData.eqvAll
    rw [h, eqvAll_typed h xs ys, Bool.eq_iff_iff]
    simp
theorem depthAll_typed {γ : Type} {f : γ → PyData} {n : Nat} (h : ∀ x, (f x).depth ≤ n) : ∀ xs : List γ, PyData.depthAll (xs.map f) ≤ n
  | [] => by
    rw [List.map_nil]
    simp [PyData.depthAll]
  | x :: xs => by
    rw [List.map_cons]
    have a := h x
    have b := depthAll_typed h xs
    simp only [PyData.depthAll]
    omega
theorem eqv_int {i j : Int} : PyData.eqv (.int i) (.int j) = decide (i = j) := by
  simp only [PyData.eqv]
  rfl
theorem eqv_list {xs ys : List PyData} : PyData.eqv (.list xs) (.list ys) = PyData.eqvAll xs ys := by simp only [PyData.eqv]
theorem eqv_tuple {xs ys : List PyData} : PyData.eqv (.tuple xs) (.tuple ys) = PyData.eqvAll xs ys := by simp only [PyData.eqv]
theorem eqv_pr (p q : Str × Int) : PyData.eqv (prD p) (prD q) = decide (p = q) := by
  unfold prD
  rw [eqv_tuple]
  simp only [PyData.eqvAll, eqv_str, eqv_int]
  rw [Bool.eq_iff_iff]
  simp [Prod.ext_iff]
theorem depth_pr (p : Str × Int) : (prD p).depth ≤ 2 := by simp [PyData.depth, PyData.depthAll]
theorem depth_tl (t : Ty) : (tlD t).depth ≤ 3 := by
  have := depthAll_typed depth_pr t
  simp only [PyData.depth]
  omega
section
variable {ρ : Rho} {E : Exn → Rho → Prop} {Q : PyData → Rho → Prop}
@[simp] theorem wp_neTy {a b : Ty} : wp (neM (.list (a.map prD)) (.list (b.map prD))) ρ Q E = Q (.bool (!decide (a = b))) ρ := by
  rw [wp_ne (by have := depth_tl a; unfold tlD at this; omega), eqv_list, eqvAll_typed eqv_pr]
@[simp] theorem wp_eqTy {a b : Ty} : wp (eqM (.list (a.map prD)) (.list (b.map prD))) ρ Q E = Q (.bool (decide (a = b))) ρ := by
  rw [wp_eq (by have := depth_tl a; unfold tlD at this; omega), eqv_list, eqvAll_typed eqv_pr]
end
end Dv
set_option Elab.async false
set_option linter.all false
set_option maxRecDepth 100000
set_option maxHeartbeats 0
namespace K90
open PySem PySem.Spec PyProof.Rows L2
abbrev P : Program := (PySem.Challenge.rw_airwheel_k90_whole_refused_programmes).prog
def top (i : Nat) : Stmt := PySem.Challenge.pw_airwheel_k90_whole_refused_programmes.main.body.getD i (.Pass ⟨0, 0, 0, 0⟩)
abbrev s_is_mark : Stmt := top 14
def d_is_mark : He.DefD := ⟨("is_mark", none), "is_mark", "is_mark", defArgs s_is_mark, defBody s_is_mark, defScope s_is_mark, [], []⟩
abbrev s_copy_row : Stmt := top 15
def d_copy_row : He.DefD := ⟨("copy_row", none), "copy_row", "copy_row", defArgs s_copy_row, defBody s_copy_row, defScope s_copy_row, [], []⟩
abbrev s_check_row : Stmt := top 16
def d_check_row : He.DefD := ⟨("check_row", none), "check_row", "check_row", defArgs s_check_row, defBody s_check_row, defScope s_check_row, [], [("begun", .bl false)]⟩
abbrev s_check_any_row : Stmt := top 17
def d_check_any_row : He.DefD := ⟨("check_any_row", none), "check_any_row", "check_any_row", defArgs s_check_any_row, defBody s_check_any_row, defScope s_check_any_row, [], []⟩
abbrev s_is_whole : Stmt := top 21
def d_is_whole : He.DefD := ⟨("is_whole", none), "is_whole", "is_whole", defArgs s_is_whole, defBody s_is_whole, defScope s_is_whole, [], []⟩
abbrev s_refuse_large : Stmt := top 22
def d_refuse_large : He.DefD := ⟨("refuse_large", none), "refuse_large", "refuse_large", defArgs s_refuse_large, defBody s_refuse_large, defScope s_refuse_large, [], []⟩
abbrev s_refuse_wrong : Stmt := top 23
def d_refuse_wrong : He.DefD := ⟨("refuse_wrong", none), "refuse_wrong", "refuse_wrong", defArgs s_refuse_wrong, defBody s_refuse_wrong, defScope s_refuse_wrong, [], []⟩
abbrev s_check_tally : Stmt := top 24
def d_check_tally : He.DefD := ⟨("check_tally", none), "check_tally", "check_tally", defArgs s_check_tally, defBody s_check_tally, defScope s_check_tally, [], []⟩
abbrev s_tally_from : Stmt := top 25
def d_tally_from : He.DefD := ⟨("tally_from", none), "tally_from", "tally_from", defArgs s_tally_from, defBody s_tally_from, defScope s_tally_from, [], []⟩
abbrev s_count_row : Stmt := top 26
def d_count_row : He.DefD := ⟨("count_row", none), "count_row", "count_row", defArgs s_count_row, defBody s_count_row, defScope s_count_row, [], []⟩
abbrev s_is_row : Stmt := top 28
def d_is_row : He.DefD := ⟨("is_row", none), "is_row", "is_row", defArgs s_is_row, defBody s_is_row, defScope s_is_row, [], []⟩
abbrev s_check_day_rows : Stmt := top 32
def d_check_day_rows : He.DefD := ⟨("check_day_rows", none), "check_day_rows", "check_day_rows", defArgs s_check_day_rows, defBody s_check_day_rows, defScope s_check_day_rows, [], []⟩
abbrev s_joined_rows : Stmt := top 33
def d_joined_rows : He.DefD := ⟨("joined_rows", none), "joined_rows", "joined_rows", defArgs s_joined_rows, defBody s_joined_rows, defScope s_joined_rows, [], []⟩
abbrev s_is_number : Stmt := top 39
def d_is_number : He.DefD := ⟨("is_number", none), "is_number", "is_number", defArgs s_is_number, defBody s_is_number, defScope s_is_number, [], []⟩
abbrev s_ask_high : Stmt := top 40
def d_ask_high : He.DefD := ⟨("ask_high", none), "ask_high", "ask_high", defArgs s_ask_high, defBody s_ask_high, defScope s_ask_high, [], []⟩
abbrev s_ask_low : Stmt := top 41
def d_ask_low : He.DefD := ⟨("ask_low", none), "ask_low", "ask_low", defArgs s_ask_low, defBody s_ask_low, defScope s_ask_low, [], []⟩
abbrev s_ask_places : Stmt := top 42
def d_ask_places : He.DefD := ⟨("ask_places", none), "ask_places", "ask_places", defArgs s_ask_places, defBody s_ask_places, defScope s_ask_places, [], []⟩
abbrev s_right_tally : Stmt := top 43
def d_right_tally : He.DefD := ⟨("right_tally", none), "right_tally", "right_tally", defArgs s_right_tally, defBody s_right_tally, defScope s_right_tally, [], []⟩
abbrev s_day_bounds : Stmt := top 44
def d_day_bounds : He.DefD := ⟨("day_bounds", none), "day_bounds", "day_bounds", defArgs s_day_bounds, defBody s_day_bounds, defScope s_day_bounds, [], []⟩
abbrev s_ask_tally : Stmt := top 45
def d_ask_tally : He.DefD := ⟨("ask_tally", none), "ask_tally", "ask_tally", defArgs s_ask_tally, defBody s_ask_tally, defScope s_ask_tally, [.int 1], [("least", .int 1), ("laid", .bl false)]⟩
abbrev s_wide_at : Stmt := top 46
def d_wide_at : He.DefD := ⟨("wide_at", none), "wide_at", "wide_at", defArgs s_wide_at, defBody s_wide_at, defScope s_wide_at, [], []⟩
abbrev s_marks_above : Stmt := top 47
def d_marks_above : He.DefD := ⟨("marks_above", none), "marks_above", "marks_above", defArgs s_marks_above, defBody s_marks_above, defScope s_marks_above, [], []⟩
abbrev s_paper_of : Stmt := top 48
def d_paper_of : He.DefD := ⟨("paper_of", none), "paper_of", "paper_of", defArgs s_paper_of, defBody s_paper_of, defScope s_paper_of, [], []⟩
abbrev s_cells_of_rows : Stmt := top 50
def d_cells_of_rows : He.DefD := ⟨("cells_of_rows", none), "cells_of_rows", "cells_of_rows", defArgs s_cells_of_rows, defBody s_cells_of_rows, defScope s_cells_of_rows, [], []⟩
abbrev s_near_pair : Stmt := top 51
def d_near_pair : He.DefD := ⟨("near_pair", none), "near_pair", "near_pair", defArgs s_near_pair, defBody s_near_pair, defScope s_near_pair, [], []⟩
abbrev s_fits_days : Stmt := top 52
def d_fits_days : He.DefD := ⟨("fits_days", none), "fits_days", "fits_days", defArgs s_fits_days, defBody s_fits_days, defScope s_fits_days, [], []⟩
abbrev s_judge_days : Stmt := top 53
def d_judge_days : He.DefD := ⟨("judge_days", none), "judge_days", "judge_days", defArgs s_judge_days, defBody s_judge_days, defScope s_judge_days, [], []⟩
abbrev s__law_mix : Stmt := top 55
def d__law_mix : He.DefD := ⟨("_law_mix", none), "_law_mix", "_law_mix", defArgs s__law_mix, defBody s__law_mix, defScope s__law_mix, [], []⟩
abbrev s__law_store : Stmt := top 56
def d__law_store : He.DefD := ⟨("_law_store", none), "_law_store", "_law_store", defArgs s__law_store, defBody s__law_store, defScope s__law_store, [], []⟩
abbrev s__law_take : Stmt := top 57
def d__law_take : He.DefD := ⟨("_law_take", none), "_law_take", "_law_take", defArgs s__law_take, defBody s__law_take, defScope s__law_take, [], []⟩
abbrev s__law_between : Stmt := top 58
def d__law_between : He.DefD := ⟨("_law_between", none), "_law_between", "_law_between", defArgs s__law_between, defBody s__law_between, defScope s__law_between, [], []⟩
abbrev s__law_chance : Stmt := top 59
def d__law_chance : He.DefD := ⟨("_law_chance", none), "_law_chance", "_law_chance", defArgs s__law_chance, defBody s__law_chance, defScope s__law_chance, [], []⟩
abbrev s__law_edge : Stmt := top 60
def d__law_edge : He.DefD := ⟨("_law_edge", none), "_law_edge", "_law_edge", defArgs s__law_edge, defBody s__law_edge, defScope s__law_edge, [], []⟩
abbrev s__law_size : Stmt := top 61
def d__law_size : He.DefD := ⟨("_law_size", none), "_law_size", "_law_size", defArgs s__law_size, defBody s__law_size, defScope s__law_size, [], []⟩
abbrev s__law_pick : Stmt := top 62
def d__law_pick : He.DefD := ⟨("_law_pick", none), "_law_pick", "_law_pick", defArgs s__law_pick, defBody s__law_pick, defScope s__law_pick, [], []⟩
abbrev s__law_order : Stmt := top 63
def d__law_order : He.DefD := ⟨("_law_order", none), "_law_order", "_law_order", defArgs s__law_order, defBody s__law_order, defScope s__law_order, [], []⟩
abbrev s__law_put : Stmt := top 64
def d__law_put : He.DefD := ⟨("_law_put", none), "_law_put", "_law_put", defArgs s__law_put, defBody s__law_put, defScope s__law_put, [], []⟩
abbrev s__law_word : Stmt := top 65
def d__law_word : He.DefD := ⟨("_law_word", none), "_law_word", "_law_word", defArgs s__law_word, defBody s__law_word, defScope s__law_word, [], []⟩
abbrev s__law_letters : Stmt := top 66
def d__law_letters : He.DefD := ⟨("_law_letters", none), "_law_letters", "_law_letters", defArgs s__law_letters, defBody s__law_letters, defScope s__law_letters, [], []⟩
abbrev s__law_mark : Stmt := top 67
def d__law_mark : He.DefD := ⟨("_law_mark", none), "_law_mark", "_law_mark", defArgs s__law_mark, defBody s__law_mark, defScope s__law_mark, [], []⟩
abbrev s__law_marks : Stmt := top 68
def d__law_marks : He.DefD := ⟨("_law_marks", none), "_law_marks", "_law_marks", defArgs s__law_marks, defBody s__law_marks, defScope s__law_marks, [], []⟩
abbrev s__law_tally_of : Stmt := top 69
def d__law_tally_of : He.DefD := ⟨("_law_tally_of", none), "_law_tally_of", "_law_tally_of", defArgs s__law_tally_of, defBody s__law_tally_of, defScope s__law_tally_of, [], []⟩
abbrev s__law_tally : Stmt := top 70
def d__law_tally : He.DefD := ⟨("_law_tally", none), "_law_tally", "_law_tally", defArgs s__law_tally, defBody s__law_tally, defScope s__law_tally, [], []⟩
abbrev s__law_wheel_size : Stmt := top 71
def d__law_wheel_size : He.DefD := ⟨("_law_wheel_size", none), "_law_wheel_size", "_law_wheel_size", defArgs s__law_wheel_size, defBody s__law_wheel_size, defScope s__law_wheel_size, [], []⟩
abbrev s__law_days_size : Stmt := top 72
def d__law_days_size : He.DefD := ⟨("_law_days_size", none), "_law_days_size", "_law_days_size", defArgs s__law_days_size, defBody s__law_days_size, defScope s__law_days_size, [], []⟩
abbrev s__law_days_tally : Stmt := top 73
def d__law_days_tally : He.DefD := ⟨("_law_days_tally", none), "_law_days_tally", "_law_days_tally", defArgs s__law_days_tally, defBody s__law_days_tally, defScope s__law_days_tally, [], []⟩
abbrev s__law_counted : Stmt := top 74
def d__law_counted : He.DefD := ⟨("_law_counted", none), "_law_counted", "_law_counted", defArgs s__law_counted, defBody s__law_counted, defScope s__law_counted, [], []⟩
abbrev s__law_exact : Stmt := top 75
def d__law_exact : He.DefD := ⟨("_law_exact", none), "_law_exact", "_law_exact", defArgs s__law_exact, defBody s__law_exact, defScope s__law_exact, [], []⟩
abbrev s__law_thread : Stmt := top 76
def d__law_thread : He.DefD := ⟨("_law_thread", none), "_law_thread", "_law_thread", defArgs s__law_thread, defBody s__law_thread, defScope s__law_thread, [], []⟩
abbrev s__law_run : Stmt := top 77
def d__law_run : He.DefD := ⟨("_law_run", none), "_law_run", "_law_run", defArgs s__law_run, defBody s__law_run, defScope s__law_run, [], []⟩
abbrev s__law_fits : Stmt := top 78
def d__law_fits : He.DefD := ⟨("_law_fits", none), "_law_fits", "_law_fits", defArgs s__law_fits, defBody s__law_fits, defScope s__law_fits, [], []⟩
abbrev s__law_first_near : Stmt := top 79
def d__law_first_near : He.DefD := ⟨("_law_first_near", none), "_law_first_near", "_law_first_near", defArgs s__law_first_near, defBody s__law_first_near, defScope s__law_first_near, [], []⟩
abbrev s__law_fault : Stmt := top 80
def d__law_fault : He.DefD := ⟨("_law_fault", none), "_law_fault", "_law_fault", defArgs s__law_fault, defBody s__law_fault, defScope s__law_fault, [], []⟩
abbrev s__law_programme : Stmt := top 81
def d__law_programme : He.DefD := ⟨("_law_programme", none), "_law_programme", "_law_programme", defArgs s__law_programme, defBody s__law_programme, defScope s__law_programme, [], []⟩
abbrev s__law_bent_programme : Stmt := top 82
def d__law_bent_programme : He.DefD := ⟨("_law_bent_programme", none), "_law_bent_programme", "_law_bent_programme", defArgs s__law_bent_programme, defBody s__law_bent_programme, defScope s__law_bent_programme, [], []⟩
abbrev s__law_judged : Stmt := top 83
def d__law_judged : He.DefD := ⟨("_law_judged", none), "_law_judged", "_law_judged", defArgs s__law_judged, defBody s__law_judged, defScope s__law_judged, [], []⟩
abbrev s__law_refusals_hold : Stmt := top 84
def d__law_refusals_hold : He.DefD := ⟨("_law_refusals_hold", none), "_law_refusals_hold", "_law_refusals_hold", defArgs s__law_refusals_hold, defBody s__law_refusals_hold, defScope s__law_refusals_hold, [], []⟩
abbrev s_law : Stmt := top 85
def d_law : He.DefD := ⟨("law", none), "law", "law", defArgs s_law, defBody s_law, defScope s_law, [], []⟩
abbrev s_TooLarge_init : Stmt := inClass (top 2) 0
def d_TooLarge_init : He.DefD := ⟨("TooLarge", some "__init__"), "__init__", "TooLarge.__init__", defArgs s_TooLarge_init, defBody s_TooLarge_init, defScope s_TooLarge_init, [], []⟩
abbrev s_Malformed_init : Stmt := inClass (top 3) 0
def d_Malformed_init : He.DefD := ⟨("Malformed", some "__init__"), "__init__", "Malformed.__init__", defArgs s_Malformed_init, defBody s_Malformed_init, defScope s_Malformed_init, [], []⟩
abbrev s_BadDeed_init : Stmt := inClass (top 4) 0
def d_BadDeed_init : He.DefD := ⟨("BadDeed", some "__init__"), "__init__", "BadDeed.__init__", defArgs s_BadDeed_init, defBody s_BadDeed_init, defScope s_BadDeed_init, [], []⟩
abbrev s_Overfull_init : Stmt := inClass (top 5) 0
def d_Overfull_init : He.DefD := ⟨("Overfull", some "__init__"), "__init__", "Overfull.__init__", defArgs s_Overfull_init, defBody s_Overfull_init, defScope s_Overfull_init, [], []⟩
abbrev s_NoPlan_init : Stmt := inClass (top 6) 0
def d_NoPlan_init : He.DefD := ⟨("NoPlan", some "__init__"), "__init__", "NoPlan.__init__", defArgs s_NoPlan_init, defBody s_NoPlan_init, defScope s_NoPlan_init, [], []⟩
abbrev s_Packed_init : Stmt := inClass (top 7) 0
def d_Packed_init : He.DefD := ⟨("Packed", some "__init__"), "__init__", "Packed.__init__", defArgs s_Packed_init, defBody s_Packed_init, defScope s_Packed_init, [], []⟩
def fn : List He.DefD := [d_is_mark, d_copy_row, d_check_row, d_check_any_row, d_is_whole, d_refuse_large, d_refuse_wrong, d_check_tally, d_tally_from, d_count_row, d_is_row, d_check_day_rows, d_joined_rows, d_is_number, d_ask_high, d_ask_low, d_ask_places, d_right_tally, d_day_bounds, d_ask_tally, d_wide_at, d_marks_above, d_paper_of, d_cells_of_rows, d_near_pair, d_fits_days, d_judge_days, d__law_mix, d__law_store, d__law_take, d__law_between, d__law_chance, d__law_edge, d__law_size, d__law_pick, d__law_order, d__law_put, d__law_word, d__law_letters, d__law_mark, d__law_marks, d__law_tally_of, d__law_tally, d__law_wheel_size, d__law_days_size, d__law_days_tally, d__law_counted, d__law_exact, d__law_thread, d__law_run, d__law_fits, d__law_first_near, d__law_fault, d__law_programme, d__law_bent_programme, d__law_judged, d__law_refusals_hold, d_law, d_TooLarge_init, d_Malformed_init, d_BadDeed_init, d_Overfull_init, d_NoPlan_init, d_Packed_init]
def fa : List He.Fa := [.glo "is_mark", .glo "copy_row", .glo "check_row", .glo "check_any_row", .glo "is_whole", .glo "refuse_large", .glo "refuse_wrong", .glo "check_tally", .glo "tally_from", .glo "count_row", .glo "is_row", .glo "check_day_rows", .glo "joined_rows", .glo "is_number", .glo "ask_high", .glo "ask_low", .glo "ask_places", .glo "right_tally", .glo "day_bounds", .glo "ask_tally", .glo "wide_at", .glo "marks_above", .glo "paper_of", .glo "cells_of_rows", .glo "near_pair", .glo "fits_days", .glo "judge_days", .glo "_law_mix", .glo "_law_store", .glo "_law_take", .glo "_law_between", .glo "_law_chance", .glo "_law_edge", .glo "_law_size", .glo "_law_pick", .glo "_law_order", .glo "_law_put", .glo "_law_word", .glo "_law_letters", .glo "_law_mark", .glo "_law_marks", .glo "_law_tally_of", .glo "_law_tally", .glo "_law_wheel_size", .glo "_law_days_size", .glo "_law_days_tally", .glo "_law_counted", .glo "_law_exact", .glo "_law_thread", .glo "_law_run", .glo "_law_fits", .glo "_law_first_near", .glo "_law_fault", .glo "_law_programme", .glo "_law_bent_programme", .glo "_law_judged", .glo "_law_refusals_hold", .glo "law", .glo "AirError", .glo "TooLarge", .glo "Malformed", .glo "BadDeed", .glo "Overfull", .glo "NoPlan", .glo "Packed", .str "SILENT" ".", .str "OPEN" "?", .str "LOST" "-", .int "LONGEST_MARK" 8, .int "MOST_CELLS" 240, .int "MOST_MARKS" 60, .int "GREATEST_NUMBER" 1000, .int "MOST_DAYS_turning" 12, .int "MOST_PLACES_turning" 600, .int "MOST_SLOTS" 240, .int "MOST_APART" 1000, .int "MOST_DAYS_comb" 12, .int "MOST_PLACES_comb" 600, .free "ValueError", .free "abs", .free "bool", .free "enumerate", .free "int", .free "isinstance", .free "len", .free "list", .free "max", .free "min", .free "range", .free "sorted", .free "str", .free "sum", .free "tuple"]
def xs : List Dv.ExD := [⟨"TooLarge", ["what", "limit"]⟩, ⟨"Malformed", ["what"]⟩, ⟨"BadDeed", ["what"]⟩, ⟨"Overfull", ["total", "slots"]⟩, ⟨"NoPlan", ["what"]⟩, ⟨"Packed", ["marks", "number", "slots", "apart", "days"]⟩]
def isl : List Dv.IsD := [⟨"TooLarge", "AirError", true⟩, ⟨"TooLarge", "TooLarge", true⟩, ⟨"TooLarge", "Malformed", false⟩, ⟨"TooLarge", "BadDeed", false⟩, ⟨"TooLarge", "Overfull", false⟩, ⟨"TooLarge", "NoPlan", false⟩, ⟨"TooLarge", "Packed", false⟩, ⟨"Malformed", "AirError", true⟩, ⟨"Malformed", "TooLarge", false⟩, ⟨"Malformed", "Malformed", true⟩, ⟨"Malformed", "BadDeed", false⟩, ⟨"Malformed", "Overfull", false⟩, ⟨"Malformed", "NoPlan", false⟩, ⟨"Malformed", "Packed", false⟩, ⟨"BadDeed", "AirError", true⟩, ⟨"BadDeed", "TooLarge", false⟩, ⟨"BadDeed", "Malformed", false⟩, ⟨"BadDeed", "BadDeed", true⟩, ⟨"BadDeed", "Overfull", false⟩, ⟨"BadDeed", "NoPlan", false⟩, ⟨"BadDeed", "Packed", false⟩, ⟨"Overfull", "AirError", true⟩, ⟨"Overfull", "TooLarge", false⟩, ⟨"Overfull", "Malformed", false⟩, ⟨"Overfull", "BadDeed", false⟩, ⟨"Overfull", "Overfull", true⟩, ⟨"Overfull", "NoPlan", false⟩, ⟨"Overfull", "Packed", false⟩, ⟨"NoPlan", "AirError", true⟩, ⟨"NoPlan", "TooLarge", false⟩, ⟨"NoPlan", "Malformed", false⟩, ⟨"NoPlan", "BadDeed", false⟩, ⟨"NoPlan", "Overfull", false⟩, ⟨"NoPlan", "NoPlan", true⟩, ⟨"NoPlan", "Packed", false⟩, ⟨"Packed", "AirError", true⟩, ⟨"Packed", "TooLarge", false⟩, ⟨"Packed", "Malformed", false⟩, ⟨"Packed", "BadDeed", false⟩, ⟨"Packed", "Overfull", false⟩, ⟨"Packed", "NoPlan", false⟩, ⟨"Packed", "Packed", true⟩]
def hd : Dv.HeadD := ⟨fa, fn, xs, isl⟩
def lo0 : List PySem.Str := ["is_mark", "copy_row", "check_row", "check_any_row", "is_whole", "refuse_large", "refuse_wrong", "check_tally", "tally_from", "count_row", "is_row", "check_day_rows", "joined_rows", "is_number", "ask_high", "ask_low", "ask_places", "right_tally", "day_bounds", "ask_tally"]
def lo1 : List PySem.Str := ["wide_at", "marks_above", "paper_of", "cells_of_rows", "near_pair", "fits_days", "judge_days", "_law_mix", "_law_store", "_law_take", "_law_between", "_law_chance", "_law_edge", "_law_size", "_law_pick", "_law_order", "_law_put", "_law_word", "_law_letters", "_law_mark"]
def lo2 : List PySem.Str := ["_law_marks", "_law_tally_of", "_law_tally", "_law_wheel_size", "_law_days_size", "_law_days_tally", "_law_counted", "_law_exact", "_law_thread", "_law_run", "_law_fits", "_law_first_near", "_law_fault", "_law_programme", "_law_bent_programme", "_law_judged", "_law_refusals_hold", "AirError", "TooLarge", "Malformed"]
def lo3 : List PySem.Str := ["BadDeed", "Overfull", "NoPlan", "Packed", "SILENT", "OPEN", "LOST", "LONGEST_MARK", "MOST_CELLS", "MOST_MARKS", "GREATEST_NUMBER", "MOST_DAYS_turning", "MOST_PLACES_turning", "MOST_SLOTS", "MOST_APART", "MOST_DAYS_comb", "MOST_PLACES_comb"]
def loose : List PySem.Str := lo0 ++ lo1 ++ lo2 ++ lo3
abbrev R : PySem.W.OpenRow := PySem.W.OpenLaw.row PySem.Challenge.rw_airwheel_k90_whole_refused_programmes
abbrev hk : PySem.W.Hook := Dv.hookV 5 hd
def ob (s : PySem.W.SharedT) : Dv.AlV := hd.obsG 5 (HandSHeadRun.getT s)
theorem ob_eq (s : PySem.W.SharedT) : ob s = hk.obs s.abs := Dv.obsGV_eq (HandSHeadRun.getT_eq s)
abbrev lawi : Nat := 85
end K90
namespace K90
open PySem PySem.Spec PyProof.Rows L2 Dv
abbrev TX (K : PySem.W.Frag) (mg : Str → Option Value) (base : Heap) : Prop := Dv.Txt hd K mg base
section
variable {P : Program} {w : World} {K : PySem.W.Frag} {mg : Str → Option Value} {base : Heap}
theorem sc_TooLarge : FnScope ["self", "what", "limit"] ["self", "what", "limit"] (defScope s_TooLarge_init) := ⟨rfl, rfl, rfl, by decide +kernel, rfl, by decide +kernel, by decide +kernel⟩
theorem x_TooLarge (T : TX K mg base) : Xc P w K mg base "TooLarge" ["what", "limit"] := by
  obtain ⟨fd, D⟩ := T.dfn 58
  exact ⟨(T.glo 59), T.says.x 0, fd, ["self", "what", "limit"], init2 (by decide) D sc_TooLarge rfl (T.says.x 0) fun _ _ _ _ _ _ => pss_cons (ps_ost (pe_var rfl (by first | exact Or.inl rfl | exact Or.inr (Or.inl rfl))) (pe_var rfl (by first | exact Or.inl rfl | exact Or.inr (Or.inl rfl)))) (pss_one (ps_ost (pe_var rfl (by first | exact Or.inl rfl | exact Or.inr (Or.inl rfl))) (pe_var rfl (by first | exact Or.inl rfl | exact Or.inr (Or.inl rfl))))), D.bindsN fun _ _ _ _ _ _ us hl => match us, hl with | [_, _, _], _ => rfl⟩
theorem sc_Malformed : FnScope ["self", "what"] ["self", "what"] (defScope s_Malformed_init) := ⟨rfl, rfl, rfl, by decide +kernel, rfl, by decide +kernel, by decide +kernel⟩
theorem x_Malformed (T : TX K mg base) : Xc P w K mg base "Malformed" ["what"] := by
  obtain ⟨fd, D⟩ := T.dfn 59
  exact ⟨(T.glo 60), T.says.x 1, fd, ["self", "what"], init1 D sc_Malformed rfl rfl (T.says.x 1) fun _ _ _ _ _ _ => pss_one (ps_ost (pe_var rfl (by first | exact Or.inl rfl | exact Or.inr (Or.inl rfl))) (pe_var rfl (by first | exact Or.inl rfl | exact Or.inr (Or.inl rfl)))), D.bindsN fun _ _ _ _ _ _ us hl => match us, hl with | [_, _], _ => rfl⟩
theorem sc_BadDeed : FnScope ["self", "what"] ["self", "what"] (defScope s_BadDeed_init) := ⟨rfl, rfl, rfl, by decide +kernel, rfl, by decide +kernel, by decide +kernel⟩
theorem x_BadDeed (T : TX K mg base) : Xc P w K mg base "BadDeed" ["what"] := by
  obtain ⟨fd, D⟩ := T.dfn 60
  exact ⟨(T.glo 61), T.says.x 2, fd, ["self", "what"], init1 D sc_BadDeed rfl rfl (T.says.x 2) fun _ _ _ _ _ _ => pss_one (ps_ost (pe_var rfl (by first | exact Or.inl rfl | exact Or.inr (Or.inl rfl))) (pe_var rfl (by first | exact Or.inl rfl | exact Or.inr (Or.inl rfl)))), D.bindsN fun _ _ _ _ _ _ us hl => match us, hl with | [_, _], _ => rfl⟩
theorem sc_Overfull : FnScope ["self", "total", "slots"] ["self", "total", "slots"] (defScope s_Overfull_init) := ⟨rfl, rfl, rfl, by decide +kernel, rfl, by decide +kernel, by decide +kernel⟩
theorem x_Overfull (T : TX K mg base) : Xc P w K mg base "Overfull" ["total", "slots"] := by
  obtain ⟨fd, D⟩ := T.dfn 61
  exact ⟨(T.glo 62), T.says.x 3, fd, ["self", "total", "slots"], init2 (by decide) D sc_Overfull rfl (T.says.x 3) fun _ _ _ _ _ _ => pss_cons (ps_ost (pe_var rfl (by first | exact Or.inl rfl | exact Or.inr (Or.inl rfl))) (pe_var rfl (by first | exact Or.inl rfl | exact Or.inr (Or.inl rfl)))) (pss_one (ps_ost (pe_var rfl (by first | exact Or.inl rfl | exact Or.inr (Or.inl rfl))) (pe_var rfl (by first | exact Or.inl rfl | exact Or.inr (Or.inl rfl))))), D.bindsN fun _ _ _ _ _ _ us hl => match us, hl with | [_, _, _], _ => rfl⟩
theorem sc_NoPlan : FnScope ["self", "what"] ["self", "what"] (defScope s_NoPlan_init) := ⟨rfl, rfl, rfl, by decide +kernel, rfl, by decide +kernel, by decide +kernel⟩
theorem x_NoPlan (T : TX K mg base) : Xc P w K mg base "NoPlan" ["what"] := by
  obtain ⟨fd, D⟩ := T.dfn 62
  exact ⟨(T.glo 63), T.says.x 4, fd, ["self", "what"], init1 D sc_NoPlan rfl rfl (T.says.x 4) fun _ _ _ _ _ _ => pss_one (ps_ost (pe_var rfl (by first | exact Or.inl rfl | exact Or.inr (Or.inl rfl))) (pe_var rfl (by first | exact Or.inl rfl | exact Or.inr (Or.inl rfl)))), D.bindsN fun _ _ _ _ _ _ us hl => match us, hl with | [_, _], _ => rfl⟩
/-! is_mark -/
theorem sc_is_mark : FnScope ["text", "sign"] ["text"] (defScope s_is_mark) := ⟨rfl, rfl, rfl, by decide +kernel, rfl, by decide +kernel, by decide +kernel⟩
def m_is_mark : FnF := mkFn 2 (sSeq (sIf (orT (notT (tru (isTM ["str"] (rd 0)))) (notT (tst (chn leQ leQ (cI 1) (bnd (aCons (rd 0) aNil) lenM) (cI 8))))) (sRet (cB false)) sNil) (sSeq (sFor (bnd (rd 0) anyD) (gV 1) (sIf (notT (tst (chn leQ leQ (cS "a") (rd 1) (cS "z")))) (sRet (cB false)) sNil)) (sRet (cB true))))
theorem k_is_mark (T : TX K mg base) : Fn P w K mg base 1 "is_mark" 1 m_is_mark := by
  obtain ⟨fd, D⟩ := T.dfn 0
  have nd := sc_is_mark.nd
  refine ⟨(T.glo 0), fd, ["text"], fn_ok (k := 0) D sc_is_mark ?_, D.kp, D.bindsN fun _ _ _ _ _ _ us hl => match us, hl with | [_], _ => rfl⟩
  exact fun _ _ _ _ _ _ _ _ hr tk hp => (ds_cons (ds_if (dt_w (dw_or (dt_not (dt_tru (de_isT (T.free 83) (T.free 90) (de_v 0)))) (dw_or1 (dt_not (dt_chn op_leA os_cmp op_leA os_cmp de_int (de_cb call_len cs_len (T.free 84) (da_cons (de_v 0) da_nil)) (de_gint (T.int 68))))))) (ds_one (ds_ret de_bool)) ds_nil) (ds_cons (ds_for hp rfl (di_any (de_v 0)) (dg_v 1 nd) (ds_one (ds_if (dt_not (dt_chn op_leA os_cmp op_leA os_cmp de_str (de_v 1) de_str)) (ds_one (ds_ret de_bool)) ds_nil))) (ds_one (ds_ret de_bool))))
/-! copy_row -/
theorem sc_copy_row : FnScope ["row", "others", "cell"] ["row", "others"] (defScope s_copy_row) := ⟨rfl, rfl, rfl, by decide +kernel, rfl, by decide +kernel, by decide +kernel⟩
def m_copy_row : FnF := mkFn 3 (sSeq (sIf (tst (bin gtQ (bnd (aCons (rd 0) aNil) lenM) (cI 240))) (sRaise "TooLarge" ["what", "limit"] (aCons (cS "row") (aCons (cI 240) aNil))) sNil) (sSeq (sIf (tst (bin eqM (bnd (aCons (rd 0) aNil) lenM) (cI 0))) (sRaise "Malformed" ["what"] (aCons (cS "row") aNil)) sNil) (sSeq (sFor (bnd (rd 0) anyD) (gV 2) (sIf (andT (tst (bin ninM (rd 2) (rd 1))) (notT (tru (fzM (callF 1 m_is_mark (aCons (rd 2) aNil)))))) (sRaise "Malformed" ["what"] (aCons (cS "row") aNil)) sNil)) (sRetO (bnd (aCons (rd 0) aNil) listO)))))
theorem k_copy_row (T : TX K mg base) : Fn P w K mg base 3 "copy_row" 2 m_copy_row := by
  obtain ⟨fd, D⟩ := T.dfn 1
  have nd := sc_copy_row.nd
  refine ⟨(T.glo 1), fd, ["row", "others"], fn_ok (k := 2) D sc_copy_row ?_, D.kp, D.bindsN fun _ _ _ _ _ _ us hl => match us, hl with | [_, _], _ => rfl⟩
  exact fun _ _ _ _ _ _ _ _ hr tk hp => (ds_cons (ds_if (dt_cmp op_gtA os_cmp (de_cb call_len cs_len (T.free 84) (da_cons (de_v 0) da_nil)) (de_gint (T.int 69))) (ds_one (ds_raiseG (x_TooLarge T) rfl tk hr (da_cons de_str (da_cons (de_gint (T.int 69)) da_nil)))) ds_nil) (ds_cons (ds_if (dt_cmp (op_eqQ hr.units) os_eq (de_cb call_len cs_len (T.free 84) (da_cons (de_v 0) da_nil)) de_int) (ds_one (ds_raiseG (x_Malformed T) rfl tk hr (da_cons de_str da_nil))) ds_nil) (ds_cons (ds_for hp rfl (di_any (de_v 0)) (dg_v 2 nd) (ds_one (ds_if (dt_w (dw_and (dt_cmp op_notIn_seq os_nin (de_v 2) (de_v 1)) (dw_and1 (dt_not (dt_tru (de_o (do_callG (k_is_mark T) hr tk (da_cons (de_v 2) da_nil)))))))) (ds_one (ds_raiseG (x_Malformed T) rfl tk hr (da_cons de_str da_nil))) ds_nil))) (ds_one (ds_retO (do_ctp call_list_of cs_list (T.free 85) (da_cons (de_v 0) da_nil)))))))
/-! check_row -/
theorem sc_check_row : FnScope ["row", "begun"] ["row", "begun"] (defScope s_check_row) := ⟨rfl, rfl, rfl, by decide +kernel, rfl, by decide +kernel, by decide +kernel⟩
def m_check_row : FnF := mkFn 2 (sSeq (sIf (tru (rd 1)) (sRetO (callF 2 m_copy_row (aCons (rd 0) (aCons (tupV (aCons (cS ".") (aCons (cS "?") aNil))) aNil)))) sNil) (sRetO (callF 2 m_copy_row (aCons (rd 0) (aCons (tupV (aCons (cS ".") aNil)) aNil)))))
theorem w_check_row (T : TX K mg base) {fd : FuncData} (D : FunD K d_check_row.name d_check_row.qual d_check_row.params d_check_row.body d_check_row.scope (d_check_row.dvs K) (d_check_row.kws K) (He.fAd K d_check_row.at_) fd) : FnOk P w K mg base (L2.CX P w) 4 (He.ga K "check_row") fd ["row", "begun"] (spD K 2 m_check_row) := by
  have nd := sc_check_row.nd
  refine fn_ok (k := 3) D sc_check_row ?_
  exact fun _ _ _ _ _ _ _ _ hr tk hp => (ds_cons (ds_if (dt_tru (de_v 1)) (ds_one (ds_retO (do_callG (k_copy_row T) hr tk (da_cons (de_v 0) (da_cons (de_tup (da_cons (de_gstr (T.str 65)) (da_cons (de_gstr (T.str 66)) da_nil))) da_nil))))) ds_nil) (ds_one (ds_retO (do_callG (k_copy_row T) hr tk (da_cons (de_v 0) (da_cons (de_tup (da_cons (de_gstr (T.str 65)) da_nil)) da_nil))))))
def gD_check_row_1_begun : List PyData → List PyData → List PyData
  | [u0], [w0] => [u0, w0]
  | _, _ => []
theorem kk_check_row_1_begun (T : TX K mg base) : FnK P w K mg base 4 "check_row" 2 1 ["begun"] gD_check_row_1_begun m_check_row := by
  obtain ⟨fd, D⟩ := T.dfn 2
  obtain ⟨mv, hb⟩ := FunD.kbinds0 (ps := ["row", "begun"]) D 1 ["begun"] [] (fun us mv ws => us ++ ((ws.drop 0).take 1)) (by exact fun z => nomatch z) (fun q h => nomatch h) (fun r1 rm rw => r1.append (((rw.drop 0).take 1)))
    (fun D _ _ _ _ _ us mv ws h1 h2 h3 => match us, h1, mv, h2, ws, h3 with | [_], _, [], _, [_], _ => rfl)
  refine ⟨(T.glo 2), fd, _, _, _, w_check_row T D, D.kp, hb, fun {F vs zs ds es} l1 l2 r1 r2 => ?_⟩
  exact match ds, l1, es, l2, r1, r2 with | [u0], _, [w0], _, .cons a0 .nil, .cons b0 .nil => .cons a0 (.cons b0 .nil)
/-! check_any_row -/
theorem sc_check_any_row : FnScope ["row"] ["row"] (defScope s_check_any_row) := ⟨rfl, rfl, rfl, by decide +kernel, rfl, by decide +kernel, by decide +kernel⟩
def m_check_any_row : FnF := mkFn 1 (sRetO (callF 2 m_copy_row (aCons (rd 0) (aCons (tupV (aCons (cS ".") (aCons (cS "?") (aCons (cS "-") aNil)))) aNil))))
theorem k_check_any_row (T : TX K mg base) : Fn P w K mg base 4 "check_any_row" 1 m_check_any_row := by
  obtain ⟨fd, D⟩ := T.dfn 3
  have nd := sc_check_any_row.nd
  refine ⟨(T.glo 3), fd, ["row"], fn_ok (k := 3) D sc_check_any_row ?_, D.kp, D.bindsN fun _ _ _ _ _ _ us hl => match us, hl with | [_], _ => rfl⟩
  exact fun _ _ _ _ _ _ _ _ hr tk hp => (ds_one (ds_retO (do_callG (k_copy_row T) hr tk (da_cons (de_v 0) (da_cons (de_tup (da_cons (de_gstr (T.str 65)) (da_cons (de_gstr (T.str 66)) (da_cons (de_gstr (T.str 67)) da_nil)))) da_nil)))))
/-! is_whole -/
theorem sc_is_whole : FnScope ["thing"] ["thing"] (defScope s_is_whole) := ⟨rfl, rfl, rfl, by decide +kernel, rfl, by decide +kernel, by decide +kernel⟩
def m_is_whole : FnF := mkFn 1 (sRet (andV (isTM ["int"] (rd 0)) (notV (isTM ["bool"] (rd 0)))))
theorem k_is_whole (T : TX K mg base) : Fn P w K mg base 1 "is_whole" 1 m_is_whole := by
  obtain ⟨fd, D⟩ := T.dfn 4
  have nd := sc_is_whole.nd
  refine ⟨(T.glo 4), fd, ["thing"], fn_ok (k := 0) D sc_is_whole ?_, D.kp, D.bindsN fun _ _ _ _ _ _ us hl => match us, hl with | [_], _ => rfl⟩
  exact fun _ _ _ _ _ _ _ _ hr tk hp => (ds_one (ds_ret (de_and (de_isT (T.free 83) (T.free 82) (de_v 0)) (de_one (de_not (de_isT (T.free 83) (T.free 80) (de_v 0)))))))
/-! refuse_large -/
theorem sc_refuse_large : FnScope ["tally", "pair"] ["tally"] (defScope s_refuse_large) := ⟨rfl, rfl, rfl, by decide +kernel, rfl, by decide +kernel, by decide +kernel⟩
def m_refuse_large : FnF := mkFn 2 (sSeq (sIf (tst (bin gtQ (bnd (aCons (rd 0) aNil) lenM) (cI 60))) (sRaise "TooLarge" ["what", "limit"] (aCons (cS "marks") (aCons (cI 60) aNil))) sNil) (sFor (bnd (rd 0) anyD) (gV 1) (sIf (andT (tru (fzM (callF 1 m_is_whole (aCons (bin ixM (rd 1) (cI 1)) aNil)))) (tst (bin gtQ (bin ixM (rd 1) (cI 1)) (cI 1000)))) (sRaise "TooLarge" ["what", "limit"] (aCons (cS "number") (aCons (cI 1000) aNil))) sNil)))
theorem k_refuse_large (T : TX K mg base) : Fn P w K mg base 3 "refuse_large" 1 m_refuse_large := by
  obtain ⟨fd, D⟩ := T.dfn 5
  have nd := sc_refuse_large.nd
  refine ⟨(T.glo 5), fd, ["tally"], fn_ok (k := 2) D sc_refuse_large ?_, D.kp, D.bindsN fun _ _ _ _ _ _ us hl => match us, hl with | [_], _ => rfl⟩
  exact fun _ _ _ _ _ _ _ _ hr tk hp => (ds_cons (ds_if (dt_cmp op_gtA os_cmp (de_cb call_len cs_len (T.free 84) (da_cons (de_v 0) da_nil)) (de_gint (T.int 70))) (ds_one (ds_raiseG (x_TooLarge T) rfl tk hr (da_cons de_str (da_cons (de_gint (T.int 70)) da_nil)))) ds_nil) (ds_one (ds_for hp rfl (di_any (de_v 0)) (dg_v 1 nd) (ds_one (ds_if (dt_w (dw_and (dt_tru (de_o (do_callG (k_is_whole T) hr tk (da_cons (de_ix (de_v 1) de_int) da_nil)))) (dw_and1 (dt_cmp op_gtA os_cmp (de_ix (de_v 1) de_int) (de_gint (T.int 71)))))) (ds_one (ds_raiseG (x_TooLarge T) rfl tk hr (da_cons de_str (da_cons (de_gint (T.int 71)) da_nil)))) ds_nil)))))
/-! refuse_wrong -/
theorem sc_refuse_wrong : FnScope ["tally", "before", "mark", "number"] ["tally"] (defScope s_refuse_wrong) := ⟨rfl, rfl, rfl, by decide +kernel, rfl, by decide +kernel, by decide +kernel⟩
def m_refuse_wrong : FnF := mkFn 4 (sSeq (sSet 1 (cS "")) (sFor (bnd (rd 0) anyD) (gT 2 (gsC (gV 2) (gsC (gV 3) gsN))) (sSeq (sIf (orT (notT (tru (fzM (callF 1 m_is_mark (aCons (rd 2) aNil))))) (tst (bin leQ (rd 2) (rd 1)))) (sRaise "Malformed" ["what"] (aCons (cS "tally") aNil)) sNil) (sSeq (sIf (orT (notT (tru (fzM (callF 1 m_is_whole (aCons (rd 3) aNil))))) (tst (bin ltQ (rd 3) (cI 1)))) (sRaise "Malformed" ["what"] (aCons (cS "tally") aNil)) sNil) (sSet 1 (rd 2))))))
theorem k_refuse_wrong (T : TX K mg base) : Fn P w K mg base 3 "refuse_wrong" 1 m_refuse_wrong := by
  obtain ⟨fd, D⟩ := T.dfn 6
  have nd := sc_refuse_wrong.nd
  refine ⟨(T.glo 6), fd, ["tally"], fn_ok (k := 2) D sc_refuse_wrong ?_, D.kp, D.bindsN fun _ _ _ _ _ _ us hl => match us, hl with | [_], _ => rfl⟩
  exact fun _ _ _ _ _ _ _ _ hr tk hp => (ds_cons (ds_set 1 nd de_str) (ds_one (ds_for hp rfl (di_any (de_v 0)) (dg_tup rfl (dg_cons (dg_v 2 nd) (dg_cons (dg_v 3 nd) dg_nil))) (ds_cons (ds_if (dt_w (dw_or (dt_not (dt_tru (de_o (do_callG (k_is_mark T) hr tk (da_cons (de_v 2) da_nil))))) (dw_or1 (dt_cmp op_leA os_cmp (de_v 2) (de_v 1))))) (ds_one (ds_raiseG (x_Malformed T) rfl tk hr (da_cons de_str da_nil))) ds_nil) (ds_cons (ds_if (dt_w (dw_or (dt_not (dt_tru (de_o (do_callG (k_is_whole T) hr tk (da_cons (de_v 3) da_nil))))) (dw_or1 (dt_cmp op_ltA os_cmp (de_v 3) de_int)))) (ds_one (ds_raiseG (x_Malformed T) rfl tk hr (da_cons de_str da_nil))) ds_nil) (ds_one (ds_set 1 nd (de_v 2))))))))
/-! check_tally -/
theorem sc_check_tally : FnScope ["tally", "mark", "number"] ["tally"] (defScope s_check_tally) := ⟨rfl, rfl, rfl, by decide +kernel, rfl, by decide +kernel, by decide +kernel⟩
def m_check_tally : FnF := mkFn 3 (sSeq (sDo (fzM (callF 1 m_refuse_large (aCons (rd 0) aNil)))) (sSeq (sDo (fzM (callF 1 m_refuse_wrong (aCons (rd 0) aNil)))) (sRetO (lcO [1, 2] (bnd (rd 0) anyD) (gT 2 (gsC (gV 1) (gsC (gV 2) gsN))) yesT (tupV (aCons (rd 1) (aCons (rd 2) aNil)))))))
theorem k_check_tally (T : TX K mg base) : Fn P w K mg base 4 "check_tally" 1 m_check_tally := by
  obtain ⟨fd, D⟩ := T.dfn 7
  have nd := sc_check_tally.nd
  refine ⟨(T.glo 7), fd, ["tally"], fn_ok (k := 3) D sc_check_tally ?_, D.kp, D.bindsN fun _ _ _ _ _ _ us hl => match us, hl with | [_], _ => rfl⟩
  exact fun _ _ _ _ _ _ _ _ hr tk hp => (ds_cons (ds_expr (de_o (do_callG (k_refuse_large T) hr tk (da_cons (de_v 0) da_nil)))) (ds_cons (ds_expr (de_o (do_callG (k_refuse_wrong T) hr tk (da_cons (de_v 0) da_nil)))) (ds_one (ds_retO (do_lc [("mark", 1), ("number", 2)] rfl nd (di_any (de_v 0)) (blkOk_by (N := ["tally", "mark", "number"]) (sc := defScope s_check_tally) (by decide +kernel)) (by decide) (fun _ _ _ _ _ _ => (dg_tup rfl (dg_cons (dg_v 1 nd) (dg_cons (dg_v 2 nd) dg_nil)))) (fun _ _ _ _ _ => dps_nil) (fun _ _ _ _ _ _ => (de_tup (da_cons (de_v 1) (da_cons (de_v 2) da_nil)))))))))
/-! tally_from -/
theorem sc_tally_from : FnScope ["numbers", "mark"] ["numbers"] (defScope s_tally_from) := ⟨rfl, rfl, rfl, by decide +kernel, rfl, by decide +kernel, by decide +kernel⟩
def m_tally_from : FnF := mkFn 2 (sRetO (lcO [1] (bnd (fzM (sortK 0)) anyD) (gV 1) (tst (bin gtQ (dGet 0 (rd 1)) (cI 0))) (tupV (aCons (rd 1) (aCons (dGet 0 (rd 1)) aNil)))))
theorem k_tally_from (T : TX K mg base) : Fn P w K mg base 1 "tally_from" 1 m_tally_from := by
  obtain ⟨fd, D⟩ := T.dfn 8
  have nd := sc_tally_from.nd
  refine ⟨(T.glo 8), fd, ["numbers"], fn_ok (k := 0) D sc_tally_from ?_, D.kp, D.bindsN fun _ _ _ _ _ _ us hl => match us, hl with | [_], _ => rfl⟩
  exact fun _ _ _ _ _ _ _ _ hr tk hp => (ds_one (ds_retO (do_lc [("mark", 1)] rfl nd (di_any (de_o (do_sortK 0 rfl (T.free 89)))) (blkOk_by (N := ["numbers", "mark"]) (sc := defScope s_tally_from) (by decide +kernel)) (by decide) (fun _ _ _ _ _ _ => (dg_v 1 nd)) (fun _ _ _ _ _ => dps_one fun _ => (dt_cmp op_gtA os_cmp (de_dget 0 hr.un1 (de_v 1)) de_int)) (fun _ _ _ _ _ _ => (de_tup (da_cons (de_v 1) (da_cons (de_dget 0 hr.un1 (de_v 1)) da_nil)))))))
/-! count_row -/
theorem sc_count_row : FnScope ["row", "numbers", "cell"] ["row"] (defScope s_count_row) := ⟨rfl, rfl, rfl, by decide +kernel, rfl, by decide +kernel, by decide +kernel⟩
def m_count_row : FnF := mkFn 3 (sSeq (sSetO 1 dNew) (sSeq (sFor (bnd (fzM (callF 1 m_check_any_row (aCons (rd 0) aNil))) anyD) (gV 2) (sIf (tru (fzM (callF 1 m_is_mark (aCons (rd 2) aNil)))) (dPut 1 (rd 2) (bin addM (dGet2 1 (rd 2) (cI 0)) (cI 1))) sNil)) (sRetO (callB 1 1 m_tally_from aNil))))
theorem k_count_row (T : TX K mg base) : Fn P w K mg base 5 "count_row" 1 m_count_row := by
  obtain ⟨fd, D⟩ := T.dfn 9
  have nd := sc_count_row.nd
  refine ⟨(T.glo 9), fd, ["row"], fn_ok (k := 4) D sc_count_row ?_, D.kp, D.bindsN fun _ _ _ _ _ _ us hl => match us, hl with | [_], _ => rfl⟩
  exact fun _ _ _ _ _ _ _ _ hr tk hp => (ds_cons (ds_setO 1 nd do_dict0) (ds_cons (ds_for hp rfl (di_any (de_o (do_callG (k_check_any_row T) hr tk (da_cons (de_v 0) da_nil)))) (dg_v 2 nd) (ds_one (ds_if (dt_tru (de_o (do_callG (k_is_mark T) hr tk (da_cons (de_v 2) da_nil)))) (ds_one (ds_dput 1 hr.un1 (de_v 2) (de_bin op_addA os_add (de_dget2 1 hr.un1 (de_v 2) de_int) de_int))) ds_nil))) (ds_one (ds_retO (do_callGB 1 (k_tally_from T) hr tk da_nil)))))
/-! is_row -/
theorem sc_is_row : FnScope ["row"] ["row"] (defScope s_is_row) := ⟨rfl, rfl, rfl, by decide +kernel, rfl, by decide +kernel, by decide +kernel⟩
def m_is_row : FnF := mkFn 1 (sSeq (sTry (isqOf isl "Malformed") (sDo (fzM (callK 2 m_check_row gD_check_row_1_begun (lenA 1 (aCons (rd 0) aNil)) (lenA 1 (aCons (cB true) aNil))))) (sRet (cB false))) (sRet (cB true)))
theorem k_is_row (T : TX K mg base) : Fn P w K mg base 5 "is_row" 1 m_is_row := by
  obtain ⟨fd, D⟩ := T.dfn 10
  have nd := sc_is_row.nd
  refine ⟨(T.glo 10), fd, ["row"], fn_ok (k := 4) D sc_is_row ?_, D.kp, D.bindsN fun _ _ _ _ _ _ us hl => match us, hl with | [_], _ => rfl⟩
  exact fun _ _ _ _ _ _ _ _ hr tk hp => (ds_cons (ds_try tk ⟨rfl, by decide, .inl (T.glo 60)⟩ (fun y k h => (T.isq h).2) (fun _ _ _ tk' hp' => (ds_one (ds_expr (de_o (do_callGK (kk_check_row_1_begun T) hr tk' (da_cons (de_v 0) da_nil) (dk_cons de_bool dk_nil)))))) (fun _ _ _ => (ds_one (ds_ret de_bool)))) (ds_one (ds_ret de_bool)))
/-! check_day_rows -/
theorem sc_check_day_rows : FnScope ["rows", "wrong", "row"] ["rows"] (defScope s_check_day_rows) := ⟨rfl, rfl, rfl, by decide +kernel, rfl, by decide +kernel, by decide +kernel⟩
def m_check_day_rows : FnF := mkFn 3 (sSeq (sIf (tst (bin gtQ (bnd (aCons (rd 0) aNil) lenM) (cI 12))) (sRaise "TooLarge" ["what", "limit"] (aCons (cS "days") (aCons (cI 12) aNil))) sNil) (sSeq (sSetO 1 (lcxO [2] (bnd (rd 0) anyD) (gV 2) (notT (tru (fzM (callF 1 m_is_row (aCons (rd 2) aNil))))) (rd 2))) (sSeq (sIf (tst (bin gtQ (bnd (aCons (fzM (lcO [2] (bnd (rd 0) anyD) (gV 2) yesT (bnd (aCons (rd 2) aNil) lenM))) aNil) sumM) (cI 600))) (sRaise "TooLarge" ["what", "limit"] (aCons (cS "places") (aCons (cI 600) aNil))) sNil) (sIf (orT (tru (rd 1)) (notT (tru (rd 0)))) (sRaise "Malformed" ["what"] (aCons (cS "rows") aNil)) sNil))))
theorem k_check_day_rows (T : TX K mg base) : Fn P w K mg base 6 "check_day_rows" 1 m_check_day_rows := by
  obtain ⟨fd, D⟩ := T.dfn 11
  have nd := sc_check_day_rows.nd
  refine ⟨(T.glo 11), fd, ["rows"], fn_ok (k := 5) D sc_check_day_rows ?_, D.kp, D.bindsN fun _ _ _ _ _ _ us hl => match us, hl with | [_], _ => rfl⟩
  exact fun _ _ _ _ _ _ _ _ hr tk hp => (ds_cons (ds_if (dt_cmp op_gtA os_cmp (de_cb call_len cs_len (T.free 84) (da_cons (de_v 0) da_nil)) (de_gint (T.int 72))) (ds_one (ds_raiseG (x_TooLarge T) rfl tk hr (da_cons de_str (da_cons (de_gint (T.int 72)) da_nil)))) ds_nil) (ds_cons (ds_setLcx 1 [("row", 2)] tk rfl nd (di_any (de_v 0)) (blkOk_by (N := ["rows", "wrong", "row"]) (sc := defScope s_check_day_rows) (by decide +kernel)) (by decide) (fun _ _ _ _ _ _ _ => (dg_v 2 nd)) (fun _ _ _ _ _ _ _ tk' => dpw_one fun _ => (dt_not (dt_tru (de_o (do_callG (k_is_row T) hr tk' (da_cons (de_v 2) da_nil)))))) (fun _ _ _ _ _ _ _ _ tk' => (de_v 2))) (ds_cons (ds_if (dt_cmp op_gtA os_cmp (de_cb (cr_sum rfl) cs_sum (T.free 91) (da_cons (de_o (do_lc [("row", 2)] rfl nd (di_any (de_v 0)) (blkOk_by (N := ["rows", "wrong", "row"]) (sc := defScope s_check_day_rows) (by decide +kernel)) (by decide) (fun _ _ _ _ _ _ => (dg_v 2 nd)) (fun _ _ _ _ _ => dps_nil) (fun _ _ _ _ _ _ => (de_cb call_len cs_len (T.free 84) (da_cons (de_v 2) da_nil))))) da_nil)) (de_gint (T.int 73))) (ds_one (ds_raiseG (x_TooLarge T) rfl tk hr (da_cons de_str (da_cons (de_gint (T.int 73)) da_nil)))) ds_nil) (ds_one (ds_if (dt_w (dw_or (dt_tru (de_v 1)) (dw_or1 (dt_not (dt_tru (de_v 0)))))) (ds_one (ds_raiseG (x_Malformed T) rfl tk hr (da_cons de_str da_nil))) ds_nil)))))
/-! joined_rows -/
theorem sc_joined_rows : FnScope ["rows", "row", "cell"] ["rows"] (defScope s_joined_rows) := ⟨rfl, rfl, rfl, by decide +kernel, rfl, by decide +kernel, by decide +kernel⟩
def m_joined_rows : FnF := mkFn 3 (sSeq (sDo (fzM (callF 1 m_check_day_rows (aCons (rd 0) aNil)))) (sRetO (lc2O [1, 2] [2] (bnd (rd 0) anyD) (gV 1) yesT (bnd (rd 1) anyD) (gV 2) yesT (rd 2))))
theorem k_joined_rows (T : TX K mg base) : Fn P w K mg base 7 "joined_rows" 1 m_joined_rows := by
  obtain ⟨fd, D⟩ := T.dfn 12
  have nd := sc_joined_rows.nd
  refine ⟨(T.glo 12), fd, ["rows"], fn_ok (k := 6) D sc_joined_rows ?_, D.kp, D.bindsN fun _ _ _ _ _ _ us hl => match us, hl with | [_], _ => rfl⟩
  exact fun _ _ _ _ _ _ _ _ hr tk hp => (ds_cons (ds_expr (de_o (do_callG (k_check_day_rows T) hr tk (da_cons (de_v 0) da_nil)))) (ds_one (ds_retO (do_lc2 [("row", 1), ("cell", 2)] [2] rfl nd (di_any (de_v 0)) (blkOk_by (N := ["rows", "row", "cell"]) (sc := defScope s_joined_rows) (by decide +kernel)) (by decide) (by decide) (by decide) (fun _ _ _ _ _ _ => (dg_v 1 nd)) (fun _ _ _ _ _ => dps_nil) (fun _ _ _ _ _ _ => (di_any (de_v 1))) (fun _ _ _ _ _ _ => (dg_v 2 nd)) (fun _ _ _ _ _ => dps_nil) (fun _ _ _ _ _ _ => (de_v 2))))))
/-! is_number -/
theorem sc_is_number : FnScope ["value"] ["value"] (defScope s_is_number) := ⟨rfl, rfl, rfl, by decide +kernel, rfl, by decide +kernel, by decide +kernel⟩
def m_is_number : FnF := mkFn 1 (sRet (andV (isTM ["int"] (rd 0)) (notV (isTM ["bool"] (rd 0)))))
theorem k_is_number (T : TX K mg base) : Fn P w K mg base 1 "is_number" 1 m_is_number := by
  obtain ⟨fd, D⟩ := T.dfn 13
  have nd := sc_is_number.nd
  refine ⟨(T.glo 13), fd, ["value"], fn_ok (k := 0) D sc_is_number ?_, D.kp, D.bindsN fun _ _ _ _ _ _ us hl => match us, hl with | [_], _ => rfl⟩
  exact fun _ _ _ _ _ _ _ _ hr tk hp => (ds_one (ds_ret (de_and (de_isT (T.free 83) (T.free 82) (de_v 0)) (de_one (de_not (de_isT (T.free 83) (T.free 80) (de_v 0)))))))
/-! ask_high -/
theorem sc_ask_high : FnScope ["bounds", "name", "value", "low", "high"] ["bounds"] (defScope s_ask_high) := ⟨rfl, rfl, rfl, by decide +kernel, rfl, by decide +kernel, by decide +kernel⟩
def m_ask_high : FnF := mkFn 5 (sFor (bnd (rd 0) anyD) (gT 4 (gsC (gV 1) (gsC (gV 2) (gsC (gV 3) (gsC (gV 4) gsN))))) (sIf (andT (tru (fzM (callF 1 m_is_number (aCons (rd 2) aNil)))) (tst (bin gtQ (rd 2) (rd 4)))) (sRaise "TooLarge" ["what", "limit"] (aCons (rd 1) (aCons (rd 4) aNil))) sNil))
theorem k_ask_high (T : TX K mg base) : Fn P w K mg base 3 "ask_high" 1 m_ask_high := by
  obtain ⟨fd, D⟩ := T.dfn 14
  have nd := sc_ask_high.nd
  refine ⟨(T.glo 14), fd, ["bounds"], fn_ok (k := 2) D sc_ask_high ?_, D.kp, D.bindsN fun _ _ _ _ _ _ us hl => match us, hl with | [_], _ => rfl⟩
  exact fun _ _ _ _ _ _ _ _ hr tk hp => (ds_one (ds_for hp rfl (di_any (de_v 0)) (dg_tup rfl (dg_cons (dg_v 1 nd) (dg_cons (dg_v 2 nd) (dg_cons (dg_v 3 nd) (dg_cons (dg_v 4 nd) dg_nil))))) (ds_one (ds_if (dt_w (dw_and (dt_tru (de_o (do_callG (k_is_number T) hr tk (da_cons (de_v 2) da_nil)))) (dw_and1 (dt_cmp op_gtA os_cmp (de_v 2) (de_v 4))))) (ds_one (ds_raiseG (x_TooLarge T) rfl tk hr (da_cons (de_v 1) (da_cons (de_v 4) da_nil)))) ds_nil))))
/-! ask_low -/
theorem sc_ask_low : FnScope ["bounds", "name", "value", "low", "high"] ["bounds"] (defScope s_ask_low) := ⟨rfl, rfl, rfl, by decide +kernel, rfl, by decide +kernel, by decide +kernel⟩
def m_ask_low : FnF := mkFn 5 (sFor (bnd (rd 0) anyD) (gT 4 (gsC (gV 1) (gsC (gV 2) (gsC (gV 3) (gsC (gV 4) gsN))))) (sIf (orT (notT (tru (fzM (callF 1 m_is_number (aCons (rd 2) aNil))))) (tst (bin ltQ (rd 2) (rd 3)))) (sRaise "Malformed" ["what"] (aCons (rd 1) aNil)) sNil))
theorem k_ask_low (T : TX K mg base) : Fn P w K mg base 3 "ask_low" 1 m_ask_low := by
  obtain ⟨fd, D⟩ := T.dfn 15
  have nd := sc_ask_low.nd
  refine ⟨(T.glo 15), fd, ["bounds"], fn_ok (k := 2) D sc_ask_low ?_, D.kp, D.bindsN fun _ _ _ _ _ _ us hl => match us, hl with | [_], _ => rfl⟩
  exact fun _ _ _ _ _ _ _ _ hr tk hp => (ds_one (ds_for hp rfl (di_any (de_v 0)) (dg_tup rfl (dg_cons (dg_v 1 nd) (dg_cons (dg_v 2 nd) (dg_cons (dg_v 3 nd) (dg_cons (dg_v 4 nd) dg_nil))))) (ds_one (ds_if (dt_w (dw_or (dt_not (dt_tru (de_o (do_callG (k_is_number T) hr tk (da_cons (de_v 2) da_nil))))) (dw_or1 (dt_cmp op_ltA os_cmp (de_v 2) (de_v 3))))) (ds_one (ds_raiseG (x_Malformed T) rfl tk hr (da_cons (de_v 1) da_nil))) ds_nil))))
/-! ask_places -/
theorem sc_ask_places : FnScope ["slots", "days"] ["slots", "days"] (defScope s_ask_places) := ⟨rfl, rfl, rfl, by decide +kernel, rfl, by decide +kernel, by decide +kernel⟩
def m_ask_places : FnF := mkFn 2 (sIf (andT (tru (fzM (callF 1 m_is_number (aCons (rd 0) aNil)))) (andT (tru (fzM (callF 1 m_is_number (aCons (rd 1) aNil)))) (andT (tst (bin geQ (rd 0) (cI 1))) (tst (bin geQ (rd 1) (cI 1)))))) (sIf (tst (bin gtQ (bin mulM (rd 0) (rd 1)) (cI 600))) (sRaise "TooLarge" ["what", "limit"] (aCons (cS "places") (aCons (cI 600) aNil))) sNil) sNil)
theorem k_ask_places (T : TX K mg base) : Fn P w K mg base 3 "ask_places" 2 m_ask_places := by
  obtain ⟨fd, D⟩ := T.dfn 16
  have nd := sc_ask_places.nd
  refine ⟨(T.glo 16), fd, ["slots", "days"], fn_ok (k := 2) D sc_ask_places ?_, D.kp, D.bindsN fun _ _ _ _ _ _ us hl => match us, hl with | [_, _], _ => rfl⟩
  exact fun _ _ _ _ _ _ _ _ hr tk hp => (ds_one (ds_if (dt_w (dw_and (dt_tru (de_o (do_callG (k_is_number T) hr tk (da_cons (de_v 0) da_nil)))) (dw_and (dt_tru (de_o (do_callG (k_is_number T) hr tk (da_cons (de_v 1) da_nil)))) (dw_and (dt_cmp op_geA os_cmp (de_v 0) de_int) (dw_and1 (dt_cmp op_geA os_cmp (de_v 1) de_int)))))) (ds_one (ds_if (dt_cmp op_gtA os_cmp (de_bin op_mulA os_mul (de_v 0) (de_v 1)) (de_gint (T.int 77))) (ds_one (ds_raiseG (x_TooLarge T) rfl tk hr (da_cons de_str (da_cons (de_gint (T.int 77)) da_nil)))) ds_nil)) ds_nil))
/-! right_tally -/
theorem sc_right_tally : FnScope ["tally"] ["tally"] (defScope s_right_tally) := ⟨rfl, rfl, rfl, by decide +kernel, rfl, by decide +kernel, by decide +kernel⟩
def m_right_tally : FnF := mkFn 1 (sSeq (sTry (isqOf isl "Malformed") (sDo (fzM (callF 1 m_check_tally (aCons (rd 0) aNil)))) (sRet (cB false))) (sRet (cB true)))
theorem k_right_tally (T : TX K mg base) : Fn P w K mg base 5 "right_tally" 1 m_right_tally := by
  obtain ⟨fd, D⟩ := T.dfn 17
  have nd := sc_right_tally.nd
  refine ⟨(T.glo 17), fd, ["tally"], fn_ok (k := 4) D sc_right_tally ?_, D.kp, D.bindsN fun _ _ _ _ _ _ us hl => match us, hl with | [_], _ => rfl⟩
  exact fun _ _ _ _ _ _ _ _ hr tk hp => (ds_cons (ds_try tk ⟨rfl, by decide, .inl (T.glo 60)⟩ (fun y k h => (T.isq h).2) (fun _ _ _ tk' hp' => (ds_one (ds_expr (de_o (do_callG (k_check_tally T) hr tk' (da_cons (de_v 0) da_nil)))))) (fun _ _ _ => (ds_one (ds_ret de_bool)))) (ds_one (ds_ret de_bool)))
/-! day_bounds -/
theorem sc_day_bounds : FnScope ["slots", "apart", "days", "least"] ["slots", "apart", "days", "least"] (defScope s_day_bounds) := ⟨rfl, rfl, rfl, by decide +kernel, rfl, by decide +kernel, by decide +kernel⟩
def m_day_bounds : FnF := mkFn 4 (sRetO (lstO (aCons (tupV (aCons (cS "slots") (aCons (rd 0) (aCons (cI 1) (aCons (cI 240) aNil))))) (aCons (tupV (aCons (cS "apart") (aCons (rd 1) (aCons (cI 1) (aCons (cI 1000) aNil))))) (aCons (tupV (aCons (cS "days") (aCons (rd 2) (aCons (rd 3) (aCons (cI 12) aNil))))) aNil)))))
theorem k_day_bounds (T : TX K mg base) : Fn P w K mg base 1 "day_bounds" 4 m_day_bounds := by
  obtain ⟨fd, D⟩ := T.dfn 18
  have nd := sc_day_bounds.nd
  refine ⟨(T.glo 18), fd, ["slots", "apart", "days", "least"], fn_ok (k := 0) D sc_day_bounds ?_, D.kp, D.bindsN fun _ _ _ _ _ _ us hl => match us, hl with | [_, _, _, _], _ => rfl⟩
  exact fun _ _ _ _ _ _ _ _ hr tk hp => (ds_one (ds_retO (do_lst (da_cons (de_tup (da_cons de_str (da_cons (de_v 0) (da_cons de_int (da_cons (de_gint (T.int 74)) da_nil))))) (da_cons (de_tup (da_cons de_str (da_cons (de_v 1) (da_cons de_int (da_cons (de_gint (T.int 75)) da_nil))))) (da_cons (de_tup (da_cons de_str (da_cons (de_v 2) (da_cons (de_v 3) (da_cons (de_gint (T.int 76)) da_nil))))) da_nil))))))
/-! ask_tally -/
theorem sc_ask_tally : FnScope ["tally", "slots", "apart", "days", "least", "laid", "bounds", "right", "total", "mark", "number"] ["tally", "slots", "apart", "days", "least", "laid"] (defScope s_ask_tally) := ⟨rfl, rfl, rfl, by decide +kernel, rfl, by decide +kernel, by decide +kernel⟩
def m_ask_tally : FnF := mkFn 11 (sSeq (sSetO 6 (callF 4 m_day_bounds (aCons (rd 1) (aCons (rd 2) (aCons (rd 3) (aCons (rd 4) aNil)))))) (sSeq (sSetO 7 (callF 1 m_right_tally (aCons (rd 0) aNil))) (sSeq (sDo (fzM (callF 1 m_ask_high (aCons (rd 6) aNil)))) (sSeq (sIf (tru (rd 5)) (sDo (fzM (callF 2 m_ask_places (aCons (rd 1) (aCons (rd 3) aNil))))) sNil) (sSeq (sIf (notT (tru (rd 7))) (sRaise "Malformed" ["what"] (aCons (cS "tally") aNil)) sNil) (sSeq (sDo (fzM (callF 1 m_ask_low (aCons (rd 6) aNil)))) (sSeq (sSet 8 (bnd (aCons (fzM (lcO [9, 10] (bnd (rd 0) anyD) (gT 2 (gsC (gV 9) (gsC (gV 10) gsN))) yesT (rd 10))) aNil) sumM)) (sIf (tst (bin gtQ (rd 8) (rd 1))) (sRaise "Overfull" ["total", "slots"] (aCons (rd 8) (aCons (rd 1) aNil))) sNil))))))))
theorem w_ask_tally (T : TX K mg base) {fd : FuncData} (D : FunD K d_ask_tally.name d_ask_tally.qual d_ask_tally.params d_ask_tally.body d_ask_tally.scope (d_ask_tally.dvs K) (d_ask_tally.kws K) (He.fAd K d_ask_tally.at_) fd) : FnOk P w K mg base (L2.CX P w) 6 (He.ga K "ask_tally") fd ["tally", "slots", "apart", "days", "least", "laid"] (spD K 6 m_ask_tally) := by
  have nd := sc_ask_tally.nd
  refine fn_ok (k := 5) D sc_ask_tally ?_
  exact fun _ _ _ _ _ _ _ _ hr tk hp => (ds_cons (ds_setO 6 nd (do_callG (k_day_bounds T) hr tk (da_cons (de_v 1) (da_cons (de_v 2) (da_cons (de_v 3) (da_cons (de_v 4) da_nil)))))) (ds_cons (ds_setO 7 nd (do_callG (k_right_tally T) hr tk (da_cons (de_v 0) da_nil))) (ds_cons (ds_expr (de_o (do_callG (k_ask_high T) hr tk (da_cons (de_v 6) da_nil)))) (ds_cons (ds_if (dt_tru (de_v 5)) (ds_one (ds_expr (de_o (do_callG (k_ask_places T) hr tk (da_cons (de_v 1) (da_cons (de_v 3) da_nil)))))) ds_nil) (ds_cons (ds_if (dt_not (dt_tru (de_v 7))) (ds_one (ds_raiseG (x_Malformed T) rfl tk hr (da_cons de_str da_nil))) ds_nil) (ds_cons (ds_expr (de_o (do_callG (k_ask_low T) hr tk (da_cons (de_v 6) da_nil)))) (ds_cons (ds_set 8 nd (de_cb (cr_sum rfl) cs_sum (T.free 91) (da_cons (de_o (do_lc [("mark", 9), ("number", 10)] rfl nd (di_any (de_v 0)) (blkOk_by (N := ["tally", "slots", "apart", "days", "least", "laid", "bounds", "right", "total", "mark", "number"]) (sc := defScope s_ask_tally) (by decide +kernel)) (by decide) (fun _ _ _ _ _ _ => (dg_tup rfl (dg_cons (dg_v 9 nd) (dg_cons (dg_v 10 nd) dg_nil)))) (fun _ _ _ _ _ => dps_nil) (fun _ _ _ _ _ _ => (de_v 10)))) da_nil))) (ds_one (ds_if (dt_cmp op_gtA os_cmp (de_v 8) (de_v 1)) (ds_one (ds_raiseG (x_Overfull T) rfl tk hr (da_cons (de_v 8) (da_cons (de_v 1) da_nil)))) ds_nil)))))))))
def gD_ask_tally_4_least : List PyData → List PyData → List PyData
  | [u0, u1, u2, u3], [w0] => [u0, u1, u2, u3, w0, .bool false]
  | _, _ => []
theorem kk_ask_tally_4_least (T : TX K mg base) : FnK P w K mg base 6 "ask_tally" 6 4 ["least"] gD_ask_tally_4_least m_ask_tally := by
  obtain ⟨fd, D⟩ := T.dfn 19
  obtain ⟨its, mv, hb⟩ := FunD.kbinds (ps := ["tally", "slots", "apart", "days", "least", "laid"]) D 4 ["least"] [("laid", .bl false)] (fun us _ mv ws => us ++ ((ws.drop 0).take 1 ++ (mv.drop 0).take 1)) (by exact fun z => nomatch z) (by exact fun z => nomatch z) (by intro q h; simp only [List.mem_cons, List.not_mem_nil, or_false] at h; subst h; simp [He.DefD.kws, d_ask_tally, He.Dv.v]) (fun r1 _ rm rw => r1.append ((((rw.drop 0).take 1)).append ((rm.drop 0).take 1)))
    (fun T D _ _ _ _ _ us its mv ws h1 h2 h3 h4 => match us, h1, its, h2, mv, h3, ws, h4 with | [_, _, _, _], _, [_], _, [_], _, [_], _ => ⟨_, rfl, ⟨_, _, _, _, _, _, rfl, rfl, rfl⟩⟩)
  refine ⟨(T.glo 19), fd, _, _, _, w_ask_tally T D, D.kp, hb, fun {F vs zs ds es} l1 l2 r1 r2 => ?_⟩
  exact match ds, l1, es, l2, r1, r2 with | [u0, u1, u2, u3], _, [w0], _, .cons a0 (.cons a1 (.cons a2 (.cons a3 .nil))), .cons b0 .nil => .cons a0 (.cons a1 (.cons a2 (.cons a3 (.cons b0 (.cons (.bl _) .nil)))))
/-! wide_at -/
theorem sc_wide_at : FnScope ["slots", "apart", "days"] ["slots", "apart", "days"] (defScope s_wide_at) := ⟨rfl, rfl, rfl, by decide +kernel, rfl, by decide +kernel, by decide +kernel⟩
def m_wide_at : FnF := mkFn 3 (sSeq (sIf (tst (bin eqM (rd 2) (cI 0))) (sRet (cI 0)) sNil) (sRet (bnd (aCons (cI 0) (aCons (bin subM (rd 1) (bin mulM (rd 2) (bin subM (rd 1) (bin modM (rd 0) (rd 1))))) aNil)) max2M)))
theorem k_wide_at (T : TX K mg base) : Fn P w K mg base 1 "wide_at" 3 m_wide_at := by
  obtain ⟨fd, D⟩ := T.dfn 20
  have nd := sc_wide_at.nd
  refine ⟨(T.glo 20), fd, ["slots", "apart", "days"], fn_ok (k := 0) D sc_wide_at ?_, D.kp, D.bindsN fun _ _ _ _ _ _ us hl => match us, hl with | [_, _, _], _ => rfl⟩
  exact fun _ _ _ _ _ _ _ _ hr tk hp => (ds_cons (ds_if (dt_cmp (op_eqQ hr.units) os_eq (de_v 2) de_int) (ds_one (ds_ret de_int)) ds_nil) (ds_one (ds_ret (de_cb (call_max2 rfl) cs_max2 (T.free 86) (da_cons de_int (da_cons (de_bin op_sub os_sub (de_v 1) (de_bin op_mulA os_mul (de_v 2) (de_bin op_sub os_sub (de_v 1) (de_bin op_mod os_mod (de_v 0) (de_v 1))))) da_nil))))))
/-! marks_above -/
theorem sc_marks_above : FnScope ["tally", "number", "mark", "many"] ["tally", "number"] (defScope s_marks_above) := ⟨rfl, rfl, rfl, by decide +kernel, rfl, by decide +kernel, by decide +kernel⟩
def m_marks_above : FnF := mkFn 4 (sRetO (lcO [2, 3] (bnd (rd 0) anyD) (gT 2 (gsC (gV 2) (gsC (gV 3) gsN))) (tst (bin gtQ (rd 3) (rd 1))) (rd 2)))
theorem k_marks_above (T : TX K mg base) : Fn P w K mg base 1 "marks_above" 2 m_marks_above := by
  obtain ⟨fd, D⟩ := T.dfn 21
  have nd := sc_marks_above.nd
  refine ⟨(T.glo 21), fd, ["tally", "number"], fn_ok (k := 0) D sc_marks_above ?_, D.kp, D.bindsN fun _ _ _ _ _ _ us hl => match us, hl with | [_, _], _ => rfl⟩
  exact fun _ _ _ _ _ _ _ _ hr tk hp => (ds_one (ds_retO (do_lc [("mark", 2), ("many", 3)] rfl nd (di_any (de_v 0)) (blkOk_by (N := ["tally", "number", "mark", "many"]) (sc := defScope s_marks_above) (by decide +kernel)) (by decide) (fun _ _ _ _ _ _ => (dg_tup rfl (dg_cons (dg_v 2 nd) (dg_cons (dg_v 3 nd) dg_nil)))) (fun _ _ _ _ _ => dps_one fun _ => (dt_cmp op_gtA os_cmp (de_v 3) (de_v 1))) (fun _ _ _ _ _ _ => (de_v 2)))))
/-! paper_of -/
theorem sc_paper_of : FnScope ["tally", "slots", "apart", "days", "top", "most", "tall", "wide", "mark", "number"] ["tally", "slots", "apart", "days"] (defScope s_paper_of) := ⟨rfl, rfl, rfl, by decide +kernel, rfl, by decide +kernel, by decide +kernel⟩
def m_paper_of : FnF := mkFn 10 (sSeq (sSet 4 (bin divM (rd 1) (rd 2))) (sSeq (sSet 5 (maxDf (aCons (fzM (lcO [8, 9] (bnd (rd 0) anyD) (gT 2 (gsC (gV 8) (gsC (gV 9) gsN))) yesT (rd 9))) aNil) (aCons (cI 0) aNil))) (sSeq (sIf (tst (bin gtQ (rd 5) (bin addM (rd 4) (cI 1)))) (sRet (tupV (aCons (fzM (slO (fzM (callF 2 m_marks_above (aCons (rd 0) (aCons (bin subM (rd 5) (cI 1)) aNil)))) pN (pS (cI 1)))) (aCons (rd 5) aNil)))) sNil) (sSeq (sSetO 6 (callF 2 m_marks_above (aCons (rd 0) (aCons (rd 4) aNil)))) (sSeq (sSetO 7 (callF 3 m_wide_at (aCons (rd 1) (aCons (rd 2) (aCons (rd 3) aNil))))) (sSeq (sIf (tst (bin gtQ (bnd (aCons (rd 6) aNil) lenM) (rd 7))) (sRet (tupV (aCons (fzM (slO (rd 6) pN (pS (bin addM (rd 7) (cI 1))))) (aCons (bin addM (rd 4) (cI 1)) aNil)))) sNil) (sRet (tupV aNil))))))))
theorem k_paper_of (T : TX K mg base) : Fn P w K mg base 2 "paper_of" 4 m_paper_of := by
  obtain ⟨fd, D⟩ := T.dfn 22
  have nd := sc_paper_of.nd
  refine ⟨(T.glo 22), fd, ["tally", "slots", "apart", "days"], fn_ok (k := 1) D sc_paper_of ?_, D.kp, D.bindsN fun _ _ _ _ _ _ us hl => match us, hl with | [_, _, _, _], _ => rfl⟩
  exact fun _ _ _ _ _ _ _ _ hr tk hp => (ds_cons (ds_set 4 nd (de_bin op_fdiv os_div (de_v 1) (de_v 2))) (ds_cons (ds_set 5 nd (de_maxDf rfl hr.units (T.free 86) (da_cons (de_o (do_lc [("mark", 8), ("number", 9)] rfl nd (di_any (de_v 0)) (blkOk_by (N := ["tally", "slots", "apart", "days", "top", "most", "tall", "wide", "mark", "number"]) (sc := defScope s_paper_of) (by decide +kernel)) (by decide) (fun _ _ _ _ _ _ => (dg_tup rfl (dg_cons (dg_v 8 nd) (dg_cons (dg_v 9 nd) dg_nil)))) (fun _ _ _ _ _ => dps_nil) (fun _ _ _ _ _ _ => (de_v 9)))) da_nil) (dk_cons de_int dk_nil))) (ds_cons (ds_if (dt_cmp op_gtA os_cmp (de_v 5) (de_bin op_addA os_add (de_v 4) de_int)) (ds_one (ds_ret (de_tup (da_cons (de_o (do_sl (de_o (do_callG (k_marks_above T) hr tk (da_cons (de_v 0) (da_cons (de_bin op_sub os_sub (de_v 5) de_int) da_nil)))) dp_none (dp_some de_int))) (da_cons (de_v 5) da_nil))))) ds_nil) (ds_cons (ds_setO 6 nd (do_callG (k_marks_above T) hr tk (da_cons (de_v 0) (da_cons (de_v 4) da_nil)))) (ds_cons (ds_setO 7 nd (do_callG (k_wide_at T) hr tk (da_cons (de_v 1) (da_cons (de_v 2) (da_cons (de_v 3) da_nil))))) (ds_cons (ds_if (dt_cmp op_gtA os_cmp (de_cb call_len cs_len (T.free 84) (da_cons (de_v 6) da_nil)) (de_v 7)) (ds_one (ds_ret (de_tup (da_cons (de_o (do_sl (de_v 6) dp_none (dp_some (de_bin op_addA os_add (de_v 7) de_int)))) (da_cons (de_bin op_addA os_add (de_v 4) de_int) da_nil))))) ds_nil) (ds_one (ds_ret (de_tup da_nil)))))))))
/-! cells_of_rows -/
theorem sc_cells_of_rows : FnScope ["rows", "cells"] ["rows"] (defScope s_cells_of_rows) := ⟨rfl, rfl, rfl, by decide +kernel, rfl, by decide +kernel, by decide +kernel⟩
def m_cells_of_rows : FnF := mkFn 2 (sSeq (sTry (isqOf isl "Malformed") (sSetO 1 (callF 1 m_joined_rows (aCons (rd 0) aNil))) (sRetO (lstO aNil))) (sSeq (sIf (tst (bin inM (cS "?") (rd 1))) (sRetO (lstO aNil)) sNil) (sRetV 1)))
theorem k_cells_of_rows (T : TX K mg base) : Fn P w K mg base 8 "cells_of_rows" 1 m_cells_of_rows := by
  obtain ⟨fd, D⟩ := T.dfn 23
  have nd := sc_cells_of_rows.nd
  refine ⟨(T.glo 23), fd, ["rows"], fn_ok (k := 7) D sc_cells_of_rows ?_, D.kp, D.bindsN fun _ _ _ _ _ _ us hl => match us, hl with | [_], _ => rfl⟩
  exact fun _ _ _ _ _ _ _ _ hr tk hp => (ds_cons (ds_try tk ⟨rfl, by decide, .inl (T.glo 60)⟩ (fun y k h => (T.isq h).2) (fun _ _ _ tk' hp' => (ds_one (ds_setO 1 nd (do_callG (k_joined_rows T) hr tk' (da_cons (de_v 0) da_nil))))) (fun _ _ _ => (ds_one (ds_retO (do_lst da_nil))))) (ds_cons (ds_if (dt_cmp op_in_seq os_in (de_gstr (T.str 66)) (de_v 1)) (ds_one (ds_retO (do_lst da_nil))) ds_nil) (ds_one (ds_retV 1))))
/-! near_pair -/
theorem sc_near_pair : FnScope ["cells", "apart", "found", "later", "back", "place", "mark"] ["cells", "apart"] (defScope s_near_pair) := ⟨rfl, rfl, rfl, by decide +kernel, rfl, by decide +kernel, by decide +kernel⟩
def m_near_pair : FnF := mkFn 7 (sSeq (sSet 2 (tupV aNil)) (sSeq (sSetO 3 dNew) (sSeq (sFor (bnd (aCons (cI 1) (aCons (bin addM (bnd (aCons (rd 0) aNil) lenM) (cI 1)) aNil)) rng2D) (gV 4) (sSeq (sSet 5 (bin subM (bnd (aCons (rd 0) aNil) lenM) (rd 4))) (sSeq (sSet 6 (bin ixM (rd 0) (rd 5))) (sSeq (sIf (tst (bin eqM (rd 6) (cS "."))) sCont sNil) (sSeq (sIf (andT (tst (dIn false 3 (rd 6))) (tst (bin ltQ (bin subM (dGet 3 (rd 6)) (rd 5)) (rd 1)))) (sSet 2 (tupV (aCons (rd 5) (aCons (dGet 3 (rd 6)) aNil)))) sNil) (dPut 3 (rd 6) (rd 5))))))) (sRetV 2))))
theorem k_near_pair (T : TX K mg base) : Fn P w K mg base 1 "near_pair" 2 m_near_pair := by
  obtain ⟨fd, D⟩ := T.dfn 24
  have nd := sc_near_pair.nd
  refine ⟨(T.glo 24), fd, ["cells", "apart"], fn_ok (k := 0) D sc_near_pair ?_, D.kp, D.bindsN fun _ _ _ _ _ _ us hl => match us, hl with | [_, _], _ => rfl⟩
  exact fun _ _ _ _ _ _ _ _ hr tk hp => (ds_cons (ds_set 2 nd (de_tup da_nil)) (ds_cons (ds_setO 3 nd do_dict0) (ds_cons (ds_for hp rfl (di_rng2 (T.free 88) (da_cons de_int (da_cons (de_bin op_addA os_add (de_cb call_len cs_len (T.free 84) (da_cons (de_v 0) da_nil)) de_int) da_nil))) (dg_v 4 nd) (ds_cons (ds_set 5 nd (de_bin op_sub os_sub (de_cb call_len cs_len (T.free 84) (da_cons (de_v 0) da_nil)) (de_v 4))) (ds_cons (ds_set 6 nd (de_ix (de_v 0) (de_v 5))) (ds_cons (ds_if (dt_cmp (op_eqQ hr.units) os_eq (de_v 6) (de_gstr (T.str 65))) (ds_one ds_continue) ds_nil) (ds_cons (ds_if (dt_w (dw_and (dt_din 3 hr.un1 (de_v 6)) (dw_and1 (dt_cmp op_ltA os_cmp (de_bin op_sub os_sub (de_dget 3 hr.un1 (de_v 6)) (de_v 5)) (de_v 1))))) (ds_one (ds_set 2 nd (de_tup (da_cons (de_v 5) (da_cons (de_dget 3 hr.un1 (de_v 6)) da_nil))))) ds_nil) (ds_one (ds_dput 3 hr.un1 (de_v 6) (de_v 5)))))))) (ds_one (ds_retV 2)))))
/-! fits_days -/
theorem sc_fits_days : FnScope ["tally", "slots", "apart", "days"] ["tally", "slots", "apart", "days"] (defScope s_fits_days) := ⟨rfl, rfl, rfl, by decide +kernel, rfl, by decide +kernel, by decide +kernel⟩
def m_fits_days : FnF := mkFn 4 (sSeq (sDo (fzM (callK 6 m_ask_tally gD_ask_tally_4_least (lenA 4 (aCons (rd 0) (aCons (rd 1) (aCons (rd 2) (aCons (rd 3) aNil))))) (lenA 1 (aCons (cI 0) aNil))))) (sSeq (sIf (tst (bin eqM (rd 3) (cI 0))) (sRet (bin eqM (bnd (aCons (fzM (callF 2 m_marks_above (aCons (rd 0) (aCons (bin divM (rd 1) (rd 2)) aNil)))) aNil) lenM) (cI 0))) sNil) (sRet (bin eqM (fzM (callF 4 m_paper_of (aCons (rd 0) (aCons (rd 1) (aCons (rd 2) (aCons (rd 3) aNil)))))) (tupV aNil)))))
theorem k_fits_days (T : TX K mg base) : Fn P w K mg base 7 "fits_days" 4 m_fits_days := by
  obtain ⟨fd, D⟩ := T.dfn 25
  have nd := sc_fits_days.nd
  refine ⟨(T.glo 25), fd, ["tally", "slots", "apart", "days"], fn_ok (k := 6) D sc_fits_days ?_, D.kp, D.bindsN fun _ _ _ _ _ _ us hl => match us, hl with | [_, _, _, _], _ => rfl⟩
  exact fun _ _ _ _ _ _ _ _ hr tk hp => (ds_cons (ds_expr (de_o (do_callGK (kk_ask_tally_4_least T) hr tk (da_cons (de_v 0) (da_cons (de_v 1) (da_cons (de_v 2) (da_cons (de_v 3) da_nil)))) (dk_cons de_int dk_nil)))) (ds_cons (ds_if (dt_cmp (op_eqQ hr.units) os_eq (de_v 3) de_int) (ds_one (ds_ret (de_cmp (op_eqQ hr.units) os_eq (de_cb call_len cs_len (T.free 84) (da_cons (de_o (do_callG (k_marks_above T) hr tk (da_cons (de_v 0) (da_cons (de_bin op_fdiv os_div (de_v 1) (de_v 2)) da_nil)))) da_nil)) de_int))) ds_nil) (ds_one (ds_ret (de_cmp (op_eqQ hr.units) os_eq (de_o (do_callG (k_paper_of T) hr tk (da_cons (de_v 0) (da_cons (de_v 1) (da_cons (de_v 2) (da_cons (de_v 3) da_nil)))))) (de_tup da_nil))))))
/-! judge_days -/
theorem sc_judge_days : FnScope ["rows", "tally", "apart", "bounds", "cells", "right", "clash", "day", "row"] ["rows", "tally", "apart"] (defScope s_judge_days) := ⟨rfl, rfl, rfl, by decide +kernel, rfl, by decide +kernel, by decide +kernel⟩
def m_judge_days : FnF := mkFn 9 (sSeq (sSetO 3 (lstO (aCons (tupV (aCons (cS "apart") (aCons (rd 2) (aCons (cI 1) (aCons (cI 1000) aNil))))) aNil))) (sSeq (sSetO 4 (callF 1 m_cells_of_rows (aCons (rd 0) aNil))) (sSeq (sSetO 5 (callF 1 m_right_tally (aCons (rd 1) aNil))) (sSeq (sDo (fzM (callF 1 m_ask_high (aCons (rd 3) aNil)))) (sSeq (sIf (tst (bin eqM (bnd (aCons (rd 4) aNil) lenM) (cI 0))) (sRaise "Malformed" ["what"] (aCons (cS "rows") aNil)) sNil) (sSeq (sIf (notT (tru (rd 5))) (sRaise "Malformed" ["what"] (aCons (cS "tally") aNil)) sNil) (sSeq (sDo (fzM (callF 1 m_ask_low (aCons (rd 3) aNil)))) (sSeq (sFor (bnd (aCons (rd 0) aNil) enumD) (gT 2 (gsC (gV 7) (gsC (gV 8) gsN))) (sIf (orT (tst (bin neM (bnd (aCons (rd 8) aNil) lenM) (bnd (aCons (bin ixM (rd 0) (cI 0)) aNil) lenM))) (tst (bin neM (fzM (callF 1 m_count_row (aCons (rd 8) aNil))) (rd 1)))) (sRet (tupV (aCons (cS "numbers") (aCons (rd 7) aNil)))) sNil)) (sSeq (sSetO 6 (callF 2 m_near_pair (aCons (rd 4) (aCons (rd 2) aNil)))) (sSeq (sIf (tst (bin neM (rd 6) (tupV aNil))) (sRet (tupV (aCons (cS "clash") (aCons (bin ixM (rd 6) (cI 0)) (aCons (bin ixM (rd 6) (cI 1)) aNil))))) sNil) (sRet (tupV aNil))))))))))))
theorem k_judge_days (T : TX K mg base) : Fn P w K mg base 9 "judge_days" 3 m_judge_days := by
  obtain ⟨fd, D⟩ := T.dfn 26
  have nd := sc_judge_days.nd
  refine ⟨(T.glo 26), fd, ["rows", "tally", "apart"], fn_ok (k := 8) D sc_judge_days ?_, D.kp, D.bindsN fun _ _ _ _ _ _ us hl => match us, hl with | [_, _, _], _ => rfl⟩
  exact fun _ _ _ _ _ _ _ _ hr tk hp => (ds_cons (ds_setO 3 nd (do_lst (da_cons (de_tup (da_cons de_str (da_cons (de_v 2) (da_cons de_int (da_cons (de_gint (T.int 75)) da_nil))))) da_nil))) (ds_cons (ds_setO 4 nd (do_callG (k_cells_of_rows T) hr tk (da_cons (de_v 0) da_nil))) (ds_cons (ds_setO 5 nd (do_callG (k_right_tally T) hr tk (da_cons (de_v 1) da_nil))) (ds_cons (ds_expr (de_o (do_callG (k_ask_high T) hr tk (da_cons (de_v 3) da_nil)))) (ds_cons (ds_if (dt_cmp (op_eqQ hr.units) os_eq (de_cb call_len cs_len (T.free 84) (da_cons (de_v 4) da_nil)) de_int) (ds_one (ds_raiseG (x_Malformed T) rfl tk hr (da_cons de_str da_nil))) ds_nil) (ds_cons (ds_if (dt_not (dt_tru (de_v 5))) (ds_one (ds_raiseG (x_Malformed T) rfl tk hr (da_cons de_str da_nil))) ds_nil) (ds_cons (ds_expr (de_o (do_callG (k_ask_low T) hr tk (da_cons (de_v 3) da_nil)))) (ds_cons (ds_for hp rfl (di_enum (T.free 81) (da_cons (de_v 0) da_nil)) (dg_tup rfl (dg_cons (dg_v 7 nd) (dg_cons (dg_v 8 nd) dg_nil))) (ds_one (ds_if (dt_w (dw_or (dt_cmp (op_neQ hr.units) os_ne (de_cb call_len cs_len (T.free 84) (da_cons (de_v 8) da_nil)) (de_cb call_len cs_len (T.free 84) (da_cons (de_ix (de_v 0) de_int) da_nil))) (dw_or1 (dt_cmp (op_neQ hr.units) os_ne (de_o (do_callG (k_count_row T) hr tk (da_cons (de_v 8) da_nil))) (de_v 1))))) (ds_one (ds_ret (de_tup (da_cons de_str (da_cons (de_v 7) da_nil))))) ds_nil))) (ds_cons (ds_setO 6 nd (do_callG (k_near_pair T) hr tk (da_cons (de_v 4) (da_cons (de_v 2) da_nil)))) (ds_cons (ds_if (dt_cmp (op_neQ hr.units) os_ne (de_v 6) (de_tup da_nil)) (ds_one (ds_ret (de_tup (da_cons de_str (da_cons (de_ix (de_v 6) de_int) (da_cons (de_ix (de_v 6) de_int) da_nil)))))) ds_nil) (ds_one (ds_ret (de_tup da_nil)))))))))))))
/-! _law_mix -/
theorem sc__law_mix : FnScope ["cell", "turn", "first", "second"] ["cell", "turn"] (defScope s__law_mix) := ⟨rfl, rfl, rfl, by decide +kernel, rfl, by decide +kernel, by decide +kernel⟩
def m__law_mix : FnF := mkFn 4 (sSeq (sSet 2 (bin modM (bin addM (bin addM (bin mulM (bin modM (bnd (aCons (rd 0) aNil) intM) (cI 2147483647)) (cI 48271)) (bin mulM (rd 1) (cI 69621))) (cI 1234567)) (cI 2147483647))) (sSeq (sSet 3 (bin modM (bin addM (bin addM (bin mulM (rd 2) (rd 2)) (bin mulM (rd 1) (cI 40692))) (bin divM (rd 2) (cI 4099))) (cI 2147483399))) (sRet (bin modM (bin addM (bin addM (bin mulM (rd 3) (rd 3)) (bin mulM (rd 2) (cI 16807))) (bin divM (rd 3) (cI 997))) (cI 2147483399)))))
theorem k__law_mix (T : TX K mg base) : Fn P w K mg base 1 "_law_mix" 2 m__law_mix := by
  obtain ⟨fd, D⟩ := T.dfn 27
  have nd := sc__law_mix.nd
  refine ⟨(T.glo 27), fd, ["cell", "turn"], fn_ok (k := 0) D sc__law_mix ?_, D.kp, D.bindsN fun _ _ _ _ _ _ us hl => match us, hl with | [_, _], _ => rfl⟩
  exact fun _ _ _ _ _ _ _ _ hr tk hp => (ds_cons (ds_set 2 nd (de_bin op_mod os_mod (de_bin op_addA os_add (de_bin op_addA os_add (de_bin op_mulA os_mul (de_bin op_mod os_mod (de_ctp call_intA cs_int (T.free 82) (da_cons (de_v 0) da_nil)) de_int) de_int) (de_bin op_mulA os_mul (de_v 1) de_int)) de_int) de_int)) (ds_cons (ds_set 3 nd (de_bin op_mod os_mod (de_bin op_addA os_add (de_bin op_addA os_add (de_bin op_mulA os_mul (de_v 2) (de_v 2)) (de_bin op_mulA os_mul (de_v 1) de_int)) (de_bin op_fdiv os_div (de_v 2) de_int)) de_int)) (ds_one (ds_ret (de_bin op_mod os_mod (de_bin op_addA os_add (de_bin op_addA os_add (de_bin op_mulA os_mul (de_v 3) (de_v 3)) (de_bin op_mulA os_mul (de_v 2) de_int)) (de_bin op_fdiv os_div (de_v 3) de_int)) de_int)))))
/-! _law_store -/
theorem sc__law_store : FnScope ["script", "cells", "seed", "cell"] ["script"] (defScope s__law_store) := ⟨rfl, rfl, rfl, by decide +kernel, rfl, by decide +kernel, by decide +kernel⟩
def m__law_store : FnF := mkFn 4 (sSeq (sSetO 1 (listP 0)) (sSeq (sSet 2 (cI 20011)) (sSeq (sFor (bnd (rd 1) anyD) (gV 3) (sSetO 2 (callF 2 m__law_mix (aCons (bin addM (bin mulM (rd 2) (cI 31)) (bin modM (bnd (aCons (rd 3) aNil) intM) (cI 2147483629))) (aCons (bnd (aCons (rd 1) aNil) lenM) aNil))))) (sRetO (lstO (aCons (rd 1) (aCons (cI 0) (aCons (cI 0) (aCons (cI 0) (aCons (rd 2) aNil))))))))))
theorem k__law_store (T : TX K mg base) : Fn P w K mg base 2 "_law_store" 1 m__law_store := by
  obtain ⟨fd, D⟩ := T.dfn 28
  have nd := sc__law_store.nd
  refine ⟨(T.glo 28), fd, ["script"], fn_ok (k := 1) D sc__law_store ?_, D.kp, D.bindsN fun _ _ _ _ _ _ us hl => match us, hl with | [_], _ => rfl⟩
  exact fun _ _ _ _ _ _ _ _ hr tk hp => (ds_cons (ds_setO 1 nd (do_listP 0 (T.free 85))) (ds_cons (ds_set 2 nd de_int) (ds_cons (ds_for hp rfl (di_any (de_v 1)) (dg_v 3 nd) (ds_one (ds_setO 2 nd (do_callG (k__law_mix T) hr tk (da_cons (de_bin op_addA os_add (de_bin op_mulA os_mul (de_v 2) de_int) (de_bin op_mod os_mod (de_ctp call_intA cs_int (T.free 82) (da_cons (de_v 3) da_nil)) de_int)) (da_cons (de_cb call_len cs_len (T.free 84) (da_cons (de_v 1) da_nil)) da_nil)))))) (ds_one (ds_retO (do_lst (da_cons (de_v 1) (da_cons de_int (da_cons de_int (da_cons de_int (da_cons (de_v 2) da_nil)))))))))))
/-! _law_take -/
theorem sc__law_take : FnScope ["store", "bound", "cell", "value"] ["store", "bound"] (defScope s__law_take) := ⟨rfl, rfl, rfl, by decide +kernel, rfl, by decide +kernel, by decide +kernel⟩
def m__law_take : FnF := mkFn 4 (sSeq (sIf (tst (bin ltQ (rd 1) (cI 2))) (sRet (cI 0)) sNil) (sSeq (sIf (andT (tst (bin ltQ (ixP 0 (cI 2)) (rd 1))) (tst (bin ltQ (ixP 0 (cI 1)) (bnd (aCons (ixP 0 (cI 0)) aNil) lenM)))) (sSeq (sSet 2 (bnd (aCons (bin ixM (ixP 0 (cI 0)) (ixP 0 (cI 1))) aNil) intM)) (sSeq (sSt 0 (cI 1) (bin addM (ixP 0 (cI 1)) (cI 1))) (sSeq (sSt 0 (cI 2) (cI 0)) (sSeq (sIf (tst (bin geQ (bnd (aCons (rd 2) aNil) absM) (bin powM (cI 10) (cI 18)))) (sSt 0 (cI 2) (bin modM (bnd (aCons (rd 2) aNil) absM) (bin powM (bin powM (cI 10) (cI 64)) (cI 16)))) sNil) (sIf (tst (bin ltQ (ixP 0 (cI 2)) (rd 1))) (sSeq (sSt 0 (cI 3) (bin addM (ixP 0 (cI 3)) (cI 1))) (sRet (bin modM (fzM (callF 2 m__law_mix (aCons (bin addM (rd 2) (bin mulM (cI 977) (ixP 0 (cI 3)))) (aCons (ixP 0 (cI 3)) aNil)))) (rd 1)))) sNil))))) sNil) (sSeq (sIf (tst (bin geQ (ixP 0 (cI 2)) (rd 1))) (sSeq (sSet 3 (bin modM (bnd (aCons (ixP 0 (cI 2)) aNil) intM) (rd 1))) (sSeq (sSt 0 (cI 2) (bin divM (ixP 0 (cI 2)) (rd 1))) (sRetV 3))) sNil) (sSeq (sSt 0 (cI 2) (cI 0)) (sSeq (sSt 0 (cI 3) (bin addM (ixP 0 (cI 3)) (cI 1))) (sSeq (sSt 0 (cI 4) (fzM (callF 2 m__law_mix (aCons (ixP 0 (cI 4)) (aCons (ixP 0 (cI 3)) aNil))))) (sRet (bin modM (bnd (aCons (ixP 0 (cI 4)) aNil) intM) (rd 1)))))))))
theorem k__law_take (T : TX K mg base) : Fn P w K mg base 2 "_law_take" 2 m__law_take := by
  obtain ⟨fd, D⟩ := T.dfn 29
  have nd := sc__law_take.nd
  refine ⟨(T.glo 29), fd, ["store", "bound"], fn_ok (k := 1) D sc__law_take ?_, D.kp, D.bindsN fun _ _ _ _ _ _ us hl => match us, hl with | [_, _], _ => rfl⟩
  exact fun _ _ _ _ _ _ _ _ hr tk hp => (ds_cons (ds_if (dt_cmp op_ltA os_cmp (de_v 1) de_int) (ds_one (ds_ret de_int)) ds_nil) (ds_cons (ds_if (dt_w (dw_and (dt_cmp op_ltA os_cmp (de_ixP 0 de_int) (de_v 1)) (dw_and1 (dt_cmp op_ltA os_cmp (de_ixP 0 de_int) (de_cb call_len cs_len (T.free 84) (da_cons (de_ixP 0 de_int) da_nil)))))) (ds_cons (ds_set 2 nd (de_ctp call_intA cs_int (T.free 82) (da_cons (de_ix (de_ixP 0 de_int) (de_ixP 0 de_int)) da_nil))) (ds_cons (ds_st 0 de_int (de_bin op_addA os_add (de_ixP 0 de_int) de_int)) (ds_cons (ds_st 0 de_int de_int) (ds_cons (ds_if (dt_cmp op_geA os_cmp (de_cb call_abs cs_abs (T.free 79) (da_cons (de_v 2) da_nil)) (de_bin op_powA os_pow de_int de_int)) (ds_one (ds_st 0 de_int (de_bin op_mod os_mod (de_cb call_abs cs_abs (T.free 79) (da_cons (de_v 2) da_nil)) (de_bin op_powA os_pow (de_bin op_powA os_pow de_int de_int) de_int)))) ds_nil) (ds_one (ds_if (dt_cmp op_ltA os_cmp (de_ixP 0 de_int) (de_v 1)) (ds_cons (ds_st 0 de_int (de_bin op_addA os_add (de_ixP 0 de_int) de_int)) (ds_one (ds_ret (de_bin op_mod os_mod (de_o (do_callG (k__law_mix T) hr tk (da_cons (de_bin op_addA os_add (de_v 2) (de_bin op_mulA os_mul de_int (de_ixP 0 de_int))) (da_cons (de_ixP 0 de_int) da_nil)))) (de_v 1))))) ds_nil)))))) ds_nil) (ds_cons (ds_if (dt_cmp op_geA os_cmp (de_ixP 0 de_int) (de_v 1)) (ds_cons (ds_set 3 nd (de_bin op_mod os_mod (de_ctp call_intA cs_int (T.free 82) (da_cons (de_ixP 0 de_int) da_nil)) (de_v 1))) (ds_cons (ds_st 0 de_int (de_bin op_fdiv os_div (de_ixP 0 de_int) (de_v 1))) (ds_one (ds_retV 3)))) ds_nil) (ds_cons (ds_st 0 de_int de_int) (ds_cons (ds_st 0 de_int (de_bin op_addA os_add (de_ixP 0 de_int) de_int)) (ds_cons (ds_st 0 de_int (de_o (do_callG (k__law_mix T) hr tk (da_cons (de_ixP 0 de_int) (da_cons (de_ixP 0 de_int) da_nil))))) (ds_one (ds_ret (de_bin op_mod os_mod (de_ctp call_intA cs_int (T.free 82) (da_cons (de_ixP 0 de_int) da_nil)) (de_v 1))))))))))
/-! _law_between -/
theorem sc__law_between : FnScope ["store", "low", "high"] ["store", "low", "high"] (defScope s__law_between) := ⟨rfl, rfl, rfl, by decide +kernel, rfl, by decide +kernel, by decide +kernel⟩
def m__law_between : FnF := mkFn 3 (sRet (bin addM (rd 1) (fzM (callB 0 2 m__law_take (aCons (bin addM (bin subM (rd 2) (rd 1)) (cI 1)) aNil)))))
theorem k__law_between (T : TX K mg base) : Fn P w K mg base 3 "_law_between" 3 m__law_between := by
  obtain ⟨fd, D⟩ := T.dfn 30
  have nd := sc__law_between.nd
  refine ⟨(T.glo 30), fd, ["store", "low", "high"], fn_ok (k := 2) D sc__law_between ?_, D.kp, D.bindsN fun _ _ _ _ _ _ us hl => match us, hl with | [_, _, _], _ => rfl⟩
  exact fun _ _ _ _ _ _ _ _ hr tk hp => (ds_one (ds_ret (de_bin op_addA os_add (de_v 1) (de_o (do_callGB 0 (k__law_take T) hr tk (da_cons (de_bin op_addA os_add (de_bin op_sub os_sub (de_v 2) (de_v 1)) de_int) da_nil))))))
/-! _law_chance -/
theorem sc__law_chance : FnScope ["store", "one_of"] ["store", "one_of"] (defScope s__law_chance) := ⟨rfl, rfl, rfl, by decide +kernel, rfl, by decide +kernel, by decide +kernel⟩
def m__law_chance : FnF := mkFn 2 (sRet (bin eqM (fzM (callB 0 2 m__law_take (aCons (rd 1) aNil))) (cI 0)))
theorem k__law_chance (T : TX K mg base) : Fn P w K mg base 3 "_law_chance" 2 m__law_chance := by
  obtain ⟨fd, D⟩ := T.dfn 31
  have nd := sc__law_chance.nd
  refine ⟨(T.glo 31), fd, ["store", "one_of"], fn_ok (k := 2) D sc__law_chance ?_, D.kp, D.bindsN fun _ _ _ _ _ _ us hl => match us, hl with | [_, _], _ => rfl⟩
  exact fun _ _ _ _ _ _ _ _ hr tk hp => (ds_one (ds_ret (de_cmp (op_eqQ hr.units) os_eq (de_o (do_callGB 0 (k__law_take T) hr tk (da_cons (de_v 1) da_nil))) de_int)))
/-! _law_edge -/
theorem sc__law_edge : FnScope ["store", "low", "high", "choice"] ["store", "low", "high"] (defScope s__law_edge) := ⟨rfl, rfl, rfl, by decide +kernel, rfl, by decide +kernel, by decide +kernel⟩
def m__law_edge : FnF := mkFn 4 (sSeq (sIf (tst (bin leQ (rd 2) (rd 1))) (sRetV 1) sNil) (sSeq (sSetO 3 (callB 0 2 m__law_take (aCons (cI 9) aNil))) (sSeq (sIf (tst (bin eqM (rd 3) (cI 0))) (sRetV 1) sNil) (sSeq (sIf (tst (bin eqM (rd 3) (cI 1))) (sRetV 2) sNil) (sSeq (sIf (tst (bin eqM (rd 3) (cI 2))) (sRet (bin addM (rd 1) (cI 1))) sNil) (sRetO (callB 0 3 m__law_between (aCons (rd 1) (aCons (rd 2) aNil)))))))))
theorem k__law_edge (T : TX K mg base) : Fn P w K mg base 4 "_law_edge" 3 m__law_edge := by
  obtain ⟨fd, D⟩ := T.dfn 32
  have nd := sc__law_edge.nd
  refine ⟨(T.glo 32), fd, ["store", "low", "high"], fn_ok (k := 3) D sc__law_edge ?_, D.kp, D.bindsN fun _ _ _ _ _ _ us hl => match us, hl with | [_, _, _], _ => rfl⟩
  exact fun _ _ _ _ _ _ _ _ hr tk hp => (ds_cons (ds_if (dt_cmp op_leA os_cmp (de_v 2) (de_v 1)) (ds_one (ds_retV 1)) ds_nil) (ds_cons (ds_setO 3 nd (do_callGB 0 (k__law_take T) hr tk (da_cons de_int da_nil))) (ds_cons (ds_if (dt_cmp (op_eqQ hr.units) os_eq (de_v 3) de_int) (ds_one (ds_retV 1)) ds_nil) (ds_cons (ds_if (dt_cmp (op_eqQ hr.units) os_eq (de_v 3) de_int) (ds_one (ds_retV 2)) ds_nil) (ds_cons (ds_if (dt_cmp (op_eqQ hr.units) os_eq (de_v 3) de_int) (ds_one (ds_ret (de_bin op_addA os_add (de_v 1) de_int))) ds_nil) (ds_one (ds_retO (do_callGB 0 (k__law_between T) hr tk (da_cons (de_v 1) (da_cons (de_v 2) da_nil))))))))))
/-! _law_size -/
theorem sc__law_size : FnScope ["store", "low", "small", "large"] ["store", "low", "small", "large"] (defScope s__law_size) := ⟨rfl, rfl, rfl, by decide +kernel, rfl, by decide +kernel, by decide +kernel⟩
def m__law_size : FnF := mkFn 4 (sSeq (sIf (tru (fzM (callB 0 2 m__law_chance (aCons (cI 8) aNil)))) (sRetO (callB 0 3 m__law_edge (aCons (rd 1) (aCons (rd 3) aNil)))) sNil) (sRetO (callB 0 3 m__law_edge (aCons (rd 1) (aCons (rd 2) aNil)))))
theorem k__law_size (T : TX K mg base) : Fn P w K mg base 5 "_law_size" 4 m__law_size := by
  obtain ⟨fd, D⟩ := T.dfn 33
  have nd := sc__law_size.nd
  refine ⟨(T.glo 33), fd, ["store", "low", "small", "large"], fn_ok (k := 4) D sc__law_size ?_, D.kp, D.bindsN fun _ _ _ _ _ _ us hl => match us, hl with | [_, _, _, _], _ => rfl⟩
  exact fun _ _ _ _ _ _ _ _ hr tk hp => (ds_cons (ds_if (dt_tru (de_o (do_callGB 0 (k__law_chance T) hr tk (da_cons de_int da_nil)))) (ds_one (ds_retO (do_callGB 0 (k__law_edge T) hr tk (da_cons (de_v 1) (da_cons (de_v 3) da_nil))))) ds_nil) (ds_one (ds_retO (do_callGB 0 (k__law_edge T) hr tk (da_cons (de_v 1) (da_cons (de_v 2) da_nil))))))
/-! _law_pick -/
theorem sc__law_pick : FnScope ["store", "rows"] ["store", "rows"] (defScope s__law_pick) := ⟨rfl, rfl, rfl, by decide +kernel, rfl, by decide +kernel, by decide +kernel⟩
def m__law_pick : FnF := mkFn 2 (sRet (bin ixM (rd 1) (fzM (callB 0 2 m__law_take (aCons (bnd (aCons (rd 1) aNil) lenM) aNil)))))
theorem k__law_pick (T : TX K mg base) : Fn P w K mg base 3 "_law_pick" 2 m__law_pick := by
  obtain ⟨fd, D⟩ := T.dfn 34
  have nd := sc__law_pick.nd
  refine ⟨(T.glo 34), fd, ["store", "rows"], fn_ok (k := 2) D sc__law_pick ?_, D.kp, D.bindsN fun _ _ _ _ _ _ us hl => match us, hl with | [_, _], _ => rfl⟩
  exact fun _ _ _ _ _ _ _ _ hr tk hp => (ds_one (ds_ret (de_ix (de_v 1) (de_o (do_callGB 0 (k__law_take T) hr tk (da_cons (de_cb call_len cs_len (T.free 84) (da_cons (de_v 1) da_nil)) da_nil))))))
/-! _law_order -/
theorem sc__law_order : FnScope ["store", "rows", "mixed", "choice", "k", "place", "kept"] ["store", "rows"] (defScope s__law_order) := ⟨rfl, rfl, rfl, by decide +kernel, rfl, by decide +kernel, by decide +kernel⟩
def m__law_order : FnF := mkFn 7 (sSeq (sSetO 2 (bnd (aCons (rd 1) aNil) listO)) (sSeq (sSetO 3 (callB 0 2 m__law_take (aCons (cI 4) aNil))) (sSeq (sIf (tst (bin eqM (rd 3) (cI 0))) (sRetV 2) sNil) (sSeq (sIf (tst (bin eqM (rd 3) (cI 1))) (sRetO (lcO [4] (bnd (aCons (lenP 2) aNil) rng1D) (gV 4) yesT (ixP 2 (bin subM (bin subM (lenP 2) (cI 1)) (rd 4))))) sNil) (sSeq (sFor (bnd (aCons (bin subM (lenP 2) (cI 1)) aNil) rng1D) (gV 4) (sSeq (sSet 5 (bin addM (rd 4) (fzM (callB 0 2 m__law_take (aCons (bin subM (lenP 2) (rd 4)) aNil))))) (sSeq (sSet 6 (ixP 2 (rd 4))) (sSeq (sSt 2 (rd 4) (ixP 2 (rd 5))) (sSt 2 (rd 5) (rd 6)))))) (sRetV 2))))))
theorem k__law_order (T : TX K mg base) : Fn P w K mg base 3 "_law_order" 2 m__law_order := by
  obtain ⟨fd, D⟩ := T.dfn 35
  have nd := sc__law_order.nd
  refine ⟨(T.glo 35), fd, ["store", "rows"], fn_ok (k := 2) D sc__law_order ?_, D.kp, D.bindsN fun _ _ _ _ _ _ us hl => match us, hl with | [_, _], _ => rfl⟩
  exact fun _ _ _ _ _ _ _ _ hr tk hp => (ds_cons (ds_setO 2 nd (do_ctp call_list_of cs_list (T.free 85) (da_cons (de_v 1) da_nil))) (ds_cons (ds_setO 3 nd (do_callGB 0 (k__law_take T) hr tk (da_cons de_int da_nil))) (ds_cons (ds_if (dt_cmp (op_eqQ hr.units) os_eq (de_v 3) de_int) (ds_one (ds_retV 2)) ds_nil) (ds_cons (ds_if (dt_cmp (op_eqQ hr.units) os_eq (de_v 3) de_int) (ds_one (ds_retO (do_lc [("k", 4)] rfl nd (di_rng1 (T.free 88) (da_cons (de_lenP 2 (T.free 84)) da_nil)) (blkOk_by (N := ["store", "rows", "mixed", "choice", "k", "place", "kept"]) (sc := defScope s__law_order) (by decide +kernel)) (by decide) (fun _ _ _ _ _ _ => (dg_v 4 nd)) (fun _ _ _ _ _ => dps_nil) (fun _ _ _ _ _ _ => (de_ixP 2 (de_bin op_sub os_sub (de_bin op_sub os_sub (de_lenP 2 (T.free 84)) de_int) (de_v 4))))))) ds_nil) (ds_cons (ds_for hp rfl (di_rng1 (T.free 88) (da_cons (de_bin op_sub os_sub (de_lenP 2 (T.free 84)) de_int) da_nil)) (dg_v 4 nd) (ds_cons (ds_set 5 nd (de_bin op_addA os_add (de_v 4) (de_o (do_callGB 0 (k__law_take T) hr tk (da_cons (de_bin op_sub os_sub (de_lenP 2 (T.free 84)) (de_v 4)) da_nil))))) (ds_cons (ds_set 6 nd (de_ixP 2 (de_v 4))) (ds_cons (ds_st 2 (de_v 4) (de_ixP 2 (de_v 5))) (ds_one (ds_st 2 (de_v 5) (de_v 6))))))) (ds_one (ds_retV 2)))))))
/-! _law_put -/
theorem sc__law_put : FnScope ["rows", "place", "thing"] ["rows", "place", "thing"] (defScope s__law_put) := ⟨rfl, rfl, rfl, by decide +kernel, rfl, by decide +kernel, by decide +kernel⟩
def m__law_put : FnF := mkFn 3 (sRet (bin addM (bin addM (fzM (slO (rd 0) pN (pS (rd 1)))) (fzM (lstO (aCons (rd 2) aNil)))) (fzM (slO (rd 0) (pS (bin addM (rd 1) (cI 1))) pN))))
theorem k__law_put (T : TX K mg base) : Fn P w K mg base 1 "_law_put" 3 m__law_put := by
  obtain ⟨fd, D⟩ := T.dfn 36
  have nd := sc__law_put.nd
  refine ⟨(T.glo 36), fd, ["rows", "place", "thing"], fn_ok (k := 0) D sc__law_put ?_, D.kp, D.bindsN fun _ _ _ _ _ _ us hl => match us, hl with | [_, _, _], _ => rfl⟩
  exact fun _ _ _ _ _ _ _ _ hr tk hp => (ds_one (ds_ret (de_bin op_addA os_add (de_bin op_addA os_add (de_o (do_sl (de_v 0) dp_none (dp_some (de_v 1)))) (de_o (do_lst (da_cons (de_v 2) da_nil)))) (de_o (do_sl (de_v 0) (dp_some (de_bin op_addA os_add (de_v 1) de_int)) dp_none)))))
/-! _law_word -/
theorem sc__law_word : FnScope ["number", "letters", "word", "rest", "k"] ["number"] (defScope s__law_word) := ⟨rfl, rfl, rfl, by decide +kernel, rfl, by decide +kernel, by decide +kernel⟩
def m__law_word : FnF := mkFn 5 (sSeq (sSet 1 (cS "abcdefghijklmnopqrstuvwxyz")) (sSeq (sSet 2 (bin ixM (rd 1) (bin modM (bnd (aCons (rd 0) aNil) intM) (cI 26)))) (sSeq (sSet 3 (bin divM (bnd (aCons (rd 0) aNil) intM) (cI 26))) (sSeq (sFor (bnd (aCons (cI 7) aNil) rng1D) (gV 4) (sIf (tst (bin gtQ (rd 3) (cI 0))) (sSeq (sSet 2 (bin addM (bin ixM (rd 1) (bin modM (bin subM (rd 3) (cI 1)) (cI 26))) (rd 2))) (sSet 3 (bin divM (bin subM (rd 3) (cI 1)) (cI 26)))) sNil)) (sRetV 2)))))
theorem k__law_word (T : TX K mg base) : Fn P w K mg base 1 "_law_word" 1 m__law_word := by
  obtain ⟨fd, D⟩ := T.dfn 37
  have nd := sc__law_word.nd
  refine ⟨(T.glo 37), fd, ["number"], fn_ok (k := 0) D sc__law_word ?_, D.kp, D.bindsN fun _ _ _ _ _ _ us hl => match us, hl with | [_], _ => rfl⟩
  exact fun _ _ _ _ _ _ _ _ hr tk hp => (ds_cons (ds_set 1 nd de_str) (ds_cons (ds_set 2 nd (de_ix (de_v 1) (de_bin op_mod os_mod (de_ctp call_intA cs_int (T.free 82) (da_cons (de_v 0) da_nil)) de_int))) (ds_cons (ds_set 3 nd (de_bin op_fdiv os_div (de_ctp call_intA cs_int (T.free 82) (da_cons (de_v 0) da_nil)) de_int)) (ds_cons (ds_for hp rfl (di_rng1 (T.free 88) (da_cons de_int da_nil)) (dg_v 4 nd) (ds_one (ds_if (dt_cmp op_gtA os_cmp (de_v 3) de_int) (ds_cons (ds_set 2 nd (de_bin op_addA os_add (de_ix (de_v 1) (de_bin op_mod os_mod (de_bin op_sub os_sub (de_v 3) de_int) de_int)) (de_v 2))) (ds_one (ds_set 3 nd (de_bin op_fdiv os_div (de_bin op_sub os_sub (de_v 3) de_int) de_int)))) ds_nil))) (ds_one (ds_retV 2))))))
/-! _law_letters -/
theorem sc__law_letters : FnScope ["store", "size", "letters", "span", "k"] ["store", "size"] (defScope s__law_letters) := ⟨rfl, rfl, rfl, by decide +kernel, rfl, by decide +kernel, by decide +kernel⟩
def m__law_letters : FnF := mkFn 5 (sSeq (sSet 2 (cS "abcdefghijklmnopqrstuvwxyz")) (sSeq (sSet 3 (bin ixM (fzM (lstO (aCons (cI 2) (aCons (cI 3) (aCons (cI 26) (aCons (cI 26) aNil)))))) (fzM (callB 0 2 m__law_take (aCons (cI 4) aNil))))) (sRet (joinV (cS "") (fzM (lcO [4] (bnd (aCons (rd 1) aNil) rng1D) (gV 4) yesT (bin ixM (rd 2) (fzM (callB 0 2 m__law_take (aCons (rd 3) aNil))))))))))
theorem k__law_letters (T : TX K mg base) : Fn P w K mg base 3 "_law_letters" 2 m__law_letters := by
  obtain ⟨fd, D⟩ := T.dfn 38
  have nd := sc__law_letters.nd
  refine ⟨(T.glo 38), fd, ["store", "size"], fn_ok (k := 2) D sc__law_letters ?_, D.kp, D.bindsN fun _ _ _ _ _ _ us hl => match us, hl with | [_, _], _ => rfl⟩
  exact fun _ _ _ _ _ _ _ _ hr tk hp => (ds_cons (ds_set 2 nd de_str) (ds_cons (ds_set 3 nd (de_ix (de_o (do_lst (da_cons de_int (da_cons de_int (da_cons de_int (da_cons de_int da_nil)))))) (de_o (do_callGB 0 (k__law_take T) hr tk (da_cons de_int da_nil))))) (ds_one (ds_ret (de_join de_str (de_o (do_lc [("k", 4)] rfl nd (di_rng1 (T.free 88) (da_cons (de_v 1) da_nil)) (blkOk_by (N := ["store", "size", "letters", "span", "k"]) (sc := defScope s__law_letters) (by decide +kernel)) (by decide) (fun _ _ _ _ _ _ => (dg_v 4 nd)) (fun _ _ _ _ _ => dps_nil) (fun _ _ _ _ _ _ => (de_ix (de_v 2) (de_o (do_callGB 0 (k__law_take T) hr tkW0 (da_cons (de_v 3) da_nil))))))))))))
/-! _law_mark -/
theorem sc__law_mark : FnScope ["store"] ["store"] (defScope s__law_mark) := ⟨rfl, rfl, rfl, by decide +kernel, rfl, by decide +kernel, by decide +kernel⟩
def m__law_mark : FnF := mkFn 1 (sRetO (callB 0 2 m__law_letters (aCons (fzM (callB 0 3 m__law_edge (aCons (cI 1) (aCons (cI 8) aNil)))) aNil)))
theorem k__law_mark (T : TX K mg base) : Fn P w K mg base 5 "_law_mark" 1 m__law_mark := by
  obtain ⟨fd, D⟩ := T.dfn 39
  have nd := sc__law_mark.nd
  refine ⟨(T.glo 39), fd, ["store"], fn_ok (k := 4) D sc__law_mark ?_, D.kp, D.bindsN fun _ _ _ _ _ _ us hl => match us, hl with | [_], _ => rfl⟩
  exact fun _ _ _ _ _ _ _ _ hr tk hp => (ds_one (ds_retO (do_callGB 0 (k__law_letters T) hr tk (da_cons (de_o (do_callGB 0 (k__law_edge T) hr tk (da_cons de_int (da_cons de_int da_nil)))) da_nil))))
/-! _law_marks -/
theorem sc__law_marks : FnScope ["store", "count", "style", "head", "tail", "width", "step", "number", "words", "k"] ["store", "count"] (defScope s__law_marks) := ⟨rfl, rfl, rfl, by decide +kernel, rfl, by decide +kernel, by decide +kernel⟩
def m__law_marks : FnF := mkFn 10 (sSeq (sIf (tst (bin ltQ (rd 1) (cI 1))) (sRetO (lstO aNil)) sNil) (sSeq (sSetO 2 (callB 0 2 m__law_take (aCons (cI 4) aNil))) (sSeq (sSet 3 (cS "")) (sSeq (sSet 4 (cS "")) (sSeq (sIf (orT (tst (bin eqM (rd 2) (cI 1))) (tst (bin eqM (rd 2) (cI 3)))) (sSetO 3 (slO (fzM (callB 0 1 m__law_mark aNil)) pN (pS (cI 3)))) sNil) (sSeq (sIf (tst (bin eqM (rd 2) (cI 2))) (sSetO 4 (slO (fzM (callB 0 1 m__law_mark aNil)) pN (pS (cI 5)))) sNil) (sSeq (sIf (tst (bin eqM (rd 2) (cI 3))) (sSetO 4 (slO (fzM (callB 0 1 m__law_mark aNil)) pN (pS (cI 2)))) sNil) (sSeq (sSet 5 (bin ixM (fzM (lstO (aCons (cI 26) (aCons (cI 26) (aCons (cI 60) (aCons (cI 9000) aNil)))))) (fzM (callB 0 2 m__law_take (aCons (cI 4) aNil))))) (sSeq (sSet 6 (bin divM (bnd (aCons (cI 0) (aCons (bin subM (rd 5) (rd 1)) aNil)) max2M) (rd 1))) (sSeq (sSet 7 (cI 0)) (sSeq (sSetO 8 (lstO aNil)) (sSeq (sFor (bnd (aCons (rd 1) aNil) rng1D) (gV 9) (sSeq (sSet 7 (bin addM (bin addM (rd 7) (fzM (callB 0 2 m__law_take (aCons (bin addM (rd 6) (cI 1)) aNil)))) (bnd (aCons (bin gtQ (rd 9) (cI 0)) aNil) intM))) (sApp 8 (bin addM (bin addM (rd 3) (fzM (callF 1 m__law_word (aCons (rd 7) aNil)))) (rd 4))))) (sRetO (bnd (aCons (rd 8) aNil) sortO))))))))))))))
theorem k__law_marks (T : TX K mg base) : Fn P w K mg base 6 "_law_marks" 2 m__law_marks := by
  obtain ⟨fd, D⟩ := T.dfn 40
  have nd := sc__law_marks.nd
  refine ⟨(T.glo 40), fd, ["store", "count"], fn_ok (k := 5) D sc__law_marks ?_, D.kp, D.bindsN fun _ _ _ _ _ _ us hl => match us, hl with | [_, _], _ => rfl⟩
  exact fun _ _ _ _ _ _ _ _ hr tk hp => (ds_cons (ds_if (dt_cmp op_ltA os_cmp (de_v 1) de_int) (ds_one (ds_retO (do_lst da_nil))) ds_nil) (ds_cons (ds_setO 2 nd (do_callGB 0 (k__law_take T) hr tk (da_cons de_int da_nil))) (ds_cons (ds_set 3 nd de_str) (ds_cons (ds_set 4 nd de_str) (ds_cons (ds_if (dt_w (dw_or (dt_cmp (op_eqQ hr.units) os_eq (de_v 2) de_int) (dw_or1 (dt_cmp (op_eqQ hr.units) os_eq (de_v 2) de_int)))) (ds_one (ds_setO 3 nd (do_sl (de_o (do_callGB 0 (k__law_mark T) hr tk da_nil)) dp_none (dp_some de_int)))) ds_nil) (ds_cons (ds_if (dt_cmp (op_eqQ hr.units) os_eq (de_v 2) de_int) (ds_one (ds_setO 4 nd (do_sl (de_o (do_callGB 0 (k__law_mark T) hr tk da_nil)) dp_none (dp_some de_int)))) ds_nil) (ds_cons (ds_if (dt_cmp (op_eqQ hr.units) os_eq (de_v 2) de_int) (ds_one (ds_setO 4 nd (do_sl (de_o (do_callGB 0 (k__law_mark T) hr tk da_nil)) dp_none (dp_some de_int)))) ds_nil) (ds_cons (ds_set 5 nd (de_ix (de_o (do_lst (da_cons de_int (da_cons de_int (da_cons de_int (da_cons de_int da_nil)))))) (de_o (do_callGB 0 (k__law_take T) hr tk (da_cons de_int da_nil))))) (ds_cons (ds_set 6 nd (de_bin op_fdiv os_div (de_cb (call_max2 rfl) cs_max2 (T.free 86) (da_cons de_int (da_cons (de_bin op_sub os_sub (de_v 5) (de_v 1)) da_nil))) (de_v 1))) (ds_cons (ds_set 7 nd de_int) (ds_cons (ds_setO 8 nd (do_lst da_nil)) (ds_cons (ds_for hp rfl (di_rng1 (T.free 88) (da_cons (de_v 1) da_nil)) (dg_v 9 nd) (ds_cons (ds_set 7 nd (de_bin op_addA os_add (de_bin op_addA os_add (de_v 7) (de_o (do_callGB 0 (k__law_take T) hr tk (da_cons (de_bin op_addA os_add (de_v 6) de_int) da_nil)))) (de_ctp call_intA cs_int (T.free 82) (da_cons (de_cmp op_gtA os_cmp (de_v 9) de_int) da_nil)))) (ds_one (ds_app 8 (de_bin op_addA os_add (de_bin op_addA os_add (de_v 3) (de_o (do_callG (k__law_word T) hr tk (da_cons (de_v 7) da_nil)))) (de_v 4)))))) (ds_one (ds_retO (do_cb cr_sortedD cs_sorted (T.free 89) (da_cons (de_v 8) da_nil))))))))))))))))
/-! _law_tally_of -/
theorem sc__law_tally_of : FnScope ["store", "marks", "most", "total", "style", "left", "pairs", "mark", "high", "number"] ["store", "marks", "most", "total"] (defScope s__law_tally_of) := ⟨rfl, rfl, rfl, by decide +kernel, rfl, by decide +kernel, by decide +kernel⟩
def m__law_tally_of : FnF := mkFn 10 (sSeq (sSetO 4 (callB 0 2 m__law_take (aCons (cI 4) aNil))) (sSeq (sSet 5 (rd 3)) (sSeq (sSetO 6 (lstO aNil)) (sSeq (sFor (bnd (fzM (callB 0 2 m__law_order (aCons (rd 1) aNil))) anyD) (gV 7) (sSeq (sSet 8 (bnd (aCons (rd 2) (aCons (rd 5) aNil)) min2M)) (sSeq (sSetO 9 (callB 0 3 m__law_edge (aCons (cI 0) (aCons (rd 8) aNil)))) (sSeq (sIf (tst (bin eqM (rd 4) (cI 0))) (sSet 9 (rd 8)) sNil) (sSeq (sIf (tst (bin eqM (rd 4) (cI 1))) (sSet 9 (bnd (aCons (cI 1) (aCons (rd 8) aNil)) min2M)) sNil) (sIf (tst (bin gtQ (rd 9) (cI 0))) (sSeq (sApp 6 (tupV (aCons (rd 7) (aCons (rd 9) aNil)))) (sSet 5 (bin subM (rd 5) (rd 9)))) sNil)))))) (sRetO (bnd (aCons (rd 6) aNil) sortO))))))
theorem k__law_tally_of (T : TX K mg base) : Fn P w K mg base 5 "_law_tally_of" 4 m__law_tally_of := by
  obtain ⟨fd, D⟩ := T.dfn 41
  have nd := sc__law_tally_of.nd
  refine ⟨(T.glo 41), fd, ["store", "marks", "most", "total"], fn_ok (k := 4) D sc__law_tally_of ?_, D.kp, D.bindsN fun _ _ _ _ _ _ us hl => match us, hl with | [_, _, _, _], _ => rfl⟩
  exact fun _ _ _ _ _ _ _ _ hr tk hp => (ds_cons (ds_setO 4 nd (do_callGB 0 (k__law_take T) hr tk (da_cons de_int da_nil))) (ds_cons (ds_set 5 nd (de_v 3)) (ds_cons (ds_setO 6 nd (do_lst da_nil)) (ds_cons (ds_for hp rfl (di_any (de_o (do_callGB 0 (k__law_order T) hr tk (da_cons (de_v 1) da_nil)))) (dg_v 7 nd) (ds_cons (ds_set 8 nd (de_cb (call_min2 rfl) cs_min2 (T.free 87) (da_cons (de_v 2) (da_cons (de_v 5) da_nil)))) (ds_cons (ds_setO 9 nd (do_callGB 0 (k__law_edge T) hr tk (da_cons de_int (da_cons (de_v 8) da_nil)))) (ds_cons (ds_if (dt_cmp (op_eqQ hr.units) os_eq (de_v 4) de_int) (ds_one (ds_set 9 nd (de_v 8))) ds_nil) (ds_cons (ds_if (dt_cmp (op_eqQ hr.units) os_eq (de_v 4) de_int) (ds_one (ds_set 9 nd (de_cb (call_min2 rfl) cs_min2 (T.free 87) (da_cons de_int (da_cons (de_v 8) da_nil))))) ds_nil) (ds_one (ds_if (dt_cmp op_gtA os_cmp (de_v 9) de_int) (ds_cons (ds_app 6 (de_tup (da_cons (de_v 7) (da_cons (de_v 9) da_nil)))) (ds_one (ds_set 5 nd (de_bin op_sub os_sub (de_v 5) (de_v 9))))) ds_nil))))))) (ds_one (ds_retO (do_cb cr_sortedD cs_sorted (T.free 89) (da_cons (de_v 6) da_nil))))))))
/-! _law_tally -/
theorem sc__law_tally : FnScope ["store", "kinds", "most", "total"] ["store", "kinds", "most", "total"] (defScope s__law_tally) := ⟨rfl, rfl, rfl, by decide +kernel, rfl, by decide +kernel, by decide +kernel⟩
def m__law_tally : FnF := mkFn 4 (sRetO (callB 0 4 m__law_tally_of (aCons (fzM (callB 0 2 m__law_marks (aCons (fzM (callB 0 3 m__law_edge (aCons (cI 0) (aCons (rd 1) aNil)))) aNil))) (aCons (rd 2) (aCons (rd 3) aNil)))))
theorem k__law_tally (T : TX K mg base) : Fn P w K mg base 7 "_law_tally" 4 m__law_tally := by
  obtain ⟨fd, D⟩ := T.dfn 42
  have nd := sc__law_tally.nd
  refine ⟨(T.glo 42), fd, ["store", "kinds", "most", "total"], fn_ok (k := 6) D sc__law_tally ?_, D.kp, D.bindsN fun _ _ _ _ _ _ us hl => match us, hl with | [_, _, _, _], _ => rfl⟩
  exact fun _ _ _ _ _ _ _ _ hr tk hp => (ds_one (ds_retO (do_callGB 0 (k__law_tally_of T) hr tk (da_cons (de_o (do_callGB 0 (k__law_marks T) hr tk (da_cons (de_o (do_callGB 0 (k__law_edge T) hr tk (da_cons de_int (da_cons (de_v 1) da_nil)))) da_nil))) (da_cons (de_v 2) (da_cons (de_v 3) da_nil))))))
/-! _law_wheel_size -/
theorem sc__law_wheel_size : FnScope ["store", "small", "most", "slots", "style", "aparts"] ["store", "small", "most"] (defScope s__law_wheel_size) := ⟨rfl, rfl, rfl, by decide +kernel, rfl, by decide +kernel, by decide +kernel⟩
def m__law_wheel_size : FnF := mkFn 6 (sSeq (sSetO 3 (callB 0 4 m__law_size (aCons (cI 1) (aCons (rd 1) (aCons (rd 2) aNil))))) (sSeq (sSetO 4 (callB 0 2 m__law_take (aCons (cI 8) aNil))) (sSeq (sSetO 5 (lstO (aCons (cI 1) (aCons (rd 3) (aCons (bin addM (bin addM (rd 3) (cI 1)) (fzM (callB 0 2 m__law_take (aCons (cI 3) aNil)))) (aCons (bnd (aCons (cI 1) (aCons (bin divM (rd 3) (cI 2)) aNil)) max2M) (aCons (bnd (aCons (cI 1) (aCons (bin divM (rd 3) (cI 3)) aNil)) max2M) aNil))))))) (sSeq (sIf (tst (bin ltQ (rd 4) (cI 5))) (sRet (tupV (aCons (rd 3) (aCons (bin ixM (rd 5) (rd 4)) aNil)))) sNil) (sSeq (sIf (andT (tst (bin eqM (rd 4) (cI 5))) (tru (fzM (callB 0 2 m__law_chance (aCons (cI 4) aNil))))) (sRet (tupV (aCons (rd 3) (aCons (cI 1000) aNil)))) sNil) (sRet (tupV (aCons (rd 3) (aCons (fzM (callB 0 3 m__law_between (aCons (cI 1) (aCons (bnd (aCons (cI 1) (aCons (bin divM (rd 3) (cI 2)) aNil)) max2M) aNil)))) aNil)))))))))
theorem k__law_wheel_size (T : TX K mg base) : Fn P w K mg base 6 "_law_wheel_size" 3 m__law_wheel_size := by
  obtain ⟨fd, D⟩ := T.dfn 43
  have nd := sc__law_wheel_size.nd
  refine ⟨(T.glo 43), fd, ["store", "small", "most"], fn_ok (k := 5) D sc__law_wheel_size ?_, D.kp, D.bindsN fun _ _ _ _ _ _ us hl => match us, hl with | [_, _, _], _ => rfl⟩
  exact fun _ _ _ _ _ _ _ _ hr tk hp => (ds_cons (ds_setO 3 nd (do_callGB 0 (k__law_size T) hr tk (da_cons de_int (da_cons (de_v 1) (da_cons (de_v 2) da_nil))))) (ds_cons (ds_setO 4 nd (do_callGB 0 (k__law_take T) hr tk (da_cons de_int da_nil))) (ds_cons (ds_setO 5 nd (do_lst (da_cons de_int (da_cons (de_v 3) (da_cons (de_bin op_addA os_add (de_bin op_addA os_add (de_v 3) de_int) (de_o (do_callGB 0 (k__law_take T) hr tk (da_cons de_int da_nil)))) (da_cons (de_cb (call_max2 rfl) cs_max2 (T.free 86) (da_cons de_int (da_cons (de_bin op_fdiv os_div (de_v 3) de_int) da_nil))) (da_cons (de_cb (call_max2 rfl) cs_max2 (T.free 86) (da_cons de_int (da_cons (de_bin op_fdiv os_div (de_v 3) de_int) da_nil))) da_nil))))))) (ds_cons (ds_if (dt_cmp op_ltA os_cmp (de_v 4) de_int) (ds_one (ds_ret (de_tup (da_cons (de_v 3) (da_cons (de_ix (de_v 5) (de_v 4)) da_nil))))) ds_nil) (ds_cons (ds_if (dt_w (dw_and (dt_cmp (op_eqQ hr.units) os_eq (de_v 4) de_int) (dw_and1 (dt_tru (de_o (do_callGB 0 (k__law_chance T) hr tk (da_cons de_int da_nil))))))) (ds_one (ds_ret (de_tup (da_cons (de_v 3) (da_cons de_int da_nil))))) ds_nil) (ds_one (ds_ret (de_tup (da_cons (de_v 3) (da_cons (de_o (do_callGB 0 (k__law_between T) hr tk (da_cons de_int (da_cons (de_cb (call_max2 rfl) cs_max2 (T.free 86) (da_cons de_int (da_cons (de_bin op_fdiv os_div (de_v 3) de_int) da_nil))) da_nil)))) da_nil))))))))))
/-! _law_days_size -/
theorem sc__law_days_size : FnScope ["store", "most", "size", "slots", "apart", "days"] ["store", "most"] (defScope s__law_days_size) := ⟨rfl, rfl, rfl, by decide +kernel, rfl, by decide +kernel, by decide +kernel⟩
def m__law_days_size : FnF := mkFn 6 (sSeq (sSetO 2 (callB 0 3 m__law_wheel_size (aCons (bnd (aCons (cI 9) (aCons (rd 1) aNil)) min2M) (aCons (rd 1) aNil)))) (sSeq (sSet 3 (bin ixM (rd 2) (cI 0))) (sSeq (sSet 4 (bin ixM (rd 2) (cI 1))) (sSeq (sIf (tru (fzM (callB 0 2 m__law_chance (aCons (cI 2) aNil)))) (sSeq (sSetO 4 (callB 0 3 m__law_between (aCons (cI 2) (aCons (cI 6) aNil)))) (sSeq (sSet 3 (bin subM (bin subM (bin addM (bin mulM (fzM (callB 0 2 m__law_take (aCons (cI 4) aNil))) (rd 4)) (rd 4)) (cI 1)) (fzM (callB 0 2 m__law_take (aCons (cI 2) aNil))))) (sSet 3 (bnd (aCons (cI 1) (aCons (bnd (aCons (rd 1) (aCons (rd 3) aNil)) min2M) aNil)) max2M)))) sNil) (sSeq (sSetO 5 (callB 0 4 m__law_size (aCons (cI 1) (aCons (bnd (aCons (cI 4) (aCons (bin divM (cI 600) (rd 3)) aNil)) min2M) (aCons (bnd (aCons (cI 12) (aCons (bin divM (cI 600) (rd 3)) aNil)) min2M) aNil))))) (sRet (tupV (aCons (rd 3) (aCons (rd 4) (aCons (rd 5) aNil))))))))))
theorem k__law_days_size (T : TX K mg base) : Fn P w K mg base 7 "_law_days_size" 2 m__law_days_size := by
  obtain ⟨fd, D⟩ := T.dfn 44
  have nd := sc__law_days_size.nd
  refine ⟨(T.glo 44), fd, ["store", "most"], fn_ok (k := 6) D sc__law_days_size ?_, D.kp, D.bindsN fun _ _ _ _ _ _ us hl => match us, hl with | [_, _], _ => rfl⟩
  exact fun _ _ _ _ _ _ _ _ hr tk hp => (ds_cons (ds_setO 2 nd (do_callGB 0 (k__law_wheel_size T) hr tk (da_cons (de_cb (call_min2 rfl) cs_min2 (T.free 87) (da_cons de_int (da_cons (de_v 1) da_nil))) (da_cons (de_v 1) da_nil)))) (ds_cons (ds_set 3 nd (de_ix (de_v 2) de_int)) (ds_cons (ds_set 4 nd (de_ix (de_v 2) de_int)) (ds_cons (ds_if (dt_tru (de_o (do_callGB 0 (k__law_chance T) hr tk (da_cons de_int da_nil)))) (ds_cons (ds_setO 4 nd (do_callGB 0 (k__law_between T) hr tk (da_cons de_int (da_cons de_int da_nil)))) (ds_cons (ds_set 3 nd (de_bin op_sub os_sub (de_bin op_sub os_sub (de_bin op_addA os_add (de_bin op_mulA os_mul (de_o (do_callGB 0 (k__law_take T) hr tk (da_cons de_int da_nil))) (de_v 4)) (de_v 4)) de_int) (de_o (do_callGB 0 (k__law_take T) hr tk (da_cons de_int da_nil))))) (ds_one (ds_set 3 nd (de_cb (call_max2 rfl) cs_max2 (T.free 86) (da_cons de_int (da_cons (de_cb (call_min2 rfl) cs_min2 (T.free 87) (da_cons (de_v 1) (da_cons (de_v 3) da_nil))) da_nil))))))) ds_nil) (ds_cons (ds_setO 5 nd (do_callGB 0 (k__law_size T) hr tk (da_cons de_int (da_cons (de_cb (call_min2 rfl) cs_min2 (T.free 87) (da_cons de_int (da_cons (de_bin op_fdiv os_div de_int (de_v 3)) da_nil))) (da_cons (de_cb (call_min2 rfl) cs_min2 (T.free 87) (da_cons de_int (da_cons (de_bin op_fdiv os_div de_int (de_v 3)) da_nil))) da_nil))))) (ds_one (ds_ret (de_tup (da_cons (de_v 3) (da_cons (de_v 4) (da_cons (de_v 5) da_nil)))))))))))
/-! _law_days_tally -/
theorem sc__law_days_tally : FnScope ["store", "slots", "apart", "days", "excess", "top", "wide", "tall", "marks", "pairs", "rest", "mark"] ["store", "slots", "apart", "days", "excess"] (defScope s__law_days_tally) := ⟨rfl, rfl, rfl, by decide +kernel, rfl, by decide +kernel, by decide +kernel⟩
def m__law_days_tally : FnF := mkFn 12 (sSeq (sSet 5 (bin divM (rd 1) (rd 2))) (sSeq (sSet 6 (cI 0)) (sSeq (sIf (tst (bin gtQ (rd 3) (cI 0))) (sSet 6 (bnd (aCons (cI 0) (aCons (bin subM (rd 2) (bin mulM (rd 3) (bin subM (rd 2) (bin modM (rd 1) (rd 2))))) aNil)) max2M)) sNil) (sSeq (sSetO 7 (callB 0 3 m__law_edge (aCons (cI 0) (aCons (bnd (aCons (bin addM (rd 6) (rd 4)) (aCons (bin divM (rd 1) (bin addM (rd 5) (cI 1))) (aCons (cI 40) aNil))) min3M) aNil)))) (sSeq (sIf (tst (bin eqM (fzM (callB 0 2 m__law_take (aCons (cI 2) aNil))) (cI 0))) (sSet 7 (bnd (aCons (bin addM (rd 6) (rd 4)) (aCons (bin divM (rd 1) (bin addM (rd 5) (cI 1))) (aCons (cI 40) aNil))) min3M)) sNil) (sSeq (sSetO 8 (callB 0 2 m__law_order (aCons (fzM (callB 0 2 m__law_marks (aCons (bin addM (rd 7) (fzM (callB 0 3 m__law_edge (aCons (cI 0) (aCons (cI 4) aNil))))) aNil))) aNil))) (sSeq (sSetO 9 (lcO [11] (bnd (fzM (slO (rd 8) pN (pS (rd 7)))) anyD) (gV 11) yesT (tupV (aCons (rd 11) (aCons (bin addM (rd 5) (cI 1)) aNil))))) (sSeq (sSetO 10 (callB 0 4 m__law_tally_of (aCons (fzM (slO (rd 8) (pS (rd 7)) pN)) (aCons (rd 5) (aCons (bin subM (rd 1) (bin mulM (rd 7) (bin addM (rd 5) (cI 1)))) aNil))))) (sRetO (bnd (aCons (bin addM (rd 9) (rd 10)) aNil) sortO))))))))))
theorem k__law_days_tally (T : TX K mg base) : Fn P w K mg base 7 "_law_days_tally" 5 m__law_days_tally := by
  obtain ⟨fd, D⟩ := T.dfn 45
  have nd := sc__law_days_tally.nd
  refine ⟨(T.glo 45), fd, ["store", "slots", "apart", "days", "excess"], fn_ok (k := 6) D sc__law_days_tally ?_, D.kp, D.bindsN fun _ _ _ _ _ _ us hl => match us, hl with | [_, _, _, _, _], _ => rfl⟩
  exact fun _ _ _ _ _ _ _ _ hr tk hp => (ds_cons (ds_set 5 nd (de_bin op_fdiv os_div (de_v 1) (de_v 2))) (ds_cons (ds_set 6 nd de_int) (ds_cons (ds_if (dt_cmp op_gtA os_cmp (de_v 3) de_int) (ds_one (ds_set 6 nd (de_cb (call_max2 rfl) cs_max2 (T.free 86) (da_cons de_int (da_cons (de_bin op_sub os_sub (de_v 2) (de_bin op_mulA os_mul (de_v 3) (de_bin op_sub os_sub (de_v 2) (de_bin op_mod os_mod (de_v 1) (de_v 2))))) da_nil))))) ds_nil) (ds_cons (ds_setO 7 nd (do_callGB 0 (k__law_edge T) hr tk (da_cons de_int (da_cons (de_cb (call_min3Nu rfl) cs_min3 (T.free 87) (da_cons (de_bin op_addA os_add (de_v 6) (de_v 4)) (da_cons (de_bin op_fdiv os_div (de_v 1) (de_bin op_addA os_add (de_v 5) de_int)) (da_cons de_int da_nil)))) da_nil)))) (ds_cons (ds_if (dt_cmp (op_eqQ hr.units) os_eq (de_o (do_callGB 0 (k__law_take T) hr tk (da_cons de_int da_nil))) de_int) (ds_one (ds_set 7 nd (de_cb (call_min3Nu rfl) cs_min3 (T.free 87) (da_cons (de_bin op_addA os_add (de_v 6) (de_v 4)) (da_cons (de_bin op_fdiv os_div (de_v 1) (de_bin op_addA os_add (de_v 5) de_int)) (da_cons de_int da_nil)))))) ds_nil) (ds_cons (ds_setO 8 nd (do_callGB 0 (k__law_order T) hr tk (da_cons (de_o (do_callGB 0 (k__law_marks T) hr tk (da_cons (de_bin op_addA os_add (de_v 7) (de_o (do_callGB 0 (k__law_edge T) hr tk (da_cons de_int (da_cons de_int da_nil))))) da_nil))) da_nil))) (ds_cons (ds_setLc 9 [("mark", 11)] rfl nd (di_any (de_o (do_sl (de_v 8) dp_none (dp_some (de_v 7))))) (blkOk_by (N := ["store", "slots", "apart", "days", "excess", "top", "wide", "tall", "marks", "pairs", "rest", "mark"]) (sc := defScope s__law_days_tally) (by decide +kernel)) (by decide) (fun _ _ _ _ _ _ => (dg_v 11 nd)) (fun _ _ _ _ _ => dps_nil) (fun _ _ _ _ _ _ => (de_tup (da_cons (de_v 11) (da_cons (de_bin op_addA os_add (de_v 5) de_int) da_nil))))) (ds_cons (ds_setO 10 nd (do_callGB 0 (k__law_tally_of T) hr tk (da_cons (de_o (do_sl (de_v 8) (dp_some (de_v 7)) dp_none)) (da_cons (de_v 5) (da_cons (de_bin op_sub os_sub (de_v 1) (de_bin op_mulA os_mul (de_v 7) (de_bin op_addA os_add (de_v 5) de_int))) da_nil))))) (ds_one (ds_retO (do_cb cr_sortedD cs_sorted (T.free 89) (da_cons (de_bin op_addA os_add (de_v 9) (de_v 10)) da_nil))))))))))))
/-! _law_counted -/
theorem sc__law_counted : FnScope ["row", "tally", "mark", "cell"] ["row"] (defScope s__law_counted) := ⟨rfl, rfl, rfl, by decide +kernel, rfl, by decide +kernel, by decide +kernel⟩
def m__law_counted : FnF := mkFn 4 (sSeq (sSetO 1 (lstO aNil)) (sSeq (sFor (bnd (fzM (bnd (aCons (fzM (lcO [3] (bnd (rd 0) anyD) (gV 3) (tst (bin ninM (rd 3) (fzM (lstO (aCons (cS ".") (aCons (cS "?") (aCons (cS "-") aNil))))))) (rd 3))) aNil) sortO)) anyD) (gV 2) (sIf (andT (tst (bin gtQ (lenP 1) (cI 0))) (tst (bin eqM (bin ixM (ixP 1 (bin subM (lenP 1) (cI 1))) (cI 0)) (rd 2)))) (sSt 1 (bin subM (lenP 1) (cI 1)) (tupV (aCons (rd 2) (aCons (bin addM (bin ixM (ixP 1 (bin subM (lenP 1) (cI 1))) (cI 1)) (cI 1)) aNil)))) (sApp 1 (tupV (aCons (rd 2) (aCons (cI 1) aNil)))))) (sRetV 1)))
theorem k__law_counted (T : TX K mg base) : Fn P w K mg base 1 "_law_counted" 1 m__law_counted := by
  obtain ⟨fd, D⟩ := T.dfn 46
  have nd := sc__law_counted.nd
  refine ⟨(T.glo 46), fd, ["row"], fn_ok (k := 0) D sc__law_counted ?_, D.kp, D.bindsN fun _ _ _ _ _ _ us hl => match us, hl with | [_], _ => rfl⟩
  exact fun _ _ _ _ _ _ _ _ hr tk hp => (ds_cons (ds_setO 1 nd (do_lst da_nil)) (ds_cons (ds_for hp rfl (di_any (de_o (do_cb cr_sortedD cs_sorted (T.free 89) (da_cons (de_o (do_lc [("cell", 3)] rfl nd (di_any (de_v 0)) (blkOk_by (N := ["row", "tally", "mark", "cell"]) (sc := defScope s__law_counted) (by decide +kernel)) (by decide) (fun _ _ _ _ _ _ => (dg_v 3 nd)) (fun _ _ _ _ _ => dps_one fun _ => (dt_cmp op_notIn_seq os_nin (de_v 3) (de_o (do_lst (da_cons de_str (da_cons de_str (da_cons de_str da_nil))))))) (fun _ _ _ _ _ _ => (de_v 3)))) da_nil)))) (dg_v 2 nd) (ds_one (ds_if (dt_w (dw_and (dt_cmp op_gtA os_cmp (de_lenP 1 (T.free 84)) de_int) (dw_and1 (dt_cmp (op_eqQ hr.units) os_eq (de_ix (de_ixP 1 (de_bin op_sub os_sub (de_lenP 1 (T.free 84)) de_int)) de_int) (de_v 2))))) (ds_one (ds_st 1 (de_bin op_sub os_sub (de_lenP 1 (T.free 84)) de_int) (de_tup (da_cons (de_v 2) (da_cons (de_bin op_addA os_add (de_ix (de_ixP 1 (de_bin op_sub os_sub (de_lenP 1 (T.free 84)) de_int)) de_int) de_int) da_nil))))) (ds_one (ds_app 1 (de_tup (da_cons (de_v 2) (da_cons de_int da_nil)))))))) (ds_one (ds_retV 1))))
/-! _law_exact -/
theorem sc__law_exact : FnScope ["given", "due", "k"] ["given", "due"] (defScope s__law_exact) := ⟨rfl, rfl, rfl, by decide +kernel, rfl, by decide +kernel, by decide +kernel⟩

def m__law_exact : Nat → FnF
  | 0 => noFn
  | k + 1 => mkFn 3 (sSeq (sIf (tru (isTM ["list", "tuple"] (rd 1))) (sSeq (sIf (orT (tst (bin neM (isTM ["list"] (rd 0)) (isTM ["list"] (rd 1)))) (tst (bin neM (isTM ["tuple"] (rd 0)) (isTM ["tuple"] (rd 1))))) (sRet (cB false)) sNil) (sSeq (sIf (tst (bin neM (bnd (aCons (rd 0) aNil) lenM) (bnd (aCons (rd 1) aNil) lenM))) (sRet (cB false)) sNil) (sRet (bin eqM (bnd (aCons (fzM (lcO [2] (bnd (aCons (bnd (aCons (rd 1) aNil) lenM) aNil) rng1D) (gV 2) (notT (tru (fzM (callF 2 (m__law_exact k) (aCons (bin ixM (rd 0) (rd 2)) (aCons (bin ixM (rd 1) (rd 2)) aNil)))))) (rd 2))) aNil) lenM) (cI 0))))) sNil) (sSeq (sIf (tst (isN (rd 1))) (sRet (isN (rd 0))) sNil) (sSeq (sIf (orT (tst (bin neM (isTM ["bool"] (rd 0)) (isTM ["bool"] (rd 1)))) (tst (bin neM (isTM ["int"] (rd 0)) (isTM ["int"] (rd 1))))) (sRet (cB false)) sNil) (sRet (andV (bin eqM (isTM ["str"] (rd 0)) (isTM ["str"] (rd 1))) (bin eqM (rd 0) (rd 1)))))))
theorem k__law_exact (T : TX K mg base) : ∀ k : Nat, Fn P w K mg base (1 + k) "_law_exact" 2 (m__law_exact k)
  | 0 => by
    obtain ⟨fd, D⟩ := T.dfn 47
    exact ⟨(T.glo 47), fd, ["given", "due"], fn_none D sc__law_exact, D.kp, D.bindsN fun _ _ _ _ _ _ us hl => match us, hl with | [_, _], _ => rfl⟩
  | k + 1 => by
    have ih := k__law_exact T k
    obtain ⟨fd, D⟩ := T.dfn 47
    have nd := sc__law_exact.nd
    refine ⟨(T.glo 47), fd, ["given", "due"], fn_ok (k := 1 + k) D sc__law_exact ?_, D.kp, D.bindsN fun _ _ _ _ _ _ us hl => match us, hl with | [_, _], _ => rfl⟩
    exact fun _ _ _ _ _ _ _ _ hr tk hp => (ds_cons (ds_if (dt_tru (de_isTs (T.free 83) (de_v 1) (tl_cons (T.free 85) (tl_cons (T.free 92) tl_nil)))) (ds_cons (ds_if (dt_w (dw_or (dt_cmp (op_neQ hr.units) os_ne (de_isT (T.free 83) (T.free 85) (de_v 0)) (de_isT (T.free 83) (T.free 85) (de_v 1))) (dw_or1 (dt_cmp (op_neQ hr.units) os_ne (de_isT (T.free 83) (T.free 92) (de_v 0)) (de_isT (T.free 83) (T.free 92) (de_v 1)))))) (ds_one (ds_ret de_bool)) ds_nil) (ds_cons (ds_if (dt_cmp (op_neQ hr.units) os_ne (de_cb call_len cs_len (T.free 84) (da_cons (de_v 0) da_nil)) (de_cb call_len cs_len (T.free 84) (da_cons (de_v 1) da_nil))) (ds_one (ds_ret de_bool)) ds_nil) (ds_one (ds_ret (de_cmp (op_eqQ hr.units) os_eq (de_cb call_len cs_len (T.free 84) (da_cons (de_o (do_lc [("k", 2)] rfl nd (di_rng1 (T.free 88) (da_cons (de_cb call_len cs_len (T.free 84) (da_cons (de_v 1) da_nil)) da_nil)) (blkOk_by (N := ["given", "due", "k"]) (sc := defScope s__law_exact) (by decide +kernel)) (by decide) (fun _ _ _ _ _ _ => (dg_v 2 nd)) (fun _ _ _ _ _ => dps_one fun _ => (dt_not (dt_tru (de_o (do_callG ih hr tkW0 (da_cons (de_ix (de_v 0) (de_v 2)) (da_cons (de_ix (de_v 1) (de_v 2)) da_nil)) (by omega)))))) (fun _ _ _ _ _ _ => (de_v 2)))) da_nil)) de_int))))) ds_nil) (ds_cons (ds_if (dt_isN (de_v 1)) (ds_one (ds_ret (de_isN (de_v 0)))) ds_nil) (ds_cons (ds_if (dt_w (dw_or (dt_cmp (op_neQ hr.units) os_ne (de_isT (T.free 83) (T.free 80) (de_v 0)) (de_isT (T.free 83) (T.free 80) (de_v 1))) (dw_or1 (dt_cmp (op_neQ hr.units) os_ne (de_isT (T.free 83) (T.free 82) (de_v 0)) (de_isT (T.free 83) (T.free 82) (de_v 1)))))) (ds_one (ds_ret de_bool)) ds_nil) (ds_one (ds_ret (de_and (de_cmp (op_eqQ hr.units) os_eq (de_isT (T.free 83) (T.free 90) (de_v 0)) (de_isT (T.free 83) (T.free 90) (de_v 1))) (de_one (de_cmp (op_eqQ hr.units) os_eq (de_v 0) (de_v 1)))))))))
/-! _law_thread -/
theorem sc__law_thread : FnScope ["slots", "width", "rest", "order", "column", "block"] ["slots", "width"] (defScope s__law_thread) := ⟨rfl, rfl, rfl, by decide +kernel, rfl, by decide +kernel, by decide +kernel⟩
def m__law_thread : FnF := mkFn 6 (sSeq (sSet 2 (bin modM (bnd (aCons (rd 0) aNil) intM) (rd 1))) (sSeq (sSetO 3 (lstO aNil)) (sSeq (sFor (bnd (aCons (bin addM (bin divM (rd 0) (rd 1)) (cI 1)) aNil) rng1D) (gV 4) (sFor (bnd (aCons (rd 1) aNil) rng1D) (gV 5) (sIf (orT (tst (bin ltQ (rd 4) (bin divM (rd 0) (rd 1)))) (tst (bin ltQ (rd 5) (rd 2)))) (sApp 3 (bin addM (bin addM (bin mulM (rd 5) (bin divM (rd 0) (rd 1))) (bnd (aCons (rd 5) (aCons (rd 2) aNil)) min2M)) (rd 4))) sNil))) (sRetV 3))))
theorem k__law_thread (T : TX K mg base) : Fn P w K mg base 1 "_law_thread" 2 m__law_thread := by
  obtain ⟨fd, D⟩ := T.dfn 48
  have nd := sc__law_thread.nd
  refine ⟨(T.glo 48), fd, ["slots", "width"], fn_ok (k := 0) D sc__law_thread ?_, D.kp, D.bindsN fun _ _ _ _ _ _ us hl => match us, hl with | [_, _], _ => rfl⟩
  exact fun _ _ _ _ _ _ _ _ hr tk hp => (ds_cons (ds_set 2 nd (de_bin op_mod os_mod (de_ctp call_intA cs_int (T.free 82) (da_cons (de_v 0) da_nil)) (de_v 1))) (ds_cons (ds_setO 3 nd (do_lst da_nil)) (ds_cons (ds_for hp rfl (di_rng1 (T.free 88) (da_cons (de_bin op_addA os_add (de_bin op_fdiv os_div (de_v 0) (de_v 1)) de_int) da_nil)) (dg_v 4 nd) (ds_one (ds_for hp rfl (di_rng1 (T.free 88) (da_cons (de_v 1) da_nil)) (dg_v 5 nd) (ds_one (ds_if (dt_w (dw_or (dt_cmp op_ltA os_cmp (de_v 4) (de_bin op_fdiv os_div (de_v 0) (de_v 1))) (dw_or1 (dt_cmp op_ltA os_cmp (de_v 5) (de_v 2))))) (ds_one (ds_app 3 (de_bin op_addA os_add (de_bin op_addA os_add (de_bin op_mulA os_mul (de_v 5) (de_bin op_fdiv os_div (de_v 0) (de_v 1))) (de_cb (call_min2 rfl) cs_min2 (T.free 87) (da_cons (de_v 5) (da_cons (de_v 2) da_nil)))) (de_v 4)))) ds_nil))))) (ds_one (ds_retV 3)))))
/-! _law_run -/
theorem sc__law_run : FnScope ["tally", "run", "pair", "one"] ["tally"] (defScope s__law_run) := ⟨rfl, rfl, rfl, by decide +kernel, rfl, by decide +kernel, by decide +kernel⟩
def m__law_run : FnF := mkFn 4 (sSeq (sSetO 1 (lstO aNil)) (sSeq (sFor (bnd (fzM (bnd (aCons (fzM (lcO [3] (bnd (rd 0) anyD) (gV 3) yesT (tupV (aCons (bin subM (cI 0) (bin ixM (rd 3) (cI 1))) (aCons (bin ixM (rd 3) (cI 0)) aNil))))) aNil) sortO)) anyD) (gV 2) (sSet 1 (bin addM (rd 1) (bin mulM (fzM (lstO (aCons (bin ixM (rd 2) (cI 1)) aNil))) (bin subM (cI 0) (bin ixM (rd 2) (cI 0))))))) (sRetV 1)))
theorem k__law_run (T : TX K mg base) : Fn P w K mg base 1 "_law_run" 1 m__law_run := by
  obtain ⟨fd, D⟩ := T.dfn 49
  have nd := sc__law_run.nd
  refine ⟨(T.glo 49), fd, ["tally"], fn_ok (k := 0) D sc__law_run ?_, D.kp, D.bindsN fun _ _ _ _ _ _ us hl => match us, hl with | [_], _ => rfl⟩
  exact fun _ _ _ _ _ _ _ _ hr tk hp => (ds_cons (ds_setO 1 nd (do_lst da_nil)) (ds_cons (ds_for hp rfl (di_any (de_o (do_cb cr_sortedD cs_sorted (T.free 89) (da_cons (de_o (do_lc [("one", 3)] rfl nd (di_any (de_v 0)) (blkOk_by (N := ["tally", "run", "pair", "one"]) (sc := defScope s__law_run) (by decide +kernel)) (by decide) (fun _ _ _ _ _ _ => (dg_v 3 nd)) (fun _ _ _ _ _ => dps_nil) (fun _ _ _ _ _ _ => (de_tup (da_cons (de_bin op_sub os_sub de_int (de_ix (de_v 3) de_int)) (da_cons (de_ix (de_v 3) de_int) da_nil)))))) da_nil)))) (dg_v 2 nd) (ds_one (ds_set 1 nd (de_bin op_addA os_add (de_v 1) (de_bin op_mulA os_mul (de_o (do_lst (da_cons (de_ix (de_v 2) de_int) da_nil))) (de_bin op_sub os_sub de_int (de_ix (de_v 2) de_int))))))) (ds_one (ds_retV 1))))
/-! _law_fits -/
theorem sc__law_fits : FnScope ["tally", "slots", "apart", "days", "great", "alike", "pair"] ["tally", "slots", "apart", "days"] (defScope s__law_fits) := ⟨rfl, rfl, rfl, by decide +kernel, rfl, by decide +kernel, by decide +kernel⟩
def m__law_fits : FnF := mkFn 7 (sSeq (sIf (tst (bin eqM (bnd (aCons (rd 0) aNil) lenM) (cI 0))) (sRet (cB true)) sNil) (sSeq (sSet 4 (bnd (aCons (fzM (lcO [6] (bnd (rd 0) anyD) (gV 6) yesT (bin ixM (rd 6) (cI 1)))) aNil) maxM)) (sSeq (sIf (tst (bin eqM (rd 3) (cI 0))) (sRet (bin leQ (bin mulM (rd 4) (rd 2)) (rd 1))) sNil) (sSeq (sSet 5 (bnd (aCons (fzM (lcO [6] (bnd (rd 0) anyD) (gV 6) (tst (bin eqM (bin ixM (rd 6) (cI 1)) (rd 4))) (rd 6))) aNil) lenM)) (sRet (bin leQ (bin addM (bin mulM (bin subM (bin mulM (rd 4) (rd 3)) (cI 1)) (rd 2)) (rd 5)) (bin mulM (rd 1) (rd 3))))))))
theorem k__law_fits (T : TX K mg base) : Fn P w K mg base 1 "_law_fits" 4 m__law_fits := by
  obtain ⟨fd, D⟩ := T.dfn 50
  have nd := sc__law_fits.nd
  refine ⟨(T.glo 50), fd, ["tally", "slots", "apart", "days"], fn_ok (k := 0) D sc__law_fits ?_, D.kp, D.bindsN fun _ _ _ _ _ _ us hl => match us, hl with | [_, _, _, _], _ => rfl⟩
  exact fun _ _ _ _ _ _ _ _ hr tk hp => (ds_cons (ds_if (dt_cmp (op_eqQ hr.units) os_eq (de_cb call_len cs_len (T.free 84) (da_cons (de_v 0) da_nil)) de_int) (ds_one (ds_ret de_bool)) ds_nil) (ds_cons (ds_set 4 nd (de_cb (cr_max rfl) cs_max (T.free 86) (da_cons (de_o (do_lc [("pair", 6)] rfl nd (di_any (de_v 0)) (blkOk_by (N := ["tally", "slots", "apart", "days", "great", "alike", "pair"]) (sc := defScope s__law_fits) (by decide +kernel)) (by decide) (fun _ _ _ _ _ _ => (dg_v 6 nd)) (fun _ _ _ _ _ => dps_nil) (fun _ _ _ _ _ _ => (de_ix (de_v 6) de_int)))) da_nil))) (ds_cons (ds_if (dt_cmp (op_eqQ hr.units) os_eq (de_v 3) de_int) (ds_one (ds_ret (de_cmp op_leA os_cmp (de_bin op_mulA os_mul (de_v 4) (de_v 2)) (de_v 1)))) ds_nil) (ds_cons (ds_set 5 nd (de_cb call_len cs_len (T.free 84) (da_cons (de_o (do_lc [("pair", 6)] rfl nd (di_any (de_v 0)) (blkOk_by (N := ["tally", "slots", "apart", "days", "great", "alike", "pair"]) (sc := defScope s__law_fits) (by decide +kernel)) (by decide) (fun _ _ _ _ _ _ => (dg_v 6 nd)) (fun _ _ _ _ _ => dps_one fun _ => (dt_cmp (op_eqQ hr.units) os_eq (de_ix (de_v 6) de_int) (de_v 4))) (fun _ _ _ _ _ _ => (de_v 6)))) da_nil))) (ds_one (ds_ret (de_cmp op_leA os_cmp (de_bin op_addA os_add (de_bin op_mulA os_mul (de_bin op_sub os_sub (de_bin op_mulA os_mul (de_v 4) (de_v 3)) de_int) (de_v 2)) (de_v 5)) (de_bin op_mulA os_mul (de_v 1) (de_v 3)))))))))
/-! _law_first_near -/
theorem sc__law_first_near : FnScope ["row", "apart", "k", "ahead"] ["row", "apart"] (defScope s__law_first_near) := ⟨rfl, rfl, rfl, by decide +kernel, rfl, by decide +kernel, by decide +kernel⟩
def m__law_first_near : FnF := mkFn 4 (sSeq (sFor (bnd (aCons (bnd (aCons (rd 0) aNil) lenM) aNil) rng1D) (gV 2) (sSeq (sSetO 3 (slO (rd 0) (pS (bin addM (rd 2) (cI 1))) (pS (bin addM (rd 2) (rd 1))))) (sIf (andT (tst (bin neM (bin ixM (rd 0) (rd 2)) (cS "."))) (tst (bin inM (bin ixM (rd 0) (rd 2)) (rd 3)))) (sRet (tupV (aCons (cS "clash") (aCons (rd 2) (aCons (bin addM (bin addM (rd 2) (cI 1)) (indexV (rd 3) (bin ixM (rd 0) (rd 2)))) aNil))))) sNil))) (sRet (tupV aNil)))
theorem k__law_first_near (T : TX K mg base) : Fn P w K mg base 1 "_law_first_near" 2 m__law_first_near := by
  obtain ⟨fd, D⟩ := T.dfn 51
  have nd := sc__law_first_near.nd
  refine ⟨(T.glo 51), fd, ["row", "apart"], fn_ok (k := 0) D sc__law_first_near ?_, D.kp, D.bindsN fun _ _ _ _ _ _ us hl => match us, hl with | [_, _], _ => rfl⟩
  exact fun _ _ _ _ _ _ _ _ hr tk hp => (ds_cons (ds_for hp rfl (di_rng1 (T.free 88) (da_cons (de_cb call_len cs_len (T.free 84) (da_cons (de_v 0) da_nil)) da_nil)) (dg_v 2 nd) (ds_cons (ds_setO 3 nd (do_sl (de_v 0) (dp_some (de_bin op_addA os_add (de_v 2) de_int)) (dp_some (de_bin op_addA os_add (de_v 2) (de_v 1))))) (ds_one (ds_if (dt_w (dw_and (dt_cmp (op_neQ hr.units) os_ne (de_ix (de_v 0) (de_v 2)) de_str) (dw_and1 (dt_cmp op_in_seq os_in (de_ix (de_v 0) (de_v 2)) (de_v 3))))) (ds_one (ds_ret (de_tup (da_cons de_str (da_cons (de_v 2) (da_cons (de_bin op_addA os_add (de_bin op_addA os_add (de_v 2) de_int) (de_index (de_v 3) (de_ix (de_v 0) (de_v 2)))) da_nil)))))) ds_nil)))) (ds_one (ds_ret (de_tup da_nil))))
/-! _law_fault -/
theorem sc__law_fault : FnScope ["rows", "tally", "apart", "joined", "day"] ["rows", "tally", "apart"] (defScope s__law_fault) := ⟨rfl, rfl, rfl, by decide +kernel, rfl, by decide +kernel, by decide +kernel⟩
def m__law_fault : FnF := mkFn 5 (sSeq (sSetO 3 (lstO aNil)) (sSeq (sFor (bnd (aCons (bnd (aCons (rd 0) aNil) lenM) aNil) rng1D) (gV 4) (sSeq (sIf (orT (tst (bin neM (bnd (aCons (bin ixM (rd 0) (rd 4)) aNil) lenM) (bnd (aCons (bin ixM (rd 0) (cI 0)) aNil) lenM))) (tst (bin neM (fzM (callF 1 m__law_counted (aCons (bin ixM (rd 0) (rd 4)) aNil))) (rd 1)))) (sRet (tupV (aCons (cS "numbers") (aCons (rd 4) aNil)))) sNil) (sSet 3 (bin addM (rd 3) (bin ixM (rd 0) (rd 4)))))) (sRetO (callF 2 m__law_first_near (aCons (rd 3) (aCons (rd 2) aNil))))))
theorem k__law_fault (T : TX K mg base) : Fn P w K mg base 2 "_law_fault" 3 m__law_fault := by
  obtain ⟨fd, D⟩ := T.dfn 52
  have nd := sc__law_fault.nd
  refine ⟨(T.glo 52), fd, ["rows", "tally", "apart"], fn_ok (k := 1) D sc__law_fault ?_, D.kp, D.bindsN fun _ _ _ _ _ _ us hl => match us, hl with | [_, _, _], _ => rfl⟩
  exact fun _ _ _ _ _ _ _ _ hr tk hp => (ds_cons (ds_setO 3 nd (do_lst da_nil)) (ds_cons (ds_for hp rfl (di_rng1 (T.free 88) (da_cons (de_cb call_len cs_len (T.free 84) (da_cons (de_v 0) da_nil)) da_nil)) (dg_v 4 nd) (ds_cons (ds_if (dt_w (dw_or (dt_cmp (op_neQ hr.units) os_ne (de_cb call_len cs_len (T.free 84) (da_cons (de_ix (de_v 0) (de_v 4)) da_nil)) (de_cb call_len cs_len (T.free 84) (da_cons (de_ix (de_v 0) de_int) da_nil))) (dw_or1 (dt_cmp (op_neQ hr.units) os_ne (de_o (do_callG (k__law_counted T) hr tk (da_cons (de_ix (de_v 0) (de_v 4)) da_nil))) (de_v 1))))) (ds_one (ds_ret (de_tup (da_cons de_str (da_cons (de_v 4) da_nil))))) ds_nil) (ds_one (ds_set 3 nd (de_bin op_addA os_add (de_v 3) (de_ix (de_v 0) (de_v 4))))))) (ds_one (ds_retO (do_callG (k__law_first_near T) hr tk (da_cons (de_v 3) (da_cons (de_v 2) da_nil)))))))
/-! _law_programme -/
theorem sc__law_programme : FnScope ["store", "tally", "slots", "days", "cells", "width", "thread", "base", "k", "choice", "rows", "day", "turn", "row", "pair"] ["store", "tally", "slots", "days"] (defScope s__law_programme) := ⟨rfl, rfl, rfl, by decide +kernel, rfl, by decide +kernel, by decide +kernel⟩
def m__law_programme : FnF := mkFn 15 (sSeq (sSetO 4 (callF 1 m__law_run (aCons (rd 1) aNil))) (sSeq (sSetO 5 (callB 0 2 m__law_pick (aCons (bin addM (fzM (lstO (aCons (rd 2) aNil))) (fzM (lcO [14] (bnd (rd 1) anyD) (gV 14) yesT (bin ixM (rd 14) (cI 1))))) aNil))) (sSeq (sSetO 6 (callF 2 m__law_thread (aCons (rd 2) (aCons (rd 5) aNil)))) (sSeq (sSet 4 (bin addM (rd 4) (bin mulM (fzM (lstO (aCons (cS ".") aNil))) (bin subM (rd 2) (bnd (aCons (rd 4) aNil) lenM))))) (sSeq (sSetO 7 (binO mulO (fzM (lstO (aCons (cS ".") aNil))) (rd 2))) (sSeq (sFor (bnd (aCons (rd 2) aNil) rng1D) (gV 8) (sSt 7 (bin ixM (rd 6) (rd 8)) (bin ixM (rd 4) (rd 8)))) (sSeq (sSetO 9 (callB 0 2 m__law_take (aCons (cI 4) aNil))) (sSeq (sIf (tst (bin eqM (rd 9) (cI 1))) (sSetO 7 (callB 0 2 m__law_order (aCons (rd 4) aNil))) sNil) (sSeq (sSetO 10 (lstO aNil)) (sSeq (sFor (bnd (aCons (rd 3) aNil) rng1D) (gV 11) (sSeq (sSetO 12 (callB 0 2 m__law_take (aCons (bin ixM (fzM (lstO (aCons (cI 1) (aCons (cI 1) (aCons (rd 2) (aCons (cI 1) aNil)))))) (rd 9)) aNil))) (sSeq (sSet 13 (bin addM (fzM (slO (rd 7) (pS (rd 12)) pN)) (fzM (slO (rd 7) pN (pS (rd 12)))))) (sSeq (sIf (tst (bin eqM (rd 9) (cI 3))) (sSetO 13 (callB 0 2 m__law_order (aCons (rd 4) aNil))) sNil) (sApp 10 (rd 13)))))) (sRetV 10)))))))))))
theorem k__law_programme (T : TX K mg base) : Fn P w K mg base 4 "_law_programme" 4 m__law_programme := by
  obtain ⟨fd, D⟩ := T.dfn 53
  have nd := sc__law_programme.nd
  refine ⟨(T.glo 53), fd, ["store", "tally", "slots", "days"], fn_ok (k := 3) D sc__law_programme ?_, D.kp, D.bindsN fun _ _ _ _ _ _ us hl => match us, hl with | [_, _, _, _], _ => rfl⟩
  exact fun _ _ _ _ _ _ _ _ hr tk hp => (ds_cons (ds_setO 4 nd (do_callG (k__law_run T) hr tk (da_cons (de_v 1) da_nil))) (ds_cons (ds_setO 5 nd (do_callGB 0 (k__law_pick T) hr tk (da_cons (de_bin op_addA os_add (de_o (do_lst (da_cons (de_v 2) da_nil))) (de_o (do_lc [("pair", 14)] rfl nd (di_any (de_v 1)) (blkOk_by (N := ["store", "tally", "slots", "days", "cells", "width", "thread", "base", "k", "choice", "rows", "day", "turn", "row", "pair"]) (sc := defScope s__law_programme) (by decide +kernel)) (by decide) (fun _ _ _ _ _ _ => (dg_v 14 nd)) (fun _ _ _ _ _ => dps_nil) (fun _ _ _ _ _ _ => (de_ix (de_v 14) de_int))))) da_nil))) (ds_cons (ds_setO 6 nd (do_callG (k__law_thread T) hr tk (da_cons (de_v 2) (da_cons (de_v 5) da_nil)))) (ds_cons (ds_set 4 nd (de_bin op_addA os_add (de_v 4) (de_bin op_mulA os_mul (de_o (do_lst (da_cons de_str da_nil))) (de_bin op_sub os_sub (de_v 2) (de_cb call_len cs_len (T.free 84) (da_cons (de_v 4) da_nil)))))) (ds_cons (ds_setO 7 nd (do_mul (de_o (do_lst (da_cons de_str da_nil))) (de_v 2))) (ds_cons (ds_for hp rfl (di_rng1 (T.free 88) (da_cons (de_v 2) da_nil)) (dg_v 8 nd) (ds_one (ds_st 7 (de_ix (de_v 6) (de_v 8)) (de_ix (de_v 4) (de_v 8))))) (ds_cons (ds_setO 9 nd (do_callGB 0 (k__law_take T) hr tk (da_cons de_int da_nil))) (ds_cons (ds_if (dt_cmp (op_eqQ hr.units) os_eq (de_v 9) de_int) (ds_one (ds_setO 7 nd (do_callGB 0 (k__law_order T) hr tk (da_cons (de_v 4) da_nil)))) ds_nil) (ds_cons (ds_setO 10 nd (do_lst da_nil)) (ds_cons (ds_for hp rfl (di_rng1 (T.free 88) (da_cons (de_v 3) da_nil)) (dg_v 11 nd) (ds_cons (ds_setO 12 nd (do_callGB 0 (k__law_take T) hr tk (da_cons (de_ix (de_o (do_lst (da_cons de_int (da_cons de_int (da_cons (de_v 2) (da_cons de_int da_nil)))))) (de_v 9)) da_nil))) (ds_cons (ds_set 13 nd (de_bin op_addA os_add (de_o (do_sl (de_v 7) (dp_some (de_v 12)) dp_none)) (de_o (do_sl (de_v 7) dp_none (dp_some (de_v 12)))))) (ds_cons (ds_if (dt_cmp (op_eqQ hr.units) os_eq (de_v 9) de_int) (ds_one (ds_setO 13 nd (do_callGB 0 (k__law_order T) hr tk (da_cons (de_v 4) da_nil)))) ds_nil) (ds_one (ds_app 10 (de_v 13))))))) (ds_one (ds_retV 10))))))))))))
/-! _law_bent_programme -/
theorem sc__law_bent_programme : FnScope ["store", "rows", "tally", "place", "row", "cell", "choice", "pair"] ["store", "rows", "tally"] (defScope s__law_bent_programme) := ⟨rfl, rfl, rfl, by decide +kernel, rfl, by decide +kernel, by decide +kernel⟩
def m__law_bent_programme : FnF := mkFn 8 (sSeq (sSetO 3 (callB 0 2 m__law_take (aCons (bnd (aCons (rd 1) aNil) lenM) aNil))) (sSeq (sSet 4 (bin ixM (rd 1) (rd 3))) (sSeq (sSetO 5 (callB 0 2 m__law_pick (aCons (bin addM (bin addM (fzM (lstO (aCons (cS ".") aNil))) (fzM (lcO [7] (bnd (rd 2) anyD) (gV 7) yesT (bin ixM (rd 7) (cI 0))))) (fzM (lstO (aCons (cS "zzz") aNil)))) aNil))) (sSeq (sSetO 6 (callB 0 2 m__law_take (aCons (cI 4) aNil))) (sSeq (sIf (tst (bin eqM (rd 6) (cI 0))) (sRetO (callF 3 m__law_put (aCons (rd 1) (aCons (rd 3) (aCons (bin addM (rd 4) (fzM (lstO (aCons (rd 5) aNil)))) aNil))))) sNil) (sSeq (sIf (andT (tst (bin eqM (rd 6) (cI 1))) (tst (bin gtQ (bnd (aCons (rd 4) aNil) lenM) (cI 1)))) (sRetO (callF 3 m__law_put (aCons (rd 1) (aCons (rd 3) (aCons (fzM (slO (rd 4) (pS (cI 1)) pN)) aNil))))) sNil) (sSeq (sIf (tst (bin eqM (rd 6) (cI 2))) (sRetO (lcO [4] (bnd (rd 1) anyD) (gV 4) yesT (bin addM (rd 4) (fzM (lstO (aCons (cS ".") aNil)))))) sNil) (sRetO (callF 3 m__law_put (aCons (rd 1) (aCons (rd 3) (aCons (fzM (callF 3 m__law_put (aCons (rd 4) (aCons (fzM (callB 0 2 m__law_take (aCons (bnd (aCons (rd 4) aNil) lenM) aNil))) (aCons (rd 5) aNil))))) aNil))))))))))))
theorem k__law_bent_programme (T : TX K mg base) : Fn P w K mg base 4 "_law_bent_programme" 3 m__law_bent_programme := by
  obtain ⟨fd, D⟩ := T.dfn 54
  have nd := sc__law_bent_programme.nd
  refine ⟨(T.glo 54), fd, ["store", "rows", "tally"], fn_ok (k := 3) D sc__law_bent_programme ?_, D.kp, D.bindsN fun _ _ _ _ _ _ us hl => match us, hl with | [_, _, _], _ => rfl⟩
  exact fun _ _ _ _ _ _ _ _ hr tk hp => (ds_cons (ds_setO 3 nd (do_callGB 0 (k__law_take T) hr tk (da_cons (de_cb call_len cs_len (T.free 84) (da_cons (de_v 1) da_nil)) da_nil))) (ds_cons (ds_set 4 nd (de_ix (de_v 1) (de_v 3))) (ds_cons (ds_setO 5 nd (do_callGB 0 (k__law_pick T) hr tk (da_cons (de_bin op_addA os_add (de_bin op_addA os_add (de_o (do_lst (da_cons de_str da_nil))) (de_o (do_lc [("pair", 7)] rfl nd (di_any (de_v 2)) (blkOk_by (N := ["store", "rows", "tally", "place", "row", "cell", "choice", "pair"]) (sc := defScope s__law_bent_programme) (by decide +kernel)) (by decide) (fun _ _ _ _ _ _ => (dg_v 7 nd)) (fun _ _ _ _ _ => dps_nil) (fun _ _ _ _ _ _ => (de_ix (de_v 7) de_int))))) (de_o (do_lst (da_cons de_str da_nil)))) da_nil))) (ds_cons (ds_setO 6 nd (do_callGB 0 (k__law_take T) hr tk (da_cons de_int da_nil))) (ds_cons (ds_if (dt_cmp (op_eqQ hr.units) os_eq (de_v 6) de_int) (ds_one (ds_retO (do_callG (k__law_put T) hr tk (da_cons (de_v 1) (da_cons (de_v 3) (da_cons (de_bin op_addA os_add (de_v 4) (de_o (do_lst (da_cons (de_v 5) da_nil)))) da_nil)))))) ds_nil) (ds_cons (ds_if (dt_w (dw_and (dt_cmp (op_eqQ hr.units) os_eq (de_v 6) de_int) (dw_and1 (dt_cmp op_gtA os_cmp (de_cb call_len cs_len (T.free 84) (da_cons (de_v 4) da_nil)) de_int)))) (ds_one (ds_retO (do_callG (k__law_put T) hr tk (da_cons (de_v 1) (da_cons (de_v 3) (da_cons (de_o (do_sl (de_v 4) (dp_some de_int) dp_none)) da_nil)))))) ds_nil) (ds_cons (ds_if (dt_cmp (op_eqQ hr.units) os_eq (de_v 6) de_int) (ds_one (ds_retO (do_lc [("row", 4)] rfl nd (di_any (de_v 1)) (blkOk_by (N := ["store", "rows", "tally", "place", "row", "cell", "choice", "pair"]) (sc := defScope s__law_bent_programme) (by decide +kernel)) (by decide) (fun _ _ _ _ _ _ => (dg_v 4 nd)) (fun _ _ _ _ _ => dps_nil) (fun _ _ _ _ _ _ => (de_bin op_addA os_add (de_v 4) (de_o (do_lst (da_cons de_str da_nil)))))))) ds_nil) (ds_one (ds_retO (do_callG (k__law_put T) hr tk (da_cons (de_v 1) (da_cons (de_v 3) (da_cons (de_o (do_callG (k__law_put T) hr tk (da_cons (de_v 4) (da_cons (de_o (do_callGB 0 (k__law_take T) hr tk (da_cons (de_cb call_len cs_len (T.free 84) (da_cons (de_v 4) da_nil)) da_nil))) (da_cons (de_v 5) da_nil))))) da_nil)))))))))))))
/-! _law_judged -/
theorem sc__law_judged : FnScope ["rows", "tally", "apart", "told", "e"] ["rows", "tally", "apart"] (defScope s__law_judged) := ⟨rfl, rfl, rfl, by decide +kernel, rfl, by decide +kernel, by decide +kernel⟩
def m__law_judged : FnF := mkFn 5 (sSeq (sSetO 3 (lstO aNil)) (sSeq (sTryAs 4 (isqOf isl "AirError") (sRetO (callF 3 m_judge_days (aCons (rd 0) (aCons (rd 1) (aCons (rd 2) aNil))))) (sSeq (sIf (tru (isXQ (isqE hd "TooLarge") 4)) (sApp 3 (tupV (aCons (cS "TooLarge") (aCons (xfQ (okcOf xs "what") 4 "what") (aCons (xfQ (okcOf xs "limit") 4 "limit") aNil))))) sNil) (sSeq (sIf (tru (isXQ (isqE hd "Malformed") 4)) (sApp 3 (tupV (aCons (cS "Malformed") (aCons (xfQ (okcOf xs "what") 4 "what") aNil)))) sNil) (sIf (orT (tru (isXQ (isqsE hd ["BadDeed", "Overfull", "NoPlan", "Packed"]) 4)) (tst (bin neM (lenP 3) (cI 1)))) (sRet (tupV (aCons (cS "other") aNil))) sNil)))) (sRet (ixP 3 (cI 0)))))
theorem k__law_judged (T : TX K mg base) : Fn P w K mg base 10 "_law_judged" 3 m__law_judged := by
  obtain ⟨fd, D⟩ := T.dfn 55
  have nd := sc__law_judged.nd
  refine ⟨(T.glo 55), fd, ["rows", "tally", "apart"], fn_ok (k := 9) D sc__law_judged ?_, D.kp, D.bindsN fun _ _ _ _ _ _ us hl => match us, hl with | [_, _, _], _ => rfl⟩
  exact fun _ _ _ _ _ _ _ _ hr tk hp => (ds_cons (ds_setO 3 nd (do_lst da_nil)) (ds_cons (ds_tryAs 4 nd tk ⟨rfl, by decide, .inl (T.glo 58)⟩ (fun y k h => (T.isq h).2) (fun _ _ _ tk' hp' => (ds_one (ds_retO (do_callG (k_judge_days T) hr tk' (da_cons (de_v 0) (da_cons (de_v 1) (da_cons (de_v 2) da_nil))))))) (fun _ _ _ _ _ hz hf => (ds_cons (ds_if (dt_tru (de_isX1 (isqE hd "TooLarge") 4 (T.isqE "TooLarge") hz hf (T.free 83) (T.glo 59))) (ds_one (ds_app 3 (de_tup (da_cons de_str (da_cons (de_xf (okcOf xs "what") 4 (fun y h => T.okc h) hz hf) (da_cons (de_xf (okcOf xs "limit") 4 (fun y h => T.okc h) hz hf) da_nil)))))) ds_nil) (ds_cons (ds_if (dt_tru (de_isX1 (isqE hd "Malformed") 4 (T.isqE "Malformed") hz hf (T.free 83) (T.glo 60))) (ds_one (ds_app 3 (de_tup (da_cons de_str (da_cons (de_xf (okcOf xs "what") 4 (fun y h => T.okc h) hz hf) da_nil))))) ds_nil) (ds_one (ds_if (dt_w (dw_or (dt_tru (de_isX2 (isqsE hd ["BadDeed", "Overfull", "NoPlan", "Packed"]) 4 (T.isqsE ["BadDeed", "Overfull", "NoPlan", "Packed"]) hz hf (T.free 83) (cl_cons (T.glo 61) (cl_cons (T.glo 62) (cl_cons (T.glo 63) (cl_cons (T.glo 64) cl_nil)))) (by decide))) (dw_or1 (dt_cmp (op_neQ hr.units) os_ne (de_lenP 3 (T.free 84)) de_int)))) (ds_one (ds_ret (de_tup (da_cons de_str da_nil)))) ds_nil)))))) (ds_one (ds_ret (de_ixP 3 de_int)))))
/-! _law_refusals_hold -/
theorem sc__law_refusals_hold : FnScope ["rows", "tally", "apart", "crowd", "cases", "case"] ["rows", "tally", "apart"] (defScope s__law_refusals_hold) := ⟨rfl, rfl, rfl, by decide +kernel, rfl, by decide +kernel, by decide +kernel⟩
def m__law_refusals_hold : FnF := mkFn 6 (sSeq (sSet 3 (bin mulM (fzM (lstO (aCons (tupV (aCons (cS "a") (aCons (cI 1) aNil))) aNil))) (cI 61))) (sSeq (sSetO 4 (lstO (aCons (tupV (aCons (bin mulM (fzM (lstO (aCons (fzM (lstO (aCons (cS ".") aNil))) aNil))) (cI 13)) (aCons (rd 3) (aCons (cI 1001) (aCons (tupV (aCons (cS "TooLarge") (aCons (cS "days") (aCons (cI 12) aNil)))) aNil))))) (aCons (tupV (aCons (fzM (lstO (aCons (bin mulM (fzM (lstO (aCons (cS "a") aNil))) (cI 241)) aNil))) (aCons (rd 3) (aCons (cI 0) (aCons (tupV (aCons (cS "TooLarge") (aCons (cS "row") (aCons (cI 240) aNil)))) aNil))))) aNil)))) (sSeq (sApp 4 (tupV (aCons (bin mulM (fzM (lstO (aCons (bin mulM (fzM (lstO (aCons (cS ".") aNil))) (cI 201)) aNil))) (cI 3)) (aCons (rd 1) (aCons (cI 1001) (aCons (tupV (aCons (cS "TooLarge") (aCons (cS "places") (aCons (cI 600) aNil)))) aNil)))))) (sSeq (sApp 4 (tupV (aCons (fzM (lstO aNil)) (aCons (rd 3) (aCons (rd 2) (aCons (tupV (aCons (cS "TooLarge") (aCons (cS "marks") (aCons (cI 60) aNil)))) aNil)))))) (sSeq (sApp 4 (tupV (aCons (fzM (lstO (aCons (fzM (lstO (aCons (cS "-") aNil))) aNil))) (aCons (fzM (lstO (aCons (tupV (aCons (cS "a") (aCons (cI 1001) aNil))) aNil))) (aCons (cI 0) (aCons (tupV (aCons (cS "TooLarge") (aCons (cS "number") (aCons (cI 1000) aNil)))) aNil)))))) (sSeq (sApp 4 (tupV (aCons (fzM (lstO (aCons (fzM (lstO aNil)) aNil))) (aCons (fzM (lstO (aCons (tupV (aCons (cS "a") (aCons (cI 0) aNil))) aNil))) (aCons (cI 1001) (aCons (tupV (aCons (cS "TooLarge") (aCons (cS "apart") (aCons (cI 1000) aNil)))) aNil)))))) (sSeq (sApp 4 (tupV (aCons (bin addM (rd 0) (fzM (lstO (aCons (fzM (lstO (aCons (cS "?") aNil))) aNil)))) (aCons (fzM (lstO (aCons (tupV (aCons (cS "a") (aCons (cI 0) aNil))) aNil))) (aCons (cI 0) (aCons (tupV (aCons (cS "Malformed") (aCons (cS "rows") aNil))) aNil)))))) (sSeq (sApp 4 (tupV (aCons (rd 0) (aCons (fzM (lstO (aCons (tupV (aCons (cS "b") (aCons (cI 1) aNil))) (aCons (tupV (aCons (cS "a") (aCons (cI 1) aNil))) aNil)))) (aCons (cI 0) (aCons (tupV (aCons (cS "Malformed") (aCons (cS "tally") aNil))) aNil)))))) (sSeq (sApp 4 (tupV (aCons (rd 0) (aCons (rd 1) (aCons (cI 0) (aCons (tupV (aCons (cS "Malformed") (aCons (cS "apart") aNil))) aNil)))))) (sRet (bin eqM (bnd (aCons (fzM (lcO [5] (bnd (rd 4) anyD) (gV 5) (notT (tru (fzM (callF 2 (m__law_exact 6) (aCons (fzM (callF 3 m__law_judged (aCons (bin ixM (rd 5) (cI 0)) (aCons (bin ixM (rd 5) (cI 1)) (aCons (bin ixM (rd 5) (cI 2)) aNil))))) (aCons (bin ixM (rd 5) (cI 3)) aNil)))))) (rd 5))) aNil) lenM) (cI 0))))))))))))
theorem k__law_refusals_hold (T : TX K mg base) : Fn P w K mg base 11 "_law_refusals_hold" 3 m__law_refusals_hold := by
  obtain ⟨fd, D⟩ := T.dfn 56
  have nd := sc__law_refusals_hold.nd
  refine ⟨(T.glo 56), fd, ["rows", "tally", "apart"], fn_ok (k := 10) D sc__law_refusals_hold ?_, D.kp, D.bindsN fun _ _ _ _ _ _ us hl => match us, hl with | [_, _, _], _ => rfl⟩
  exact fun _ _ _ _ _ _ _ _ hr tk hp => (ds_cons (ds_set 3 nd (de_bin op_mulA os_mul (de_o (do_lst (da_cons (de_tup (da_cons de_str (da_cons de_int da_nil))) da_nil))) de_int)) (ds_cons (ds_setO 4 nd (do_lst (da_cons (de_tup (da_cons (de_bin op_mulA os_mul (de_o (do_lst (da_cons (de_o (do_lst (da_cons de_str da_nil))) da_nil))) de_int) (da_cons (de_v 3) (da_cons de_int (da_cons (de_tup (da_cons de_str (da_cons de_str (da_cons de_int da_nil)))) da_nil))))) (da_cons (de_tup (da_cons (de_o (do_lst (da_cons (de_bin op_mulA os_mul (de_o (do_lst (da_cons de_str da_nil))) de_int) da_nil))) (da_cons (de_v 3) (da_cons de_int (da_cons (de_tup (da_cons de_str (da_cons de_str (da_cons de_int da_nil)))) da_nil))))) da_nil)))) (ds_cons (ds_app 4 (de_tup (da_cons (de_bin op_mulA os_mul (de_o (do_lst (da_cons (de_bin op_mulA os_mul (de_o (do_lst (da_cons de_str da_nil))) de_int) da_nil))) de_int) (da_cons (de_v 1) (da_cons de_int (da_cons (de_tup (da_cons de_str (da_cons de_str (da_cons de_int da_nil)))) da_nil)))))) (ds_cons (ds_app 4 (de_tup (da_cons (de_o (do_lst da_nil)) (da_cons (de_v 3) (da_cons (de_v 2) (da_cons (de_tup (da_cons de_str (da_cons de_str (da_cons de_int da_nil)))) da_nil)))))) (ds_cons (ds_app 4 (de_tup (da_cons (de_o (do_lst (da_cons (de_o (do_lst (da_cons de_str da_nil))) da_nil))) (da_cons (de_o (do_lst (da_cons (de_tup (da_cons de_str (da_cons de_int da_nil))) da_nil))) (da_cons de_int (da_cons (de_tup (da_cons de_str (da_cons de_str (da_cons de_int da_nil)))) da_nil)))))) (ds_cons (ds_app 4 (de_tup (da_cons (de_o (do_lst (da_cons (de_o (do_lst da_nil)) da_nil))) (da_cons (de_o (do_lst (da_cons (de_tup (da_cons de_str (da_cons de_int da_nil))) da_nil))) (da_cons de_int (da_cons (de_tup (da_cons de_str (da_cons de_str (da_cons de_int da_nil)))) da_nil)))))) (ds_cons (ds_app 4 (de_tup (da_cons (de_bin op_addA os_add (de_v 0) (de_o (do_lst (da_cons (de_o (do_lst (da_cons de_str da_nil))) da_nil)))) (da_cons (de_o (do_lst (da_cons (de_tup (da_cons de_str (da_cons de_int da_nil))) da_nil))) (da_cons de_int (da_cons (de_tup (da_cons de_str (da_cons de_str da_nil))) da_nil)))))) (ds_cons (ds_app 4 (de_tup (da_cons (de_v 0) (da_cons (de_o (do_lst (da_cons (de_tup (da_cons de_str (da_cons de_int da_nil))) (da_cons (de_tup (da_cons de_str (da_cons de_int da_nil))) da_nil)))) (da_cons de_int (da_cons (de_tup (da_cons de_str (da_cons de_str da_nil))) da_nil)))))) (ds_cons (ds_app 4 (de_tup (da_cons (de_v 0) (da_cons (de_v 1) (da_cons de_int (da_cons (de_tup (da_cons de_str (da_cons de_str da_nil))) da_nil)))))) (ds_one (ds_ret (de_cmp (op_eqQ hr.units) os_eq (de_cb call_len cs_len (T.free 84) (da_cons (de_o (do_lc [("case", 5)] rfl nd (di_any (de_v 4)) (blkOk_by (N := ["rows", "tally", "apart", "crowd", "cases", "case"]) (sc := defScope s__law_refusals_hold) (by decide +kernel)) (by decide) (fun _ _ _ _ _ _ => (dg_v 5 nd)) (fun _ _ _ _ _ => dps_one fun _ => (dt_not (dt_tru (de_o (do_callG (k__law_exact T 6) hr tkW0 (da_cons (de_o (do_callG (k__law_judged T) hr tkW0 (da_cons (de_ix (de_v 5) de_int) (da_cons (de_ix (de_v 5) de_int) (da_cons (de_ix (de_v 5) de_int) da_nil))))) (da_cons (de_ix (de_v 5) de_int) da_nil))))))) (fun _ _ _ _ _ _ => (de_v 5)))) da_nil)) de_int))))))))))))
/-! law -/
theorem sc_law : FnScope ["script", "store", "tally", "fits", "passed", "span", "k", "slots", "apart", "days", "rows", "handed", "due", "row"] ["script"] (defScope s_law) := ⟨rfl, rfl, rfl, by decide +kernel, rfl, by decide +kernel, by decide +kernel⟩
def m_law : FnF := mkFn 14 (sSeq (sSetO 1 (callS 0 1 m__law_store aNil)) (sSeq (sAsg (gT 3 (gsC (gV 7) (gsC (gV 8) (gsC (gV 9) gsN)))) (fzM (callB 1 2 m__law_days_size (aCons (cI 240) aNil)))) (sSeq (sSetO 2 (callB 1 5 m__law_days_tally (aCons (rd 7) (aCons (rd 8) (aCons (rd 9) (aCons (cI 1) aNil)))))) (sSeq (sIf (tst (bin eqM (fzM (callB 1 2 m__law_take (aCons (cI 3) aNil))) (cI 0))) (sSetO 2 (callB 1 4 m__law_tally (aCons (cI 5) (aCons (bin addM (bin divM (rd 7) (rd 8)) (cI 2)) (aCons (rd 7) aNil))))) sNil) (sSeq (sSetO 3 (callF 4 m__law_fits (aCons (rd 2) (aCons (rd 7) (aCons (rd 8) (aCons (rd 9) aNil)))))) (sSeq (sSetO 4 (bnd (aCons (rd 2) aNil) listO)) (sSeq (sFor (bnd (tupV (aCons (rd 9) (aCons (cI 1) (aCons (cI 0) (aCons (cI 12) aNil))))) anyD) (gV 5) (sIf (notT (tru (fzM (callF 2 (m__law_exact 6) (aCons (fzM (callF 4 m_fits_days (aCons (rd 4) (aCons (rd 7) (aCons (rd 8) (aCons (rd 5) aNil)))))) (aCons (fzM (callF 4 m__law_fits (aCons (rd 2) (aCons (rd 7) (aCons (rd 8) (aCons (rd 5) aNil)))))) aNil)))))) (sRet (cB false)) sNil)) (sSeq (sFor (bnd (aCons (cI 8) aNil) rng1D) (gV 6) (sSeq (sSetO 10 (callB 1 4 m__law_programme (aCons (rd 2) (aCons (rd 7) (aCons (rd 9) aNil))))) (sSeq (sIf (andT (notT (tru (rd 3))) (tst (bin eqM (bnd (aCons (fzM (callF 3 m__law_fault (aCons (rd 10) (aCons (rd 2) (aCons (rd 8) aNil))))) aNil) lenM) (cI 0)))) (sRet (cB false)) sNil) (sSeq (sIf (tst (bin eqM (bin modM (bnd (aCons (rd 6) aNil) intM) (cI 4)) (cI 3))) (sSetO 10 (callB 1 3 m__law_bent_programme (aCons (rd 10) (aCons (rd 2) aNil)))) sNil) (sSeq (sSetO 11 (lcO [13] (bnd (rd 10) anyD) (gV 13) yesT (fzM (bnd (aCons (rd 13) aNil) listO)))) (sSeq (sSetO 12 (callF 3 m__law_fault (aCons (rd 10) (aCons (rd 2) (aCons (rd 8) aNil))))) (sIf (andT (tst (bin leQ (bnd (aCons (fzM (lcO [13] (bnd (rd 10) anyD) (gV 13) yesT (bnd (aCons (rd 13) aNil) lenM))) aNil) sumM) (cI 600))) (tst (bin leQ (bnd (aCons (fzM (lcO [13] (bnd (rd 10) anyD) (gV 13) yesT (bnd (aCons (rd 13) aNil) lenM))) aNil) maxM) (cI 240)))) (sIf (orT (notT (tru (fzM (callF 2 (m__law_exact 6) (aCons (fzM (callF 3 m__law_judged (aCons (rd 11) (aCons (rd 4) (aCons (rd 8) aNil))))) (aCons (rd 12) aNil)))))) (notT (tru (fzM (callF 2 (m__law_exact 6) (aCons (rd 11) (aCons (rd 10) aNil))))))) (sRet (cB false)) sNil) sNil))))))) (sSeq (sIf (andT (tst (bin leQ (rd 7) (cI 48))) (notT (tru (fzM (callF 3 m__law_refusals_hold (aCons (fzM (lstO (aCons (bin mulM (fzM (lstO (aCons (cS ".") aNil))) (rd 7)) aNil))) (aCons (rd 2) (aCons (rd 8) aNil)))))))) (sRet (cB false)) sNil) (sRetO (callF 2 (m__law_exact 6) (aCons (rd 4) (aCons (rd 2) aNil)))))))))))))
theorem w_law (T : TX K mg base) {fd : FuncData} (D : FunD K d_law.name d_law.qual d_law.params d_law.body d_law.scope (d_law.dvs K) (d_law.kws K) (He.fAd K d_law.at_) fd) : FnOk P w K mg base (L2.CX P w) 12 (He.ga K "law") fd ["script"] (spD K 1 m_law) := by
  have nd := sc_law.nd
  refine fn_ok (k := 11) D sc_law ?_
  exact fun _ _ _ _ _ _ _ _ hr tk hp => (ds_cons (ds_setO 1 nd (do_callGS 0 (k__law_store T) hr tk da_nil)) (ds_cons (ds_asg (de_o (do_callGB 1 (k__law_days_size T) hr tk (da_cons de_int da_nil))) (dg_tup rfl (dg_cons (dg_v 7 nd) (dg_cons (dg_v 8 nd) (dg_cons (dg_v 9 nd) dg_nil))))) (ds_cons (ds_setO 2 nd (do_callGB 1 (k__law_days_tally T) hr tk (da_cons (de_v 7) (da_cons (de_v 8) (da_cons (de_v 9) (da_cons de_int da_nil)))))) (ds_cons (ds_if (dt_cmp (op_eqQ hr.units) os_eq (de_o (do_callGB 1 (k__law_take T) hr tk (da_cons de_int da_nil))) de_int) (ds_one (ds_setO 2 nd (do_callGB 1 (k__law_tally T) hr tk (da_cons de_int (da_cons (de_bin op_addA os_add (de_bin op_fdiv os_div (de_v 7) (de_v 8)) de_int) (da_cons (de_v 7) da_nil)))))) ds_nil) (ds_cons (ds_setO 3 nd (do_callG (k__law_fits T) hr tk (da_cons (de_v 2) (da_cons (de_v 7) (da_cons (de_v 8) (da_cons (de_v 9) da_nil)))))) (ds_cons (ds_setO 4 nd (do_ctp call_list_of cs_list (T.free 85) (da_cons (de_v 2) da_nil))) (ds_cons (ds_for hp rfl (di_any (de_tup (da_cons (de_v 9) (da_cons de_int (da_cons de_int (da_cons de_int da_nil)))))) (dg_v 5 nd) (ds_one (ds_if (dt_not (dt_tru (de_o (do_callG (k__law_exact T 6) hr tk (da_cons (de_o (do_callG (k_fits_days T) hr tk (da_cons (de_v 4) (da_cons (de_v 7) (da_cons (de_v 8) (da_cons (de_v 5) da_nil)))))) (da_cons (de_o (do_callG (k__law_fits T) hr tk (da_cons (de_v 2) (da_cons (de_v 7) (da_cons (de_v 8) (da_cons (de_v 5) da_nil)))))) da_nil)))))) (ds_one (ds_ret de_bool)) ds_nil))) (ds_cons (ds_for hp rfl (di_rng1 (T.free 88) (da_cons de_int da_nil)) (dg_v 6 nd) (ds_cons (ds_setO 10 nd (do_callGB 1 (k__law_programme T) hr tk (da_cons (de_v 2) (da_cons (de_v 7) (da_cons (de_v 9) da_nil))))) (ds_cons (ds_if (dt_w (dw_and (dt_not (dt_tru (de_v 3))) (dw_and1 (dt_cmp (op_eqQ hr.units) os_eq (de_cb call_len cs_len (T.free 84) (da_cons (de_o (do_callG (k__law_fault T) hr tk (da_cons (de_v 10) (da_cons (de_v 2) (da_cons (de_v 8) da_nil))))) da_nil)) de_int)))) (ds_one (ds_ret de_bool)) ds_nil) (ds_cons (ds_if (dt_cmp (op_eqQ hr.units) os_eq (de_bin op_mod os_mod (de_ctp call_intA cs_int (T.free 82) (da_cons (de_v 6) da_nil)) de_int) de_int) (ds_one (ds_setO 10 nd (do_callGB 1 (k__law_bent_programme T) hr tk (da_cons (de_v 10) (da_cons (de_v 2) da_nil))))) ds_nil) (ds_cons (ds_setLc 11 [("row", 13)] rfl nd (di_any (de_v 10)) (blkOk_by (N := ["script", "store", "tally", "fits", "passed", "span", "k", "slots", "apart", "days", "rows", "handed", "due", "row"]) (sc := defScope s_law) (by decide +kernel)) (by decide) (fun _ _ _ _ _ _ => (dg_v 13 nd)) (fun _ _ _ _ _ => dps_nil) (fun _ _ _ _ _ _ => (de_o (do_ctp call_list_of cs_list (T.free 85) (da_cons (de_v 13) da_nil))))) (ds_cons (ds_setO 12 nd (do_callG (k__law_fault T) hr tk (da_cons (de_v 10) (da_cons (de_v 2) (da_cons (de_v 8) da_nil))))) (ds_one (ds_if (dt_w (dw_and (dt_cmp op_leA os_cmp (de_cb (cr_sum rfl) cs_sum (T.free 91) (da_cons (de_o (do_lc [("row", 13)] rfl nd (di_any (de_v 10)) (blkOk_by (N := ["script", "store", "tally", "fits", "passed", "span", "k", "slots", "apart", "days", "rows", "handed", "due", "row"]) (sc := defScope s_law) (by decide +kernel)) (by decide) (fun _ _ _ _ _ _ => (dg_v 13 nd)) (fun _ _ _ _ _ => dps_nil) (fun _ _ _ _ _ _ => (de_cb call_len cs_len (T.free 84) (da_cons (de_v 13) da_nil))))) da_nil)) de_int) (dw_and1 (dt_cmp op_leA os_cmp (de_cb (cr_max rfl) cs_max (T.free 86) (da_cons (de_o (do_lc [("row", 13)] rfl nd (di_any (de_v 10)) (blkOk_by (N := ["script", "store", "tally", "fits", "passed", "span", "k", "slots", "apart", "days", "rows", "handed", "due", "row"]) (sc := defScope s_law) (by decide +kernel)) (by decide) (fun _ _ _ _ _ _ => (dg_v 13 nd)) (fun _ _ _ _ _ => dps_nil) (fun _ _ _ _ _ _ => (de_cb call_len cs_len (T.free 84) (da_cons (de_v 13) da_nil))))) da_nil)) de_int)))) (ds_one (ds_if (dt_w (dw_or (dt_not (dt_tru (de_o (do_callG (k__law_exact T 6) hr tk (da_cons (de_o (do_callG (k__law_judged T) hr tk (da_cons (de_v 11) (da_cons (de_v 4) (da_cons (de_v 8) da_nil))))) (da_cons (de_v 12) da_nil)))))) (dw_or1 (dt_not (dt_tru (de_o (do_callG (k__law_exact T 6) hr tk (da_cons (de_v 11) (da_cons (de_v 10) da_nil))))))))) (ds_one (ds_ret de_bool)) ds_nil)) ds_nil)))))))) (ds_cons (ds_if (dt_w (dw_and (dt_cmp op_leA os_cmp (de_v 7) de_int) (dw_and1 (dt_not (dt_tru (de_o (do_callG (k__law_refusals_hold T) hr tk (da_cons (de_o (do_lst (da_cons (de_bin op_mulA os_mul (de_o (do_lst (da_cons de_str da_nil))) (de_v 7)) da_nil))) (da_cons (de_v 2) (da_cons (de_v 8) da_nil)))))))))) (ds_one (ds_ret de_bool)) ds_nil) (ds_one (ds_retO (do_callG (k__law_exact T 6) hr tk (da_cons (de_v 4) (da_cons (de_v 2) da_nil))))))))))))))

end
end K90
set_option Elab.async false
set_option linter.all false
set_option maxRecDepth 100000
set_option maxHeartbeats 1000000
namespace K90
open PySem PySem.Spec PyProof.Rows Dv
theorem e_is_whole (n : Int) : m_is_whole .n [.int n] = .ok (.fz (.bool true)) none := by
  refine mk_n ?_
  simp [env0, sl0, isTs, tyN]
theorem e_is_number (n : Int) : m_is_number .n [.int n] = .ok (.fz (.bool true)) none := by
  refine mk_n ?_
  simp [env0, sl0, isTs, tyN]
/-- a letter -/
def let_ (c : Nat) : Bool := decide (97 ≤ c ∧ c ≤ 122)
/-- is x a mark -/
def isMark (x : Str) : Bool := decide (1 ≤ x.length ∧ x.length ≤ 8) && x.cps.toList.all let_
theorem lt1 {a b : Nat} : (([a] : List Nat) < [b]) = (a < b) := by
  rw [eq_iff_iff, List.cons_lt_cons_iff]
  simp
theorem let_y {c : Nat} (h1 : 97 ≤ c) (h2 : c ≤ 122) : let_ c = true := decide_eq_true ⟨h1, h2⟩
theorem let_n {c : Nat} (h : ¬ (97 ≤ c ∧ c ≤ 122)) : let_ c = false := decide_eq_false h
theorem a_cps : (Str.ofString "a").cps.toList = [97] := by decide +kernel
theorem z_cps : (Str.ofString "z").cps.toList = [122] := by decide +kernel
theorem sLt_a {c : Nat} : sLt ⟨#[c]⟩ "a" = decide (c < 97) := by
  unfold sLt
  rw [a_cps]
  simp only [lt1]
theorem sLt_z {c : Nat} : sLt "z" ⟨#[c]⟩ = decide (122 < c) := by
  unfold sLt
  rw [z_cps]
  simp only [lt1]
theorem e_is_mark (x : Str) (hx : x.length ≤ 1000000) : m_is_mark .n [.str x] = .ok (.fz (.bool (isMark x))) none := by
  refine mk_n ?_
  simp [env0, sl0, isTs, tyN, hx]
  have nl : ¬ (1 ≤ x.length ∧ x.length ≤ 8) → isMark x = false := fun h => by
    unfold isMark
    rw [decide_eq_false h]
    rfl
  split
  · split
    · rename_i h1 h2
      have hl : 1 ≤ x.length ∧ x.length ≤ 8 := by omega
      refine wp_loop (fun ds ρ => ∃ (cs : List Nat) (o : Option Sl), ds = cs.map (fun c => PyData.str ⟨#[c]⟩) ∧ ρ = [some (.fz (.str x)), o] ∧ isMark x = cs.all let_) ?_ ?_ ⟨x.cps.toList, none, rfl, rfl, ?_⟩
      · rintro d ds ρ ⟨cs, o, e, rfl, h⟩
        cases cs with
        | nil => cases e
        | cons c cs =>
          cases e
          rw [List.all_cons] at h
          simp [sLt_a, sLt_z]
          by_cases k1 : 97 ≤ c
          · rw [if_pos k1]
            by_cases k2 : c ≤ 122
            · rw [if_pos k2]
              exact ⟨cs, rfl, by rw [h, let_y k1 k2]; rfl⟩
            · rw [if_neg k2, h, let_n (by omega)]
              rfl
          · rw [if_neg k1, h, let_n (by omega)]
            rfl
      · rintro ρ ⟨cs, o, e, rfl, h⟩
        cases cs with
        | nil => simp [h]
        | cons c cs => cases e
      · unfold isMark
        rw [decide_eq_true hl]
        rfl
    · exact nl (by omega)
  · exact nl (by omega)
/-! rows: lists of texts -/
abbrev rw_ (r : List Str) : PyData := .list (r.map .str)
def okCell (os : List Str) (c : Str) : Bool := inS c os || isMark c
/-- the texts are short -/
def Short (r : List Str) : Prop := ∀ c ∈ r, c.length ≤ 1000000
def tooLarge (w : Str) (n : Int) : Exn := ⟨"TooLarge", [("what", .str w), ("limit", .int n)]⟩
def malformed (w : Str) : Exn := ⟨"Malformed", [("what", .str w)]⟩
def okRow (os r : List Str) : Bool := r.all (okCell os)
theorem okRow_cons {os r : List Str} {c : Str} : okRow os (c :: r) = (okCell os c && okRow os r) := List.all_cons
def rowFault (r : List Str) (os : List Str) : Option Exn := if 240 < r.length then some (tooLarge "row" 240) else if r.length = 0 then some (malformed "row") else if okRow os r then none else some (malformed "row")
def outOf (o : Option Exn) (w : Sl) : FOut := match o with
  | some e => .err e none
  | none => .ok w none
theorem e_copy_row (r os : List Str) (hs : Short r) (hl : os.length ≤ 1000) : m_copy_row .n [rw_ r, .tuple (os.map .str)] = outOf (rowFault r os) (.ob true (.l (r.map .str))) := by
  unfold outOf
  refine mk_n ?_
  unfold rowFault
  by_cases h : 240 < r.length
  · have h' : (240 : Int) < r.length := by omega
    simp [env0, sl0, h, h', tooLarge]
  · by_cases h2 : r.length = 0
    · have e := List.eq_nil_of_length_eq_zero h2
      subst e
      simp [env0, sl0, malformed]
    · have h' : ¬ (240 : Int) < r.length := by omega
      have h3 : r ≠ [] := fun e => h2 (by rw [e]; rfl)
      simp [env0, sl0, h, h', h3]
      trace_state
      refine wp_loop (fun ds ρ => ∃ (cs : List Str) (o : Option Sl), ds = cs.map .str ∧ Short cs ∧ ρ = [some (.fz (rw_ r)), some (.fz (.tuple (os.map .str))), o] ∧ okRow os r = okRow os cs) ?_ ?_ ⟨r, none, rfl, hs, rfl, rfl⟩
      · rintro d ds ρ ⟨cs, o, e, sc, rfl, h⟩
        cases cs with
        | nil => cases e
        | cons c cs =>
          cases e
          rw [okRow_cons] at h
          have sc1 := sc c List.mem_cons_self
          have sc2 : Short cs := fun x hx => sc x (List.mem_cons_of_mem _ hx)
          simp [e_is_mark c sc1]
          unfold okCell at h
          cases k1 : inS c os with
          | true => exact ⟨cs, rfl, sc2, by rw [h, k1]; rfl⟩
          | false =>
            cases k2 : isMark c with
            | true => exact ⟨cs, rfl, sc2, by rw [h, k1, k2]; rfl⟩
            | false =>
              rw [h, k1, k2]
              rfl
      · rintro ρ ⟨cs, o, e, sc, rfl, h⟩
        cases cs with
        | nil =>
          rw [h]
          simp [okRow]
        | cons c cs => cases e
end K90
set_option Elab.async false
set_option linter.all false
set_option maxRecDepth 100000
set_option maxHeartbeats 1000000
namespace K90
open PySem PySem.Spec PyProof.Rows Dv
/-! tallies -/
def largeT (t : Ty) : Option Exn := if 60 < t.length then some (tooLarge "marks" 60) else if t.any (fun p => decide (1000 < p.2)) then some (tooLarge "number" 1000) else none
def wrongT (b : Str) : Ty → Bool
  | [] => false
  | p :: r => !isMark p.1 || !sLt b p.1 || decide (p.2 < 1) || wrongT p.1 r
def ShortT (t : Ty) : Prop := ∀ p ∈ t, p.1.length ≤ 1000000
theorem e_refuse_large (t : Ty) : m_refuse_large .n [tlD t] = outOf (largeT t) (.fz .none) := by
  refine mk_n ?_
  unfold largeT
  by_cases h : 60 < t.length
  · have h' : (60 : Int) < t.length := by omega
    simp [env0, sl0, h, h', tooLarge, outOf]
  · have h' : ¬ (60 : Int) < t.length := by omega
    rw [if_neg h]
    simp [env0, sl0, h']
    refine wp_loopT prD (fun ps ρ => ∃ o, ρ = [some (.fz (tlD t)), o] ∧ t.any (fun p => decide (1000 < p.2)) = ps.any (fun p => decide (1000 < p.2))) ⟨none, rfl, rfl⟩ ?_ ?_
    · rintro p ps ρ ⟨o, rfl, h⟩
      rw [List.any_cons] at h
      simp [e_is_whole]
      by_cases k : 1000 < p.2
      · rw [if_pos k, h, decide_eq_true k]
        rfl
      · rw [if_neg k, h, decide_eq_false k]
        rfl
    · rintro ρ ⟨o, rfl, h⟩
      rw [h]
      rfl
theorem wrong_cons {b : Str} {p : Str × Int} {r : Ty} : wrongT b (p :: r) = (!isMark p.1 || !sLt b p.1 || decide (p.2 < 1) || wrongT p.1 r) := rfl
theorem e_refuse_wrong (t : Ty) (hs : ShortT t) : m_refuse_wrong .n [tlD t] = outOf (if wrongT "" t = true then some (malformed "tally") else none) (.fz .none) := by
  refine mk_n ?_
  simp [env0, sl0]
  refine wp_loopT prD (fun ps ρ => ∃ b o1 o2, ρ = [some (.fz (tlD t)), some (.fz (.str b)), o1, o2] ∧ ShortT ps ∧ wrongT "" t = wrongT b ps) ⟨"", none, none, rfl, hs, rfl⟩ ?_ ?_
  · rintro p ps ρ ⟨b, o1, o2, rfl, sp, h⟩
    have s1 := sp p List.mem_cons_self
    have s2 : ShortT ps := fun x hx => sp x (List.mem_cons_of_mem _ hx)
    rw [wrong_cons] at h
    simp [e_is_mark p.1 s1, e_is_whole]
    cases k1 : isMark p.1 with
    | false =>
      rw [h, k1]
      rfl
    | true =>
      cases k2 : sLt b p.1 with
      | true =>
        simp
        by_cases k3 : p.2 < 1
        · rw [if_pos k3, h, k1, k2, decide_eq_true k3]
          rfl
        · rw [if_neg k3]
          refine ⟨s2, ?_⟩
          rw [h, k1, k2, decide_eq_false k3]
          rfl
      | false =>
        rw [h, k1, k2]
        rfl
  · rintro ρ ⟨b, o1, o2, rfl, sp, h⟩
    rw [h]
    rfl
def tallyFault (t : Ty) : Option Exn := match largeT t with
  | some e => some e
  | none => if wrongT "" t = true then some (malformed "tally") else none
theorem e_check_tally (t : Ty) (hs : ShortT t) : m_check_tally .n [tlD t] = outOf (tallyFault t) (.ob true (.l (t.map prD))) := by
  refine mk_n ?_
  simp [env0, sl0, e_refuse_large, e_refuse_wrong t hs]
  unfold tallyFault
  cases q : largeT t with
  | some e => rfl
  | none =>
    have hl : t.length ≤ 60 := by
      unfold largeT at q
      by_cases h : 60 < t.length
      · rw [if_pos h] at q
        cases q
      · omega
    simp [outOf]
    by_cases k : wrongT "" t = true
    · rw [if_pos k]
      simp [e_refuse_wrong t hs, k, outOf]
    · have k : wrongT "" t = false := by simpa using k
      simp [e_refuse_wrong t hs, k, wp_lcO, outOf]
      refine wp_lcT prD (fun p => some (prD p)) (by rfl) (by omega) (fun p hp => ?_) ?_
      · unfold Turn1
        simp [wipeR]
      · simp [restR, wipeR]
def rightO (t : Ty) : FOut := match largeT t with
  | some e => .err e none
  | none => .ok (.fz (.bool (!wrongT "" t))) none
theorem tl_cls {w : Str} {n : Int} : isqOf isl "Malformed" (tooLarge w n).cls = some false := by
  show isqOf isl "Malformed" "TooLarge" = _
  decide +kernel
theorem mf_cls {w : Str} : isqOf isl "Malformed" (malformed w).cls = some true := by
  show isqOf isl "Malformed" "Malformed" = _
  decide +kernel
theorem large_cls {t : Ty} {e : Exn} (h : largeT t = some e) : isqOf isl "Malformed" e.cls = some false := by
  unfold largeT at h
  split at h
  · cases h
    exact tl_cls
  · split at h
    · cases h
      exact tl_cls
    · cases h
theorem e_right_tally (t : Ty) (hs : ShortT t) : m_right_tally .n [tlD t] = rightO t := by
  refine mk_n ?_
  simp [env0, sl0, e_check_tally t hs]
  unfold tallyFault rightO
  cases q : largeT t with
  | some e =>
    simp [outOf, tryE_n (large_cls q)]
  | none =>
    cases k : wrongT "" t with
    | true => simp [outOf, tryE_y mf_cls]
    | false => simp [outOf]
end K90
set_option Elab.async false
set_option linter.all false
set_option maxRecDepth 100000
set_option maxHeartbeats 1000000
namespace K90
open PySem PySem.Spec PyProof.Rows Dv
/-! rows, counted -/
theorem mark_okS {x : Str} (h : isMark x = true) : okS x = true := by
  unfold isMark at h
  obtain ⟨_, h⟩ := Bool.and_eq_true_iff.mp h
  unfold okS
  rw [← Array.all_toList]
  refine List.all_eq_true.mpr fun c hc => ?_
  have z := of_decide_eq_true (List.all_eq_true.mp h c hc)
  exact decide_eq_true (by omega)
theorem e_tally_from (m : Ty) (hn : (m.map (·.1)).Nodup) (hm : ∀ p ∈ m, isMark p.1 = true ∧ 0 < p.2) (hl : m.length ≤ 1000) : ∃ t c, m_tally_from (.b (.d (m.map kvD))) [] = .ok (.ob true (.l (t.map prD))) (some c) ∧ Rise t ∧ ∀ p, p ∈ t ↔ p ∈ m := by
  obtain ⟨ks, h1, h2, h3⟩ := srt_strs (m.map (·.1))
  have hk : keysD (m.map kvD) = (m.map (·.1)).map PyData.str := by
    unfold keysD
    rw [List.map_map, List.map_map]
    rfl
  have ok1 : okKeys (m.map kvD) := by
    unfold okKeys
    rw [hk, okSort_strs, Bool.and_true, List.all_map]
    exact List.all_eq_true.mpr fun p hp => mark_okS (hm p hp).1
  have key : ∀ x ∈ ks, ∃ n, lkT m x = some n ∧ 0 < n ∧ (x, n) ∈ m := fun x hx => by
    obtain ⟨p, h4, h5⟩ := List.mem_map.mp (h2.mem_iff.mp hx)
    subst h5
    exact ⟨p.2, (lkT_mem hn).mpr h4, (hm p h4).2, h4⟩
  have z : ∃ w c', m_tally_from (.b (.d (m.map kvD))) [] = .ok w (some c') ∧ w = .ob true (.l (ks.filterMap fun x => (lkT m x).map fun n => prD (x, n))) := by
    refine mk_b (Q := fun w _ => w = _) ?_
    simp [env0, sl0, wp_lcO, dct]
    refine ⟨ok1, ?_⟩
    rw [hk, h1]
    refine wp_lcT .str (fun x => (lkT m x).map fun n => prD (x, n)) (by rfl) (by rw [h2.length_eq, List.length_map]; omega) (fun x hx => ?_) ?_
    · obtain ⟨n, k1, k2, k3⟩ := key x hx
      unfold Turn1
      simp [wipeR, dct, lkD_kv, k1, k2]
    · simp [restR, wipeR]
  obtain ⟨w, c, e1, rfl⟩ := z
  refine ⟨ks.filterMap fun x => (lkT m x).map fun n => (x, n), c, ?_, ?_, ?_⟩
  · rw [e1, List.map_filterMap]
    congr 4
    funext x
    rw [Option.map_map]
    rfl
  · rw [Rise, List.pairwise_filterMap]
    have hd : ks.Nodup := h2.nodup_iff.mpr hn
    refine (h3.and hd).imp fun {a b} ⟨x, y⟩ u hu v hv => ?_
    obtain ⟨n1, _, rfl⟩ := Option.map_eq_some_iff.mp hu
    obtain ⟨n2, _, rfl⟩ := Option.map_eq_some_iff.mp hv
    cases q : sLt a b with
    | true => rfl
    | false => exact absurd (sLt_tri q x) y
  · intro p
    rw [List.mem_filterMap]
    constructor
    · rintro ⟨x, hx, e⟩
      obtain ⟨n, e1, rfl⟩ := Option.map_eq_some_iff.mp e
      exact (lkT_mem hn).mp e1
    · intro hp
      exact ⟨p.1, h2.mem_iff.mpr (List.mem_map_of_mem hp), by rw [(lkT_mem (x := p.1) (n := p.2) hn).mpr hp]; rfl⟩
/-- how often x stands in l -/
def cnt (x : Str) (l : List Str) : Nat := (l.filter fun y => decide (y = x)).length
theorem cnt_app {x : Str} {a b : List Str} : cnt x (a ++ b) = cnt x a + cnt x b := by
  unfold cnt
  rw [List.filter_append, List.length_append]
theorem cnt_one {x c : Str} : cnt x [c] = if c = x then 1 else 0 := by
  unfold cnt
  by_cases h : c = x
  · simp [h]
  · simp [h]
theorem cnt_pos {x : Str} {l : List Str} : 0 < cnt x l ↔ x ∈ l := by
  unfold cnt
  rw [List.length_pos_iff_exists_mem]
  constructor
  · rintro ⟨y, hy⟩
    obtain ⟨h1, h2⟩ := List.mem_filter.mp hy
    rw [← of_decide_eq_true h2]
    exact h1
  · intro h
    exact ⟨x, List.mem_filter.mpr ⟨h, decide_eq_true rfl⟩⟩
def CntD (m : Ty) (l : List Str) : Prop := (m.map (·.1)).Nodup ∧ m.length ≤ l.length ∧ ∀ x, lkT m x = if isMark x = true ∧ x ∈ l then some (cnt x l : Int) else none
theorem cntD_nil : CntD [] [] := ⟨.nil, Nat.le_refl _, fun x => by simp [lkT]⟩
theorem cntD_skip {m : Ty} {l : List Str} {c : Str} (h : CntD m l) (n : isMark c = false) : CntD m (l ++ [c]) := by
  refine ⟨h.1, by rw [List.length_append]; have := h.2.1; omega, fun x => ?_⟩
  rw [h.2.2 x]
  by_cases e : c = x
  · subst e
    rw [if_neg (by rw [n]; simp), if_neg (by rw [n]; simp)]
  · rw [cnt_app, cnt_one, if_neg e, Nat.add_zero]
    have k : (x ∈ l ++ [c]) = (x ∈ l) := by
      rw [List.mem_append, List.mem_singleton, eq_iff_iff]
      exact ⟨fun z => z.resolve_right fun y => e y.symm, .inl⟩
    simp only [k]
theorem cntD_put {m : Ty} {l : List Str} {c : Str} (h : CntD m l) (y : isMark c = true) : CntD (putT m c ((lkT m c).getD 0 + 1)) (l ++ [c]) := by
  refine ⟨putT_nd h.1, by rw [List.length_append]; have := h.2.1; have := putT_len (m := m) (x := c) (n := (lkT m c).getD 0 + 1); simp only [List.length_cons, List.length_nil]; omega, fun x => ?_⟩
  rw [lkT_put, cnt_app, cnt_one]
  by_cases e : c = x
  · subst e
    rw [if_pos rfl, if_pos rfl, if_pos ⟨y, by simp⟩, h.2.2 c]
    by_cases k : c ∈ l
    · rw [if_pos ⟨y, k⟩]
      simp
    · rw [if_neg fun z => k z.2]
      have : cnt c l = 0 := by
        have := mt cnt_pos.mp k
        omega
      rw [this]
      rfl
  · rw [if_neg e, if_neg e, h.2.2 x, Nat.add_zero]
    have k : (x ∈ l ++ [c]) = (x ∈ l) := by
      rw [List.mem_append, List.mem_singleton, eq_iff_iff]
      exact ⟨fun z => z.resolve_right fun y => e y.symm, .inl⟩
    simp only [k]
theorem getD_int {o : Option Int} : (o.map PyData.int).getD (.int 0) = .int (o.getD 0) := by cases o <;> rfl
def dots : List Str := [".", "?", "-"]
def CountOf (t : Ty) (r : List Str) : Prop := Rise t ∧ ∀ p : Str × Int, p ∈ t ↔ isMark p.1 = true ∧ p.1 ∈ r ∧ p.2 = (cnt p.1 r : Int)
theorem count_uniq {a b : Ty} {r : List Str} (ha : CountOf a r) (hb : CountOf b r) : a = b := rise_uniq ha.1 hb.1 fun p => (ha.2 p).trans (hb.2 p).symm
theorem tail_out {o : Option Exn} {d : BR} {ρ : Rho} : okQ (outOf o (.ob true d)) ρ (fun w _ => retN (.rt w) = outOf o (.ob true d)) (fun e _ => FOut.err e none = outOf o (.ob true d)) := by
  cases o <;> rfl
def I_count (r : List Str) (cs : List Str) (ρ : Rho) : Prop := ∃ m l o, ρ = [some (.fz (rw_ r)), some (.ob true (.d (m.map kvD))), o] ∧ CntD m l ∧ l ++ cs = r
theorem e_check_any_row (r : List Str) (hs : Short r) : m_check_any_row .n [rw_ r] = outOf (rowFault r dots) (.ob true (.l (r.map .str))) := by
  refine mk_n ?_
  have z := e_copy_row r dots hs (by decide)
  simp only [dots, List.map_cons, List.map_nil] at z
  simp [env0, sl0, z]
  exact tail_out
theorem e_count_row (r : List Str) (hs : Short r) (hf : rowFault r dots = none) : ∃ t, m_count_row .n [rw_ r] = .ok (.ob true (.l (t.map prD))) none ∧ CountOf t r := by
  have hl : r.length ≤ 240 := by
    unfold rowFault at hf
    split at hf
    · cases hf
    · omega
  have z : fout (m_count_row .n [rw_ r]) (fun w c => c = none ∧ ∃ t, w = .ob true (.l (t.map prD)) ∧ CountOf t r) (fun _ _ => False) := by
    refine mk_x ?_
    simp [env0, sl0, e_check_any_row r hs, hf, outOf]
    refine wp_loopT .str (I_count r) ⟨[], [], none, rfl, cntD_nil, rfl⟩ ?_ ?_
    · rintro c cs ρ ⟨m, l, o, rfl, hc, e⟩
      have sc : c.length ≤ 1000000 := hs c (by rw [← e]; simp)
      have e2 : (l ++ [c]) ++ cs = r := by rw [← e]; simp
      have ll := hc.2.1
      have l2 : l.length ≤ r.length := by rw [← e, List.length_append]; omega
      simp [e_is_mark c sc, dct, lkD_kv, putD_kv, getD_int]
      cases k : isMark c with
      | true =>
        simp
        exact ⟨by omega, _, _, _, rfl, cntD_put hc k, e2⟩
      | false =>
        simp
        exact ⟨_, _, _, rfl, cntD_skip hc k, e2⟩
    · rintro ρ ⟨m, l, o, rfl, hc, e⟩
      rw [List.append_nil] at e
      subst e
      have mem : ∀ p : Str × Int, p ∈ m ↔ isMark p.1 = true ∧ p.1 ∈ l ∧ p.2 = (cnt p.1 l : Int) := fun p => by
        rw [← lkT_mem hc.1, hc.2.2 p.1]
        by_cases k : isMark p.1 = true ∧ p.1 ∈ l
        · rw [if_pos k]
          constructor
          · intro z
            exact ⟨k.1, k.2, (Option.some.inj z).symm⟩
          · intro z
            rw [← z.2.2]
        · rw [if_neg k]
          constructor
          · intro z
            cases z
          · intro z
            exact absurd ⟨z.1, z.2.1⟩ k
      obtain ⟨t, c, e1, rt, mt⟩ := e_tally_from m hc.1 (fun p hp => ⟨((mem p).mp hp).1, by
        obtain ⟨_, k1, k2⟩ := (mem p).mp hp
        have := cnt_pos.mpr k1
        omega⟩) (by have := hc.2.1; omega)
      simp [e1]
      exact ⟨rfl, t, rfl, rt, fun p => (mt p).trans (mem p)⟩
  obtain ⟨w, c, e, rfl, t, rfl, h⟩ := fout_ok z
  exact ⟨t, e, h⟩
end K90
set_option Elab.async false
set_option linter.all false
set_option maxRecDepth 100000
set_option maxHeartbeats 1000000
namespace K90
open PySem PySem.Spec PyProof.Rows Dv
abbrev Rows := List (List Str)
abbrev rwsD (rs : Rows) : PyData := .list (rs.map rw_)
def ShortR (rs : Rows) : Prop := ∀ r ∈ rs, Short r
def beg : List Str := [".", "?"]
theorem e_check_row (r : List Str) (hs : Short r) : m_check_row .n [rw_ r, .bool true] = outOf (rowFault r beg) (.ob true (.l (r.map .str))) := by
  refine mk_n ?_
  have z := e_copy_row r beg hs (by decide)
  simp only [beg, List.map_cons, List.map_nil] at z
  simp [env0, sl0, z]
  unfold beg
  cases rowFault r [".", "?"] <;> rfl
def goodRow (r : List Str) : Bool := decide (r.length ≠ 0) && okRow beg r
def isRowX (r : List Str) : Except Exn Bool := if 240 < r.length then .error (tooLarge "row" 240) else .ok (goodRow r)
def outX (o : Except Exn PyData) : FOut := match o with
  | .error e => .err e none
  | .ok d => .ok (.fz d) none
theorem e_is_row (r : List Str) (hs : Short r) : m_is_row .n [rw_ r] = outX ((isRowX r).map .bool) := by
  refine mk_n ?_
  simp [env0, sl0, gD_check_row_1_begun, e_check_row r hs]
  unfold rowFault isRowX goodRow
  by_cases h : 240 < r.length
  · simp [h, outOf, tryE_n tl_cls]
    rfl
  · simp only [if_neg h]
    by_cases h2 : r.length = 0
    · simp only [if_pos h2]
      simp [outOf, tryE_y mf_cls, h2]
      rfl
    · simp only [if_neg h2]
      cases h3 : okRow beg r with
      | true =>
        simp [outOf, h2]
        rfl
      | false =>
        simp [outOf, tryE_y mf_cls]
        rfl
def anyBig (rs : Rows) : Bool := rs.any fun r => decide (240 < r.length)
def allGood (rs : Rows) : Bool := rs.all goodRow && !rs.isEmpty
def badRows (rs : Rows) : Rows := rs.filter fun r => !goodRow r
theorem bad_good {rs : Rows} : (rs.all goodRow) = (badRows rs).isEmpty := by
  unfold badRows
  rw [Bool.eq_iff_iff, List.isEmpty_iff, List.filter_eq_nil_iff, List.all_eq_true]
  simp
theorem big_cons {r : List Str} {rs : Rows} : anyBig (r :: rs) = (decide (240 < r.length) || anyBig rs) := List.any_cons
/-- the faults of rows -/
def sizeOf_ (rs : Rows) : Int := (rs.map fun r => (r.length : Int)).sum
def daysFault (rs : Rows) : Option Exn := if 12 < rs.length then some (tooLarge "days" 12) else if anyBig rs = true then some (tooLarge "row" 240) else if 600 < sizeOf_ rs then some (tooLarge "places" 600) else if allGood rs = true then none else some (malformed "rows")
theorem cx_rows : ∀ rs : Rows, cx (fun r => (isRowX r).map fun b => if b = true then none else some (rw_ r)) rs = if anyBig rs = true then .error (tooLarge "row" 240) else .ok ((badRows rs).map rw_)
  | [] => rfl
  | r :: rs => by
    unfold cx
    rw [cx_rows rs, big_cons]
    unfold isRowX
    by_cases h : 240 < r.length
    · rw [if_pos h, decide_eq_true h]
      rfl
    · rw [if_neg h, decide_eq_false h]
      simp only [Bool.false_or]
      by_cases k : anyBig rs = true
      · rw [if_pos k, if_pos k]
        rfl
      · rw [if_neg k, if_neg k]
        unfold badRows
        rw [List.filter_cons]
        cases goodRow r <;> rfl
theorem fm_some {α β : Type} {g : α → β} {xs : List α} : (xs.filterMap fun x => some (g x)) = xs.map g := by
  rw [← List.filterMap_eq_map]
  rfl
theorem ints_typed {γ : Type} (f : γ → PyData) (g : γ → Int) (h : ∀ x, f x = .int (g x)) : ∀ xs : List γ, intsD (xs.map f) = some (xs.map g)
  | [] => rfl
  | x :: xs => by
    rw [List.map_cons, h x]
    unfold intsD
    rw [ints_typed f g h xs]
    rfl
theorem e_check_day_rows (rs : Rows) (hs : ShortR rs) (hl : rs.length < 1000) : m_check_day_rows .n [rwsD rs] = outOf (daysFault rs) (.fz .none) := by
  refine mk_n ?_
  by_cases h : 12 < rs.length
  · have h' : (12 : Int) < rs.length := by omega
    have q : daysFault rs = some (tooLarge "days" 12) := if_pos h
    simp [env0, sl0, h', q, tooLarge, outOf]
  · have h' : ¬ (12 : Int) < rs.length := by omega
    simp [env0, sl0, h']
    refine wp_lcx rw_ (fun r => (isRowX r).map fun b => if b = true then none else some (rw_ r)) (by rfl) (by omega) (fun r hr => ?_) ?_
    · unfold Turn2
      simp [wipeR, e_is_row r (hs r hr)]
      cases isRowX r with
      | error e => exact ⟨rfl, rfl⟩
      | ok b => cases b <;> exact ⟨rfl, rfl⟩
    · rw [cx_rows]
      by_cases k : anyBig rs = true
      · rw [if_pos k]
        have q : daysFault rs = some (tooLarge "row" 240) := by
          unfold daysFault
          rw [if_neg h, if_pos k]
        simp [restR, wipeR, outOf, q]
      · rw [if_neg k]
        have q : daysFault rs = if 600 < sizeOf_ rs then some (tooLarge "places" 600) else if allGood rs = true then none else some (malformed "rows") := by
          unfold daysFault
          rw [if_neg h, if_neg k]
        dsimp only
        simp [restR, wipeR, wp_lcO]
        refine wp_lcT rw_ (fun r => some (.int (r.length : Int))) (by rfl) (by omega) (fun r hr => ?_) ?_
        · unfold Turn1
          simp [wipeR]
        · rw [fm_some]
          simp [restR, wipeR, ints_typed (fun r : List Str => PyData.int (r.length : Int)) (fun r => (r.length : Int)) (fun _ => rfl)]
          rw [show (rs.map fun r => (r.length : Int)).sum = sizeOf_ rs from rfl]
          by_cases k1 : 600 < sizeOf_ rs
          · rw [if_pos k1] at q
            rw [if_pos k1, q]
            rfl
          · rw [if_neg k1] at q
            rw [if_neg k1, q]
            unfold allGood
            rw [bad_good]
            cases badRows rs with
            | nil => cases rs <;> rfl
            | cons a b => simp [outOf, malformed]
def elsD : PyData → List PyData
  | .list es => es
  | _ => []
theorem els_rows : ∀ rs : Rows, (rs.map rw_).flatMap elsD = rs.flatten.map .str
  | [] => rfl
  | r :: rs => by
    rw [List.map_cons, List.flatMap_cons, els_rows rs, List.flatten_cons, List.map_append]
    rfl
theorem e_joined_rows (rs : Rows) (hs : ShortR rs) (hl : rs.length < 1000) (hf : rs.flatten.length < 1000000) : m_joined_rows .n [rwsD rs] = outOf (daysFault rs) (.ob true (.l (rs.flatten.map .str))) := by
  refine mk_n ?_
  simp [env0, sl0, e_check_day_rows rs hs hl]
  cases daysFault rs with
  | some e => rfl
  | none =>
    simp [outOf]
    refine wp_lc2 elsD (by rfl) ?_ ?_ ?_
    · rw [els_rows, List.length_map]
      exact hf
    · intro d hd
      obtain ⟨r, hr, rfl⟩ := List.mem_map.mp hd
      simp [wipeR]
      refine ⟨rfl, fun e he => ?_⟩
      unfold Turn1
      simp [wipeR]
    · rw [els_rows]
      simp [restR, wipeR]
def cellsO (rs : Rows) : FOut := match daysFault rs with
  | some e => if e.cls = ("TooLarge" : Str) then .err e none else .ok (.ob true (.l [])) none
  | none => if inS "?" rs.flatten = true then .ok (.ob true (.l [])) none else .ok (.fz (.list (rs.flatten.map .str))) none
theorem days_cls {rs : Rows} {e : Exn} (h : daysFault rs = some e) : (e.cls = ("TooLarge" : Str) ∧ isqOf isl "Malformed" e.cls = some false) ∨ (e.cls ≠ ("TooLarge" : Str) ∧ isqOf isl "Malformed" e.cls = some true) := by
  unfold daysFault at h
  split at h
  · cases h
    exact .inl ⟨rfl, tl_cls⟩
  · split at h
    · cases h
      exact .inl ⟨rfl, tl_cls⟩
    · split at h
      · cases h
        exact .inl ⟨rfl, tl_cls⟩
      · split at h
        · cases h
        · cases h
          exact .inr ⟨by show ("Malformed" : Str) ≠ "TooLarge"; decide +kernel, mf_cls⟩
theorem e_cells_of_rows (rs : Rows) (hs : ShortR rs) (hl : rs.length < 1000) (hf : rs.flatten.length < 1000000) : m_cells_of_rows .n [rwsD rs] = cellsO rs := by
  have z := e_joined_rows rs hs hl hf
  unfold cellsO
  generalize rs.flatten = cs at z ⊢
  refine mk_n ?_
  simp [env0, sl0, z]
  cases q : daysFault rs with
  | some e =>
    rcases days_cls q with ⟨h1, h2⟩ | ⟨h1, h2⟩
    · dsimp only
      rw [if_pos h1]
      simp [outOf, tryE_n h2]
    · dsimp only
      rw [if_neg h1]
      simp [outOf, tryE_y h2]
  | none =>
    simp [outOf]
/-! bounds -/
abbrev Bd := Str × Int × Int × Int
abbrev bdD (b : Bd) : PyData := .tuple [.str b.1, .int b.2.1, .int b.2.2.1, .int b.2.2.2]
def highF : List Bd → Option Exn
  | [] => none
  | b :: r => if b.2.2.2 < b.2.1 then some (tooLarge b.1 b.2.2.2) else highF r
def lowF : List Bd → Option Exn
  | [] => none
  | b :: r => if b.2.1 < b.2.2.1 then some (malformed b.1) else lowF r
theorem high_cons {b : Bd} {r : List Bd} : highF (b :: r) = if b.2.2.2 < b.2.1 then some (tooLarge b.1 b.2.2.2) else highF r := rfl
theorem low_cons {b : Bd} {r : List Bd} : lowF (b :: r) = if b.2.1 < b.2.2.1 then some (malformed b.1) else lowF r := rfl
def I_bd (F : List Bd → Option Exn) (bs cs : List Bd) (ρ : Rho) : Prop := F bs = F cs ∧ ∃ d a b c e, ρ = [d, a, b, c, e]
theorem e_ask_high (bs : List Bd) : m_ask_high .n [.list (bs.map bdD)] = outOf (highF bs) (.fz .none) := by
  refine mk_n ?_
  simp [env0, sl0]
  refine wp_loopT bdD (I_bd highF bs) ⟨rfl, _, _, _, _, _, rfl⟩ ?_ ?_
  · rintro x xs ρ ⟨h, d, a, b, c, e, rfl⟩
    simp [e_is_number]
    rw [high_cons] at h
    by_cases k : x.2.2.2 < x.2.1
    · rw [if_pos k] at h
      rw [if_pos k, h]
      rfl
    · rw [if_neg k] at h
      rw [if_neg k]
      exact ⟨h, _, _, _, _, _, rfl⟩
  · rintro ρ ⟨h, _⟩
    rw [h]
    rfl
theorem e_ask_low (bs : List Bd) : m_ask_low .n [.list (bs.map bdD)] = outOf (lowF bs) (.fz .none) := by
  refine mk_n ?_
  simp [env0, sl0]
  refine wp_loopT bdD (I_bd lowF bs) ⟨rfl, _, _, _, _, _, rfl⟩ ?_ ?_
  · rintro x xs ρ ⟨h, d, a, b, c, e, rfl⟩
    simp [e_is_number]
    rw [low_cons] at h
    by_cases k : x.2.1 < x.2.2.1
    · rw [if_pos k] at h
      rw [if_pos k, h]
      rfl
    · rw [if_neg k] at h
      rw [if_neg k]
      exact ⟨h, _, _, _, _, _, rfl⟩
  · rintro ρ ⟨h, _⟩
    rw [h]
    rfl
end K90
set_option Elab.async false
set_option linter.all false
set_option maxRecDepth 100000
set_option maxHeartbeats 1000000
namespace K90
open PySem PySem.Spec PyProof.Rows Dv
/-! near marks -/
/-- the first place of x in l -/
def idx (x : Str) : List Str → Option Nat
  | [] => none
  | c :: cs => if c = x then some 0 else (idx x cs).map (· + 1)
theorem idx_cons {x c : Str} {cs : List Str} : idx x (c :: cs) = if c = x then some 0 else (idx x cs).map (· + 1) := rfl
/-- the first mark at k or later that stands again within a -/
def nearF (a : Nat) : Nat → List Str → Option (Nat × Nat)
  | _, [] => none
  | k, c :: cs => if c = "." then nearF a (k + 1) cs else match idx c cs with
    | some j => if j + 1 < a then some (k, k + 1 + j) else nearF a (k + 1) cs
    | none => nearF a (k + 1) cs
theorem near_cons {a k : Nat} {c : Str} {cs : List Str} : nearF a k (c :: cs) = if c = "." then nearF a (k + 1) cs else match idx c cs with
    | some j => if j + 1 < a then some (k, k + 1 + j) else nearF a (k + 1) cs
    | none => nearF a (k + 1) cs := rfl
def pairD : Option (Nat × Nat) → PyData
  | none => .tuple []
  | some p => .tuple [.int (p.1 : Int), .int (p.2 : Int)]
/-- m tells where each mark stands next -/
def NextD (m : Ty) (k : Nat) (cs : List Str) : Prop := m.length ≤ cs.length ∧ ∀ x, lkT m x = if x = "." then none else (idx x cs).map fun j => ((k + j : Nat) : Int)
def I_near (cells : List Str) (a : Int) (bs : List Nat) (ρ : Rho) : Prop := ∃ n m o1 o2 o3, ρ = [some (.fz (rw_ cells)), some (.fz (.int a)), some (.fz (pairD (nearF a.toNat n (cells.drop n)))), some (.ob true (.d (m.map kvD))), o1, o2, o3] ∧ n ≤ cells.length ∧ NextD m n (cells.drop n) ∧ bs = List.range' (cells.length - n + 1) n
theorem nextD_nil {k : Nat} : NextD [] k [] := ⟨Nat.le_refl _, fun x => by
  unfold lkT idx
  by_cases h : x = "."
  · rw [if_pos h]
    rfl
  · rw [if_neg h]
    rfl⟩
theorem nextD_dot {m : Ty} {k : Nat} {cs : List Str} {c : Str} (h : NextD m (k + 1) cs) (e : c = ".") : NextD m k (c :: cs) := by
  refine ⟨by rw [List.length_cons]; have := h.1; omega, fun x => ?_⟩
  rw [h.2 x]
  by_cases hx : x = "."
  · rw [if_pos hx, if_pos hx]
  · rw [if_neg hx, if_neg hx, idx_cons, if_neg (by rw [e]; exact fun z => hx z.symm), Option.map_map]
    cases idx x cs with
    | none => rfl
    | some j =>
      simp
      omega
theorem nextD_put {m : Ty} {k : Nat} {cs : List Str} {c : Str} (h : NextD m (k + 1) cs) (e : c ≠ ".") : NextD (putT m c (k : Int)) k (c :: cs) := by
  refine ⟨by rw [List.length_cons]; have := h.1; have := putT_len (m := m) (x := c) (n := (k : Int)); omega, fun x => ?_⟩
  rw [lkT_put, h.2 x, idx_cons]
  by_cases hx : c = x
  · rw [if_pos hx, if_pos hx, if_neg (by rw [← hx]; exact e)]
    rfl
  · rw [if_neg hx, if_neg hx]
    by_cases hd : x = "."
    · rw [if_pos hd, if_pos hd]
    · rw [if_neg hd, if_neg hd, Option.map_map]
      cases idx x cs with
      | none => rfl
      | some j =>
        simp
        omega
theorem e_near_pair (cells : List Str) (a : Int) (hs : Short cells) (ha : 0 ≤ a) (hl : cells.length < 1000) : m_near_pair .n [rw_ cells, .int a] = .ok (.fz (pairD (nearF a.toNat 0 cells))) none := by
  refine mk_n ?_
  simp [env0, sl0]
  refine ⟨rngB2_of (by omega), ?_⟩
  rw [rngD_1]
  refine wp_loopT natD (I_near cells a) ⟨cells.length, [], none, none, none, ?_⟩ ?_ ?_
  · rw [List.drop_length]
    exact ⟨rfl, Nat.le_refl _, nextD_nil, by rw [Nat.sub_self]⟩
  · rintro b bs ρ ⟨n, m, o1, o2, o3, rfl, hn, hx, hb⟩
    cases n with
    | zero => cases hb
    | succ n =>
      rw [List.range'_succ] at hb
      injection hb with hb1 hb2
      have hn2 : n < cells.length := by omega
      have hc : cells[n]? = some cells[n] := List.getElem?_eq_getElem hn2
      generalize cells[n] = c at hc
      have hd : cells.drop n = c :: cells.drop (n + 1) := by
        rw [List.drop_eq_getElem?_toList_append, hc]
        rfl
      have hat : L2.atI (List.map PyData.str cells) ((n : Nat) : Int) = some (.str c) := by
        rw [atI_nat', List.getElem?_map, hc]
        rfl
      have hnn : ((cells.length : Int) - (b : Nat)) = ((n : Nat) : Int) := by omega
      simp [hat, hnn]
      have hcs : c = "." ∨ c ≠ "." := by
        by_cases h : c = "."
        · exact .inl h
        · exact .inr h
      rcases hcs with h | h
      · rw [if_pos h]
        refine ⟨n, m, some (.fz (natD b)), some (.fz (.int (n : Nat))), some (.fz (.str c)), ?_, by omega, ?_, ?_⟩
        · rw [hd, near_cons, if_pos h]
        · rw [hd]
          exact nextD_dot hx h
        · rw [hb2]
          congr 1
          omega
      · rw [if_neg h]
        simp [dct, lkD_kv, putD_kv]
        have hk := hx.2 c
        rw [if_neg h] at hk
        have hbs : bs = List.range' (cells.length - n + 1) n := by
          rw [hb2]
          congr 1
          omega
        have hml := hx.1
        rw [List.length_drop] at hml
        have fin : ∀ o, o = nearF a.toNat n (cells.drop n) → I_near cells a bs [some (.fz (rw_ cells)), some (.fz (.int a)), some (.fz (pairD o)), some (.ob true (.d ((putT m c n).map kvD))), some (.fz (natD b)), some (.fz (.int (n : Nat))), some (.fz (.str c))] := by
          intro o e
          subst e
          exact ⟨n, _, _, _, _, rfl, by omega, by rw [hd]; exact nextD_put hx h, hbs⟩
        rw [hd, near_cons, if_neg h] at fin
        cases hi : idx c (cells.drop (n + 1)) with
        | none =>
          rw [hi] at hk fin
          simp [hk]
          exact ⟨by omega, fin _ rfl⟩
        | some j =>
          rw [hi] at hk fin
          dsimp only at fin
          simp [hk]
          by_cases k : j + 1 < a.toNat
          · rw [if_pos (show ((n : Int) + 1 + j - n) < a by omega)]
            rw [if_pos k] at fin
            simp [dct, lkD_kv, putD_kv, hk]
            refine ⟨by omega, ?_⟩
            have z := fin _ rfl
            unfold pairD at z
            simp at z
            exact z
          · rw [if_neg (show ¬ ((n : Int) + 1 + j - n) < a by omega)]
            rw [if_neg k] at fin
            rw [putD_kv]
            exact ⟨by omega, fin _ rfl⟩
  · rintro ρ ⟨n, m, o1, o2, o3, rfl, hn, hx, hb⟩
    cases n with
    | zero => simp
    | succ n => cases hb
/-! judge_days -/
open Classical in
/-- what a row counts -/
noncomputable def cOf (r : List Str) : Ty := if h : ∃ t, CountOf t r then h.choose else []
theorem cOf_eq {t : Ty} {r : List Str} (h : CountOf t r) : cOf r = t := by
  have e : ∃ t, CountOf t r := ⟨t, h⟩
  unfold cOf
  rw [dif_pos e]
  exact count_uniq e.choose_spec h
noncomputable def numF (t : Ty) (n0 : Nat) : Nat → Rows → Option Nat
  | _, [] => none
  | k, r :: rs => if r.length ≠ n0 ∨ cOf r ≠ t then some k else numF t n0 (k + 1) rs
theorem num_cons {t : Ty} {n0 k : Nat} {r : List Str} {rs : Rows} : numF t n0 k (r :: rs) = if r.length ≠ n0 ∨ cOf r ≠ t then some k else numF t n0 (k + 1) rs := rfl
def clashD : Option (Nat × Nat) → PyData
  | none => .tuple []
  | some p => .tuple [.str "clash", .int (p.1 : Int), .int (p.2 : Int)]
def headLen (rs : Rows) : Nat := match rs with
  | [] => 0
  | r :: _ => r.length
noncomputable def faultD (rs : Rows) (t : Ty) (a : Int) : PyData := match numF t (headLen rs) 0 rs with
  | some d => .tuple [.str "numbers", .int (d : Int)]
  | none => clashD (nearF a.toNat 0 rs.flatten)
def cellsX (rs : Rows) : Except Exn (List Str) := match daysFault rs with
  | some e => if e.cls = ("TooLarge" : Str) then .error e else .ok []
  | none => .ok (if inS "?" rs.flatten = true then [] else rs.flatten)
def judge2 (cs : List Str) (t : Ty) (a : Int) : Option Exn := match largeT t with
  | some e => some e
  | none => if 1000 < a then some (tooLarge "apart" 1000) else if cs = [] then some (malformed "rows") else if wrongT "" t = true then some (malformed "tally") else if a < 1 then some (malformed "apart") else none
def judgeErr (rs : Rows) (t : Ty) (a : Int) : Option Exn := match cellsX rs with
  | .error e => some e
  | .ok cs => judge2 cs t a
theorem cellsO_X (rs : Rows) : (∃ e, cellsX rs = .error e ∧ cellsO rs = .err e none) ∨ ∃ cs w, cellsX rs = .ok cs ∧ cellsO rs = .ok w none ∧ (w = .ob true (.l (cs.map .str)) ∨ w = .fz (.list (cs.map .str))) := by
  unfold cellsX cellsO
  cases daysFault rs with
  | some e =>
    dsimp only
    by_cases h : e.cls = ("TooLarge" : Str)
    · rw [if_pos h, if_pos h]
      exact .inl ⟨e, rfl, rfl⟩
    · rw [if_neg h, if_neg h]
      exact .inr ⟨[], _, rfl, rfl, .inl rfl⟩
  | none =>
    dsimp only
    cases inS "?" rs.flatten with
    | true => exact .inr ⟨[], _, rfl, rfl, .inl rfl⟩
    | false => exact .inr ⟨_, _, rfl, rfl, .inr rfl⟩
theorem bound1 (a : Int) : highF [("apart", a, 1, 1000)] = if 1000 < a then some (tooLarge "apart" 1000) else none := rfl
theorem bound2 (a : Int) : lowF [("apart", a, 1, 1000)] = if a < 1 then some (malformed "apart") else none := rfl
theorem e_judge_err (rs : Rows) (t : Ty) (a : Int) (e : Exn) (hs : ShortR rs) (ht : ShortT t) (hl : rs.length < 1000) (hf : rs.flatten.length < 1000000) (h : judgeErr rs t a = some e) : m_judge_days .n [rwsD rs, tlD t, .int a] = .err e none := by
  have hh := e_ask_high [("apart", a, 1, 1000)]
  have hw := e_ask_low [("apart", a, 1, 1000)]
  rw [bound1] at hh
  rw [bound2] at hw
  simp only [List.map_cons, List.map_nil] at hh hw
  refine mk_n ?_
  simp [env0, sl0, e_cells_of_rows rs hs hl hf]
  unfold judgeErr at h
  rcases cellsO_X rs with ⟨e', h1, h2⟩ | ⟨cs, w, h1, h2, h3⟩
  · rw [h1] at h
    cases h
    rw [h2]
    rfl
  · rw [h1] at h
    rw [h2]
    dsimp only at h
    unfold judge2 at h
    simp [e_right_tally t ht]
    unfold rightO
    cases q : largeT t with
    | some e' =>
      rw [q] at h
      cases h
      rfl
    | none =>
      rw [q] at h
      dsimp only at h
      simp [hh]
      by_cases k1 : 1000 < a
      · rw [if_pos k1] at h
        cases h
        simp [k1, outOf]
      · rw [if_neg k1] at h
        simp [k1, outOf]
        have h4 : cs = [] ∨ cs ≠ [] := by
          cases cs with
          | nil => exact .inl rfl
          | cons _ _ => exact .inr (by simp)
        rcases h4 with k2 | k2
        · rw [if_pos k2] at h
          cases h
          subst k2
          rcases h3 with rfl | rfl <;> simp [malformed]
        · rw [if_neg k2] at h
          cases k3 : wrongT "" t with
          | true =>
            rw [if_pos k3] at h
            cases h
            rcases h3 with rfl | rfl <;> simp [malformed, k2]
          | false =>
            rw [if_neg (by rw [k3]; simp)] at h
            by_cases k4 : a < 1
            · rw [if_pos k4] at h
              cases h
              rcases h3 with rfl | rfl <;> simp [malformed, k2, hw, outOf, k4]
            · rw [if_neg k4] at h
              cases h
/-- rows that are fit to be judged -/
def FitRows (rs : Rows) : Prop := ∀ r ∈ rs, rowFault r dots = none
theorem fit_of {rs : Rows} (h : daysFault rs = none) : FitRows rs := by
  unfold daysFault at h
  split at h
  · cases h
  · split at h
    · cases h
    · rename_i k
      split at h
      · cases h
      · split at h
        · rename_i g
          intro r hr
          unfold allGood at g
          obtain ⟨g, _⟩ := Bool.and_eq_true_iff.mp g
          have gr := List.all_eq_true.mp g r hr
          unfold goodRow at gr
          obtain ⟨g1, g2⟩ := Bool.and_eq_true_iff.mp gr
          have g1 := of_decide_eq_true g1
          have k2 : ¬ 240 < r.length := fun z => k (List.any_eq_true.mpr ⟨r, hr, decide_eq_true z⟩)
          unfold rowFault
          rw [if_neg k2, if_neg g1, if_pos]
          unfold okRow at g2 ⊢
          refine List.all_eq_true.mpr fun c hc => ?_
          have z := List.all_eq_true.mp g2 c hc
          unfold okCell at z ⊢
          rw [Bool.or_eq_true] at z ⊢
          refine z.imp (fun y => ?_) id
          rw [inS_iff] at y ⊢
          unfold beg at y
          unfold dots
          simp at y ⊢
          rcases y with y | y
          · exact .inl y
          · exact .inr (.inl y)
        · cases h
def enT {γ : Type} : Nat → List γ → List (Nat × γ)
  | _, [] => []
  | k, x :: xs => (k, x) :: enT (k + 1) xs
theorem enD_typed {γ : Type} (f : γ → PyData) (xs : List γ) : enD (xs.map f) = (enT 0 xs).map fun p => .tuple [.int (p.1 : Nat), f p.2] := by
  have key : ∀ (xs : List γ) (k : Nat), (List.range' k xs.length).zipWith (fun (k : Nat) d => PyData.tuple [.int k, d]) (xs.map f) = (enT k xs).map fun p => .tuple [.int (p.1 : Nat), f p.2] := by
    intro xs
    induction xs with
    | nil => intro k; rfl
    | cons x xs ih =>
      intro k
      rw [List.length_cons, List.range'_succ, List.map_cons, List.zipWith_cons_cons, ih (k + 1)]
      rfl
  unfold enD
  rw [List.length_map, List.range_eq_range', key]
noncomputable def numE (t : Ty) (n0 : Nat) : List (Nat × List Str) → Option Nat
  | [] => none
  | p :: ps => if p.2.length ≠ n0 ∨ cOf p.2 ≠ t then some p.1 else numE t n0 ps
theorem numE_cons {t : Ty} {n0 : Nat} {p : Nat × List Str} {ps : List (Nat × List Str)} : numE t n0 (p :: ps) = if p.2.length ≠ n0 ∨ cOf p.2 ≠ t then some p.1 else numE t n0 ps := rfl
theorem numE_eq {t : Ty} {n0 : Nat} : ∀ (rs : Rows) (k : Nat), numE t n0 (enT k rs) = numF t n0 k rs
  | [], _ => rfl
  | r :: rs, k => by
    show numE t n0 ((k, r) :: enT (k + 1) rs) = _
    rw [numE_cons, num_cons, numE_eq rs (k + 1)]
abbrev enrD (p : Nat × List Str) : PyData := .tuple [.int (p.1 : Nat), rw_ p.2]
def I_days (rs : Rows) (t : Ty) (a : Int) (cs : List Str) (n0 : Nat) (ps : List (Nat × List Str)) (ρ : Rho) : Prop := numE t n0 (enT 0 rs) = numE t n0 ps ∧ (∀ p ∈ ps, p.2 ∈ rs) ∧ ∃ x3 x5 x6 x7 x8, ρ = [some (.fz (rwsD rs)), some (.fz (tlD t)), some (.fz (.int a)), x3, some (.fz (rw_ cs)), x5, x6, x7, x8]
theorem e_count (r : List Str) (hs : Short r) (hf : rowFault r dots = none) : m_count_row .n [rw_ r] = .ok (.ob true (.l ((cOf r).map prD))) none := by
  obtain ⟨t, h1, h2⟩ := e_count_row r hs hf
  rw [h1, cOf_eq h2]
structure Fit (rs : Rows) (t : Ty) (a : Int) : Prop where
  days : daysFault rs = none
  open_ : inS "?" rs.flatten = false
  large : largeT t = none
  high : ¬ 1000 < a
  some_ : rs.flatten ≠ []
  wrong : wrongT "" t = false
  low : ¬ a < 1
theorem judge_none {rs : Rows} {t : Ty} {a : Int} (h : judgeErr rs t a = none) : Fit rs t a := by
  unfold judgeErr at h
  cases h1 : cellsX rs with
  | error e =>
    rw [h1] at h
    cases h
  | ok cs =>
    rw [h1] at h
    dsimp only at h
    unfold judge2 at h
    cases q : largeT t with
    | some e =>
      rw [q] at h
      cases h
    | none =>
      rw [q] at h
      dsimp only at h
      split at h
      · cases h
      · rename_i k1
        split at h
        · cases h
        · rename_i k2
          split at h
          · cases h
          · rename_i k3
            split at h
            · cases h
            · rename_i k4
              have k3 : wrongT "" t = false := by simpa using k3
              unfold cellsX at h1
              cases q2 : daysFault rs with
              | some e =>
                rw [q2] at h1
                dsimp only at h1
                split at h1
                · cases h1
                · cases h1
                  exact absurd rfl k2
              | none =>
                rw [q2] at h1
                dsimp only at h1
                split at h1
                · cases h1
                  exact absurd rfl k2
                · rename_i k5
                  cases h1
                  exact ⟨q2, by simpa using k5, q, k1, k2, k3, k4⟩
theorem e_judge_ok (rs : Rows) (t : Ty) (a : Int) (hs : ShortR rs) (ht : ShortT t) (hl : rs.length < 1000) (hf : rs.flatten.length < 1000) (h : Fit rs t a) : m_judge_days .n [rwsD rs, tlD t, .int a] = .ok (.fz (faultD rs t a)) none := by
  have hh := e_ask_high [("apart", a, 1, 1000)]
  have hw := e_ask_low [("apart", a, 1, 1000)]
  rw [bound1, if_neg h.high] at hh
  rw [bound2, if_neg h.low] at hw
  simp only [List.map_cons, List.map_nil] at hh hw
  have hc := e_cells_of_rows rs hs hl (by omega)
  unfold cellsO at hc
  rw [h.days, h.open_] at hc
  dsimp only at hc
  rw [if_neg Bool.false_ne_true] at hc
  have hr := e_right_tally t ht
  unfold rightO at hr
  rw [h.large, h.wrong] at hr
  have hfit := fit_of h.days
  have hshort : Short rs.flatten := fun c hc => by
    obtain ⟨r, h1, h2⟩ := List.mem_flatten.mp hc
    exact hs r h1 c h2
  have hne := h.some_
  have h0 : ∃ r0 rs0, rs = r0 :: rs0 := by
    cases rs with
    | nil => exact absurd rfl hne
    | cons r0 rs0 => exact ⟨r0, rs0, rfl⟩
  have hnear := e_near_pair rs.flatten a hshort (by have := h.low; omega) hf
  unfold faultD
  rw [← numE_eq]
  generalize hcs : rs.flatten = cs at hc hnear hne
  refine mk_n ?_
  simp [env0, sl0, hc, hr, hh, hw, outOf, hne]
  rw [enD_typed]
  have hat : ∀ r0 rs0, rs = r0 :: rs0 → L2.atI (List.map rw_ rs) 0 = some (rw_ r0) := by
    intro r0 rs0 e
    subst e
    exact atI_0
  obtain ⟨r0, rs0, e0⟩ := h0
  have hat := hat r0 rs0 e0
  have hn0 : headLen rs = r0.length := by rw [e0]; rfl
  refine wp_loopT enrD (I_days rs t a cs (headLen rs)) ?_ ?_ ?_
  · refine ⟨rfl, fun p hp => ?_, _, _, _, _, _, rfl⟩
    have key : ∀ (xs : Rows) (k : Nat) (p : Nat × List Str), p ∈ enT k xs → p.2 ∈ xs := by
      intro xs
      induction xs with
      | nil => intro k p hp; cases hp
      | cons x xs ih =>
        intro k p hp
        rcases List.mem_cons.mp hp with rfl | hp
        · exact List.mem_cons_self
        · exact List.mem_cons_of_mem _ (ih _ _ hp)
    exact key rs 0 p hp
  · rintro p ps ρ ⟨h1, h2, x3, x5, x6, x7, x8, rfl⟩
    have hp := h2 p List.mem_cons_self
    have h2' : ∀ q ∈ ps, q.2 ∈ rs := fun q hq => h2 q (List.mem_cons_of_mem _ hq)
    rw [numE_cons] at h1
    simp [hat, e_count p.2 (hs _ hp) (hfit _ hp)]
    rw [hn0] at h1 ⊢
    by_cases k1 : p.2.length = r0.length
    · rw [if_pos (by omega)]
      by_cases k2 : cOf p.2 = t
      · rw [if_pos k2]
        rw [if_neg (by simp [k1, k2])] at h1
        exact ⟨h1, h2', _, _, _, _, _, rfl⟩
      · rw [if_neg k2, h1, if_pos (.inr k2)]
    · rw [if_neg (by omega), h1, if_pos (.inl k1)]
  · rintro ρ ⟨h1, h2, x3, x5, x6, x7, x8, rfl⟩
    rw [h1]
    simp [hnear]
    cases nearF a.toNat 0 cs with
    | none => simp [pairD, wq_ne, eqv_tuple, PyData.eqvAll, PyData.depth, PyData.depthAll, numE, clashD]
    | some p => simp [pairD, wq_ne, eqv_tuple, PyData.eqvAll, PyData.depth, PyData.depthAll, numE, clashD]
end K90
set_option Elab.async false
set_option linter.all false
set_option maxRecDepth 100000
set_option maxHeartbeats 1000000
namespace K90
open PySem PySem.Spec PyProof.Rows Dv
def above (t : Ty) (k : Int) : Ty := t.filter fun p => decide (k < p.2)
theorem fm_filter {γ : Type} {p : γ → Bool} {g : γ → PyData} : ∀ xs : List γ, (xs.filterMap fun x => if p x = true then some (g x) else none) = (xs.filter p).map g
  | [] => rfl
  | x :: xs => by
    rw [List.filterMap_cons, List.filter_cons]
    by_cases h : p x = true
    · rw [if_pos h, if_pos h, List.map_cons, fm_filter xs]
    · rw [if_neg h, if_neg h, fm_filter xs]
theorem e_marks_above (t : Ty) (k : Int) (hl : t.length < 1000) : m_marks_above .n [tlD t, .int k] = .ok (.ob true (.l ((above t k).map fun p => .str p.1))) none := by
  refine mk_n ?_
  simp [env0, sl0, wp_lcO]
  refine wp_lcT prD (fun p => if decide (k < p.2) = true then some (.str p.1) else none) (by rfl) (by omega) (fun p hp => ?_) ?_
  · unfold Turn1
    simp [wipeR]
  · rw [fm_filter]
    simp [restR, wipeR, above]
def wideN (n k d : Int) : Int := if d = 0 then 0 else max 0 (k - d * (k - n % k))
theorem e_wide_at (n k d : Int) (hk : 0 < k) (hd : -1000 ≤ d ∧ d ≤ 1000) : m_wide_at .n [.int n, .int k, .int d] = .ok (.fz (.int (wideN n k d))) none := by
  refine mk_n ?_
  simp [env0, sl0, hk]
  unfold wideN
  by_cases h : d = 0
  · simp [h]
  · simp [h]
    refine ⟨mulB_l (by omega), ?_⟩
    generalize d * (k - n % k) = z
    split <;> omega
def mostOf (t : Ty) : Int := (maxI (t.map (·.2))).getD 0
def tallN (t : Ty) (n k : Int) : Int := ((above t (n / k)).length : Int)
def paperOk (t : Ty) (n k d : Int) : Bool := decide (mostOf t ≤ n / k + 1) && decide (tallN t n k ≤ wideN n k d)
theorem ints_snd (t : Ty) : intsD (t.map fun p => PyData.int p.2) = some (t.map (·.2)) := ints_typed (fun p : Str × Int => PyData.int p.2) (·.2) (fun _ => rfl) t
theorem e_paper_of (t : Ty) (n k d : Int) (hl : t.length < 1000) (hk : 0 < k ∧ k ≤ 1000) (hd : 0 ≤ d ∧ d ≤ 1000) : ∃ p, m_paper_of .n [tlD t, .int n, .int k, .int d] = .ok (.fz (.tuple p)) none ∧ p.isEmpty = paperOk t n k d := by
  have z : fout (m_paper_of .n [tlD t, .int n, .int k, .int d]) (fun w c => c = none ∧ ∃ p, w = .fz (.tuple p) ∧ p.isEmpty = paperOk t n k d) (fun _ _ => False) := by
    refine mk_x ?_
    simp [env0, sl0, wp_lcO]
    refine ⟨by omega, ?_⟩
    refine wp_lcT prD (fun p => some (.int p.2)) (by rfl) (by omega) (fun p hp => ?_) ?_
    · unfold Turn1
      simp [wipeR]
    · rw [fm_some]
      simp [restR, wipeR, wp_maxDM, ints_snd]
      rw [show (maxI (t.map (·.2))).getD 0 = mostOf t from rfl]
      by_cases h1 : n / k + 1 < mostOf t
      · have h2 : paperOk t n k d = false := by
          unfold paperOk
          rw [decide_eq_false (by omega)]
          rfl
        simp [h1, e_marks_above t _ hl, h2]
        exact ⟨rfl, _, rfl, by simp⟩
      · have h2 : paperOk t n k d = decide (tallN t n k ≤ wideN n k d) := by
          unfold paperOk
          rw [decide_eq_true (by omega)]
          rfl
        simp [h1, e_marks_above t _ hl, e_wide_at n k d hk.1 (by omega), h2]
        by_cases h3 : wideN n k d < ((above t (n / k)).length : Int)
        · rw [if_pos h3]
          exact ⟨rfl, _, rfl, (decide_eq_false (show ¬ tallN t n k ≤ wideN n k d by unfold tallN; omega)).symm⟩
        · rw [if_neg h3]
          exact ⟨rfl, _, rfl, (decide_eq_true (show tallN t n k ≤ wideN n k d by unfold tallN; omega)).symm⟩
  obtain ⟨w, c, e, rfl, p, rfl, h⟩ := fout_ok z
  exact ⟨p, e, h⟩
structure GoodT (t : Ty) (n : Int) : Prop where
  short : ShortT t
  large : largeT t = none
  wrong : wrongT "" t = false
  total : (t.map (·.2)).sum ≤ n
theorem good_len {t : Ty} {n : Int} (h : GoodT t n) : t.length ≤ 60 := by
  have h := h.large
  unfold largeT at h
  split at h
  · cases h
  · omega
def bds (n k d : Int) : List Bd := [("slots", n, 1, 240), ("apart", k, 1, 1000), ("days", d, 0, 12)]
theorem e_ask_tally (t : Ty) (n k d : Int) (h : GoodT t n) (hn : 1 ≤ n ∧ n ≤ 240) (hk : 1 ≤ k ∧ k ≤ 1000) (hd : 0 ≤ d ∧ d ≤ 12) : m_ask_tally .n [tlD t, .int n, .int k, .int d, .int 0, .bool false] = .ok (.fz .none) none := by
  have hl := good_len h
  have hb : m_day_bounds .n [.int n, .int k, .int d, .int 0] = .ok (.ob true (.l ((bds n k d).map bdD))) none := by
    refine mk_n ?_
    simp [env0, sl0, bds]
  have hh := e_ask_high (bds n k d)
  have hw := e_ask_low (bds n k d)
  have hh2 : highF (bds n k d) = none := by
    unfold bds
    rw [high_cons, if_neg (by dsimp only; omega), high_cons, if_neg (by dsimp only; omega), high_cons, if_neg (by dsimp only; omega)]
    rfl
  have hw2 : lowF (bds n k d) = none := by
    unfold bds
    rw [low_cons, if_neg (by dsimp only; omega), low_cons, if_neg (by dsimp only; omega), low_cons, if_neg (by dsimp only; omega)]
    rfl
  have hr := e_right_tally t h.short
  unfold rightO at hr
  rw [h.large, h.wrong] at hr
  rw [hh2] at hh
  rw [hw2] at hw
  generalize (bds n k d).map bdD = bs at hb hh hw
  refine mk_n ?_
  simp [env0, sl0, hb, hr, hh, hw, outOf, wp_lcO]
  refine wp_lcT prD (fun p => some (.int p.2)) (by rfl) (by omega) (fun p hp => ?_) ?_
  · unfold Turn1
    simp [wipeR]
  · have ht := h.total
    rw [fm_some]
    simp [restR, wipeR, ints_snd]
    omega
def fitsC (t : Ty) (n k d : Int) : Bool := if d = 0 then decide (above t (n / k) = []) else paperOk t n k d
theorem e_fits_days (t : Ty) (n k d : Int) (h : GoodT t n) (hn : 1 ≤ n ∧ n ≤ 240) (hk : 1 ≤ k ∧ k ≤ 1000) (hd : 0 ≤ d ∧ d ≤ 12) : m_fits_days .n [tlD t, .int n, .int k, .int d] = .ok (.fz (.bool (fitsC t n k d))) none := by
  have hl := good_len h
  obtain ⟨p, hp1, hp2⟩ := e_paper_of t n k d (by omega) (by omega) (by omega)
  refine mk_n ?_
  unfold fitsC
  simp [env0, sl0, gD_ask_tally_4_least, e_ask_tally t n k d h hn hk hd, e_marks_above t _ (show t.length < 1000 by omega), hp1]
  by_cases h0 : d = 0
  · simp [h0]
    omega
  · have e1 : PyData.eqvAll p [] = p.isEmpty := by
      cases p with
      | nil => simp [PyData.eqvAll]
      | cons _ _ => simp [PyData.eqvAll]
    simp [h0, wq_eq, eqv_tuple, e1, hp2, PyData.depth, PyData.depthAll]
/-! the law's own measure -/
def alike (t : Ty) (g : Int) : Ty := t.filter fun p => decide (p.2 = g)
def fitsL (t : Ty) (n k d : Int) : Bool := if t = [] then true else if d = 0 then decide (mostOf t * k ≤ n) else decide ((mostOf t * d - 1) * k + ((alike t (mostOf t)).length : Int) ≤ n * d)
theorem maxI_some : ∀ {ns : List Int}, ns ≠ [] → ∃ m, maxI ns = some m ∧ m ∈ ns ∧ ∀ x ∈ ns, x ≤ m
  | [], h => absurd rfl h
  | [i], _ => ⟨i, rfl, by simp, by simp⟩
  | i :: j :: r, _ => by
    obtain ⟨m, h1, h2, h3⟩ := maxI_some (ns := j :: r) (by simp)
    unfold maxI
    rw [h1]
    dsimp only
    by_cases h : i < m
    · rw [if_pos h]
      refine ⟨m, rfl, List.mem_cons_of_mem _ h2, fun x hx => ?_⟩
      rcases List.mem_cons.mp hx with rfl | hx
      · omega
      · exact h3 x hx
    · rw [if_neg h]
      refine ⟨i, rfl, List.mem_cons_self, fun x hx => ?_⟩
      rcases List.mem_cons.mp hx with rfl | hx
      · omega
      · have := h3 x hx
        omega
theorem most_some {t : Ty} (h : t ≠ []) : maxI (t.map (·.2)) = some (mostOf t) ∧ (∃ p ∈ t, p.2 = mostOf t) ∧ ∀ p ∈ t, p.2 ≤ mostOf t := by
  obtain ⟨m, h1, h2, h3⟩ := maxI_some (ns := t.map (·.2)) (by simpa using h)
  have e : mostOf t = m := by
    unfold mostOf
    rw [h1]
    rfl
  rw [e]
  obtain ⟨p, h4, h5⟩ := List.mem_map.mp h2
  exact ⟨h1, ⟨p, h4, h5⟩, fun p hp => h3 _ (List.mem_map_of_mem hp)⟩
theorem e_law_fits (t : Ty) (n k d : Int) (hl : t.length < 1000) (hn : 1 ≤ n ∧ n ≤ 240) (hk : 1 ≤ k ∧ k ≤ 1000) (hd : 0 ≤ d ∧ d ≤ 12) : m__law_fits .n [tlD t, .int n, .int k, .int d] = .ok (.fz (.bool (fitsL t n k d))) none := by
  refine mk_n ?_
  unfold fitsL
  by_cases h0 : t = []
  · subst h0
    simp [env0, sl0]
  · obtain ⟨h1, h2, h3⟩ := most_some h0
    simp [env0, sl0, h0, wp_lcO]
    refine wp_lcT prD (fun p => some (.int p.2)) (by rfl) (by omega) (fun p hp => ?_) ?_
    · unfold Turn1
      simp [wipeR]
    · rw [fm_some]
      simp [restR, wipeR, ints_snd, h1]
      by_cases hd0 : d = 0
      · simp [hd0]
        exact mulB_r (by omega)
      · simp [hd0, wp_lcO]
        refine wp_lcT prD (fun p => if decide (p.2 = mostOf t) = true then some (prD p) else none) (by rfl) (by omega) (fun p hp => ?_) ?_
        · unfold Turn1
          simp [wipeR]
        · rw [fm_filter]
          simp [restR, wipeR, alike]
          exact ⟨mulB_r (by omega), mulB_r (by omega), mulB_r (by omega), rfl⟩
end K90
set_option Elab.async false
set_option linter.all false
set_option maxRecDepth 100000
set_option maxHeartbeats 1000000
namespace K90
open PySem PySem.Spec PyProof.Rows Dv
/-! fits_days measures as the law does -/
theorem a1 (f top k r d m n : Int) (h : f > top + 1) (hk : 1 ≤ k) (hd : 1 ≤ d) (hm : 1 ≤ m) (hr : r < k) (hn : n = k * top + r) : ¬ ((f * d - 1) * k + m ≤ n * d) := by
  have h1 : 0 ≤ (f - top - 2) * (d * k) := Int.mul_nonneg (by omega) (Int.mul_nonneg (by omega) (by omega))
  have h2 : 0 ≤ (k - 1 - r) * d := Int.mul_nonneg (by omega) (by omega)
  have h3 : 0 ≤ (d - 1) * k := Int.mul_nonneg (by omega) (by omega)
  have e : (f * d - 1) * k + m - n * d = (f - top - 2) * (d * k) + (k - 1 - r) * d + (d - 1) * k + d + m := by
    subst hn
    grind
  intro hc
  omega
theorem a2 (f top k r d m n : Int) (h : f = top + 1) (hn : n = k * top + r) : ((f * d - 1) * k + m ≤ n * d) ↔ m ≤ k - d * (k - r) := by
  subst h hn
  grind
theorem a3 (f top k d m n : Int) (h : f ≤ top) (hk : 1 ≤ k) (hd : 1 ≤ d) (hf : 1 ≤ f) (hn : k * top ≤ n) (hm : m * f ≤ n) : ((f * d - 1) * k + m ≤ n * d) := by
  have h1 : 0 ≤ (top - f) * k := Int.mul_nonneg (by omega) (by omega)
  have h2 : 0 ≤ (d - 1) * (n - f * k) := Int.mul_nonneg (by omega) (by grind)
  by_cases c : m ≤ k
  · grind
  · have h3 : 0 ≤ (m - k) * (f - 1) := Int.mul_nonneg (by omega) (by omega)
    grind
theorem wrong_pos : ∀ {b : Str} {t : Ty}, wrongT b t = false → (∀ p ∈ t, isMark p.1 = true ∧ 1 ≤ p.2) ∧ (∀ p ∈ t, sLt b p.1 = true) ∧ Rise t
  | _, [], _ => by
    refine ⟨fun _ h => ?_, fun _ h => ?_, List.Pairwise.nil⟩ <;> cases h
  | b, p :: t, h => by
    rw [wrong_cons] at h
    simp only [Bool.or_eq_false_iff, Bool.not_eq_false', decide_eq_false_iff_not] at h
    obtain ⟨⟨⟨h1, h2⟩, h3⟩, h4⟩ := h
    obtain ⟨i1, i2, i3⟩ := wrong_pos h4
    refine ⟨fun q hq => ?_, fun q hq => ?_, List.pairwise_cons.mpr ⟨i2, i3⟩⟩
    · rcases List.mem_cons.mp hq with rfl | hq
      · exact ⟨h1, by omega⟩
      · exact i1 q hq
    · rcases List.mem_cons.mp hq with rfl | hq
      · exact h2
      · exact sLt_tr h2 (i2 q hq)
theorem alike_cons {p : Str × Int} {t : Ty} {g : Int} : alike (p :: t) g = if p.2 = g then p :: alike t g else alike t g := by
  unfold alike
  rw [List.filter_cons]
  by_cases h : p.2 = g
  · rw [if_pos h, if_pos (decide_eq_true h)]
  · rw [if_neg h, if_neg (by simpa using h)]
theorem sum_alike {g : Int} : ∀ {t : Ty}, (∀ p ∈ t, 1 ≤ p.2) → ((alike t g).length : Int) * g ≤ (t.map (·.2)).sum
  | [], _ => by simp [alike]
  | p :: t, h => by
    have ih := sum_alike (g := g) (t := t) fun q hq => h q (List.mem_cons_of_mem _ hq)
    have hp := h p List.mem_cons_self
    rw [alike_cons, List.map_cons, List.sum_cons]
    by_cases e : p.2 = g
    · rw [if_pos e, List.length_cons]
      have : (((alike t g).length + 1 : Nat) : Int) * g = ((alike t g).length : Int) * g + g := by
        rw [Int.natCast_add, Int.add_mul]
        simp
      omega
    · rw [if_neg e]
      omega
theorem fits_eq {t : Ty} {n k d : Int} (h : GoodT t n) (hn : 1 ≤ n) (hk : 1 ≤ k) (hd : 0 ≤ d) : fitsC t n k d = fitsL t n k d := by
  have hpos := (wrong_pos h.wrong).1
  unfold fitsC fitsL
  have hdiv : 0 ≤ n / k := Int.ediv_nonneg (by omega) (by omega)
  by_cases h0 : t = []
  · subst h0
    rw [if_pos rfl]
    by_cases hd0 : d = 0
    · rw [if_pos hd0]
      rfl
    · rw [if_neg hd0]
      unfold paperOk mostOf tallN wideN above
      rw [if_neg hd0]
      simp [maxI]
      exact ⟨by omega, decide_eq_true (by omega)⟩
  · obtain ⟨h1, ⟨q, hq, hq2⟩, h3⟩ := most_some h0
    rw [if_neg h0]
    have hf1 : 1 ≤ mostOf t := by
      have := (hpos q hq).2
      omega
    have hm1 : 1 ≤ ((alike t (mostOf t)).length : Int) := by
      have : 0 < (alike t (mostOf t)).length := List.length_pos_of_mem (List.mem_filter.mpr ⟨hq, decide_eq_true hq2⟩)
      omega
    have hsum := sum_alike (g := mostOf t) fun p hp => (hpos p hp).2
    have htot := h.total
    have hmod : n = k * (n / k) + n % k := by
      have := Int.mul_ediv_add_emod n k
      omega
    have hr1 := Int.emod_lt_of_pos n (show 0 < k by omega)
    have hr0 := Int.emod_nonneg n (show k ≠ 0 by omega)
    by_cases hd0 : d = 0
    · rw [if_pos hd0, if_pos hd0]
      refine decide_eq_decide.mpr ?_
      unfold above
      rw [List.filter_eq_nil_iff]
      constructor
      · intro z
        have z := z q hq
        simp only [decide_eq_true_eq] at z
        exact (Int.le_ediv_iff_mul_le (by omega)).mp (by omega)
      · intro z p hp
        have z := (Int.le_ediv_iff_mul_le (show 0 < k by omega)).mpr z
        have := h3 p hp
        simp only [decide_eq_true_eq]
        omega
    · rw [if_neg hd0, if_neg hd0]
      have hd1 : 1 ≤ d := by omega
      unfold paperOk wideN tallN
      rw [if_neg hd0]
      generalize hF : mostOf t = f at *
      generalize n / k = top at *
      generalize n % k = r at *
      rcases Int.lt_trichotomy f (top + 1) with c | c | c
      · have e : above t top = [] := by
          unfold above
          rw [List.filter_eq_nil_iff]
          intro p hp
          have := h3 p hp
          simp only [decide_eq_true_eq]
          omega
        rw [e, decide_eq_true (by omega), decide_eq_true (by simp only [List.length_nil]; omega)]
        symm
        exact decide_eq_true (a3 f top k d _ n (by omega) hk hd1 hf1 (by omega) (by omega))
      · have e : above t top = alike t f := by
          unfold above alike
          refine List.filter_congr fun p hp => ?_
          have := h3 p hp
          exact decide_eq_decide.mpr (by omega)
        rw [e, decide_eq_true (by omega), Bool.true_and]
        refine decide_eq_decide.mpr ?_
        rw [a2 f top k r d _ n c hmod]
        generalize d * (k - r) = z
        omega
      · rw [decide_eq_false (by omega)]
        symm
        exact decide_eq_false (a1 f top k r d _ n (by omega) hk hd1 hm1 hr1 hmod)
end K90
set_option Elab.async false
set_option linter.all false
set_option maxRecDepth 100000
set_option maxHeartbeats 1000000
namespace K90
open PySem PySem.Spec PyProof.Rows Dv
/-! no fault: the tally fits -/
theorem idx_none {x : Str} : ∀ {l : List Str}, idx x l = none ↔ cnt x l = 0
  | [] => by simp [idx, cnt]
  | c :: l => by
    have ih := idx_none (x := x) (l := l)
    rw [idx_cons]
    have e : cnt x (c :: l) = cnt x [c] + cnt x l := cnt_app (a := [c])
    rw [e, cnt_one]
    by_cases h : c = x
    · rw [if_pos h, if_pos h]
      constructor
      · intro z
        cases z
      · intro z
        omega
    · rw [if_neg h, if_neg h, Option.map_eq_none_iff, ih]
      omega
theorem idx_at {x : Str} : ∀ {l : List Str} {j : Nat}, idx x l = some j → l[j]? = some x
  | [], _, h => by cases h
  | c :: l, j, h => by
    rw [idx_cons] at h
    by_cases e : c = x
    · rw [if_pos e] at h
      cases h
      rw [e]
      rfl
    · rw [if_neg e] at h
      obtain ⟨i, h1, rfl⟩ := Option.map_eq_some_iff.mp h
      rw [List.getElem?_cons_succ]
      exact idx_at h1
/-- the last place of x is far -/
theorem far {a : Nat} {x : Str} (hx : x ≠ ".") : ∀ {l : List Str} {k j : Nat}, nearF a k l = none → idx x l = some j → j + (cnt x l - 1) * a + 1 ≤ l.length
  | [], _, _, _, h => by cases h
  | c :: l, k, j, hn, h => by
    have e : cnt x (c :: l) = cnt x [c] + cnt x l := cnt_app (a := [c])
    rw [e, cnt_one]
    rw [near_cons] at hn
    rw [idx_cons] at h
    rw [List.length_cons]
    by_cases hc : c = x
    · rw [if_pos hc] at h
      cases h
      rw [if_pos hc]
      rw [if_neg (by rw [hc]; exact hx)] at hn
      rw [hc] at hn
      cases q : idx x l with
      | none =>
        have := idx_none.mp q
        rw [this]
        simp
      | some j' =>
        rw [q] at hn
        dsimp only at hn
        by_cases k2 : j' + 1 < a
        · rw [if_pos k2] at hn
          cases hn
        · rw [if_neg k2] at hn
          have ih := far hx hn q
          have hp : cnt x l ≠ 0 := fun z => by
            rw [idx_none.mpr z] at q
            cases q
          have : (1 + cnt x l - 1) * a = (cnt x l - 1) * a + a := by
            rw [show 1 + cnt x l - 1 = (cnt x l - 1) + 1 by omega, Nat.add_mul, Nat.one_mul]
          omega
    · rw [if_neg hc] at h
      obtain ⟨j', h1, rfl⟩ := Option.map_eq_some_iff.mp h
      rw [if_neg hc]
      have hn' : nearF a (k + 1) l = none := by
        split at hn
        · exact hn
        · split at hn
          · split at hn
            · cases hn
            · exact hn
          · exact hn
      have ih := far hx hn' h1
      rw [Nat.zero_add]
      omega
theorem nodup_len {γ : Type} [DecidableEq γ] : ∀ {xs l : List γ}, xs.Nodup → (∀ x ∈ xs, x ∈ l) → xs.length ≤ l.length
  | [], _, _, _ => Nat.zero_le _
  | x :: xs, l, hn, hs => by
    obtain ⟨n1, n2⟩ := List.nodup_cons.mp hn
    have hx := hs x List.mem_cons_self
    have ih := nodup_len (xs := xs) (l := l.filter fun y => decide (y ≠ x)) n2 fun y hy => List.mem_filter.mpr ⟨hs y (List.mem_cons_of_mem _ hy), decide_eq_true fun z => n1 (z ▸ hy)⟩
    have lt : (l.filter fun y => decide (y ≠ x)).length < l.length := by
      rw [List.length_filter_lt_length_iff_exists]
      exact ⟨x, hx, by simp⟩
    rw [List.length_cons]
    omega
/-- of m marks one begins late -/
theorem late {l : List Str} {xs : List Str} (hn : xs.Nodup) (hs : ∀ x ∈ xs, x ∈ l) (h0 : xs ≠ []) : ∃ x ∈ xs, ∃ j, idx x l = some j ∧ xs.length ≤ j + 1 := by
  by_cases h : ∃ x ∈ xs, ∃ j, idx x l = some j ∧ xs.length ≤ j + 1
  · exact h
  · have z : ∀ x ∈ xs, x ∈ l.take (xs.length - 1) := fun x hx => by
      cases q : idx x l with
      | none =>
        have := cnt_pos.mpr (hs x hx)
        have := idx_none.mp q
        omega
      | some j =>
        have lt : j < xs.length - 1 := by
          have : ¬ xs.length ≤ j + 1 := fun z => h ⟨x, hx, j, q, z⟩
          omega
        have := idx_at q
        have e : (l.take (xs.length - 1))[j]? = some x := by
          rw [List.getElem?_take_of_lt lt]
          exact this
        exact List.mem_of_getElem? e
    have := nodup_len hn z
    rw [List.length_take] at this
    have : 0 < xs.length := List.length_pos_iff.mpr h0
    omega
theorem cnt_flatten {x : Str} {c : Nat} : ∀ {rs : Rows}, (∀ r ∈ rs, cnt x r = c) → cnt x rs.flatten = rs.length * c
  | [], _ => by simp [cnt]
  | r :: rs, h => by
    rw [List.flatten_cons, cnt_app, h r List.mem_cons_self, cnt_flatten fun q hq => h q (List.mem_cons_of_mem _ hq), List.length_cons, Nat.add_mul, Nat.one_mul, Nat.add_comm]
theorem num_none {t : Ty} {n0 : Nat} : ∀ {rs : Rows} {k : Nat}, numF t n0 k rs = none → ∀ r ∈ rs, r.length = n0 ∧ cOf r = t
  | [], _, _, r, hr => by cases hr
  | r :: rs, k, h, q, hq => by
    rw [num_cons] at h
    by_cases c : r.length ≠ n0 ∨ cOf r ≠ t
    · rw [if_pos c] at h
      cases h
    · rw [if_neg c] at h
      rcases List.mem_cons.mp hq with rfl | hq
      · constructor
        · by_cases z : q.length = n0
          · exact z
          · exact absurd (.inl z) c
        · by_cases z : cOf q = t
          · exact z
          · exact absurd (.inr z) c
      · exact num_none h q hq
theorem fits_of_ok {rs : Rows} {t : Ty} {n k : Nat} (hc : ∀ r ∈ rs, CountOf t r ∧ r.length = n) (h0 : rs ≠ []) (hp : ∀ p ∈ t, isMark p.1 = true ∧ 1 ≤ p.2) (hr : Rise t) (hn : nearF k 0 rs.flatten = none) : fitsL t n k rs.length = true := by
  unfold fitsL
  by_cases ht : t = []
  · rw [if_pos ht]
  · rw [if_neg ht]
    have hd : rs.length ≠ 0 := fun z => h0 (List.eq_nil_of_length_eq_zero z)
    rw [if_neg (by omega)]
    obtain ⟨_, ⟨q, hq, hq2⟩, _⟩ := most_some ht
    obtain ⟨f, hf⟩ : ∃ f : Nat, mostOf t = f := ⟨(mostOf t).toNat, by have := (hp q hq).2; omega⟩
    rw [hf] at hq2 ⊢
    have hf1 : 1 ≤ f := by
      have := (hp q hq).2
      omega
    have hxs : ∀ x ∈ (alike t f).map (·.1), isMark x = true ∧ ∀ r ∈ rs, cnt x r = f := fun x hx => by
      obtain ⟨p, h1, rfl⟩ := List.mem_map.mp hx
      obtain ⟨h2, h3⟩ := List.mem_filter.mp h1
      have h3 := of_decide_eq_true h3
      refine ⟨(hp p h2).1, fun r hr => ?_⟩
      obtain ⟨_, _, h4⟩ := ((hc r hr).1.2 p).mp h2
      omega
    have hnd : ((alike t f).map (·.1)).Nodup := by
      unfold alike
      rw [List.nodup_iff_pairwise_ne, List.pairwise_map]
      exact (hr.filter _).imp fun h => sLt_ne h
    obtain ⟨r0, hr0⟩ := List.exists_mem_of_ne_nil rs h0
    obtain ⟨x, hx, j, h1, h2⟩ := late (l := rs.flatten) hnd (fun x hx => by
      have := (hxs x hx).2 r0 hr0
      exact List.mem_flatten.mpr ⟨r0, hr0, cnt_pos.mp (by omega)⟩) (by
        intro z
        have : q.1 ∈ (alike t f).map (·.1) := List.mem_map_of_mem (List.mem_filter.mpr ⟨hq, decide_eq_true hq2⟩)
        rw [z] at this
        cases this)
    have h3 := far (a := k) (fun z => by
      have := (hxs x hx).1
      rw [z] at this
      exact absurd this (by decide +kernel)) hn h1
    rw [cnt_flatten (hxs x hx).2] at h3
    have hlen : ∀ rs : Rows, (∀ r ∈ rs, r.length = n) → rs.flatten.length = rs.length * n := by
      intro rs
      induction rs with
      | nil => intro _; simp
      | cons r rs ih =>
        intro h
        rw [List.flatten_cons, List.length_append, h r List.mem_cons_self, ih fun q hq => h q (List.mem_cons_of_mem _ hq), List.length_cons, Nat.add_mul, Nat.one_mul, Nat.add_comm]
    rw [hlen rs fun r hr => (hc r hr).2] at h3
    rw [List.length_map] at h2
    refine decide_eq_true ?_
    have h4 : 1 ≤ rs.length * f := Nat.mul_pos (by omega) hf1
    have e1 : ((f : Int) * rs.length - 1) * k = (((rs.length * f - 1) * k : Nat) : Int) := by
      rw [Int.natCast_mul, Int.natCast_sub h4, Int.natCast_mul, Int.mul_comm (f : Int)]
      rfl
    have e2 : ((n : Int) * rs.length) = ((rs.length * n : Nat) : Int) := by
      rw [Int.natCast_mul, Int.mul_comm]
    rw [e1, e2]
    omega
end K90
set_option Elab.async false
set_option linter.all false
set_option maxRecDepth 100000
set_option maxHeartbeats 1000000
namespace K90
open PySem PySem.Spec PyProof.Rows Dv
/-! the law's own count -/
def InvC (tl : Ty) (l : List Str) : Prop := Rise tl ∧ (∀ p : Str × Int, p ∈ tl ↔ p.1 ∈ l ∧ p.2 = (cnt p.1 l : Int)) ∧ ((l = [] ∧ tl = []) ∨ ∃ init m n, tl = init ++ [(m, n)] ∧ ∀ x ∈ l, sLt m x = false)
def stepC (tl : Ty) (c : Str) : Ty := match tl.getLast? with
  | some p => if p.1 = c then tl.dropLast ++ [(c, p.2 + 1)] else tl ++ [(c, 1)]
  | none => [(c, 1)]
theorem mem_snoc {x c : Str} {l : List Str} : x ∈ l ++ [c] ↔ x ∈ l ∨ x = c := by simp
theorem cnt_snoc {x c : Str} {l : List Str} : cnt x (l ++ [c]) = cnt x l + if c = x then 1 else 0 := by rw [cnt_app, cnt_one]
theorem invC_step {tl : Ty} {l : List Str} {c : Str} (h : InvC tl l) (hc : ∀ x ∈ l, sLt c x = false) : InvC (stepC tl c) (l ++ [c]) := by
  obtain ⟨h1, h2, h3⟩ := h
  rcases h3 with ⟨rfl, rfl⟩ | ⟨init, m, n, rfl, h4⟩
  · refine ⟨?_, fun p => ?_, .inr ⟨[], c, 1, rfl, fun x hx => ?_⟩⟩
    · exact List.pairwise_singleton _ _
    · show p ∈ [(c, (1 : Int))] ↔ _
      rw [List.mem_singleton, cnt_snoc]
      constructor
      · rintro rfl
        simp [cnt]
      · rintro ⟨z1, z2⟩
        have z1 : p.1 = c := by simpa using z1
        rw [if_pos z1.symm] at z2
        exact Prod.ext z1 (by rw [z2]; simp [cnt])
    · have : x = c := by simpa using hx
      rw [this]
      exact sLt_irr
  · have hmem := (h2 (m, n)).mp (by simp)
    have hstep : stepC (init ++ [(m, n)]) c = if m = c then init ++ [(c, n + 1)] else init ++ [(m, n)] ++ [(c, 1)] := by
      unfold stepC
      rw [List.getLast?_concat, List.dropLast_concat]
    have h1' : (init.Pairwise fun p q => sLt p.1 q.1 = true) ∧ ∀ p ∈ init, sLt p.1 m = true := by
      obtain ⟨a, b, d⟩ := List.pairwise_append.mp h1
      exact ⟨a, fun p hp => d p hp (m, n) (by simp)⟩
    rw [hstep]
    by_cases e : m = c
    · subst e
      rw [if_pos rfl]
      refine ⟨?_, fun p => ?_, .inr ⟨init, m, n + 1, rfl, fun x hx => ?_⟩⟩
      · refine List.pairwise_append.mpr ⟨h1'.1, List.pairwise_singleton _ _, fun p hp q hq => ?_⟩
        rw [List.mem_singleton] at hq
        subst hq
        exact h1'.2 p hp
      · rw [cnt_snoc, mem_snoc, List.mem_append, List.mem_singleton]
        by_cases k : m = p.1
        · rw [if_pos k]
          constructor
          · rintro (z | z)
            · have := sLt_ne (h1'.2 p z)
              exact absurd k.symm this
            · refine ⟨.inr k.symm, ?_⟩
              rw [z]
              have := hmem.2
              simp only [Int.natCast_add] at this ⊢
              omega
          · rintro ⟨_, z⟩
            right
            refine Prod.ext k.symm ?_
            have := hmem.2
            rw [z, ← k]
            simp only [Int.natCast_add] at this ⊢
            omega
        · rw [if_neg k, Nat.add_zero]
          have h2 := h2 p
          rw [List.mem_append, List.mem_singleton] at h2
          constructor
          · rintro (z | z)
            · obtain ⟨y1, y2⟩ := h2.mp (.inl z)
              exact ⟨.inl y1, y2⟩
            · rw [z] at k
              exact absurd rfl k
          · rintro ⟨z1 | z1, z2⟩
            · rcases h2.mpr ⟨z1, z2⟩ with y | y
              · exact .inl y
              · rw [y] at k
                exact absurd rfl k
            · exact absurd z1.symm k
      · rcases mem_snoc.mp hx with hx | hx
        · exact h4 x hx
        · rw [hx]
          exact sLt_irr
    · rw [if_neg e]
      have hlt : sLt m c = true := by
        cases q : sLt m c with
        | true => rfl
        | false => exact absurd (sLt_tri q (hc m hmem.1)) e
      have hnot : c ∉ l := fun z => by
        rw [h4 c z] at hlt
        cases hlt
      refine ⟨?_, fun p => ?_, .inr ⟨init ++ [(m, n)], c, 1, rfl, fun x hx => ?_⟩⟩
      · refine List.pairwise_append.mpr ⟨h1, List.pairwise_singleton _ _, fun p hp q hq => ?_⟩
        rw [List.mem_singleton] at hq
        subst hq
        rcases List.mem_append.mp hp with hp | hp
        · exact sLt_tr (h1'.2 p hp) hlt
        · rw [List.mem_singleton] at hp
          rw [hp]
          exact hlt
      · rw [cnt_snoc, mem_snoc, List.mem_append, List.mem_singleton]
        by_cases k : c = p.1
        · rw [if_pos k]
          have c0 : cnt p.1 l = 0 := by
            have := mt cnt_pos.mp hnot
            rw [k] at this
            omega
          rw [c0]
          constructor
          · rintro (z | z)
            · have := ((h2 p).mp z).1
              rw [← k] at this
              exact absurd this hnot
            · rw [z]
              exact ⟨.inr rfl, rfl⟩
          · rintro ⟨_, z⟩
            exact .inr (Prod.ext k.symm z)
        · rw [if_neg k, Nat.add_zero]
          constructor
          · rintro (z | z)
            · obtain ⟨y1, y2⟩ := (h2 p).mp z
              exact ⟨.inl y1, y2⟩
            · rw [z] at k
              exact absurd rfl k
          · rintro ⟨z1 | z1, z2⟩
            · exact .inl ((h2 p).mpr ⟨z1, z2⟩)
            · exact absurd z1.symm k
      · rcases mem_snoc.mp hx with hx | hx
        · exact hc x hx
        · rw [hx]
          exact sLt_irr
theorem atI_snoc {γ : Type} {xs : List γ} {x : γ} {k : Nat} (h : k = xs.length) : L2.atI (xs ++ [x]) (k : Int) = some x := by
  rw [atI_nat', h]
  simp
def I_cnt (r ys cs : List Str) (ρ : Rho) : Prop := ∃ tl l o1 o2, ρ = [some (.fz (rw_ r)), some (.ob true (.l (tl.map prD))), o1, o2] ∧ InvC tl l ∧ l ++ cs = ys
def dotsIn (r : List Str) : List Str := r.filter fun c => !inS c dots
theorem e_law_counted (r : List Str) (hl : r.length < 1000) (hf : ∀ c ∈ r, okCell dots c = true) : m__law_counted .n [rw_ r] = .ok (.ob true (.l ((cOf r).map prD))) none := by
  obtain ⟨ys, hy1, hy2, hy3⟩ := srt_strs (dotsIn r)
  have hmem : ∀ c : Str, memD (.str c) [.str ".", .str "?", .str "-"] = inS c dots := fun c => memD_strs (os := dots)
  have hfl : ∀ c : Str, flatQ (.str c) [.str ".", .str "?", .str "-"] := fun c => flatQ_strs (os := dots)
  refine mk_n ?_
  simp [env0, sl0, wp_lcO]
  refine wp_lcT .str (fun c => if (!inS c dots) = true then some (.str c) else none) (by rfl) (by omega) (fun c hc => ?_) ?_
  · unfold Turn1
    simp [wipeR, hmem, hfl]
  · rw [fm_filter]
    rw [show (r.filter fun c => !inS c dots) = dotsIn r from rfl]
    simp [restR, wipeR, okSort_strs, hy1]
    refine wp_loopT .str (I_cnt r ys) ⟨[], [], none, none, rfl, ⟨.nil, fun p => by simp, .inl ⟨rfl, rfl⟩⟩, rfl⟩ ?_ ?_
    · rintro c cs ρ ⟨tl, l, o1, o2, rfl, hi, e⟩
      have hlt : l.length + (c :: cs).length < 1000 := by
        rw [← List.length_append, e, hy2.length_eq]
        have := List.length_filter_le (fun c => !inS c dots) r
        unfold dotsIn
        omega
      have hc : ∀ x ∈ l, sLt c x = false := by
        rw [← e] at hy3
        intro x hx
        exact (List.pairwise_append.mp hy3).2.2 x hx c List.mem_cons_self
      have hi' := invC_step hi hc
      have e' : (l ++ [c]) ++ cs = ys := by rw [← e]; simp
      rcases hi.2.2 with ⟨rfl, rfl⟩ | ⟨init, m, n, rfl, h4⟩
      · simp [plc]
        exact ⟨_, _, _, _, rfl, hi', e'⟩
      · have a1 : L2.atI (List.map prD init ++ [prD (m, n)]) (init.length : Int) = some (prD (m, n)) := atI_snoc (by simp)
        have a2 : L2.ixN (init.length + 1) (init.length : Int) = some init.length := ixN_nat (by omega)
        have hstep : stepC (init ++ [(m, n)]) c = if m = c then init ++ [(c, n + 1)] else init ++ [(m, n)] ++ [(c, 1)] := by
          unfold stepC
          rw [List.getLast?_concat, List.dropLast_concat]
        rw [hstep] at hi'
        have hlen : (init ++ [(m, n)]).length ≤ l.length := by
          have nd : ((init ++ [(m, n)]).map (·.1)).Nodup := by
            rw [List.nodup_iff_pairwise_ne, List.pairwise_map]
            exact hi.1.imp fun h => sLt_ne h
          have := nodup_len nd fun x hx => by
            obtain ⟨p, hp, rfl⟩ := List.mem_map.mp hx
            exact ((hi.2.1 p).mp hp).1
          rwa [List.length_map] at this
        rw [List.length_append] at hlen
        simp only [List.length_cons, List.length_nil] at hlen hlt
        simp [plc, a1, a2]
        by_cases hmc : m = c
        · rw [if_pos hmc] at hi'
          rw [if_pos hmc]
          exact ⟨_, _, _, _, by rw [show List.map prD init ++ [PyData.tuple [PyData.str c, PyData.int (n + 1)]] = (init ++ [(c, n + 1)]).map prD by simp], hi', e'⟩
        · rw [if_neg hmc] at hi'
          rw [if_neg hmc]
          exact ⟨by omega, _, _, _, _, by rw [show List.map prD init ++ [prD (m, n), PyData.tuple [PyData.str c, PyData.int 1]] = (init ++ [(m, n)] ++ [(c, 1)]).map prD by simp], hi', e'⟩
    · rintro ρ ⟨tl, l, o1, o2, rfl, hi, e⟩
      rw [List.append_nil] at e
      subst e
      have hfin : CountOf tl r := by
        refine ⟨hi.1, fun p => (hi.2.1 p).trans ?_⟩
        have c1 : ∀ x, x ∈ l ↔ x ∈ r ∧ inS x dots = false := fun x => by
          rw [hy2.mem_iff]
          unfold dotsIn
          rw [List.mem_filter]
          simp
        have c2 : inS p.1 dots = false → cnt p.1 l = cnt p.1 r := fun h => by
          unfold cnt
          rw [(hy2.filter _).length_eq]
          unfold dotsIn
          rw [List.filter_filter]
          congr 1
          refine List.filter_congr fun y _ => ?_
          by_cases k : y = p.1
          · rw [k, h]
            simp
          · rw [decide_eq_false k]
            rfl
        constructor
        · rintro ⟨h1, h2⟩
          obtain ⟨h3, h4⟩ := (c1 _).mp h1
          have := hf _ h3
          unfold okCell at this
          rw [h4, Bool.false_or] at this
          exact ⟨this, h3, by rw [h2, c2 h4]⟩
        · rintro ⟨h1, h2, h3⟩
          have h4 : inS p.1 dots = false := by
            cases q : inS p.1 dots with
            | false => rfl
            | true =>
              have := inS_iff.mp q
              unfold dots at this
              simp only [List.mem_cons, List.not_mem_nil, or_false] at this
              rcases this with y | y | y <;> rw [y] at h1 <;> exact absurd h1 (by decide +kernel)
          exact ⟨(c1 _).mpr ⟨h2, h4⟩, by rw [h3, c2 h4]⟩
      rw [cOf_eq hfin]
      simp
end K90
set_option Elab.async false
set_option linter.all false
set_option maxRecDepth 100000
set_option maxHeartbeats 1000000
namespace K90
open PySem PySem.Spec PyProof.Rows Dv
/-! the law's own fault -/
theorem idx_lt {x : Str} {l : List Str} {j : Nat} (h : idx x l = some j) : j < l.length := by
  have := idx_at h
  rw [List.getElem?_eq_some_iff] at this
  exact this.1
theorem idx_take {x : Str} : ∀ {l : List Str} {n : Nat}, idx x (l.take n) = (match idx x l with
    | some j => if j < n then some j else none
    | none => none)
  | [], n => by simp [idx]
  | c :: l, 0 => by
    rw [List.take_zero]
    cases idx x (c :: l) with
    | none => rfl
    | some j => simp [idx]
  | c :: l, n + 1 => by
    rw [List.take_succ_cons, idx_cons, idx_cons, idx_take]
    by_cases h : c = x
    · simp [h]
    · rw [if_neg h, if_neg h]
      cases idx x l with
      | none => rfl
      | some j =>
        dsimp only [Option.map]
        by_cases k : j < n
        · rw [if_pos k, if_pos (by omega)]
        · rw [if_neg k, if_neg (by omega)]
theorem idxD_strs {x : Str} : ∀ {l : List Str}, idxD (.str x) (l.map .str) = idx x l
  | [] => rfl
  | c :: l => by
    rw [List.map_cons, idx_cons]
    unfold idxD
    rw [eqv_str, idxD_strs]
    by_cases h : c = x
    · simp [h]
    · simp [h]
theorem inS_idx {x : Str} {l : List Str} : inS x l = (idx x l).isSome := by
  rw [Bool.eq_iff_iff, inS_iff, ← cnt_pos]
  cases q : idx x l with
  | none =>
    have := idx_none.mp q
    simp
    omega
  | some j =>
    have : cnt x l ≠ 0 := fun z => by
      rw [idx_none.mpr z] at q
      cases q
    simp
    omega
/-- a slice -/
theorem cutD_map {γ : Type} (f : γ → PyData) (xs : List γ) (lo hi : Option Int) : Dv.cutD (xs.map f) lo hi = ((xs.drop (HT.sIx xs.length 0 lo)).take (HT.sIx xs.length xs.length hi - HT.sIx xs.length 0 lo)).map f := by
  unfold Dv.cutD
  rw [List.length_map, List.map_take, List.map_drop]
theorem cutD_lh {γ : Type} (f : γ → PyData) (xs : List γ) (lo hi : Nat) : Dv.cutD (xs.map f) (some (lo : Int)) (some (hi : Int)) = ((xs.drop lo).take (hi - lo)).map f := by
  rw [cutD_map, HT.sIx_nat, HT.sIx_nat]
  congr 1
  by_cases h : lo ≤ xs.length
  · rw [Nat.min_eq_left h]
    by_cases g : hi ≤ xs.length
    · rw [Nat.min_eq_left g]
    · rw [Nat.min_eq_right (by omega), List.take_of_length_le (by rw [List.length_drop]; omega), List.take_of_length_le (by rw [List.length_drop]; omega)]
  · rw [List.drop_of_length_le (show xs.length ≤ min lo xs.length by omega), List.drop_of_length_le (show xs.length ≤ lo by omega)]
    simp
def I_first (cs : List Str) (a : Nat) (bs : List Nat) (ρ : Rho) : Prop := ∃ k o2 o3, ρ = [some (.fz (rw_ cs)), some (.fz (.int (a : Nat))), o2, o3] ∧ k + bs.length = cs.length ∧ bs = List.range' k bs.length ∧ nearF a 0 cs = nearF a k (cs.drop k)
theorem e_first_near (cs : List Str) (a : Nat) (ha : 1 ≤ a) (hl : cs.length < 1000000) : m__law_first_near .n [rw_ cs, .int (a : Nat)] = .ok (.fz (clashD (nearF a 0 cs))) none := by
  refine mk_n ?_
  simp [env0, sl0]
  refine ⟨rngB_of (by omega), ?_⟩
  rw [rngD_0]
  refine wp_loopT natD (I_first cs a) ⟨0, none, none, rfl, by simp, by simp, rfl⟩ ?_ ?_
  · rintro b bs ρ ⟨k, o2, o3, rfl, h1, h2, h3⟩
    rw [List.length_cons] at h1 h2
    rw [List.range'_succ] at h2
    injection h2 with h4 h5
    subst h4
    have hn : b < cs.length := by omega
    have hc : cs[b]? = some cs[b] := List.getElem?_eq_getElem hn
    generalize cs[b] = c at hc
    have hd : cs.drop b = c :: cs.drop (b + 1) := by
      rw [List.drop_eq_getElem?_toList_append, hc]
      rfl
    have hat : L2.atI (List.map PyData.str cs) ((b : Nat) : Int) = some (.str c) := by
      rw [atI_nat', List.getElem?_map, hc]
      rfl
    have hcut : Dv.cutD (List.map PyData.str cs) (some ((b : Int) + 1)) (some ((b : Int) + a)) = ((cs.drop (b + 1)).take (a - 1)).map .str := by
      have := cutD_lh PyData.str cs (b + 1) (b + a)
      rw [show b + a - (b + 1) = a - 1 by omega] at this
      rw [← this]
      rfl
    rw [hd, near_cons] at h3
    have hix := idx_take (x := c) (l := cs.drop (b + 1)) (n := a - 1)
    generalize (cs.drop (b + 1)).take (a - 1) = ah at hcut hix
    simp [hat, hcut]
    by_cases k : c = "."
    · rw [if_pos k] at h3
      rw [if_pos k]
      exact ⟨b + 1, _, _, rfl, by omega, h5, h3⟩
    · rw [if_neg k] at h3
      rw [if_neg k]
      rw [inS_idx, idxD_strs]
      cases q : idx c (cs.drop (b + 1)) with
      | none =>
        rw [q] at hix h3
        dsimp only at hix h3
        rw [hix]
        exact ⟨b + 1, _, _, rfl, by omega, h5, h3⟩
      | some j =>
        rw [q] at hix h3
        dsimp only at hix h3
        by_cases k2 : j + 1 < a
        · rw [if_pos k2] at h3
          rw [if_pos (by omega)] at hix
          rw [hix, h3]
          simp [clashD]
        · rw [if_neg k2] at h3
          rw [if_neg (by omega)] at hix
          rw [hix]
          exact ⟨b + 1, _, _, rfl, by omega, h5, h3⟩
  · rintro ρ ⟨k, o2, o3, rfl, h1, h2, h3⟩
    rw [List.length_nil, Nat.add_zero] at h1
    rw [h1, List.drop_length] at h3
    rw [h3]
    rfl
end K90
set_option Elab.async false
set_option linter.all false
set_option maxRecDepth 100000
set_option maxHeartbeats 1000000
namespace K90
open PySem PySem.Spec PyProof.Rows Dv
def OkCells (rs : Rows) : Prop := ∀ r ∈ rs, ∀ c ∈ r, okCell dots c = true
def I_fault (rs : Rows) (t : Ty) (a : Nat) (bs : List Nat) (ρ : Rho) : Prop := ∃ k w o4, ρ = [some (.fz (rwsD rs)), some (.fz (tlD t)), some (.fz (.int (a : Nat))), some w, o4] ∧ (w = .ob true (.l ((rs.take k).flatten.map .str)) ∨ w = .fz (.list ((rs.take k).flatten.map .str))) ∧ k + bs.length = rs.length ∧ bs = List.range' k bs.length ∧ numF t (headLen rs) 0 rs = numF t (headLen rs) k (rs.drop k)
theorem e_law_fault (rs : Rows) (t : Ty) (a : Nat) (ha : 1 ≤ a) (hl : rs.length < 1000) (hr : ∀ r ∈ rs, r.length < 1000) (hf : rs.flatten.length < 1000000) (hc : OkCells rs) : m__law_fault .n [rwsD rs, tlD t, .int (a : Nat)] = .ok (.fz (faultD rs t a)) none := by
  refine mk_n ?_
  simp [env0, sl0]
  refine ⟨rngB_of (by omega), ?_⟩
  rw [rngD_0]
  refine wp_loopT natD (I_fault rs t a) ⟨0, _, none, rfl, .inl rfl, by simp, by simp, rfl⟩ ?_ ?_
  · rintro b bs ρ ⟨k, w, o4, rfl, hw, h1, h2, h3⟩
    rw [List.length_cons] at h1 h2
    rw [List.range'_succ] at h2
    injection h2 with h4 h5
    subst h4
    have hn : b < rs.length := by omega
    have hc' : rs[b]? = some rs[b] := List.getElem?_eq_getElem hn
    have hm : rs[b] ∈ rs := List.getElem_mem hn
    generalize rs[b] = r at hc' hm
    have hd : rs.drop b = r :: rs.drop (b + 1) := by
      rw [List.drop_eq_getElem?_toList_append, hc']
      rfl
    have hat : L2.atI (List.map rw_ rs) ((b : Nat) : Int) = some (rw_ r) := by
      rw [atI_nat', List.getElem?_map, hc']
      rfl
    have h0 : ∃ r0 rs0, rs = r0 :: rs0 := by
      cases rs with
      | nil => cases hm
      | cons r0 rs0 => exact ⟨r0, rs0, rfl⟩
    obtain ⟨r0, rs0, e0⟩ := h0
    have hat0 : L2.atI (List.map rw_ rs) 0 = some (rw_ r0) := by rw [e0]; exact atI_0
    have hn0 : headLen rs = r0.length := by rw [e0]; rfl
    rw [hd, num_cons] at h3
    simp [hat, hat0, e_law_counted r (hr r hm) (hc r hm)]
    have htk : (rs.take (b + 1)).flatten = (rs.take b).flatten ++ r := by
      rw [List.take_add_one, hc', List.flatten_append]
      simp
    have hlen : (rs.take b).flatten.length + r.length ≤ rs.flatten.length := by
      rw [← List.length_append, ← htk]
      have := congrArg List.length (congrArg List.flatten (List.take_append_drop (b + 1) rs))
      rw [List.flatten_append, List.length_append] at this
      omega
    rw [hn0] at h3
    by_cases k1 : r.length = r0.length
    · rw [if_pos (by omega)]
      by_cases k2 : cOf r = t
      · rw [if_pos k2]
        rw [if_neg (by simp [k1, k2]), ← hn0] at h3
        have fin : I_fault rs t a bs [some (.fz (rwsD rs)), some (.fz (tlD t)), some (.fz (.int (a : Nat))), some (.fz (.list ((rs.take b).flatten.map .str ++ r.map .str))), some (.fz (natD b))] := by
          refine ⟨b + 1, _, _, rfl, .inr ?_, by omega, h5, h3⟩
          rw [htk, List.map_append]
        generalize (rs.take b).flatten = pre at hw fin hlen
        rcases hw with rfl | rfl
        · simp [hat]
          exact ⟨by omega, fin⟩
        · simp [hat]
          exact ⟨by omega, fin⟩
      · rw [if_neg k2]
        rw [if_pos (.inr k2)] at h3
        unfold faultD
        rw [hn0, h3]
    · rw [if_neg (by omega)]
      rw [if_pos (.inl k1)] at h3
      unfold faultD
      rw [hn0, h3]
  · rintro ρ ⟨k, w, o4, rfl, hw, h1, h2, h3⟩
    rw [List.length_nil, Nat.add_zero] at h1
    rw [h1, List.drop_length] at h3
    rw [h1, List.take_length] at hw
    have hfd : faultD rs t a = clashD (nearF a 0 rs.flatten) := by
      unfold faultD
      rw [h3]
      rfl
    have hfn := e_first_near rs.flatten a ha hf
    rw [hfd]
    generalize rs.flatten = cs at hw hfn
    rcases hw with rfl | rfl
    · simp [hfn]
    · simp [hfn]
end K90
set_option Elab.async false
set_option linter.all false
set_option maxRecDepth 100000
set_option maxHeartbeats 1000000
namespace K90
open PySem PySem.Spec PyProof.Rows Dv
/-! the law's own numbers -/
theorem mod_in (z p : Int) (h : 0 < p) : 0 ≤ z % p ∧ z % p < p := ⟨Int.emod_nonneg _ (by omega), Int.emod_lt_of_pos _ h⟩
theorem e_mix (c t : Int) : ∃ v, m__law_mix .n [.int c, .int t] = .ok (.fz (.int v)) none ∧ 0 ≤ v ∧ v < 2147483399 := by
  have z : fout (m__law_mix .n [.int c, .int t]) (fun w o => o = none ∧ ∃ v, w = .fz (.int v) ∧ 0 ≤ v ∧ v < 2147483399) (fun _ _ => False) := by
    refine mk_x ?_
    simp [env0, sl0]
    refine ⟨mulB_r (by omega), mulB_r (by omega), ?_⟩
    have h1 := mod_in (c % 2147483647 * 48271 + t * 69621 + 1234567) 2147483647 (by omega)
    generalize (c % 2147483647 * 48271 + t * 69621 + 1234567) % 2147483647 = a at h1
    refine ⟨mulB_r (by omega), mulB_r (by omega), ?_⟩
    have h2 := mod_in (a * a + t * 40692 + a / 4099) 2147483399 (by omega)
    generalize (a * a + t * 40692 + a / 4099) % 2147483399 = b at h2
    refine ⟨mulB_r (by omega), mulB_r (by omega), ?_⟩
    exact ⟨rfl, _, rfl, mod_in _ _ (by omega)⟩
  obtain ⟨w, o, e, rfl, v, rfl, h⟩ := fout_ok z
  exact ⟨v, e, h⟩
abbrev stL (cs : List Int) (i b n s : Int) : List PyData := [.list (cs.map .int), .int i, .int b, .int n, .int s]
def St (c : BR) : Prop := ∃ cs i b n s, c = .l (stL cs i b n s) ∧ 0 ≤ i
def I_store (ns : List Int) (_ : List Int) (ρ : Rho) : Prop := ∃ w s o, ρ = [some (.sc (ns.map .int)), some w, some (.fz (.int s)), o] ∧ (w = .ob true (.l (ns.map .int)) ∨ w = .fz (.list (ns.map .int)))
theorem e_store (ns : List Int) (hl : ns.length ≤ 63) : ∃ c o, m__law_store (.s (ns.map .int)) [] = .ok (.ob true c) o ∧ St c := by
  have z : fout (m__law_store (.s (ns.map .int)) []) (fun w o => ∃ c, w = .ob true c ∧ St c) (fun _ _ => False) := by
    refine mk_x ?_
    simp [env0, sl0, plc]
    refine wp_loopT .int (I_store ns) ⟨_, _, _, rfl, .inr rfl⟩ ?_ ?_
    · rintro x xs ρ ⟨w, s, o, rfl, hw⟩
      obtain ⟨v, hv, _, _⟩ := e_mix (s * 31 + x % 2147483629) ns.length
      rcases hw with rfl | rfl
      · simp [hv]
        exact ⟨mulB_r (by omega), _, _, _, rfl, .inr rfl⟩
      · simp [hv]
        exact ⟨mulB_r (by omega), _, _, _, rfl, .inr rfl⟩
    · rintro ρ ⟨w, s, o, rfl, hw⟩
      rcases hw with rfl | rfl
      · simp
        exact ⟨_, rfl, ns, _, _, _, _, rfl, by omega⟩
      · simp
        exact ⟨_, rfl, ns, _, _, _, _, rfl, by omega⟩
  obtain ⟨w, o, e, c, rfl, h⟩ := fout_ok z
  exact ⟨c, o, e, h⟩
theorem pow1 : powB 10 18 := ⟨by omega, by decide +kernel⟩
theorem pow2 : powB 10 64 := ⟨by omega, by decide +kernel⟩
theorem pow3 : powB (10 ^ 64) 16 := ⟨by omega, by decide +kernel⟩
theorem e_take (c : BR) (h : St c) (bd : Int) (hb : bd ≤ 1000000) : ∃ v c', m__law_take (.b c) [.int bd] = .ok (.fz (.int v)) (some c') ∧ St c' ∧ 0 ≤ v ∧ (v < bd ∨ v = 0) ∧ (bd < 2 → v = 0) := by
  obtain ⟨cs, i, b, n, s, rfl, hi⟩ := h
  have z : ∃ w c', m__law_take (.b (.l (stL cs i b n s))) [.int bd] = .ok w (some c') ∧ (∃ v, w = .fz (.int v) ∧ St c' ∧ 0 ≤ v ∧ (v < bd ∨ v = 0) ∧ (bd < 2 → v = 0)) := by
    refine mk_b (Q := fun w c' => ∃ v, w = .fz (.int v) ∧ St c' ∧ 0 ≤ v ∧ (v < bd ∨ v = 0) ∧ (bd < 2 → v = 0)) ?_
    by_cases h2 : bd < 2
    · simp [env0, sl0, h2, plc]
      exact ⟨cs, i, b, n, s, rfl, hi⟩
    · have hpos : 0 < bd := by omega
      have x1 : L2.ixN 5 1 = some 1 := by decide
      have x2 : L2.ixN 5 2 = some 2 := by decide
      have x3 : L2.ixN 5 3 = some 3 := by decide
      have x4 : L2.ixN 5 4 = some 4 := by decide
      have mb : ∀ z : Int, 0 ≤ z % bd ∧ z % bd < bd := fun z => mod_in z bd hpos
      have mb1 : ∀ z : Int, 0 ≤ z % bd := fun z => (mb z).1
      have mb2 : ∀ z : Int, z % bd < bd := fun z => (mb z).2
      have hbd : bd < 1073741824 := by omega
      have mbl : mulB 977 (n + 1) := mulB_l (by omega)
      obtain ⟨v4, hv4, _, _⟩ := e_mix s (n + 1)
      simp [env0, sl0, h2, plc, x1, x2, x3, x4, hv4]
      by_cases c1 : b < bd
      · simp [c1]
        by_cases c2 : i < (cs.length : Int)
        · have hat : ∃ x, L2.atI (List.map PyData.int cs) i = some (.int x) := by
            have hn : i.toNat < cs.length := by omega
            obtain ⟨k, rfl⟩ : ∃ k : Nat, i = k := ⟨i.toNat, by omega⟩
            refine ⟨cs[k], ?_⟩
            rw [atI_nat', List.getElem?_map, List.getElem?_eq_getElem (by omega)]
            rfl
          obtain ⟨x, hx⟩ := hat
          obtain ⟨v1, hv1, _, _⟩ := e_mix (x + 977 * (n + 1)) (n + 1)
          have big : ∃ p : Int, ((10 : Int) ^ 64) ^ 16 = p ∧ 0 < p := ⟨_, rfl, by decide +kernel⟩
          obtain ⟨p, hp, hp0⟩ := big
          have b1 : ∀ y b', St (BR.l [PyData.list (List.map PyData.int cs), PyData.int (i + 1), PyData.int b', PyData.int (n + 1), PyData.int y]) := fun y b' => ⟨cs, _, _, _, _, rfl, by omega⟩
          have b2 : ∀ y b', St (BR.l [PyData.list (List.map PyData.int cs), PyData.int (i + 1), PyData.int b', PyData.int n, PyData.int y]) := fun y b' => ⟨cs, _, _, _, _, rfl, by omega⟩
          simp [c2, hx, plc, x1, x2, x3, x4, hv1, hv4, -Int.reducePow, pow1, pow2, pow3, hp]
          simp only [hp0, hpos, hbd, mbl, b1, b2, mb1, mb2, true_and, and_true, true_or, ite_self]
        · simp [c2, plc, x1, x2, x3, x4, hv4]
          have b1 : ∀ b' n' s', St (BR.l [PyData.list (List.map PyData.int cs), PyData.int i, PyData.int b', PyData.int n', PyData.int s']) := fun b' n' s' => ⟨cs, _, _, _, _, rfl, hi⟩
          split
          · exact ⟨by omega, by omega, b1 _ _ _, (mb _).1, .inl (mb _).2⟩
          · exact ⟨by omega, b1 _ _ _, (mb _).1, .inl (mb _).2⟩
      · simp [c1, plc, x1, x2, x3, x4, hv4]
        have b1 : ∀ b' n' s', St (BR.l [PyData.list (List.map PyData.int cs), PyData.int i, PyData.int b', PyData.int n', PyData.int s']) := fun b' n' s' => ⟨cs, _, _, _, _, rfl, hi⟩
        simp only [hpos, hbd, b1, mb1, mb2, true_and, and_true, true_or, ite_self]
  obtain ⟨w, c', e, v, rfl, h⟩ := z
  exact ⟨v, c', e, h⟩
end K90
set_option Elab.async false
set_option linter.all false
set_option maxRecDepth 100000
set_option maxHeartbeats 1000000
namespace K90
open PySem PySem.Spec PyProof.Rows Dv
/-- a call on the store that gives an int v with p -/
def GivI (o : FOut) (p : Int → Prop) : Prop := ∃ v c', o = .ok (.fz (.int v)) (some c') ∧ St c' ∧ p v
theorem take_in (c : BR) (h : St c) (bd : Int) (hb : bd ≤ 1000000) : GivI (m__law_take (.b c) [.int bd]) fun v => 0 ≤ v ∧ (v < bd ∨ v = 0) := by
  obtain ⟨v, c', h1, h2, h3, h4, _⟩ := e_take c h bd hb
  exact ⟨v, c', h1, h2, h3, h4⟩
theorem givI_b {N : Nat} {body : Mo Fl} {c : BR} {ds : List PyData} {p : Int → Prop} (h : wp body (env0 N (.b c) ds) (retB fun w c' => ∃ v, w = .fz (.int v) ∧ St c' ∧ p v) (fun _ _ => False)) : GivI (mkFn N body (.b c) ds) p := by
  obtain ⟨w, c', e, v, rfl, h1, h2⟩ := mk_b h
  exact ⟨v, c', e, h1, h2⟩
theorem e_between (c : BR) (h : St c) (lo hi : Int) (hb : hi - lo ≤ 100000) (h0 : lo ≤ hi) : GivI (m__law_between (.b c) [.int lo, .int hi]) fun v => lo ≤ v ∧ v ≤ hi := by
  obtain ⟨v, c', h1, h2, h3, h4⟩ := take_in c h (hi - lo + 1) (by omega)
  refine givI_b ?_
  simp [env0, sl0, h1, h2]
  omega
theorem e_edge (c : BR) (h : St c) (lo hi : Int) (hb : hi - lo ≤ 100000) : GivI (m__law_edge (.b c) [.int lo, .int hi]) fun v => lo ≤ v ∧ (v ≤ hi ∨ v = lo) := by
  refine givI_b ?_
  by_cases k : hi ≤ lo
  · simp [env0, sl0, k, h]
  · obtain ⟨v, c', h1, h2, h3, h4⟩ := take_in c h 9 (by omega)
    obtain ⟨u, c2, g1, g2, g3, g4⟩ := e_between c' h2 lo hi hb (by omega)
    simp [env0, sl0, k, h1, g1, h2, g2]
    repeat' split
    all_goals omega
def GivB (o : FOut) : Prop := ∃ b c', o = .ok (.fz (.bool b)) (some c') ∧ St c'
theorem e_chance (c : BR) (h : St c) (k : Int) (hb : k ≤ 100000) : GivB (m__law_chance (.b c) [.int k]) := by
  obtain ⟨v, c', h1, h2, _⟩ := take_in c h k (by omega)
  have z : ∃ w c2, m__law_chance (.b c) [.int k] = .ok w (some c2) ∧ (∃ b, w = .fz (.bool b) ∧ St c2) := by
    refine mk_b (Q := fun w c2 => ∃ b, w = .fz (.bool b) ∧ St c2) ?_
    simp [env0, sl0, h1, h2]
    omega
  obtain ⟨w, c2, e, b, rfl, g⟩ := z
  exact ⟨b, c2, e, g⟩
theorem e_size (c : BR) (h : St c) (lo sm la : Int) (hb : sm - lo ≤ 100000) (hb2 : la - lo ≤ 100000) : GivI (m__law_size (.b c) [.int lo, .int sm, .int la]) fun v => lo ≤ v ∧ (v ≤ sm ∨ v ≤ la ∨ v = lo) := by
  obtain ⟨b, c', h1, h2⟩ := e_chance c h 8 (by omega)
  refine givI_b ?_
  obtain ⟨u, c2, g1, g2, g3, g4⟩ := e_edge c' h2 lo la hb2
  obtain ⟨u', c2', g1', g2', g3', g4'⟩ := e_edge c' h2 lo sm hb
  cases b with
  | true =>
    simp [env0, sl0, h1, g1, g2]
    omega
  | false =>
    simp [env0, sl0, h1, g1', g2']
    omega
end K90
set_option Elab.async false
set_option linter.all false
set_option maxRecDepth 100000
set_option maxHeartbeats 1000000
namespace K90
open PySem PySem.Spec PyProof.Rows Dv
def GivD (o : FOut) (p : PyData → Prop) : Prop := ∃ d c', o = .ok (.fz d) (some c') ∧ St c' ∧ p d
theorem e_pick (c : BR) (h : St c) {γ : Type} (f : γ → PyData) (xs : List γ) (h0 : xs ≠ []) (hl : xs.length ≤ 100000) : GivD (m__law_pick (.b c) [.list (xs.map f)]) fun d => ∃ x ∈ xs, d = f x := by
  obtain ⟨v, c', h1, h2, h3, h4⟩ := take_in c h xs.length (by omega)
  have hpos : 0 < xs.length := List.length_pos_iff.mpr h0
  obtain ⟨k, rfl⟩ : ∃ k : Nat, v = k := ⟨v.toNat, by omega⟩
  have hk : k < xs.length := by omega
  have hat : L2.atI (xs.map f) (k : Int) = some (f xs[k]) := by
    rw [atI_nat', List.getElem?_map, List.getElem?_eq_getElem hk]
    rfl
  have z : ∃ w c2, m__law_pick (.b c) [.list (xs.map f)] = .ok w (some c2) ∧ (∃ d, w = .fz d ∧ St c2 ∧ ∃ x ∈ xs, d = f x) := by
    refine mk_b (Q := fun w c2 => ∃ d, w = .fz d ∧ St c2 ∧ ∃ x ∈ xs, d = f x) ?_
    simp [env0, sl0, h1, h2, hat]
    exact ⟨xs[k], List.getElem_mem hk, rfl⟩
  obtain ⟨w, c2, e, d, rfl, g1, g2⟩ := z
  exact ⟨d, c2, e, g1, g2⟩
theorem fm_congr {α β : Type} {g h : α → Option β} : ∀ {l : List α}, (∀ x ∈ l, g x = h x) → l.filterMap g = l.filterMap h
  | [], _ => rfl
  | x :: l, e => by
    rw [List.filterMap_cons, List.filterMap_cons, e x List.mem_cons_self, fm_congr fun y hy => e y (List.mem_cons_of_mem _ hy)]
theorem fm_idx {γ : Type} (f : γ → PyData) : ∀ (l pre : List γ), (List.range' pre.length l.length).filterMap (fun k => ((pre ++ l)[k]?).map f) = l.map f
  | [], _ => by simp
  | x :: l, pre => by
    have ih := fm_idx f l (pre ++ [x])
    rw [List.length_append, List.append_assoc] at ih
    rw [List.length_cons, List.range'_succ, List.filterMap_cons]
    simp
    simp at ih
    exact ih
def GivP {γ : Type} (f : γ → PyData) (o : FOut) (xs : List γ) : Prop := ∃ (ys : List γ) (c' : BR), o = .ok (.ob true (.l (ys.map f))) (some c') ∧ St c' ∧ ys.Perm xs
def I_order {γ : Type} (f : γ → PyData) (xs : List γ) (bs : List Nat) (ρ : Rho) : Prop := ∃ (c : BR) (ys : List γ) (o1 o3 o4 o5 o6 : Option Sl), ρ = [some (.ob false c), o1, some (.ob true (.l (ys.map f))), o3, o4, o5, o6] ∧ St c ∧ ys.Perm xs ∧ ∀ b ∈ bs, b + 1 < xs.length
theorem e_order (c : BR) (h : St c) {γ : Type} (f : γ → PyData) (xs : List γ) (hl : xs.length ≤ 100000) : GivP f (m__law_order (.b c) [.list (xs.map f)]) xs := by
  obtain ⟨v, c', h1, h2, h3, h4⟩ := take_in c h 4 (by omega)
  have z : ∃ w c2, m__law_order (.b c) [.list (xs.map f)] = .ok w (some c2) ∧ (∃ ys : List γ, w = .ob true (.l (ys.map f)) ∧ St c2 ∧ ys.Perm xs) := by
    refine mk_b (Q := fun w c2 => ∃ ys : List γ, w = .ob true (.l (ys.map f)) ∧ St c2 ∧ ys.Perm xs) ?_
    simp [env0, sl0, h1, h2, plc]
    by_cases v0 : v = 0
    · simp [v0]
      exact ⟨xs, rfl, .refl _⟩
    · by_cases v1 : v = 1
      · simp [v1]
        rw [wp_lcO]
        simp [plc]
        refine ⟨rngB_of (by omega), ?_⟩
        rw [rngD_0]
        refine wp_lcT natD (fun k => (xs[xs.length - 1 - k]?).map f) (by rfl) (by rw [List.length_range']; omega) (fun k hk => ?_) ?_
        · have hk : k < xs.length := by simpa using hk
          have hat : L2.atI (xs.map f) ((xs.length : Int) - 1 - (k : Nat)) = some (f xs[xs.length - 1 - k]) := by
            rw [show (xs.length : Int) - 1 - (k : Nat) = ((xs.length - 1 - k : Nat) : Int) by omega, atI_nat', List.getElem?_map, List.getElem?_eq_getElem (by omega)]
            rfl
          unfold Turn1
          simp [wipeR, plc, hat]
          rw [List.getElem?_eq_getElem (by omega)]
          rfl
        · have e : (List.range' 0 xs.length).filterMap (fun k => (xs[xs.length - 1 - k]?).map f) = xs.reverse.map f := by
            have z := fm_idx f xs.reverse []
            rw [List.nil_append, List.length_nil, List.length_reverse] at z
            rw [← z]
            refine fm_congr fun k hk => ?_
            have hk : k < xs.length := by simpa using hk
            rw [List.getElem?_reverse hk]
          rw [e]
          simp [restR, wipeR, h2]
          exact ⟨xs.reverse, by simp, List.reverse_perm xs⟩
      · simp [v0, v1]
        refine ⟨rngB_of (by omega), ?_⟩
        rw [rngD_0]
        refine wp_loopT natD (I_order f xs) ⟨c', xs, _, _, _, _, _, rfl, h2, .refl _, fun b hb => ?_⟩ ?_ ?_
        · have : b < xs.length - 1 := by simpa using hb
          omega
        · rintro b bs ρ ⟨d, ys, o1, o3, o4, o5, o6, rfl, hd, hp, hb⟩
          have hb1 := hb b List.mem_cons_self
          have hb2 : ∀ x ∈ bs, x + 1 < xs.length := fun x hx => hb x (List.mem_cons_of_mem _ hx)
          have hly := hp.length_eq
          obtain ⟨u, d', t1, t2, t3, t4⟩ := take_in d hd ((ys.length : Int) - b) (by omega)
          obtain ⟨k, rfl⟩ : ∃ k : Nat, u = k := ⟨u.toNat, by omega⟩
          have hk : b + k < ys.length := by omega
          have a1 : L2.atI (ys.map f) (b : Int) = some (f ys[b]) := by
            rw [atI_nat', List.getElem?_map, List.getElem?_eq_getElem (by omega)]
            rfl
          have a2 : L2.atI (ys.map f) ((b : Int) + (k : Int)) = some (f ys[b + k]) := by
            rw [show (b : Int) + (k : Int) = ((b + k : Nat) : Int) by omega, atI_nat', List.getElem?_map, List.getElem?_eq_getElem (by omega)]
            rfl
          have x1 : L2.ixN ys.length (b : Int) = some b := ixN_nat (by omega)
          have x2 : L2.ixN ys.length ((b : Int) + (k : Int)) = some (b + k) := by
            rw [show (b : Int) + (k : Int) = ((b + k : Nat) : Int) by omega]
            exact ixN_nat hk
          simp [plc, t1, a1, a2, x1, x2]
          rw [← List.map_set, ← List.map_set]
          exact ⟨d', _, _, _, _, _, _, rfl, t2, (List.set_set_perm (by omega) hk).trans hp, hb2⟩
        · rintro ρ ⟨d, ys, o1, o3, o4, o5, o6, rfl, hd, hp, _⟩
          simp
          exact ⟨ys, rfl, hd, hp⟩
  obtain ⟨w, c2, e, ys, rfl, g1, g2⟩ := z
  exact ⟨ys, c2, e, g1, g2⟩
end K90
set_option Elab.async false
set_option linter.all false
set_option maxRecDepth 100000
set_option maxHeartbeats 1000000
namespace K90
open PySem PySem.Spec PyProof.Rows Dv
/-! words -/
def abc : Str := "abcdefghijklmnopqrstuvwxyz"
theorem abc_at (k : Nat) (h : k < 26) : L2.atI abc.cps.toList (k : Int) = some (97 + k) := by
  have z : ∀ k : Fin 26, abc.cps.toList[k.val]? = some (97 + k.val) := by decide +kernel
  rw [atI_nat']
  exact z ⟨k, h⟩
/-- the code of a number, its letters from the end -/
def wordL : Nat → Nat → List Nat → List Nat
  | 0, _, w => w
  | f + 1, r, w => if 0 < r then wordL f ((r - 1) / 26) ((97 + (r - 1) % 26) :: w) else w
def mkS (l : List Nat) : Str := ⟨l.toArray⟩
def wd (n : Nat) : Str := mkS (wordL 7 (n / 26) [97 + n % 26])
theorem mkS_cons (c : Nat) (l : List Nat) : (⟨#[c]⟩ : Str) ++ mkS l = mkS (c :: l) := by
  refine str_ext ?_
  show ((#[c] ++ l.toArray : Array Nat)).toList = _
  simp [mkS]
def I_word (n : Nat) (bs : List Nat) (ρ : Rho) : Prop := ∃ o0 o4 r w, ρ = [o0, some (.fz (.str abc)), some (.fz (.str (mkS w))), some (.fz (.int (r : Nat))), o4] ∧ wordL 7 (n / 26) [97 + n % 26] = wordL bs.length r w ∧ w.length + bs.length ≤ 8
theorem mkS_len (l : List Nat) : (mkS l).length = l.length := rfl
theorem e_word (n : Nat) : m__law_word .n [.int (n : Nat)] = .ok (.fz (.str (wd n))) none := by
  refine mk_n ?_
  have a0 : L2.atI abc.cps.toList ((n : Int) % 26) = some (97 + n % 26) := by
    rw [show (n : Int) % 26 = ((n % 26 : Nat) : Int) by omega]
    exact abc_at _ (by omega)
  rw [show (cS "abcdefghijklmnopqrstuvwxyz" : Mo PyData) = cS abc from rfl]
  have hab : abc.length ≤ 1000000 := by decide +kernel
  simp [env0, sl0, a0, hab]
  refine ⟨rngB_of (by omega), ?_⟩
  rw [rngD_0]
  refine wp_loopT natD (I_word n) ⟨_, none, n / 26, [97 + n % 26], rfl, rfl, by simp⟩ ?_ ?_
  · rintro b bs ρ ⟨o0, o4, r, w, rfl, h1, h2⟩
    rw [List.length_cons] at h1 h2
    simp
    have step : wordL (bs.length + 1) r w = if 0 < r then wordL bs.length ((r - 1) / 26) ((97 + (r - 1) % 26) :: w) else w := rfl
    rw [step] at h1
    by_cases k : 0 < r
    · rw [if_pos k] at h1
      rw [if_pos k]
      refine ⟨hab, 97 + (r - 1) % 26, ?_, ?_, ?_⟩
      · rw [show ((r : Int) - 1) % 26 = (((r - 1) % 26 : Nat) : Int) by omega]
        exact abc_at _ (by omega)
      · rw [mkS_len]
        show 1 + w.length ≤ 1000000
        omega
      · rw [mkS_cons, show ((r : Int) - 1) / 26 = (((r - 1) / 26 : Nat) : Int) by omega]
        exact ⟨_, _, _, _, rfl, h1, by rw [List.length_cons]; omega⟩
    · rw [if_neg k] at h1
      rw [if_neg k]
      have z : ∀ f : Nat, wordL f r w = w := fun f => by
        cases f with
        | zero => rfl
        | succ f => exact if_neg k
      exact ⟨_, _, r, w, rfl, by rw [h1, z], by omega⟩
  · rintro ρ ⟨o0, o4, r, w, rfl, h1, h2⟩
    simp
    unfold wd
    rw [h1]
    rfl
end K90
set_option Elab.async false
set_option linter.all false
set_option maxRecDepth 100000
set_option maxHeartbeats 1000000
namespace K90
open PySem PySem.Spec PyProof.Rows Dv
/-! texts by their letters -/
theorem mkS_app (a b : List Nat) : mkS a ++ mkS b = mkS (a ++ b) := by
  refine str_ext ?_
  show ((a.toArray ++ b.toArray : Array Nat)).toList = _
  simp [mkS]
theorem mkS_inj {a b : List Nat} (h : mkS a = mkS b) : a = b := by
  have := congrArg (fun x : Str => x.cps.toList) h
  simpa [mkS] using this
theorem mkS_one (c : Nat) : (⟨#[c]⟩ : Str) = mkS [c] := rfl
theorem cut_pre (l : List Nat) (n : Nat) : L2.cutS (mkS l) none (some (n : Int)) = mkS (l.take n) := by
  unfold L2.cutS
  rw [HT.sIx_none, HT.sIx_nat]
  show (⟨((l.toArray.toList.drop 0).take (min n l.length - 0)).toArray⟩ : Str) = _
  rw [List.drop_zero, Nat.sub_zero]
  show mkS (l.take (min n l.length)) = _
  congr 1
  by_cases h : n ≤ l.length
  · rw [Nat.min_eq_left h]
  · rw [Nat.min_eq_right (by omega), List.take_of_length_le (Nat.le_refl _), List.take_of_length_le (by omega)]
theorem join_one : ∀ l : List Nat, Str.join (mkS []) (l.map fun c => (⟨#[c]⟩ : Str)) = mkS l
  | [] => rfl
  | [c] => rfl
  | c :: d :: l => by
    show (⟨#[c]⟩ : Str) ++ mkS [] ++ Str.join (mkS []) ((d :: l).map fun c => (⟨#[c]⟩ : Str)) = _
    rw [join_one (d :: l), mkS_one, mkS_app, mkS_app]
    rfl
theorem nil_str : ("" : Str) = mkS [] := by decide +kernel
theorem txt_join (l : List Nat) : Txt.join "" (l.map fun c => (⟨#[c]⟩ : Str)) = mkS l := by
  rw [nil_str, show Txt.join (mkS []) (l.map fun c => (⟨#[c]⟩ : Str)) = Str.join (mkS []) (l.map fun c => (⟨#[c]⟩ : Str)) from StrLaws.glued_eq_join _ _, join_one]
def Lets (l : List Nat) : Prop := ∀ c ∈ l, let_ c = true
theorem lets_app {a b : List Nat} (ha : Lets a) (hb : Lets b) : Lets (a ++ b) := fun c hc => (List.mem_append.mp hc).elim (ha c) (hb c)
theorem lets_take {a : List Nat} (n : Nat) (ha : Lets a) : Lets (a.take n) := fun c hc => ha c (List.mem_of_mem_take hc)
theorem lets_okS {l : List Nat} (h : Lets l) : okS (mkS l) = true := by
  unfold okS
  rw [← Array.all_toList]
  refine List.all_eq_true.mpr fun c hc => ?_
  have z := of_decide_eq_true (h c hc)
  exact decide_eq_true (by omega)
theorem lets_mark {l : List Nat} (h : Lets l) (h1 : 1 ≤ l.length) (h8 : l.length ≤ 8) : isMark (mkS l) = true := by
  unfold isMark
  rw [mkS_len, decide_eq_true ⟨h1, h8⟩, Bool.true_and]
  exact List.all_eq_true.mpr h
/-! the word of a number -/
def wdL (n : Nat) : List Nat := wordL 7 (n / 26) [97 + n % 26]
theorem wd_eq (n : Nat) : wd n = mkS (wdL n) := rfl
def dec (a : Nat) (l : List Nat) : Nat := l.foldl (fun a c => a * 26 + (c - 96)) a
theorem dec_word : ∀ (f r : Nat) (w : List Nat), r < 26 ^ f → dec 0 (wordL f r w) = dec r w
  | 0, r, w, h => by
    have : r = 0 := by simpa using h
    subst this
    rfl
  | f + 1, r, w, h => by
    unfold wordL
    by_cases k : 0 < r
    · rw [if_pos k, dec_word f _ _ (by rw [Nat.pow_succ] at h; omega)]
      show dec ((r - 1) / 26 * 26 + (97 + (r - 1) % 26 - 96)) w = _
      congr 1
      omega
    · rw [if_neg k]
      have : r = 0 := by omega
      rw [this]
theorem dec_wd {n : Nat} (h : n < 18278) : dec 0 (wdL n) = n + 1 := by
  unfold wdL
  rw [dec_word _ _ _ (by omega)]
  show n / 26 * 26 + (97 + n % 26 - 96) = _
  omega
theorem wd_inj {n m : Nat} (hn : n < 18278) (hm : m < 18278) (h : wdL n = wdL m) : n = m := by
  have h1 := dec_wd hn
  have h2 := dec_wd hm
  rw [h] at h1
  omega
theorem word_lets : ∀ (f r : Nat) (w : List Nat), Lets w → Lets (wordL f r w)
  | 0, _, _, h => h
  | f + 1, r, w, h => by
    unfold wordL
    by_cases k : 0 < r
    · rw [if_pos k]
      refine word_lets f _ _ fun c hc => ?_
      rcases List.mem_cons.mp hc with rfl | hc
      · exact let_y (by omega) (by omega)
      · exact h c hc
    · rw [if_neg k]
      exact h
theorem wd_lets (n : Nat) : Lets (wdL n) := word_lets _ _ _ fun c hc => by
  rw [List.mem_singleton.mp hc]
  exact let_y (by omega) (by omega)
theorem word_z (f : Nat) (w : List Nat) : wordL f 0 w = w := by
  cases f with
  | zero => rfl
  | succ f => exact if_neg (by omega)
theorem wd_len {n : Nat} (h : n < 18278) : 1 ≤ (wdL n).length ∧ (wdL n).length ≤ 3 := by
  unfold wdL
  have s : ∀ (f r : Nat) (w : List Nat), wordL (f + 1) r w = if 0 < r then wordL f ((r - 1) / 26) ((97 + (r - 1) % 26) :: w) else w := fun _ _ _ => rfl
  rw [s]
  by_cases k : 0 < n / 26
  · rw [if_pos k, s]
    by_cases k2 : 0 < (n / 26 - 1) / 26
    · rw [if_pos k2, show ((n / 26 - 1) / 26 - 1) / 26 = 0 by omega, word_z]
      exact ⟨by simp, by simp⟩
    · rw [if_neg k2]
      exact ⟨by simp, by simp⟩
  · rw [if_neg k]
    exact ⟨by simp, by simp⟩
/-! x[:p] + [t] + x[p + 1:] -/
theorem cutD_h {γ : Type} (f : γ → PyData) (xs : List γ) (hi : Nat) : Dv.cutD (xs.map f) none (some (hi : Int)) = (xs.take hi).map f := by
  rw [cutD_map, HT.sIx_nat, HT.sIx_none, List.drop_zero, Nat.sub_zero]
  by_cases h : hi ≤ xs.length
  · rw [Nat.min_eq_left h]
  · rw [Nat.min_eq_right (by omega), List.take_of_length_le (Nat.le_refl _), List.take_of_length_le (by omega)]
theorem cutD_l {γ : Type} (f : γ → PyData) (xs : List γ) (lo : Nat) : Dv.cutD (xs.map f) (some (lo : Int)) none = (xs.drop lo).map f := by
  rw [cutD_map, HT.sIx_nat, HT.sIx_none]
  by_cases h : lo ≤ xs.length
  · rw [Nat.min_eq_left h, List.take_of_length_le (by rw [List.length_drop]; omega)]
  · rw [List.drop_of_length_le (show xs.length ≤ min lo xs.length by omega), List.drop_of_length_le (show xs.length ≤ lo by omega)]
    simp
theorem cutD_l1 {γ : Type} (f : γ → PyData) (xs : List γ) (lo : Nat) : Dv.cutD (xs.map f) (some ((lo : Int) + 1)) none = (xs.drop (lo + 1)).map f := cutD_l f xs (lo + 1)
theorem e_put {γ : Type} (f : γ → PyData) (xs : List γ) (k : Nat) (x : γ) (hk : k < xs.length) (hl : xs.length < 100000) : m__law_put .n [.list (xs.map f), .int (k : Nat), f x] = .ok (.fz (.list ((xs.set k x).map f))) none := by
  refine mk_n ?_
  simp [env0, sl0, cutD_h, cutD_l1]
  rw [List.set_eq_take_append_cons_drop, if_pos (by rw [List.length_map]; exact hk)]
  exact ⟨by omega, by omega, rfl⟩
end K90
set_option Elab.async false
set_option linter.all false
set_option maxRecDepth 100000
set_option maxHeartbeats 1000000
namespace Dv
open PySem PySem.Spec
section
variable {ρ : Rho} {E : Exn → Rho → Prop} {Qf : Fl → Rho → Prop}
/-- the first statement gives I -/
theorem wp_cut {f g : Mo Fl} (I : Rho → Prop) (h : wp f ρ (fun y ρ' => y = .nx ∧ I ρ') E) (k : ∀ ρ', I ρ' → wp g ρ' Qf E) : wp (sSeq f g) ρ Qf E := by
  rw [wp_sSeq]
  refine wp_imp h (fun y ρ' ⟨e, z⟩ => ?_) fun _ _ z => z
  subst e
  exact k ρ' z
end
end Dv
namespace K90
open PySem PySem.Spec PyProof.Rows Dv
theorem strs_map : ∀ l : List Str, strsD (l.map .str) = some l
  | [] => rfl
  | x :: l => by
    rw [List.map_cons]
    unfold strsD
    rw [strs_map l]
    rfl
theorem abc_at' (v : Int) (h0 : 0 ≤ v) (h : v < 26) : L2.atI abc.cps.toList v = some (97 + v.toNat) := by
  obtain ⟨k, rfl⟩ : ∃ k : Nat, v = k := ⟨v.toNat, by omega⟩
  exact abc_at k (by omega)
theorem four {γ : Type} (a b c d : γ) (v : Int) (h0 : 0 ≤ v) (h : v < 4) : ∃ x, L2.atI [a, b, c, d] v = some x ∧ x ∈ [a, b, c, d] := by
  have : v = 0 ∨ v = 1 ∨ v = 2 ∨ v = 3 := by omega
  rcases this with rfl | rfl | rfl | rfl
  · exact ⟨a, atI_0, by simp⟩
  · exact ⟨b, atI_1, by simp⟩
  · exact ⟨c, atI_2, by simp⟩
  · exact ⟨d, atI_3, by simp⟩
theorem abc_len : abc.length ≤ 1000000 := by decide +kernel
theorem one_len (c : Nat) : (⟨#[c]⟩ : Str).length = 1 := rfl
theorem sum_ones : ∀ cs : List Nat, ((cs.map fun c => (⟨#[c]⟩ : Str)).map (·.length)).sum = cs.length
  | [] => rfl
  | c :: cs => by
    rw [List.map_cons, List.map_cons, List.sum_cons, sum_ones cs, List.length_cons, one_len]
    omega
def I_let (n : Nat) (sp : Int) (ds acc : List PyData) (ρ : Rho) : Prop := ∃ c cs, acc = (cs.map fun c => (⟨#[c]⟩ : Str)).map .str ∧ Lets cs ∧ cs.length + ds.length = n ∧ St c ∧ ρ = [some (.ob false c), some (.fz (.int (n : Nat))), some (.fz (.str abc)), some (.fz (.int sp)), none]
theorem e_letters (c : BR) (h : St c) (n : Nat) (hn : n ≤ 1000) : GivD (m__law_letters (.b c) [.int (n : Nat)]) fun d => ∃ l, d = .str (mkS l) ∧ Lets l ∧ l.length = n := by
  obtain ⟨v, c', h1, h2, h3, h4⟩ := take_in c h 4 (by omega)
  have hspan : ∃ sp, L2.atI [PyData.int 2, .int 3, .int 26, .int 26] v = some (.int sp) ∧ 2 ≤ sp ∧ sp ≤ 26 := by
    obtain ⟨x, hx, hm⟩ := four (PyData.int 2) (.int 3) (.int 26) (.int 26) v h3 (by omega)
    simp only [List.mem_cons, List.not_mem_nil, or_false] at hm
    rcases hm with rfl | rfl | rfl | rfl
    · exact ⟨_, hx, by omega, by omega⟩
    · exact ⟨_, hx, by omega, by omega⟩
    · exact ⟨_, hx, by omega, by omega⟩
    · exact ⟨_, hx, by omega, by omega⟩
  obtain ⟨sp, hs1, hs2, hs3⟩ := hspan
  have z : ∃ w c2, m__law_letters (.b c) [.int (n : Nat)] = .ok w (some c2) ∧ (∃ l, w = .fz (.str (mkS l)) ∧ St c2 ∧ Lets l ∧ l.length = n) := by
    refine mk_b (Q := fun w c2 => ∃ l, w = .fz (.str (mkS l)) ∧ St c2 ∧ Lets l ∧ l.length = n) ?_
    rw [show (cS "abcdefghijklmnopqrstuvwxyz" : Mo PyData) = cS abc from rfl]
    simp [env0, sl0, h1, hs1, wp_lcO]
    refine ⟨rngB_of (by omega), ?_⟩
    rw [rngD_0]
    refine wp_lc (by rfl) (I_let n sp) ?_ ?_ ?_
    · exact ⟨c', [], rfl, (fun c hc => nomatch hc), by simp, h2, by simp [wipeR]⟩
    · rintro d ds acc ρ ⟨c, cs, rfl, hl, he, hc, rfl⟩
      obtain ⟨u, c', t1, t2, t3, t4⟩ := take_in c hc sp (by omega)
      have hu : u < 26 := by omega
      rw [List.length_cons] at he
      unfold Turn1
      simp [wipeR, t1, abc_at' u t3 hu, abc_len]
      refine ⟨by omega, c', cs ++ [97 + u.toNat], by simp, lets_app hl fun c hc => ?_, by simp; omega, t2, rfl⟩
      rw [List.mem_singleton.mp hc]
      exact let_y (by omega) (by omega)
    · rintro acc ρw ⟨c, cs, rfl, hl, he, hc, rfl⟩
      rw [List.length_nil, Nat.add_zero] at he
      have hj := txt_join cs
      have hsum := sum_ones cs
      generalize hw : cs.map (fun c => (⟨#[c]⟩ : Str)) = ws at hj hsum
      have hwl : ws.length = cs.length := by rw [← hw, List.length_map]
      simp [restR, wipeR, strs_map, hj]
      refine ⟨⟨?_, lets_okS hl⟩, cs, rfl, hc, hl, he⟩
      have h0 : ("" : Str).length = 0 := by decide +kernel
      rw [hsum, h0]
      omega
  obtain ⟨w, c2, e, l, rfl, g1, g2, g3⟩ := z
  exact ⟨_, c2, e, g1, l, rfl, g2, g3⟩
theorem e_mark (c : BR) (h : St c) : GivD (m__law_mark (.b c) []) fun d => ∃ l, d = .str (mkS l) ∧ Lets l ∧ 1 ≤ l.length ∧ l.length ≤ 8 := by
  obtain ⟨v, c1, h1, h2, h3, h4⟩ := e_edge c h 1 8 (by omega)
  obtain ⟨n, rfl⟩ : ∃ n : Nat, v = n := ⟨v.toNat, by omega⟩
  obtain ⟨d, c2, g1, g2, l, rfl, g4, g5⟩ := e_letters c1 h2 n (by omega)
  have z : ∃ w c2, m__law_mark (.b c) [] = .ok w (some c2) ∧ (∃ l, w = .fz (.str (mkS l)) ∧ St c2 ∧ Lets l ∧ 1 ≤ l.length ∧ l.length ≤ 8) := by
    refine mk_b (Q := fun w c2 => ∃ l, w = .fz (.str (mkS l)) ∧ St c2 ∧ Lets l ∧ 1 ≤ l.length ∧ l.length ≤ 8) ?_
    simp [env0, sl0, h1, g1]
    exact ⟨l, rfl, g2, g4, by omega, by omega⟩
  obtain ⟨w, c2, e, l, rfl, g1, g2, g3⟩ := z
  exact ⟨_, c2, e, g1, l, rfl, g2, g3⟩
end K90
set_option Elab.async false
set_option linter.all false
set_option maxRecDepth 100000
set_option maxHeartbeats 1000000
namespace K90
open PySem PySem.Spec PyProof.Rows Dv
/-! marks -/
def GivM (o : FOut) (n : Nat) : Prop := ∃ (ws : List Str) (c' : BR), o = .ok (.ob true (.l (ws.map .str))) (some c') ∧ St c' ∧ ws.length = n ∧ ws.Nodup ∧ ∀ x ∈ ws, isMark x = true
abbrev wrd (hd tl : List Nat) (n : Nat) : Str := mkS (hd ++ wdL n ++ tl)
def R_marks (c : BR) (n : Nat) (v : Int) (hd tl : List Nat) : Rho := [some (.ob false c), some (.fz (.int (n : Nat))), some (.fz (.int v)), some (.fz (.str (mkS hd))), some (.fz (.str (mkS tl))), none, none, none, none, none]
def I_m (n : Nat) (v : Int) (a b : Nat) (ρ : Rho) : Prop := ∃ c hd tl, ρ = R_marks c n v hd tl ∧ St c ∧ Lets hd ∧ Lets tl ∧ hd.length ≤ a ∧ tl.length ≤ b
def I_marks (N st : Nat) (v w : Int) (hd tl : List Nat) (bs : List Nat) (ρ : Rho) : Prop := ∃ (k : Nat) (c : BR) (ns : List Nat) (num : Nat) (o9 : Option Sl), ρ = [some (.ob false c), some (.fz (.int (N : Nat))), some (.fz (.int v)), some (.fz (.str (mkS hd))), some (.fz (.str (mkS tl))), some (.fz (.int w)), some (.fz (.int (st : Nat))), some (.fz (.int (num : Nat))), some (.ob true (.l ((ns.map (wrd hd tl)).map .str))), o9] ∧ k + bs.length = N ∧ bs = List.range' k bs.length ∧ St c ∧ ns.length = k ∧ (∀ x ∈ ns, x ≤ num) ∧ ns.Nodup ∧ (num + 1 ≤ k * (st + 1) ∨ (k = 0 ∧ num = 0))
theorem step_ex (w : Int) (N : Nat) (h0 : 1 ≤ N) (h1 : N ≤ 1000) (hw : w ≤ 9000) : ∃ st : Nat, (if (N : Int) < w then w - (N : Int) else 0) / (N : Int) = (st : Int) ∧ N * (st + 1) ≤ 9000 := by
  have hp : (0 : Int) < (N : Int) := by omega
  generalize hm : (if (N : Int) < w then w - (N : Int) else 0) = m
  have hm0 : 0 ≤ m ∧ m + N ≤ 9000 := by
    split at hm <;> omega
  have hd : 0 ≤ m / (N : Int) := Int.ediv_nonneg hm0.1 (by omega)
  have he := Int.ediv_mul_le m (show (N : Int) ≠ 0 by omega)
  obtain ⟨st, hst⟩ : ∃ st : Nat, m / (N : Int) = st := ⟨(m / (N : Int)).toNat, by omega⟩
  refine ⟨st, hst, ?_⟩
  rw [hst] at he
  rw [Nat.mul_add, Nat.mul_comm N st]
  have : ((st * N : Nat) : Int) = (st : Int) * (N : Int) := by simp
  omega
theorem e_marks (c : BR) (h : St c) (n : Int) (hn : n ≤ 1000) : GivM (m__law_marks (.b c) [.int n]) n.toNat := by
  have z : ∃ w c2, m__law_marks (.b c) [.int n] = .ok w (some c2) ∧ (∃ ws : List Str, w = .ob true (.l (ws.map .str)) ∧ St c2 ∧ ws.length = n.toNat ∧ ws.Nodup ∧ ∀ x ∈ ws, isMark x = true) := by
    refine mk_b (Q := fun w c2 => ∃ ws : List Str, w = .ob true (.l (ws.map .str)) ∧ St c2 ∧ ws.length = n.toNat ∧ ws.Nodup ∧ ∀ x ∈ ws, isMark x = true) ?_
    by_cases h0 : n < 1
    · simp [env0, sl0, h0]
      exact ⟨h, by omega⟩
    · obtain ⟨N, rfl⟩ : ∃ N : Nat, n = N := ⟨n.toNat, by omega⟩
      rw [Int.toNat_natCast]
      obtain ⟨v, c', h1, h2, h3, h4⟩ := take_in c h 4 (by omega)
      have hv : v = 0 ∨ v = 1 ∨ v = 2 ∨ v = 3 := by omega
      refine wp_cut (fun ρ => ρ = [some (.ob false c), some (.fz (.int (N : Nat))), none, none, none, none, none, none, none, none]) ?_ fun ρ e => ?_
      · simp [env0, sl0, h0]
      subst e
      refine wp_cut (fun ρ => ρ = [some (.ob false c'), some (.fz (.int (N : Nat))), some (.fz (.int v)), none, none, none, none, none, none, none]) ?_ fun ρ e => ?_
      · simp [h1]
      subst e
      rw [nil_str]
      refine wp_cut (fun ρ => ρ = [some (.ob false c'), some (.fz (.int (N : Nat))), some (.fz (.int v)), some (.fz (.str (mkS []))), none, none, none, none, none, none]) ?_ fun ρ e => ?_
      · simp
      subst e
      refine wp_cut (I_m N v 0 0) ?_ fun ρ e => ?_
      · simp
        exact ⟨c', [], [], rfl, h2, (fun _ hx => nomatch hx), (fun _ hx => nomatch hx), Nat.le_refl _, Nat.le_refl _⟩
      refine wp_cut (I_m N v (if v = 1 ∨ v = 3 then 3 else 0) 0) ?_ fun ρ e => ?_
      · obtain ⟨c, hd, tl, rfl, hc, hl, ht, g1, g2⟩ := e
        obtain ⟨d, c2, k1, k2, l, rfl, k3, k4, k5⟩ := e_mark c hc
        have hcut : L2.cutS (mkS l) none (some 3) = mkS (l.take 3) := cut_pre l 3
        by_cases hv1 : v = 1 ∨ v = 3
        · rcases hv1 with hv1 | hv1 <;> subst hv1
          · simp [R_marks, k1, mkS_len, hcut]
            refine ⟨by omega, c2, l.take 3, tl, rfl, k2, lets_take 3 k3, ht, by simp; omega, g2⟩
          · simp [R_marks, k1, mkS_len, hcut]
            refine ⟨by omega, c2, l.take 3, tl, rfl, k2, lets_take 3 k3, ht, by simp; omega, g2⟩
        · have n1 : ¬ v = 1 := fun z => hv1 (.inl z)
          have n3 : ¬ v = 3 := fun z => hv1 (.inr z)
          simp [R_marks, n1, n3]
          exact ⟨c, hd, tl, rfl, hc, hl, ht, g1, g2⟩
      refine wp_cut (I_m N v (if v = 1 ∨ v = 3 then 3 else 0) (if v = 2 then 5 else 0)) ?_ fun ρ e => ?_
      · obtain ⟨c, hd, tl, rfl, hc, hl, ht, g1, g2⟩ := e
        obtain ⟨d, c2, k1, k2, l, rfl, k3, k4, k5⟩ := e_mark c hc
        have hcut : L2.cutS (mkS l) none (some 5) = mkS (l.take 5) := cut_pre l 5
        by_cases hv1 : v = 2
        · subst hv1
          simp [R_marks, k1, mkS_len, hcut]
          refine ⟨by omega, c2, hd, l.take 5, rfl, k2, hl, lets_take 5 k3, g1, by simp; omega⟩
        · simp [R_marks, hv1]
          exact ⟨c, hd, tl, rfl, hc, hl, ht, g1, by omega⟩
      refine wp_cut (I_m N v (if v = 1 ∨ v = 3 then 3 else 0) (if v = 2 then 5 else if v = 3 then 2 else 0)) ?_ fun ρ e => ?_
      · obtain ⟨c, hd, tl, rfl, hc, hl, ht, g1, g2⟩ := e
        obtain ⟨d, c2, k1, k2, l, rfl, k3, k4, k5⟩ := e_mark c hc
        have hcut : L2.cutS (mkS l) none (some 2) = mkS (l.take 2) := cut_pre l 2
        by_cases hv1 : v = 3
        · subst hv1
          simp [R_marks, k1, mkS_len, hcut]
          refine ⟨by omega, c2, hd, l.take 2, rfl, k2, hl, lets_take 2 k3, g1, by simp; omega⟩
        · simp [R_marks, hv1]
          exact ⟨c, hd, tl, rfl, hc, hl, ht, by simpa [hv1] using g1, by simpa [hv1] using g2⟩
      obtain ⟨c, hd, tl, rfl, hc, hl, ht, g1, g2⟩ := e
      have hlen : hd.length + tl.length ≤ 5 := by
        split at g1 <;> split at g2 <;> first | omega | (split at g2 <;> omega)
      obtain ⟨u, c3, t1, t2, t3, t4⟩ := take_in c hc 4 (by omega)
      have hwid : ∃ w : Int, L2.atI [PyData.int 26, .int 26, .int 60, .int 9000] u = some (.int w) ∧ w ≤ 9000 := by
        obtain ⟨x, hx, hm⟩ := four (PyData.int 26) (.int 26) (.int 60) (.int 9000) u t3 (by omega)
        simp only [List.mem_cons, List.not_mem_nil, or_false] at hm
        rcases hm with rfl | rfl | rfl | rfl
        · exact ⟨_, hx, by omega⟩
        · exact ⟨_, hx, by omega⟩
        · exact ⟨_, hx, by omega⟩
        · exact ⟨_, hx, by omega⟩
      obtain ⟨w, hw1, hw2⟩ := hwid
      obtain ⟨st, hst, hbig⟩ := step_ex w N (by omega) (by omega) hw2
      simp [R_marks, t1, hw1]
      rw [hst]
      refine ⟨by omega, rngB_of (by omega), ?_⟩
      rw [rngD_0]
      refine wp_loopT natD (I_marks N st v w hd tl) ⟨0, c3, [], 0, _, rfl, by simp, by simp, t2, rfl, (fun x hx => nomatch hx), .nil, .inr ⟨rfl, rfl⟩⟩ ?_ ?_
      · rintro b bs ρ ⟨k, c, ns, num, o9, rfl, i1, i2, i3, i4, i5, i6, i7⟩
        rw [List.length_cons] at i1 i2
        rw [List.range'_succ] at i2
        injection i2 with i8 i9
        subst i8
        obtain ⟨u, c4, s1, s2, s3, s4⟩ := take_in c i3 ((st : Int) + 1) (by
          have : st + 1 ≤ N * (st + 1) := Nat.le_mul_of_pos_left _ (by omega)
          omega)
        obtain ⟨q, rfl⟩ : ∃ q : Nat, u = q := ⟨u.toNat, by omega⟩
        have hmono : (b + 1) * (st + 1) ≤ N * (st + 1) := Nat.mul_le_mul_right _ (by omega)
        have hsucc : (b + 1) * (st + 1) = b * (st + 1) + (st + 1) := Nat.succ_mul _ _
        have fin : ∀ m : Nat, (∀ x ∈ ns, x < m) → m + 1 ≤ (b + 1) * (st + 1) → wp (sApp 8 (bin addM (bin addM (rd 3) (fzM (callF 1 m__law_word (aCons (rd 7) aNil)))) (rd 4))) [some (.ob false c4), some (.fz (.int (N : Nat))), some (.fz (.int v)), some (.fz (.str (mkS hd))), some (.fz (.str (mkS tl))), some (.fz (.int w)), some (.fz (.int (st : Nat))), some (.fz (.int (m : Nat))), some (.ob true (.l ((ns.map (wrd hd tl)).map .str))), some (.fz (natD b))] (lpQ (I_marks N st v w hd tl bs) (seqQ (sRetO (bnd (aCons (rd 8) aNil) sortO)) (retB fun w c2 => ∃ ws : List Str, w = .ob true (.l (ws.map .str)) ∧ St c2 ∧ ws.length = N ∧ ws.Nodup ∧ ∀ x ∈ ws, isMark x = true) fun _ _ => False)) (fun _ _ => False) := by
          intro m hm1 hm2
          have hlt : m < 18278 := by omega
          have hl3 := wd_len hlt
          simp [e_word, wd_eq, mkS_len, mkS_app]
          refine ⟨by omega, by omega, by omega, b + 1, c4, ns ++ [m], m, some (.fz (natD b)), by simp [wrd], by omega, i9, s2, by simp; omega, ?_, ?_, .inl hm2⟩
          · intro x hx
            rcases List.mem_append.mp hx with hx | hx
            · exact Nat.le_of_lt (hm1 x hx)
            · rw [List.mem_singleton.mp hx]
              exact Nat.le_refl _
          · refine List.nodup_append.mpr ⟨i6, by simp, fun x hx y hy => ?_⟩
            rw [List.mem_singleton] at hy
            subst hy
            have := hm1 x hx
            omega
        by_cases hb : b = 0
        · subst hb
          have hns : ns = [] := List.eq_nil_of_length_eq_zero i4
          subst hns
          have hnum : num = 0 := by omega
          subst hnum
          simp [s1, -wp_sApp]
          have f := fin q (fun x hx => nomatch hx) (by omega)
          exact f
        · have hb' : 0 < b := by omega
          simp [s1, hb', -wp_sApp, -List.map_map]
          have f := fin (num + q + 1) (fun x hx => by have := i5 x hx; omega) (by omega)
          rw [show ((num : Int) + q + 1) = ((num + q + 1 : Nat) : Int) by omega]
          exact f
      · rintro ρ ⟨k, c, ns, num, o9, rfl, i1, i2, i3, i4, i5, i6, i7⟩
        rw [List.length_nil, Nat.add_zero] at i1
        subst i1
        have hall : ∀ x ∈ ns, x < 18278 := fun x hx => by
          have := i5 x hx
          omega
        obtain ⟨ys, y1, y2, y3⟩ := srt_strs (ns.map (wrd hd tl))
        simp [okSort_strs, -List.map_map, y1]
        refine ⟨ys, rfl, i3, by rw [y2.length_eq, List.length_map, i4], ?_, fun x hx => ?_⟩
        · refine y2.nodup_iff.mpr ?_
          rw [List.nodup_iff_pairwise_ne, List.pairwise_map]
          refine (List.nodup_iff_pairwise_ne.mp i6).imp_of_mem fun {a b} ha hb ne e => ne ?_
          have e := mkS_inj e
          rw [List.append_assoc, List.append_assoc] at e
          exact wd_inj (hall a ha) (hall b hb) (List.append_cancel_right (List.append_cancel_left e))
        · obtain ⟨m, hm, rfl⟩ := List.mem_map.mp (y2.mem_iff.mp hx)
          have hl3 := wd_len (hall m hm)
          exact lets_mark (lets_app (lets_app hl (wd_lets m)) ht) (by simp; omega) (by simp; omega)
  obtain ⟨w, c2, e, ws, rfl, g⟩ := z
  exact ⟨ws, c2, e, g⟩
end K90
set_option Elab.async false
set_option linter.all false
set_option maxRecDepth 100000
set_option maxHeartbeats 1000000
namespace K90
open PySem PySem.Spec PyProof.Rows Dv
/-! the law's tallies -/
def GivT (o : FOut) (q : Ty → Prop) : Prop := ∃ (t : Ty) (c' : BR), o = .ok (.ob true (.l (t.map prD))) (some c') ∧ St c' ∧ q t
theorem givT_b {N : Nat} {body : Mo Fl} {c : BR} {ds : List PyData} {q : Ty → Prop} (h : wp body (env0 N (.b c) ds) (retB fun w c' => ∃ t : Ty, w = .ob true (.l (t.map prD)) ∧ St c' ∧ q t) (fun _ _ => False)) : GivT (mkFn N body (.b c) ds) q := by
  obtain ⟨w, c', e, t, rfl, h1, h2⟩ := mk_b h
  exact ⟨t, c', e, h1, h2⟩
def sumT (t : Ty) : Int := (t.map (·.2)).sum
theorem sumT_app (a b : Ty) : sumT (a ++ b) = sumT a + sumT b := by
  unfold sumT
  rw [List.map_append, List.sum_append]
theorem sumT_perm {a b : Ty} (h : a.Perm b) : sumT a = sumT b := by
  unfold sumT
  induction h with
  | nil => rfl
  | cons x _ ih => simp [ih]
  | swap x y l =>
    simp
    omega
  | trans _ _ a b => rw [a, b]
/-- marks of ms, their numbers 1 to m, s together at most -/
structure OfMs (ms : List Str) (m s : Int) (t : Ty) : Prop where
  rise : Rise t
  sub : ∀ p ∈ t, p.1 ∈ ms ∧ 1 ≤ p.2 ∧ p.2 ≤ m
  sum : sumT t ≤ s
def I_tof (ms : List Str) (most total style : Int) (xs : List Str) (ρ : Rho) : Prop := ∃ (c : BR) (ps : Ty) (left : Int) (o7 o8 o9 o1 : Option Sl), ρ = [some (.ob false c), o1, some (.fz (.int most)), some (.fz (.int total)), some (.fz (.int style)), some (.fz (.int left)), some (.ob true (.l (ps.map prD))), o7, o8, o9] ∧ St c ∧ 0 ≤ left ∧ sumT ps + left ≤ total ∧ (ps.map (·.1) ++ xs).Nodup ∧ (∀ x ∈ xs, x ∈ ms) ∧ (∀ p ∈ ps, p.1 ∈ ms ∧ 1 ≤ p.2 ∧ p.2 ≤ most) ∧ ps.length + xs.length ≤ ms.length
theorem e_tally_of (c : BR) (h : St c) (ms : List Str) (hms : ms.Nodup) (hl : ms.length ≤ 1000) (most total : Int) (hm : most ≤ 1000) (ht : 0 ≤ total ∧ total ≤ 1000) : GivT (m__law_tally_of (.b c) [.list (ms.map .str), .int most, .int total]) (OfMs ms most total) := by
  obtain ⟨v, c1, h1, h2, h3, h4⟩ := take_in c h 4 (by omega)
  obtain ⟨ys, c2, g1, g2, g3⟩ := e_order c1 h2 PyData.str ms (by omega)
  refine givT_b ?_
  simp [env0, sl0, h1, g1]
  refine wp_loopT .str (I_tof ms most total v) ⟨c2, [], total, _, _, _, _, rfl, g2, ht.1, by simp [sumT], by simpa using g3.nodup_iff.mpr hms, fun x hx => g3.mem_iff.mp hx, (fun p hp => nomatch hp), by rw [g3.length_eq]; simp⟩ ?_ ?_
  · rintro x xs ρ ⟨c, ps, left, o7, o8, o9, o1, rfl, hc, i1, i2, i3, i4, i5, i6⟩
    rw [List.length_cons] at i6
    have ix := i4 x List.mem_cons_self
    have i4' : ∀ y ∈ xs, y ∈ ms := fun y hy => i4 y (List.mem_cons_of_mem _ hy)
    obtain ⟨hi, hhi⟩ : ∃ hi : Int, hi = if left < most then left else most := ⟨_, rfl⟩
    have hh : hi ≤ left ∧ hi ≤ most := by split at hhi <;> omega
    obtain ⟨u, c3, k1, k2, k3, k4⟩ := e_edge c hc 0 hi (by omega)
    have nd' : (ps.map (·.1) ++ xs).Nodup := by
      rw [List.nodup_append] at i3 ⊢
      obtain ⟨n1, n2, n3⟩ := i3
      exact ⟨n1, (List.nodup_cons.mp n2).2, fun a ha b hb => n3 a ha b (List.mem_cons_of_mem _ hb)⟩
    simp [-wp_sSeq]
    refine wp_cut (fun ρ => ρ = [some (.ob false c), o1, some (.fz (.int most)), some (.fz (.int total)), some (.fz (.int v)), some (.fz (.int left)), some (.ob true (.l (ps.map prD))), some (.fz (.str x)), some (.fz (.int hi)), o9]) (by simp [hhi]) fun ρ e => ?_
    subst e
    refine wp_cut (fun ρ => ρ = [some (.ob false c3), o1, some (.fz (.int most)), some (.fz (.int total)), some (.fz (.int v)), some (.fz (.int left)), some (.ob true (.l (ps.map prD))), some (.fz (.str x)), some (.fz (.int hi)), some (.fz (.int u))]) (by simp [k1]) fun ρ e => ?_
    subst e
    refine wp_cut (fun ρ => ∃ w, (w ≤ hi ∨ w ≤ 0) ∧ ρ = [some (.ob false c3), o1, some (.fz (.int most)), some (.fz (.int total)), some (.fz (.int v)), some (.fz (.int left)), some (.ob true (.l (ps.map prD))), some (.fz (.str x)), some (.fz (.int hi)), some (.fz (.int w))]) ?_ fun ρ e => ?_
    · by_cases v0 : v = 0
      · simp [v0]
      · simp [v0]
        omega
    obtain ⟨w, hw, rfl⟩ := e
    refine wp_cut (fun ρ => ∃ w, (w ≤ hi ∨ w ≤ 0) ∧ ρ = [some (.ob false c3), o1, some (.fz (.int most)), some (.fz (.int total)), some (.fz (.int v)), some (.fz (.int left)), some (.ob true (.l (ps.map prD))), some (.fz (.str x)), some (.fz (.int hi)), some (.fz (.int w))]) ?_ fun ρ e => ?_
    · by_cases v0 : v = 1
      · simp [v0]
        split <;> omega
      · simp [v0]
        exact hw
    obtain ⟨w, hw, rfl⟩ := e
    by_cases k : 0 < w
    · simp [k]
      refine ⟨by omega, c3, ps ++ [(x, w)], left - w, _, _, _, _, by simp; exact ⟨rfl, rfl, rfl, rfl⟩, k2, by omega, ?_, ?_, i4', ?_, by simp; omega⟩
      · rw [sumT_app]
        simp [sumT] at i2 ⊢
        omega
      · rw [List.map_append, List.append_assoc]
        exact i3
      · intro p hp
        rcases List.mem_append.mp hp with hp | hp
        · exact i5 p hp
        · rw [List.mem_singleton.mp hp]
          exact ⟨ix, by dsimp only; omega, by dsimp only; omega⟩
    · simp [k]
      exact ⟨c3, ps, left, _, _, _, _, rfl, k2, i1, i2, nd', i4', i5, by omega⟩
  · rintro ρ ⟨c, ps, left, o7, o8, o9, o1, rfl, hc, i1, i2, i3, i4, i5, i6⟩
    rw [List.append_nil] at i3
    obtain ⟨ts, t1, t2, t3⟩ := srt_prs ps
    simp [okSort_prs, t1]
    refine ⟨ts, rfl, hc, rise_of t3 ((t2.map _).nodup_iff.mpr i3), fun p hp => i5 p (t2.mem_iff.mp hp), ?_⟩
    rw [sumT_perm t2]
    omega
end K90
set_option Elab.async false
set_option linter.all false
set_option maxRecDepth 100000
set_option maxHeartbeats 1000000
namespace K90
open PySem PySem.Spec PyProof.Rows Dv
theorem mark_pos {x : Str} (h : isMark x = true) : sLt "" x = true := by
  unfold isMark at h
  obtain ⟨h, _⟩ := Bool.and_eq_true_iff.mp h
  have h := of_decide_eq_true h
  unfold sLt
  rw [nil_str]
  show decide (([] : List Nat) < x.cps.toList) = true
  have hl : x.cps.toList.length = x.length := rfl
  cases q : x.cps.toList with
  | nil =>
    rw [q] at hl
    simp at hl
    omega
  | cons c cs => simp
theorem mark_len {x : Str} (h : isMark x = true) : x.length ≤ 8 := by
  unfold isMark at h
  obtain ⟨h, _⟩ := Bool.and_eq_true_iff.mp h
  exact (of_decide_eq_true h).2
theorem wrong_of : ∀ {t : Ty} {b : Str}, Rise t → (∀ p ∈ t, isMark p.1 = true ∧ 1 ≤ p.2) → (∀ p ∈ t, sLt b p.1 = true) → wrongT b t = false
  | [], _, _, _, _ => rfl
  | p :: t, b, hr, hm, hb => by
    have h1 := hm p List.mem_cons_self
    obtain ⟨r1, r2⟩ := List.pairwise_cons.mp hr
    rw [wrong_cons, h1.1, hb p List.mem_cons_self, decide_eq_false (by omega), wrong_of r2 (fun q hq => hm q (List.mem_cons_of_mem _ hq)) r1]
    rfl
structure MsOk (ms : List Str) (n : Nat) : Prop where
  nd : ms.Nodup
  mark : ∀ x ∈ ms, isMark x = true
  len : ms.length ≤ n
theorem good_of {ms : List Str} {m s : Int} {t : Ty} (h : OfMs ms m s t) (g : MsOk ms 60) (hm : m ≤ 1000) : GoodT t s := by
  have hk : (t.map (·.1)).Nodup := by
    rw [List.nodup_iff_pairwise_ne, List.pairwise_map]
    exact h.rise.imp fun h => sLt_ne h
  have hl := nodup_len hk fun x hx => by
    obtain ⟨p, hp, rfl⟩ := List.mem_map.mp hx
    exact (h.sub p hp).1
  rw [List.length_map] at hl
  have := g.len
  refine ⟨fun p hp => ?_, ?_, ?_, h.sum⟩
  · have := mark_len (g.mark _ (h.sub p hp).1)
    omega
  · unfold largeT
    rw [if_neg (by omega), if_neg]
    intro z
    obtain ⟨p, hp, z⟩ := List.any_eq_true.mp z
    have z := of_decide_eq_true z
    have := (h.sub p hp).2.2
    omega
  · exact wrong_of h.rise (fun p hp => ⟨g.mark _ (h.sub p hp).1, (h.sub p hp).2.1⟩) fun p hp => mark_pos (g.mark _ (h.sub p hp).1)
theorem e_tally (c : BR) (h : St c) (most total : Int) (hm : most ≤ 1000) (ht : 0 ≤ total ∧ total ≤ 1000) : GivT (m__law_tally (.b c) [.int 5, .int most, .int total]) fun t => ∃ ms, MsOk ms 60 ∧ OfMs ms most total t := by
  obtain ⟨v, c1, h1, h2, h3, h4⟩ := e_edge c h 0 5 (by omega)
  obtain ⟨ws, c2, g1, g2, g3, g4, g5⟩ := e_marks c1 h2 v (by omega)
  obtain ⟨t, c3, k1, k2, k3⟩ := e_tally_of c2 g2 ws g4 (by omega) most total hm ht
  refine givT_b ?_
  simp [env0, sl0, h1, g1, k1]
  exact ⟨t, rfl, k2, ws, ⟨g4, g5, by omega⟩, k3⟩
theorem five {γ : Type} (a b c d e : γ) (v : Int) (h0 : 0 ≤ v) (h : v < 5) : ∃ x, L2.atI [a, b, c, d, e] v = some x ∧ x ∈ [a, b, c, d, e] := by
  have : v = 0 ∨ v = 1 ∨ v = 2 ∨ v = 3 ∨ v = 4 := by omega
  rcases this with rfl | rfl | rfl | rfl | rfl
  · exact ⟨a, atI_0, by simp⟩
  · exact ⟨b, atI_1, by simp⟩
  · exact ⟨c, atI_2, by simp⟩
  · exact ⟨d, atI_3, by simp⟩
  · exact ⟨e, atI_nat' (k := 4), by simp⟩
def mx (i j : Int) : Int := if j > i then j else i
def mn (i j : Int) : Int := if j < i then j else i
theorem mx_le {i j : Int} : i ≤ mx i j ∧ j ≤ mx i j ∧ (mx i j = i ∨ mx i j = j) := by
  unfold mx
  split <;> omega
theorem mn_le {i j : Int} : mn i j ≤ i ∧ mn i j ≤ j ∧ (mn i j = i ∨ mn i j = j) := by
  unfold mn
  split <;> omega
def mn3 (i j k : Int) : Int := if k < (if j < i then j else i) then k else if j < i then j else i
theorem mn3_le {i j k : Int} : mn3 i j k ≤ i ∧ mn3 i j k ≤ j ∧ mn3 i j k ≤ k ∧ (mn3 i j k = i ∨ mn3 i j k = j ∨ mn3 i j k = k) := by
  unfold mn3
  split <;> split <;> omega
section
variable {ρ : Rho} {E : Exn → Rho → Prop} {Q : PyData → Rho → Prop}
theorem wo_max2 {i j : Int} : wp (max2M [.int i, .int j]) ρ Q E = Q (.int (mx i j)) ρ := wp_max2
theorem wo_min2 {i j : Int} : wp (min2M [.int i, .int j]) ρ Q E = Q (.int (mn i j)) ρ := wp_min2
theorem wo_min3 {i j k : Int} : wp (min3M [.int i, .int j, .int k]) ρ Q E = Q (.int (mn3 i j k)) ρ := wp_min3
end
def GivW (o : FOut) (n k : Int → Prop) : Prop := ∃ (a b : Int) (c' : BR), o = .ok (.fz (.tuple [.int a, .int b])) (some c') ∧ St c' ∧ n a ∧ k b
theorem e_wheel_size (c : BR) (h : St c) : GivW (m__law_wheel_size (.b c) [.int 9, .int 240]) (fun n => 1 ≤ n ∧ n ≤ 240) fun k => 1 ≤ k ∧ k ≤ 1000 := by
  obtain ⟨n, c1, h1, h2, h3, h4⟩ := e_size c h 1 9 240 (by omega) (by omega)
  have hn : 1 ≤ n ∧ n ≤ 240 := by omega
  obtain ⟨v, c2, g1, g2, g3, g4⟩ := take_in c1 h2 8 (by omega)
  obtain ⟨u, c3, k1, k2, k3, k4⟩ := take_in c2 g2 3 (by omega)
  have m2 := mx_le (i := 1) (j := n / 2)
  have m3 := mx_le (i := 1) (j := n / 3)
  have z : ∃ w c2, m__law_wheel_size (.b c) [.int 9, .int 240] = .ok w (some c2) ∧ (∃ a b : Int, w = .fz (.tuple [.int a, .int b]) ∧ St c2 ∧ (1 ≤ a ∧ a ≤ 240) ∧ 1 ≤ b ∧ b ≤ 1000) := by
    refine mk_b (Q := fun w c2 => ∃ a b : Int, w = .fz (.tuple [.int a, .int b]) ∧ St c2 ∧ (1 ≤ a ∧ a ≤ 240) ∧ 1 ≤ b ∧ b ≤ 1000) ?_
    by_cases h5 : v < 5
    · obtain ⟨x, x1, x2⟩ := five (PyData.int 1) (.int n) (.int (n + 1 + u)) (.int (mx 1 (n / 2))) (.int (mx 1 (n / 3))) v g3 h5
      have hx : ∃ b : Int, x = .int b ∧ 1 ≤ b ∧ b ≤ 1000 := by
        simp only [List.mem_cons, List.not_mem_nil, or_false] at x2
        rcases x2 with rfl | rfl | rfl | rfl | rfl
        · exact ⟨_, rfl, by omega, by omega⟩
        · exact ⟨_, rfl, by omega, by omega⟩
        · exact ⟨_, rfl, by omega, by omega⟩
        · exact ⟨_, rfl, by omega, by omega⟩
        · exact ⟨_, rfl, by omega, by omega⟩
      obtain ⟨b, rfl, hb⟩ := hx
      simp [env0, sl0, h1, g1, k1, h5, x1, wo_max2, -wp_max2]
      exact ⟨n, b, ⟨rfl, rfl⟩, k2, hn, hb⟩
    · obtain ⟨w, c4, t1, t2⟩ := e_chance c3 k2 4 (by omega)
      obtain ⟨y, c5, s1, s2, s3, s4⟩ := e_between c3 k2 1 (mx 1 (n / 2)) (by omega) (by omega)
      obtain ⟨y', c5', s1', s2', s3', s4'⟩ := e_between c4 t2 1 (mx 1 (n / 2)) (by omega) (by omega)
      by_cases h6 : v = 5
      · cases w with
        | true =>
          simp [env0, sl0, h1, g1, k1, h6, t1, wo_max2, -wp_max2]
          exact ⟨n, 1000, ⟨rfl, rfl⟩, t2, hn, by omega⟩
        | false =>
          simp [env0, sl0, h1, g1, k1, h6, t1, s1', wo_max2, -wp_max2]
          exact ⟨n, y', ⟨rfl, rfl⟩, s2', hn, by omega⟩
      · simp [env0, sl0, h1, g1, k1, h5, h6, s1, wo_max2, -wp_max2]
        exact ⟨n, y, ⟨rfl, rfl⟩, s2, hn, by omega⟩
  obtain ⟨w, c2, e, a, b, rfl, g⟩ := z
  exact ⟨a, b, c2, e, g.1, g.2.1, g.2.2⟩
def GivZ (o : FOut) : Prop := ∃ (n k d : Int) (c' : BR), o = .ok (.fz (.tuple [.int n, .int k, .int d])) (some c') ∧ St c' ∧ (1 ≤ n ∧ n ≤ 240) ∧ (1 ≤ k ∧ k ≤ 1000) ∧ (1 ≤ d ∧ d ≤ 12) ∧ n * d ≤ 600
theorem e_days_size (c : BR) (h : St c) : GivZ (m__law_days_size (.b c) [.int 240]) := by
  obtain ⟨n, k, c1, h1, h2, h3, h4⟩ := e_wheel_size c h
  obtain ⟨b, c2, g1, g2⟩ := e_chance c1 h2 2 (by omega)
  have z : ∃ w c2, m__law_days_size (.b c) [.int 240] = .ok w (some c2) ∧ (∃ n k d : Int, w = .fz (.tuple [.int n, .int k, .int d]) ∧ St c2 ∧ (1 ≤ n ∧ n ≤ 240) ∧ (1 ≤ k ∧ k ≤ 1000) ∧ (1 ≤ d ∧ d ≤ 12) ∧ n * d ≤ 600) := by
    refine mk_b (Q := fun w c2 => ∃ n k d : Int, w = .fz (.tuple [.int n, .int k, .int d]) ∧ St c2 ∧ (1 ≤ n ∧ n ≤ 240) ∧ (1 ≤ k ∧ k ≤ 1000) ∧ (1 ≤ d ∧ d ≤ 12) ∧ n * d ≤ 600) ?_
    refine wp_cut (fun ρ => ρ = [some (.ob false c1), some (.fz (.int 240)), some (.fz (.tuple [.int n, .int k])), none, none, none]) (by simp [env0, sl0, h1]) fun ρ e => ?_
    subst e
    refine wp_cut (fun ρ => ρ = [some (.ob false c1), some (.fz (.int 240)), some (.fz (.tuple [.int n, .int k])), some (.fz (.int n)), none, none]) (by simp) fun ρ e => ?_
    subst e
    refine wp_cut (fun ρ => ρ = [some (.ob false c1), some (.fz (.int 240)), some (.fz (.tuple [.int n, .int k])), some (.fz (.int n)), some (.fz (.int k)), none]) (by simp) fun ρ e => ?_
    subst e
    refine wp_cut (fun ρ => ∃ c n' k' : _, ρ = [some (.ob false c), some (.fz (.int 240)), some (.fz (.tuple [.int n, .int k])), some (.fz (.int n')), some (.fz (.int k')), none] ∧ St c ∧ (1 ≤ n' ∧ n' ≤ 240) ∧ (1 ≤ k' ∧ k' ≤ 1000)) ?_ fun ρ e => ?_
    · cases b with
      | false =>
        simp [g1]
        exact ⟨c2, n, k, ⟨rfl, rfl, rfl⟩, g2, h3, h4⟩
      | true =>
        obtain ⟨a, c3, t1, t2, t3, t4⟩ := e_between c2 g2 2 6 (by omega) (by omega)
        obtain ⟨x, c4, s1, s2, s3, s4⟩ := take_in c3 t2 4 (by omega)
        obtain ⟨y, c5, r1, r2, r3, r4⟩ := take_in c4 s2 2 (by omega)
        simp [g1, t1, s1, r1, wo_max2, wo_min2, -wp_max2, -wp_min2]
        have q1 := mn_le (i := 240) (j := x * a + a - 1 - y)
        have q2 := mx_le (i := 1) (j := mn 240 (x * a + a - 1 - y))
        exact ⟨mulB_r (by omega), _, _, _, ⟨rfl, rfl, rfl⟩, r2, by omega, by omega⟩
    obtain ⟨c, n', k', rfl, e1, e2, e3⟩ := e
    have q1 := mn_le (i := 4) (j := 600 / n')
    have q2 := mn_le (i := 12) (j := 600 / n')
    have q3 : 2 ≤ 600 / n' := (Int.le_ediv_iff_mul_le (by omega)).mpr (by omega)
    obtain ⟨d, c3, t1, t2, t3, t4⟩ := e_size c e1 1 (mn 4 (600 / n')) (mn 12 (600 / n')) (by omega) (by omega)
    simp [t1, wo_min2, -wp_min2]
    refine ⟨by omega, n', k', d, ⟨rfl, rfl, rfl⟩, t2, e2, e3, by omega, ?_⟩
    have hd : d ≤ 600 / n' := by omega
    have := Int.mul_ediv_self_le (x := 600) (k := n') (by omega)
    have := Int.mul_le_mul_of_nonneg_left hd (show 0 ≤ n' by omega)
    omega
  obtain ⟨w, c2, e, n, k, d, rfl, g⟩ := z
  exact ⟨n, k, d, c2, e, g⟩
end K90
set_option Elab.async false
set_option linter.all false
set_option maxRecDepth 100000
set_option maxHeartbeats 1000000
namespace K90
open PySem PySem.Spec PyProof.Rows Dv
theorem sum_const (ws : List Str) (m : Int) : sumT (ws.map fun x => (x, m)) = ws.length * m := by
  induction ws with
  | nil => simp [sumT]
  | cons x ws ih =>
    unfold sumT at ih ⊢
    simp at ih ⊢
    rw [ih, Int.add_mul]
    omega
theorem e_days_tally (c : BR) (h : St c) (n k d : Int) (hn : 1 ≤ n ∧ n ≤ 240) (hk : 1 ≤ k ∧ k ≤ 1000) (hd : 1 ≤ d ∧ d ≤ 12) : GivT (m__law_days_tally (.b c) [.int n, .int k, .int d, .int 1]) fun t => ∃ ms, MsOk ms 60 ∧ OfMs ms (n / k + 1) n t := by
  have hq : 0 ≤ n / k ∧ n / k ≤ 240 := ⟨Int.ediv_nonneg (by omega) (by omega), Int.le_trans (Int.ediv_le_self k (by omega)) hn.2⟩
  generalize hqq : n / k = q at hq
  have hp : 0 < q + 1 := by omega
  have hz : 0 ≤ n / (q + 1) := Int.ediv_nonneg (by omega) (by omega)
  have hz2 := Int.ediv_mul_le n (show q + 1 ≠ 0 by omega)
  generalize hzz : n / (q + 1) = z at hz hz2
  refine givT_b ?_
  refine wp_cut (fun ρ => ρ = [some (.ob false c), some (.fz (.int n)), some (.fz (.int k)), some (.fz (.int d)), some (.fz (.int 1)), some (.fz (.int q)), none, none, none, none, none, none]) ?_ fun ρ e => ?_
  · simp [env0, sl0, hqq]
    omega
  subst e
  refine wp_cut (fun ρ => ρ = [some (.ob false c), some (.fz (.int n)), some (.fz (.int k)), some (.fz (.int d)), some (.fz (.int 1)), some (.fz (.int q)), some (.fz (.int 0)), none, none, none, none, none]) (by simp) fun ρ e => ?_
  subst e
  refine wp_cut (fun ρ => ∃ wd, 0 ≤ wd ∧ ρ = [some (.ob false c), some (.fz (.int n)), some (.fz (.int k)), some (.fz (.int d)), some (.fz (.int 1)), some (.fz (.int q)), some (.fz (.int wd)), none, none, none, none, none]) ?_ fun ρ e => ?_
  · have hd0 : 0 < d := by omega
    simp [hd0, wo_max2, -wp_max2]
    exact ⟨by omega, mulB_l (by omega), mx_le.1⟩
  obtain ⟨wd, hw, rfl⟩ := e
  have m3 := mn3_le (i := wd + 1) (j := z) (k := 40)
  generalize hM : mn3 (wd + 1) z 40 = M at m3
  have mm : M * (q + 1) ≤ n := by
    have := Int.mul_le_mul_of_nonneg_right m3.2.1 (show 0 ≤ q + 1 by omega)
    omega
  obtain ⟨v, c1, h1, h2, h3, h4⟩ := e_edge c h 0 M (by omega)
  refine wp_cut (fun ρ => ρ = [some (.ob false c1), some (.fz (.int n)), some (.fz (.int k)), some (.fz (.int d)), some (.fz (.int 1)), some (.fz (.int q)), some (.fz (.int wd)), some (.fz (.int v)), none, none, none, none]) ?_ fun ρ e => ?_
  · simp [wo_min3, -wp_min3, hzz, hM, h1]
    omega
  subst e
  refine wp_cut (fun ρ => ∃ c1 v, St c1 ∧ (0 ≤ v ∧ v ≤ 40 ∧ v * (q + 1) ≤ n) ∧ ρ = [some (.ob false c1), some (.fz (.int n)), some (.fz (.int k)), some (.fz (.int d)), some (.fz (.int 1)), some (.fz (.int q)), some (.fz (.int wd)), some (.fz (.int v)), none, none, none, none]) ?_ fun ρ e => ?_
  · obtain ⟨u, c2, k1, k2, k3, k4⟩ := take_in c1 h2 2 (by omega)
    have hv : v * (q + 1) ≤ n := by
      by_cases hv : v ≤ M
      · have := Int.mul_le_mul_of_nonneg_right hv (show 0 ≤ q + 1 by omega)
        omega
      · have : v = 0 := by omega
        rw [this]
        omega
    by_cases u0 : u = 0
    · simp [wo_min3, -wp_min3, hzz, hM, k1, u0]
      exact ⟨by omega, k2, by omega, by omega, mm⟩
    · simp [k1, u0]
      exact ⟨k2, by omega, by omega, hv⟩
  obtain ⟨c1, v, h2, hv, rfl⟩ := e
  obtain ⟨T, rfl⟩ : ∃ T : Nat, v = T := ⟨v.toNat, by omega⟩
  obtain ⟨u, c2, k1, k2, k3, k4⟩ := e_edge c1 h2 0 4 (by omega)
  obtain ⟨ws, c3, g1, g2, g3, g4, g5⟩ := e_marks c2 k2 ((T : Int) + u) (by omega)
  obtain ⟨ys, c4, s1, s2, s3⟩ := e_order c3 g2 PyData.str ws (by omega)
  have hyl := s3.length_eq
  have hynd : ys.Nodup := s3.nodup_iff.mpr g4
  have hsplit : (ys.take T ++ ys.drop T).Nodup := by rw [List.take_append_drop]; exact hynd
  rw [List.nodup_append] at hsplit
  have hTq : 0 ≤ (T : Int) * (q + 1) := Int.mul_nonneg (by omega) (by omega)
  obtain ⟨t, c5, r1, r2, r3⟩ := e_tally_of c4 s2 (ys.drop T) hsplit.2.1 (by rw [List.length_drop]; omega) q (n - T * (q + 1)) (by omega) (by omega)
  simp [k1, g1, s1, wp_lcO, cutD_h, cutD_l, -List.map_take, -List.map_drop]
  refine wp_lcT .str (fun x => some (prD (x, q + 1))) (by rfl) (by rw [List.length_take]; omega) (fun x hx => ?_) ?_
  · unfold Turn1
    simp [wipeR]
  · rw [fm_some]
    obtain ⟨ts, t1, t2, t3⟩ := srt_prs ((ys.take T).map (fun x => (x, q + 1)) ++ t)
    have hlt : t.length ≤ 1000 := by
      have := (good_of r3 ⟨hsplit.2.1, fun x hx => g5 x (s3.mem_iff.mp (List.mem_of_mem_drop hx)), by rw [List.length_drop]; omega⟩ (by omega)).large
      unfold largeT at this
      split at this
      · cases this
      · omega
    simp only [List.map_append, List.map_map] at t1
    have ho := okSort_prs ((ys.take T).map (fun x => (x, q + 1)) ++ t)
    simp only [List.map_append, List.map_map] at ho
    simp [restR, wipeR, cutD_l, -List.map_take, -List.map_drop, r1]
    refine ⟨mulB_l (by omega), by omega, ?_, ts, ?_, r2, ys, ⟨hynd, fun x hx => g5 x (s3.mem_iff.mp hx), by omega⟩, ?_⟩
    · exact ho
    · exact t1
    · refine ⟨rise_of t3 ((t2.map _).nodup_iff.mpr ?_), fun p hp => ?_, ?_⟩
      · rw [List.map_append, List.map_map]
        show ((ys.take T).map (fun x => x) ++ t.map (·.1)).Nodup
        rw [List.map_id']
        refine List.nodup_append.mpr ⟨hsplit.1, ?_, fun a ha b hb => ?_⟩
        · rw [List.nodup_iff_pairwise_ne, List.pairwise_map]
          exact r3.rise.imp fun h => sLt_ne h
        · obtain ⟨p, hp, rfl⟩ := List.mem_map.mp hb
          exact hsplit.2.2 a ha _ (r3.sub p hp).1
      · rcases List.mem_append.mp (t2.mem_iff.mp hp) with hp | hp
        · obtain ⟨x, hx, rfl⟩ := List.mem_map.mp hp
          exact ⟨List.mem_of_mem_take hx, by dsimp only; omega, Int.le_refl _⟩
        · obtain ⟨r4, r5, r6⟩ := r3.sub p hp
          exact ⟨List.mem_of_mem_drop r4, r5, by omega⟩
      · rw [sumT_perm t2, sumT_app, sum_const, List.length_take]
        have := r3.sum
        rw [Nat.min_eq_left (by omega)]
        omega
end K90
set_option Elab.async false
set_option linter.all false
set_option maxRecDepth 100000
set_option maxHeartbeats 1000000
namespace K90
open PySem PySem.Spec PyProof.Rows Dv
/-! the law's own equality -/
inductive ExD : Nat → PyData → Prop
  | non (k : Nat) : ExD (k + 1) .none
  | bool (k : Nat) (b : Bool) : ExD (k + 1) (.bool b)
  | int (k : Nat) (i : Int) : ExD (k + 1) (.int i)
  | str (k : Nat) (x : Str) : ExD (k + 1) (.str x)
  | lst (k : Nat) (ds : List PyData) (hl : ds.length < 100000) (h : ∀ d ∈ ds, ExD k d) : ExD (k + 1) (.list ds)
  | tup (k : Nat) (ds : List PyData) (hl : ds.length < 100000) (h : ∀ d ∈ ds, ExD k d) : ExD (k + 1) (.tuple ds)
@[simp] theorem wp_eqB {ρ : Rho} {E : Exn → Rho → Prop} {Q : PyData → Rho → Prop} {x y : Bool} : wp (eqM (.bool x) (.bool y)) ρ Q E = Q (.bool (x == y)) ρ := by
  rw [wp_eq (by simp [PyData.depth])]
  simp only [PyData.eqv]
theorem fm_none {α β : Type} {g : α → Option β} : ∀ {l : List α}, (∀ x ∈ l, g x = none) → l.filterMap g = []
  | [], _ => rfl
  | x :: l, h => by
    rw [List.filterMap_cons, h x List.mem_cons_self, fm_none fun y hy => h y (List.mem_cons_of_mem _ hy)]
theorem at_mem {γ : Type} {ds : List γ} {k : Nat} (h : k < ds.length) : L2.atI ds (k : Int) = some ds[k] := by
  rw [atI_nat', List.getElem?_eq_getElem h]
theorem e_exact {k : Nat} {d : PyData} (h : ExD k d) : m__law_exact k .n [d, d] = .ok (.fz (.bool true)) none := by
  induction h with
  | non k =>
    refine mk_n ?_
    simp [env0, sl0, isTs, tyN, noneB]
  | bool k b =>
    refine mk_n ?_
    simp [env0, sl0, isTs, tyN, noneB]
  | int k i =>
    refine mk_n ?_
    simp [env0, sl0, isTs, tyN, noneB]
  | str k x =>
    refine mk_n ?_
    simp [env0, sl0, isTs, tyN, noneB]
  | lst k ds hl h ih =>
    refine mk_n ?_
    simp [env0, sl0, isTs, tyN, noneB, wp_lcO]
    refine ⟨rngB_of (by omega), ?_⟩
    rw [rngD_0]
    refine wp_lcT natD (fun _ => none) (by rfl) (by rw [List.length_range']; omega) (fun j hj => ?_) ?_
    · have hj : j < ds.length := by simpa using hj
      unfold Turn1
      simp [wipeR, at_mem hj, ih _ (List.getElem_mem hj)]
    · rw [fm_none fun _ _ => rfl]
      simp [restR, wipeR]
  | tup k ds hl h ih =>
    refine mk_n ?_
    simp [env0, sl0, isTs, tyN, noneB, wp_lcO]
    refine ⟨rngB_of (by omega), ?_⟩
    rw [rngD_0]
    refine wp_lcT natD (fun _ => none) (by rfl) (by rw [List.length_range']; omega) (fun j hj => ?_) ?_
    · have hj : j < ds.length := by simpa using hj
      unfold Turn1
      simp [wipeR, at_mem hj, ih _ (List.getElem_mem hj)]
    · rw [fm_none fun _ _ => rfl]
      simp [restR, wipeR]
theorem exD_map {γ : Type} (f : γ → PyData) (k : Nat) (xs : List γ) (hl : xs.length < 100000) (h : ∀ x ∈ xs, ExD k (f x)) : ExD (k + 1) (.list (xs.map f)) := .lst k _ (by rw [List.length_map]; exact hl) fun d hd => by
  obtain ⟨x, hx, rfl⟩ := List.mem_map.mp hd
  exact h x hx
/-! the thread -/
theorem thr_lt {q w r b c n : Nat} (hn : n = q * w + r) (hb : b < w) (hr : r < w) (h : c < q ∨ (c = q ∧ b < r)) : b * q + min b r + c < n := by
  rcases h with h | ⟨h1, h2⟩
  · have h1 : (b + 1) * q ≤ w * q := Nat.mul_le_mul_right _ (by omega)
    rw [Nat.add_mul, Nat.one_mul, Nat.mul_comm w q] at h1
    have : min b r ≤ r := Nat.min_le_right _ _
    omega
  · subst h1
    have h1 : (b + 1) * c ≤ r * c := Nat.mul_le_mul_right _ (by omega)
    have h3 : r * c ≤ w * c := Nat.mul_le_mul_right _ (by omega)
    rw [Nat.add_mul, Nat.one_mul] at h1
    rw [Nat.mul_comm w c] at h3
    have : min b r = b := Nat.min_eq_left (by omega)
    omega
def thrL (q w r c : Nat) : Nat := if c ≤ q then c * w else q * w + r
def I_thrO (n q w r : Nat) (bs : List Nat) (ρ : Rho) : Prop := ∃ (c : Nat) (ts : List Nat) (o4 o5 : Option Sl), ρ = [some (.fz (.int (n : Nat))), some (.fz (.int (w : Nat))), some (.fz (.int (r : Nat))), some (.ob true (.l (ts.map natD))), o4, o5] ∧ c + bs.length = q + 1 ∧ bs = List.range' c bs.length ∧ ts.length = thrL q w r c ∧ ∀ t ∈ ts, t < n
def I_thrI (n q w r c : Nat) (bs : List Nat) (ρ : Rho) : Prop := ∃ (b : Nat) (ts : List Nat) (o5 : Option Sl), ρ = [some (.fz (.int (n : Nat))), some (.fz (.int (w : Nat))), some (.fz (.int (r : Nat))), some (.ob true (.l (ts.map natD))), some (.fz (natD c)), o5] ∧ b + bs.length = w ∧ bs = List.range' b bs.length ∧ ts.length = c * w + (if c < q then b else min b r) ∧ ∀ t ∈ ts, t < n
theorem e_thread (n w : Nat) (hn : 1 ≤ n ∧ n ≤ 240) (hw : 1 ≤ w ∧ w ≤ 1000) : ∃ ts : List Nat, m__law_thread .n [.int (n : Nat), .int (w : Nat)] = .ok (.ob true (.l (ts.map natD))) none ∧ ts.length = n ∧ ∀ t ∈ ts, t < n := by
  have hq : (n : Int) / (w : Int) = ((n / w : Nat) : Int) := (Int.natCast_ediv n w).symm
  have hr : (n : Int) % (w : Int) = ((n % w : Nat) : Int) := (Int.natCast_emod n w).symm
  have hnq : n = n / w * w + n % w := by rw [Nat.mul_comm]; exact (Nat.div_add_mod n w).symm
  have hrw : n % w < w := Nat.mod_lt _ (by omega)
  have hqn : n / w ≤ n := Nat.div_le_self _ _
  generalize n / w = q at hq hnq hqn
  generalize n % w = r at hr hnq hrw
  have z : fout (m__law_thread .n [.int (n : Nat), .int (w : Nat)]) (fun x o => o = none ∧ ∃ ts : List Nat, x = .ob true (.l (ts.map natD)) ∧ ts.length = n ∧ ∀ t ∈ ts, t < n) (fun _ _ => False) := by
    refine mk_x ?_
    simp [env0, sl0, hr, hq]
    refine ⟨by omega, by omega, rngB_of (by omega), ?_⟩
    rw [rngD_0]
    have h0 : I_thrO n q w r (List.range' 0 (q + 1)) [some (.fz (.int (n : Nat))), some (.fz (.int (w : Nat))), some (.fz (.int (r : Nat))), some (.ob true (.l [])), none, none] := by
      refine ⟨0, [], none, none, rfl, ?_, ?_, ?_, ?_⟩
      · rw [List.length_range']
        omega
      · rw [List.length_range']
      · unfold thrL
        rw [if_pos (by omega)]
        simp
      · intro t ht
        cases ht
    generalize (List.range' 0 (q + 1)) = xx at h0 ⊢
    refine wp_loopT natD (I_thrO n q w r) h0 ?_ ?_
    · intro c bs ρ h
      obtain ⟨c', ts, o4, o5, i0, i1, i2, i3, i4⟩ := h
      rw [List.length_cons] at i1 i2
      rw [List.range'_succ] at i2
      injection i2 with i5 i6
      subst i5
      simp only [i0]
      simp
      refine ⟨rngB_of (by omega), ?_⟩
      rw [rngD_0]
      refine wp_loopT natD (I_thrI n q w r c) ⟨0, ts, o5, rfl, by simp, by simp, ?_, i4⟩ ?_ ?_
      · rw [i3]
        unfold thrL
        rw [if_pos (by omega)]
        split <;> simp
      · rintro b cs ρ ⟨b', ts, o5, rfl, j1, j2, j3, j4⟩
        rw [List.length_cons] at j1 j2
        rw [List.range'_succ] at j2
        injection j2 with j5 j6
        subst j5
        have hval : ((b : Int) * (q : Int) + (if r < b then (r : Int) else (b : Int)) + (c : Int)) = ((b * q + min b r + c : Nat) : Int) := by
          have : ((b * q : Nat) : Int) = (b : Int) * (q : Int) := by simp
          split <;> omega
        have hcq : c * w ≤ q * w := Nat.mul_le_mul_right _ (by omega)
        have htl : ts.length ≤ 2000 := by
          rw [j3]
          split <;> omega
        have hmin : min b r ≤ b := Nat.min_le_left _ _
        simp [hq]
        have put : c < q ∨ b < r → I_thrI n q w r c cs [some (.fz (.int (n : Nat))), some (.fz (.int (w : Nat))), some (.fz (.int (r : Nat))), some (.ob true (.l (ts.map natD ++ [.int ((b : Int) * (q : Int) + (if r < b then (r : Int) else (b : Int)) + (c : Int))]))), some (.fz (natD c)), some (.fz (natD b))] := fun h => by
          have hlt := thr_lt hnq (show b < w by omega) hrw (show c < q ∨ (c = q ∧ b < r) by omega)
          rw [hval]
          refine ⟨b + 1, ts ++ [b * q + min b r + c], some (.fz (natD b)), by simp, by omega, j6, ?_, fun t ht => ?_⟩
          · rw [List.length_append, j3]
            simp only [List.length_cons, List.length_nil]
            split <;> omega
          · rcases List.mem_append.mp ht with ht | ht
            · exact j4 t ht
            · rw [List.mem_singleton.mp ht]
              exact hlt
        by_cases h1 : c < q
        · rw [if_pos h1]
          exact ⟨by omega, by omega, mulB_l (by omega), by omega, put (.inl h1)⟩
        · rw [if_neg h1]
          by_cases h2 : b < r
          · rw [if_pos h2]
            exact ⟨by omega, by omega, mulB_l (by omega), by omega, put (.inr h2)⟩
          · rw [if_neg h2]
            refine ⟨by omega, b + 1, ts, some (.fz (natD b)), rfl, by omega, j6, ?_, j4⟩
            rw [j3, if_neg h1, if_neg h1]
            omega
      · rintro ρ ⟨b', ts, o5, rfl, j1, j2, j3, j4⟩
        rw [List.length_nil, Nat.add_zero] at j1
        subst j1
        refine ⟨c + 1, ts, _, _, rfl, by omega, i6, ?_, j4⟩
        rw [j3]
        unfold thrL
        by_cases h1 : c < q
        · rw [if_pos h1, if_pos (by omega), Nat.add_mul]
          omega
        · have : c = q := by omega
          subst this
          rw [if_neg h1, if_neg (by omega)]
          omega
    · rintro ρ ⟨c', ts, o4, o5, rfl, i1, i2, i3, i4⟩
      rw [List.length_nil, Nat.add_zero] at i1
      subst i1
      unfold thrL at i3
      rw [if_neg (by omega)] at i3
      simp
      exact ⟨rfl, ts, rfl, by omega, i4⟩
  obtain ⟨x, o, e, rfl, ts, rfl, h⟩ := fout_ok z
  exact ⟨ts, e, h⟩
/-! the run of a tally -/
theorem rep_one {γ : Type} (m : Nat) (a : γ) : (List.replicate m [a]).flatten = List.replicate m a := by
  induction m with
  | zero => rfl
  | succ m ih => rw [List.replicate_succ, List.flatten_cons, ih, List.replicate_succ]; rfl
end K90
set_option Elab.async false
set_option linter.all false
set_option maxRecDepth 100000
set_option maxHeartbeats 1000000
namespace K90
open PySem PySem.Spec PyProof.Rows Dv
abbrev nD (p : Str × Int) : PyData := .tuple [.int (-p.2), .str p.1]
theorem rep_map {γ : Type} (f : γ → PyData) (m : Nat) (x : γ) : (List.replicate m [f x]).flatten = (List.replicate m x).map f := by
  rw [rep_one, List.map_replicate]
def I_run (t ys xs : Ty) (ρ : Rho) : Prop := ∃ (ps : Ty) (cs : List Str) (w : Sl) (o2 : Option Sl), ρ = [some (.fz (tlD t)), some w, o2, none] ∧ (w = .ob true (.l (cs.map .str)) ∨ w = .fz (.list (cs.map .str))) ∧ ps ++ xs = ys ∧ (cs.length : Int) = sumT ps ∧ ∀ c ∈ cs, c ∈ ps.map (·.1)
theorem sumT_cons (p : Str × Int) (t : Ty) : sumT (p :: t) = p.2 + sumT t := by
  unfold sumT
  rw [List.map_cons, List.sum_cons]
theorem sumT_pos : ∀ {t : Ty}, (∀ p ∈ t, 1 ≤ p.2) → 0 ≤ sumT t
  | [], _ => Int.le_refl _
  | p :: t, h => by
    rw [sumT_cons]
    have := h p List.mem_cons_self
    have := sumT_pos fun q hq => h q (List.mem_cons_of_mem _ hq)
    omega
theorem e_run (t : Ty) (hp : ∀ p ∈ t, 1 ≤ p.2) (hs : sumT t ≤ 1000) (hl : t.length ≤ 1000) : ∃ (w : Sl) (cs : List Str), m__law_run .n [tlD t] = .ok w none ∧ (w = .ob true (.l (cs.map .str)) ∨ w = .fz (.list (cs.map .str))) ∧ (cs.length : Int) = sumT t ∧ ∀ c ∈ cs, c ∈ t.map (·.1) := by
  obtain ⟨ys, y1, y2, _⟩ := srt_typed nD t
  have ok := okSort_typed nD (w := (true, [false, true])) (fun _ => rfl) t
  have z : fout (m__law_run .n [tlD t]) (fun w o => o = none ∧ ∃ cs : List Str, (w = .ob true (.l (cs.map .str)) ∨ w = .fz (.list (cs.map .str))) ∧ (cs.length : Int) = sumT t ∧ ∀ c ∈ cs, c ∈ t.map (·.1)) (fun _ _ => False) := by
    refine mk_x ?_
    simp [env0, sl0, wp_lcO]
    refine wp_lcT prD (fun p => some (nD p)) (by rfl) (by omega) (fun p hp => ?_) ?_
    · unfold Turn1
      simp [wipeR]
    · rw [fm_some]
      simp [restR, wipeR, ok, y1]
      refine wp_loopT nD (I_run t ys) ⟨[], [], _, none, rfl, .inl rfl, rfl, rfl, fun c hc => nomatch hc⟩ ?_ ?_
      · rintro p xs ρ ⟨ps, cs, w, o2, rfl, hw, i1, i2, i3⟩
        have hpp : 1 ≤ p.2 := hp p (y2.mem_iff.mp (by rw [← i1]; simp))
        have hsum : sumT ps + p.2 ≤ 1000 := by
          have e := sumT_perm y2
          rw [← i1, sumT_app, sumT_cons] at e
          have : 0 ≤ sumT xs := sumT_pos fun q hq => hp q (y2.mem_iff.mp (by rw [← i1]; simp [hq]))
          omega
        have hps : 0 ≤ sumT ps := sumT_pos fun q hq => hp q (y2.mem_iff.mp (by rw [← i1]; simp [hq]))
        have fin : I_run t ys xs [some (.fz (tlD t)), some (.fz (.list (cs.map .str ++ List.replicate p.2.toNat (.str p.1)))), some (.fz (nD p)), none] := by
          refine ⟨ps ++ [p], cs ++ List.replicate p.2.toNat p.1, _, _, rfl, .inr (by simp), by rw [← i1]; simp, ?_, fun c hc => ?_⟩
          · rw [sumT_app, List.length_append, List.length_replicate]
            simp [sumT] at i2 ⊢
            omega
          · rcases List.mem_append.mp hc with hc | hc
            · rw [List.map_append]
              exact List.mem_append_left _ (i3 c hc)
            · rw [List.map_append]
              exact List.mem_append_right _ (by simpa using (List.mem_replicate.mp hc).2)
        rcases hw with rfl | rfl
        · simp [rep_one]
          exact ⟨repB_of (by omega) (by omega), by omega, fin⟩
        · simp [rep_one]
          exact ⟨repB_of (by omega) (by omega), by omega, fin⟩
      · rintro ρ ⟨ps, cs, w, o2, rfl, hw, i1, i2, i3⟩
        rw [List.append_nil] at i1
        subst i1
        have e := sumT_perm y2
        have hm : ∀ c ∈ cs, c ∈ t.map (·.1) := fun c hc => by
          have := i3 c hc
          obtain ⟨p, h1, h2⟩ := List.mem_map.mp this
          exact List.mem_map.mpr ⟨p, y2.mem_iff.mp h1, h2⟩
        rcases hw with rfl | rfl
        · simp
          exact ⟨rfl, cs, .inl rfl, by omega, fun c hc => by simpa using hm c hc⟩
        · simp
          exact ⟨rfl, cs, .inr rfl, by omega, fun c hc => by simpa using hm c hc⟩
  obtain ⟨w, o, e, rfl, cs, h⟩ := fout_ok z
  exact ⟨w, cs, e, h⟩
end K90
set_option Elab.async false
set_option linter.all false
set_option maxRecDepth 100000
set_option maxHeartbeats 1000000
namespace K90
open PySem PySem.Spec PyProof.Rows Dv
theorem mem_sum : ∀ {t : Ty}, (∀ p ∈ t, 1 ≤ p.2) → ∀ p ∈ t, p.2 ≤ sumT t
  | [], _, _, hp => nomatch hp
  | q :: t, h, p, hp => by
    rw [sumT_cons]
    have h1 := h q List.mem_cons_self
    have h2 : ∀ p ∈ t, 1 ≤ p.2 := fun r hr => h r (List.mem_cons_of_mem _ hr)
    rcases List.mem_cons.mp hp with rfl | hp
    · have := sumT_pos h2
      omega
    · have := mem_sum h2 p hp
      omega
def OkC (t : Ty) (c : Str) : Prop := c = "." ∨ c ∈ t.map (·.1)
def GivR (o : FOut) (d : Nat) (q : List Str → Prop) : Prop := ∃ (rs : Rows) (c' : BR), o = .ok (.ob true (.l (rs.map rw_))) (some c') ∧ St c' ∧ rs.length = d ∧ ∀ r ∈ rs, q r
def Rp (c : BR) (t : Ty) (n d : Nat) (s4 s5 s6 s7 s8 s9 s10 s11 s12 s13 : Option Sl) : Rho := [some (.ob false c), some (.fz (tlD t)), some (.fz (.int (n : Nat))), some (.fz (.int (d : Nat))), s4, s5, s6, s7, s8, s9, s10, s11, s12, s13, none]
/-- a list in a slot, frozen or not -/
def Lst (w : Sl) (ds : List PyData) : Prop := w = .ob true (.l ds) ∨ w = .fz (.list ds)
def I_base (c : BR) (t : Ty) (n d : Nat) (s4 s5 : Option Sl) (ts bs : List Nat) (ρ : Rho) : Prop := ∃ (w6 : Sl) (base : List Str) (o8 : Option Sl), ρ = Rp c t n d s4 s5 (some w6) (some (.ob true (.l (base.map .str)))) o8 none none none none none ∧ Lst w6 (ts.map natD) ∧ base.length = n ∧ (∀ x ∈ base, OkC t x) ∧ ∀ b ∈ bs, b < n
def I_prog (t : Ty) (n d : Nat) (s4 s5 s6 : Option Sl) (v : Int) (bs : List Nat) (ρ : Rho) : Prop := ∃ (c : BR) (w7 : Sl) (base : List Str) (rs : Rows) (o8 o11 o12 o13 : Option Sl), ρ = Rp c t n d s4 s5 s6 (some w7) o8 (some (.fz (.int v))) (some (.ob true (.l (rs.map rw_)))) o11 o12 o13 ∧ St c ∧ Lst w7 (base.map .str) ∧ base.length = n ∧ (∀ x ∈ base, OkC t x) ∧ rs.length + bs.length = d ∧ ∀ r ∈ rs, r.length = n ∧ ∀ x ∈ r, OkC t x
theorem e_programme (c : BR) (h : St c) (t : Ty) (n d : Nat) (hn : 1 ≤ n ∧ n ≤ 240) (hd : d ≤ 12) (hp : ∀ p ∈ t, 1 ≤ p.2) (hs : sumT t ≤ n) (hl : t.length ≤ 1000) : GivR (m__law_programme (.b c) [tlD t, .int (n : Nat), .int (d : Nat)]) d fun r => r.length = n ∧ ∀ x ∈ r, OkC t x := by
  have z : ∃ w c2, m__law_programme (.b c) [tlD t, .int (n : Nat), .int (d : Nat)] = .ok w (some c2) ∧ (∃ rs : Rows, w = .ob true (.l (rs.map rw_)) ∧ St c2 ∧ rs.length = d ∧ ∀ r ∈ rs, r.length = n ∧ ∀ x ∈ r, OkC t x) := by
    refine mk_b (Q := fun w c2 => ∃ rs : Rows, w = .ob true (.l (rs.map rw_)) ∧ St c2 ∧ rs.length = d ∧ ∀ r ∈ rs, r.length = n ∧ ∀ x ∈ r, OkC t x) ?_
    obtain ⟨w, cs, r1, r2, r3, r4⟩ := e_run t hp (by omega) hl
    refine wp_cut (fun ρ => ρ = Rp c t n d (some w) none none none none none none none none none) ?_ fun ρ e => ?_
    · simp [env0, sl0, r1, Rp]
    subst e
    obtain ⟨x, c1, p1, p2, wd, p3, rfl⟩ := e_pick c h PyData.int ((n : Int) :: t.map (·.2)) (by simp) (by simp; omega)
    have hwd : 1 ≤ wd ∧ wd ≤ 1000 := by
      rcases List.mem_cons.mp p3 with rfl | p3
      · omega
      · obtain ⟨p, hp1, rfl⟩ := List.mem_map.mp p3
        have := mem_sum hp p hp1
        have := hp p hp1
        omega
    obtain ⟨W, rfl⟩ : ∃ W : Nat, wd = W := ⟨wd.toNat, by omega⟩
    refine wp_cut (fun ρ => ρ = Rp c1 t n d (some w) (some (.fz (.int (W : Nat)))) none none none none none none none none) ?_ fun ρ e => ?_
    · have e1 : (((n : Int) :: t.map (·.2)).map PyData.int) = .int (n : Nat) :: t.map fun p => PyData.int p.2 := by simp
      rw [e1] at p1
      simp [Rp, wp_lcO]
      refine wp_lcT prD (fun p => some (.int p.2)) (by rfl) (by omega) (fun p hp => ?_) ?_
      · unfold Turn1
        simp [wipeR]
      · rw [fm_some]
        simp [restR, wipeR, p1]
        omega
    subst e
    obtain ⟨ts, t1, t2, t3⟩ := e_thread n W hn (by omega)
    refine wp_cut (fun ρ => ρ = Rp c1 t n d (some w) (some (.fz (.int (W : Nat)))) (some (.ob true (.l (ts.map natD)))) none none none none none none none) (by simp [Rp, t1]) fun ρ e => ?_
    subst e
    have hcl : cs.length ≤ n := by omega
    have hcm : ∀ x ∈ cs ++ List.replicate (n - cs.length) (".": Str), OkC t x := fun x hx => by
      rcases List.mem_append.mp hx with hx | hx
      · exact .inr (r4 x hx)
      · exact .inl (List.mem_replicate.mp hx).2
    have hcn : (cs ++ List.replicate (n - cs.length) (".": Str)).length = n := by
      rw [List.length_append, List.length_replicate]
      omega
    refine wp_cut (fun ρ => ρ = Rp c1 t n d (some (.fz (rw_ (cs ++ List.replicate (n - cs.length) (".": Str))))) (some (.fz (.int (W : Nat)))) (some (.ob true (.l (ts.map natD)))) none none none none none none none) ?_ fun ρ e => ?_
    · have hsub : ((n : Int) - (cs.length : Int)).toNat = n - cs.length := by omega
      rcases r2 with rfl | rfl
      · simp [Rp, rep_one]
        exact ⟨repB_of (by omega) (by omega), by omega⟩
      · simp [Rp, rep_one]
        exact ⟨repB_of (by omega) (by omega), by omega⟩
    subst e
    generalize cs ++ List.replicate (n - cs.length) (".": Str) = cells at hcm hcn
    refine wp_cut (fun ρ => ρ = Rp c1 t n d (some (.fz (rw_ cells))) (some (.fz (.int (W : Nat)))) (some (.ob true (.l (ts.map natD)))) (some (.ob true (.l ((List.replicate n (".": Str)).map .str)))) none none none none none none) ?_ fun ρ e => ?_
    · simp [Rp, rep_one]
      exact repB_of (by omega) (by omega)
    subst e
    with_reducible refine wp_cut (I_base c1 t n d (some (.fz (rw_ cells))) (some (.fz (.int (W : Nat)))) ts []) ?_ fun ρ e => ?_
    · simp [Rp]
      refine ⟨rngB_of (by omega), ?_⟩
      rw [rngD_0]
      refine wp_loopT natD (I_base c1 t n d (some (.fz (rw_ cells))) (some (.fz (.int (W : Nat)))) ts) ⟨_, List.replicate n (".": Str), none, by simp [Rp], .inl rfl, by simp, fun x hx => .inl (List.mem_replicate.mp hx).2, fun b hb => by simpa using hb⟩ ?_ ?_
      · rintro b bs ρ ⟨w6, base, o8, rfl, i1, i2, i3, i4⟩
        have hb := i4 b List.mem_cons_self
        have i4' : ∀ x ∈ bs, x < n := fun x hx => i4 x (List.mem_cons_of_mem _ hx)
        have a1 : L2.atI (cells.map PyData.str) (b : Int) = some (.str cells[b]) := by
          rw [atI_nat', List.getElem?_map, List.getElem?_eq_getElem (by omega)]
          rfl
        have a2 : L2.atI (ts.map natD) (b : Int) = some (natD ts[b]) := by
          rw [atI_nat', List.getElem?_map, List.getElem?_eq_getElem (by omega)]
          rfl
        have a3 : L2.ixN base.length ((ts[b] : Nat) : Int) = some ts[b] := ixN_nat (by have := t3 _ (List.getElem_mem (l := ts) (n := b) (by omega)); omega)
        have fin : I_base c1 t n d (some (.fz (rw_ cells))) (some (.fz (.int (W : Nat)))) ts bs (Rp c1 t n d (some (.fz (rw_ cells))) (some (.fz (.int (W : Nat)))) (some (.fz (.list (ts.map natD)))) (some (.ob true (.l ((base.map .str).set ts[b] (.str cells[b]))))) (some (.fz (natD b))) none none none none none) := by
          refine ⟨_, base.set ts[b] cells[b], _, by rw [List.map_set], .inr rfl, by rw [List.length_set]; exact i2, fun x hx => ?_, i4'⟩
          rcases List.mem_or_eq_of_mem_set hx with hx | hx
          · exact i3 x hx
          · rw [hx]
            exact hcm _ (List.getElem_mem _)
        simp only [Rp] at fin
        rcases i1 with rfl | rfl
        · simp [Rp, a1, a2, a3]
          exact fin
        · simp [Rp, a1, a2, a3]
          exact fin
      · rintro ρ hI
        exact ⟨rfl, hI⟩
    obtain ⟨w6, base, o8, rfl, i1, i2, i3, _⟩ := e
    obtain ⟨v, c2, v1, v2, v3, v4⟩ := take_in c1 p2 4 (by omega)
    refine wp_cut (fun ρ => ρ = Rp c2 t n d (some (.fz (rw_ cells))) (some (.fz (.int (W : Nat)))) (some w6) (some (.ob true (.l (base.map .str)))) o8 (some (.fz (.int v))) none none none none) (by simp [Rp, v1]) fun ρ e => ?_
    subst e
    refine wp_cut (fun ρ => ∃ (c2 : BR) (base : List Str), St c2 ∧ base.length = n ∧ (∀ x ∈ base, OkC t x) ∧ ρ = Rp c2 t n d (some (.fz (rw_ cells))) (some (.fz (.int (W : Nat)))) (some w6) (some (.ob true (.l (base.map .str)))) o8 (some (.fz (.int v))) none none none none) ?_ fun ρ e => ?_
    · by_cases hv : v = 1
      · obtain ⟨ys, c3, o1, o2, o3⟩ := e_order c2 v2 PyData.str cells (by omega)
        simp [Rp, hv, o1]
        exact ⟨c3, o2, ys, by rw [o3.length_eq]; exact hcn, fun x hx => hcm x (o3.mem_iff.mp hx), rfl, rfl⟩
      · simp [Rp, hv]
        exact ⟨c2, v2, base, i2, i3, rfl, rfl⟩
    obtain ⟨c2, base, v2, i2, i3, rfl⟩ := e
    with_reducible refine wp_cut (fun ρ => ρ = Rp c2 t n d (some (.fz (rw_ cells))) (some (.fz (.int (W : Nat)))) (some w6) (some (.ob true (.l (base.map .str)))) o8 (some (.fz (.int v))) (some (.ob true (.l []))) none none none) ?_ fun ρ e => ?_
    · simp [Rp]
    subst e
    simp [Rp]
    refine ⟨rngB_of (by omega), ?_⟩
    rw [rngD_0]
    refine wp_loopT natD (I_prog t n d (some (.fz (rw_ cells))) (some (.fz (.int (W : Nat)))) (some w6) v) ⟨c2, _, base, [], _, _, _, _, rfl, v2, .inl rfl, i2, i3, by simp, fun r hr => nomatch hr⟩ ?_ ?_
    · rintro b bs ρ ⟨c, w7, base, rs, o8, o11, o12, o13, rfl, hc, j1, j2, j3, j4, j5⟩
      rw [List.length_cons] at j4
      have hturn : ∃ m : Int, L2.atI [PyData.int 1, .int 1, .int (n : Nat), .int 1] v = some (.int m) ∧ m ≤ 240 ∧ 1 ≤ m ∧ (m = 1 ∨ m = n) := by
        obtain ⟨x, hx, hm⟩ := four (PyData.int 1) (.int 1) (.int (n : Nat)) (.int 1) v v3 (by omega)
        simp only [List.mem_cons, List.not_mem_nil, or_false] at hm
        rcases hm with rfl | rfl | rfl | rfl
        · exact ⟨_, hx, by omega, by omega, .inl rfl⟩
        · exact ⟨_, hx, by omega, by omega, .inl rfl⟩
        · exact ⟨_, hx, by omega, by omega, .inr rfl⟩
        · exact ⟨_, hx, by omega, by omega, .inl rfl⟩
      obtain ⟨m, m1, m2, m3, m4⟩ := hturn
      obtain ⟨u, c3, u1, u2, u3, u4⟩ := take_in c hc m (by omega)
      obtain ⟨k, rfl⟩ : ∃ k : Nat, u = k := ⟨u.toNat, by omega⟩
      obtain ⟨ys, c4, q1, q2, q3⟩ := e_order c3 u2 PyData.str cells (by omega)
      have fin : ∀ (c : BR) (row : List Str) (o13 : Option Sl), St c → row.length = n → (∀ x ∈ row, OkC t x) → I_prog t n d (some (.fz (rw_ cells))) (some (.fz (.int (W : Nat)))) (some w6) v bs (Rp c t n d (some (.fz (rw_ cells))) (some (.fz (.int (W : Nat)))) (some w6) (some (.fz (.list (base.map .str)))) o8 (some (.fz (.int v))) (some (.ob true (.l (rs.map rw_ ++ [.list (row.map .str)])))) (some (.fz (natD b))) (some (.fz (.int (k : Nat)))) o13) := by
        intro c row o13 g1 g2 g3
        refine ⟨c, _, base, rs ++ [row], _, _, _, _, by rw [List.map_append]; rfl, g1, .inr rfl, j2, j3, by simp; omega, fun r hr => ?_⟩
        rcases List.mem_append.mp hr with hr | hr
        · exact j5 r hr
        · rw [List.mem_singleton.mp hr]
          exact ⟨g2, g3⟩
      have f1 := fin c3 (base.drop k ++ base.take k) (some (.fz (.list ((base.drop k ++ base.take k).map .str)))) u2 (by simp; omega) (fun x hx => (List.mem_append.mp hx).elim (fun z => j3 x (List.mem_of_mem_drop z)) fun z => j3 x (List.mem_of_mem_take z))
      have f2 := fin c4 ys (some (.fz (.list (ys.map .str)))) q2 (by rw [q3.length_eq]; exact hcn) fun x hx => hcm x (q3.mem_iff.mp hx)
      simp only [Rp] at f1 f2
      simp only [List.map_append] at f1
      by_cases hv : v = 3
      · subst hv
        have hm : m = 1 := by
          have e := m1.symm.trans atI_3
          cases e
          rfl
        subst hm
        rcases j1 with rfl | rfl
        · simp [Rp, u1, cutD_h, cutD_l, -List.map_take, -List.map_drop, q1]
          exact ⟨by omega, by omega, f2⟩
        · simp [Rp, u1, cutD_h, cutD_l, -List.map_take, -List.map_drop, q1]
          exact ⟨by omega, by omega, f2⟩
      · rcases j1 with rfl | rfl
        · simp [Rp, m1, u1, cutD_h, cutD_l, -List.map_take, -List.map_drop, hv]
          exact ⟨by omega, by omega, f1⟩
        · simp [Rp, m1, u1, cutD_h, cutD_l, -List.map_take, -List.map_drop, hv]
          exact ⟨by omega, by omega, f1⟩
    · rintro ρ ⟨c, w7, base, rs, o8, o11, o12, o13, rfl, hc, j1, j2, j3, j4, j5⟩
      simp [Rp]
      exact ⟨rs, rfl, hc, by simpa using j4, j5⟩
  obtain ⟨w, c2, e, rs, rfl, g⟩ := z
  exact ⟨rs, c2, e, g⟩
end K90
set_option Elab.async false
set_option linter.all false
set_option maxRecDepth 100000
set_option maxHeartbeats 1000000
namespace K90
open PySem PySem.Spec PyProof.Rows Dv
def OkZ (t : Ty) (c : Str) : Prop := OkC t c ∨ c = "zzz"
def GivL (o : FOut) (q : Rows → Prop) : Prop := ∃ (w : Sl) (rs : Rows) (c' : BR), o = .ok w (some c') ∧ Lst w (rs.map rw_) ∧ St c' ∧ q rs
def RowZ (t : Ty) (r : List Str) : Prop := 1 ≤ r.length ∧ r.length ≤ 241 ∧ ∀ x ∈ r, OkZ t x
theorem e_bent (c : BR) (h : St c) (t : Ty) (rs : Rows) (h1 : 1 ≤ rs.length ∧ rs.length ≤ 1000) (hl : t.length ≤ 1000) (hr : ∀ r ∈ rs, 1 ≤ r.length ∧ r.length ≤ 240 ∧ ∀ x ∈ r, OkC t x) : GivL (m__law_bent_programme (.b c) [rwsD rs, tlD t]) fun rs' => rs'.length = rs.length ∧ ∀ r ∈ rs', RowZ t r := by
  have z : ∃ w c2, m__law_bent_programme (.b c) [rwsD rs, tlD t] = .ok w (some c2) ∧ (∃ rs' : Rows, Lst w (rs'.map rw_) ∧ St c2 ∧ rs'.length = rs.length ∧ ∀ r ∈ rs', RowZ t r) := by
    refine mk_b (Q := fun w c2 => ∃ rs' : Rows, Lst w (rs'.map rw_) ∧ St c2 ∧ rs'.length = rs.length ∧ ∀ r ∈ rs', RowZ t r) ?_
    obtain ⟨u, c1, p1, p2, p3, p4⟩ := take_in c h rs.length (by omega)
    obtain ⟨k, rfl⟩ : ∃ k : Nat, u = k := ⟨u.toNat, by omega⟩
    have hk : k < rs.length := by omega
    have hrow := hr rs[k] (List.getElem_mem hk)
    have hat : L2.atI (rs.map rw_) (k : Int) = some (rw_ rs[k]) := by
      rw [atI_nat', List.getElem?_map, List.getElem?_eq_getElem hk]
      rfl
    have hset : ∀ row, RowZ t row → ∀ r ∈ rs.set k row, RowZ t r := fun row hz r hm => by
      rcases List.mem_or_eq_of_mem_set hm with hm | hm
      · obtain ⟨a, b, d⟩ := hr r hm
        exact ⟨a, by omega, fun x hx => .inl (d x hx)⟩
      · rw [hm]
        exact hz
    have hput : ∀ row : List Str, m__law_put .n [.list (rs.map rw_), .int (k : Nat), .list (row.map .str)] = .ok (.fz (.list ((rs.set k row).map rw_))) none := fun row => e_put rw_ rs k row hk (by omega)
    generalize rs[k] = row at hrow hat
    refine wp_cut (fun ρ => ρ = [some (.ob false c1), some (.fz (rwsD rs)), some (.fz (tlD t)), some (.fz (.int (k : Nat))), none, none, none, none]) (by simp [env0, sl0, p1]) fun ρ e => ?_
    subst e
    refine wp_cut (fun ρ => ρ = [some (.ob false c1), some (.fz (rwsD rs)), some (.fz (tlD t)), some (.fz (.int (k : Nat))), some (.fz (rw_ row)), none, none, none]) (by simp [hat]) fun ρ e => ?_
    subst e
    obtain ⟨x, c2, q1, q2, cell, q3, rfl⟩ := e_pick c1 p2 PyData.str (("." : Str) :: (t.map (·.1) ++ [("zzz" : Str)])) (by simp) (by simp; omega)
    have hcell : OkZ t cell := by
      rcases List.mem_cons.mp q3 with rfl | q3
      · exact .inl (.inl rfl)
      · rcases List.mem_append.mp q3 with q3 | q3
        · exact .inl (.inr q3)
        · exact .inr (List.mem_singleton.mp q3)
    refine wp_cut (fun ρ => ρ = [some (.ob false c2), some (.fz (rwsD rs)), some (.fz (tlD t)), some (.fz (.int (k : Nat))), some (.fz (rw_ row)), some (.fz (.str cell)), none, none]) ?_ fun ρ e => ?_
    · have e1 : (("." : Str) :: (t.map (·.1) ++ [("zzz" : Str)])).map PyData.str = .str "." :: ((t.map fun p => PyData.str p.1) ++ [.str "zzz"]) := by simp
      rw [e1] at q1
      simp [wp_lcO]
      refine wp_lcT prD (fun p => some (.str p.1)) (by rfl) (by omega) (fun p hp => ?_) ?_
      · unfold Turn1
        simp [wipeR]
      · rw [fm_some]
        simp [restR, wipeR, q1]
        omega
    subst e
    obtain ⟨v, c3, v1, v2, v3, v4⟩ := take_in c2 q2 4 (by omega)
    refine wp_cut (fun ρ => ρ = [some (.ob false c3), some (.fz (rwsD rs)), some (.fz (tlD t)), some (.fz (.int (k : Nat))), some (.fz (rw_ row)), some (.fz (.str cell)), some (.fz (.int v)), none]) (by simp [v1]) fun ρ e => ?_
    subst e
    by_cases w0 : v = 0
    · have hp := hput (row ++ [cell])
      simp only [List.map_append, List.map_cons, List.map_nil] at hp
      simp [w0, hp]
      refine ⟨by omega, rs.set k (row ++ [cell]), .inr (by rw [List.map_set]), v2, by simp, hset _ ⟨by simp, by simp; omega, fun x hx => ?_⟩⟩
      rcases List.mem_append.mp hx with hx | hx
      · exact .inl (hrow.2.2 x hx)
      · rw [List.mem_singleton.mp hx]
        exact hcell
    · have last : ∀ (hv : ¬ (v = 1 ∧ 1 < row.length)) (hv2 : ¬ v = 2), ∃ (j : Nat) (c4 : BR), m__law_take (.b c3) [.int (row.length : Nat)] = .ok (.fz (.int (j : Nat))) (some c4) ∧ St c4 ∧ j < row.length := fun _ _ => by
        obtain ⟨j, c4, s1, s2, s3, s4⟩ := take_in c3 v2 row.length (by omega)
        obtain ⟨j, rfl⟩ : ∃ k : Nat, j = k := ⟨j.toNat, by omega⟩
        exact ⟨j, c4, s1, s2, by omega⟩
      have fin : ∀ (hv : ¬ (v = 1 ∧ 1 < row.length)) (hv2 : ¬ v = 2), ∃ (j : Nat) (c4 : BR), m__law_take (.b c3) [.int (row.length : Nat)] = .ok (.fz (.int (j : Nat))) (some c4) ∧ St c4 ∧ m__law_put .n [.list (row.map .str), .int (j : Nat), .str cell] = .ok (.fz (.list ((row.set j cell).map .str))) none ∧ m__law_put .n [.list (rs.map rw_), .int (k : Nat), .list ((row.set j cell).map .str)] = .ok (.fz (.list ((rs.set k (row.set j cell)).map rw_))) none ∧ ∀ r ∈ rs.set k (row.set j cell), RowZ t r := fun a b => by
        obtain ⟨j, c4, s1, s2, s3⟩ := last a b
        refine ⟨j, c4, s1, s2, e_put PyData.str row j cell s3 (by omega), hput _, hset _ ⟨by simp; omega, by simp; omega, fun x hx => ?_⟩⟩
        rcases List.mem_or_eq_of_mem_set hx with hx | hx
        · exact .inl (hrow.2.2 x hx)
        · rw [hx]
          exact hcell
      by_cases w1 : v = 1
      · by_cases hlr : 1 < row.length
        · have hp := hput (row.drop 1)
          have hc1 : Dv.cutD (row.map PyData.str) (some 1) none = (row.drop 1).map .str := cutD_l PyData.str row 1
          have hli : (1 : Int) < (row.length : Int) := by omega
          simp [w1, hli, hc1, hp, -List.drop_one, -List.map_drop]
          exact ⟨rs.set k (row.drop 1), .inr (by rw [List.map_set]), v2, by simp, hset _ ⟨by simp; omega, by simp; omega, fun x hx => .inl (hrow.2.2 x (List.mem_of_mem_drop hx))⟩⟩
        · obtain ⟨j, c4, s1, s2, s3, s4, s5⟩ := fin (by omega) (by omega)
          have hli : ¬ (1 : Int) < (row.length : Int) := by omega
          simp [w1, hli, s1, s3, s4, -List.map_set]
          exact ⟨_, .inr rfl, s2, by simp, s5⟩
      · by_cases w2 : v = 2
        · simp [w2]
          rw [wp_lcO]
          simp
          refine wp_lcT rw_ (fun r => some (rw_ (r ++ [("." : Str)]))) (by rfl) (by omega) (fun r hm => ?_) ?_
          · unfold Turn1
            have := hr r hm
            simp [wipeR]
            omega
          · rw [fm_some]
            simp [restR, wipeR]
            refine ⟨rs.map fun r => r ++ [("." : Str)], .inl (by simp), v2, by simp, fun r hm => ?_⟩
            obtain ⟨r, hm', rfl⟩ := List.mem_map.mp hm
            obtain ⟨a, b, d⟩ := hr r hm'
            refine ⟨by simp, by simp; omega, fun x hx => ?_⟩
            rcases List.mem_append.mp hx with hx | hx
            · exact .inl (d x hx)
            · exact .inl (.inl (List.mem_singleton.mp hx))
        · obtain ⟨j, c4, s1, s2, s3, s4, s5⟩ := fin (by omega) (by omega)
          simp [w0, w1, w2, s1, s3, s4, -List.map_set]
          exact ⟨_, .inr rfl, s2, by simp, s5⟩
  obtain ⟨w, c2, e, rs', g1, g2⟩ := z
  exact ⟨w, rs', c2, e, g1, g2⟩
/-! judged -/
theorem e_judged_ok (rs : Rows) (t : Ty) (a : Int) (d : PyData) (h : m_judge_days .n [rwsD rs, tlD t, .int a] = .ok (.fz d) none) : m__law_judged .n [rwsD rs, tlD t, .int a] = .ok (.fz d) none := by
  refine mk_n ?_
  refine wp_cut (fun ρ => ρ = [some (.fz (rwsD rs)), some (.fz (tlD t)), some (.fz (.int a)), some (.ob true (.l [])), none]) (by simp [env0, sl0]) fun ρ e => ?_
  subst e
  rw [wp_sSeq]
  refine wp_sTryAs ?_
  simp [h]
def exD : Exn → PyData
  | e => .tuple (.str e.cls :: e.fs.map (·.2))
theorem q_what : ((("what" : Str) == "what") = true) := by decide +kernel
theorem q_limit : ((("limit" : Str) == "limit") = true) := by decide +kernel
theorem q_lw : ((("limit" : Str) == "what") = false) := by decide +kernel
theorem tl_air : isqOf isl "AirError" "TooLarge" = some true := by decide +kernel
theorem mf_air : isqOf isl "AirError" "Malformed" = some true := by decide +kernel
theorem tl_tl : isqE hd "TooLarge" "TooLarge" = some true := by decide +kernel
theorem tl_mf : isqE hd "Malformed" "TooLarge" = some false := by decide +kernel
theorem mf_tl : isqE hd "TooLarge" "Malformed" = some false := by decide +kernel
theorem mf_mf : isqE hd "Malformed" "Malformed" = some true := by decide +kernel
theorem tl_oth : isqsE hd ["BadDeed", "Overfull", "NoPlan", "Packed"] "TooLarge" = some false := by decide +kernel
theorem mf_oth : isqsE hd ["BadDeed", "Overfull", "NoPlan", "Packed"] "Malformed" = some false := by decide +kernel
theorem tl_what : okcOf xs "what" "TooLarge" = true := by decide +kernel
theorem tl_limit : okcOf xs "limit" "TooLarge" = true := by decide +kernel
theorem mf_what : okcOf xs "what" "Malformed" = true := by decide +kernel
theorem e_judged_tl (rs : Rows) (t : Ty) (a : Int) (w : Str) (n : Int) (h : m_judge_days .n [rwsD rs, tlD t, .int a] = .err (tooLarge w n) none) : m__law_judged .n [rwsD rs, tlD t, .int a] = .ok (.fz (.tuple [.str "TooLarge", .str w, .int n])) none := by
  refine mk_n ?_
  refine wp_cut (fun ρ => ρ = [some (.fz (rwsD rs)), some (.fz (tlD t)), some (.fz (.int a)), some (.ob true (.l [])), none]) (by simp [env0, sl0]) fun ρ e => ?_
  subst e
  rw [wp_sSeq]
  refine wp_sTryAs ?_
  simp [h]
  unfold tryAsE
  rw [show (tooLarge w n).cls = ("TooLarge" : Str) from rfl, tl_air]
  refine ⟨rfl, ?_⟩
  simp [show (tooLarge w n).cls = ("TooLarge" : Str) from rfl, show (tooLarge w n).fs = [(("what" : Str), PyData.str w), (("limit" : Str), .int n)] from rfl, tl_tl, tl_mf, tl_oth, tl_what, tl_limit, List.lookup, q_what, q_limit, q_lw, plc]
  rfl
theorem e_judged_mf (rs : Rows) (t : Ty) (a : Int) (w : Str) (h : m_judge_days .n [rwsD rs, tlD t, .int a] = .err (malformed w) none) : m__law_judged .n [rwsD rs, tlD t, .int a] = .ok (.fz (.tuple [.str "Malformed", .str w])) none := by
  refine mk_n ?_
  refine wp_cut (fun ρ => ρ = [some (.fz (rwsD rs)), some (.fz (tlD t)), some (.fz (.int a)), some (.ob true (.l [])), none]) (by simp [env0, sl0]) fun ρ e => ?_
  subst e
  rw [wp_sSeq]
  refine wp_sTryAs ?_
  simp [h]
  unfold tryAsE
  rw [show (malformed w).cls = ("Malformed" : Str) from rfl, mf_air]
  refine ⟨rfl, ?_⟩
  simp [show (malformed w).cls = ("Malformed" : Str) from rfl, show (malformed w).fs = [(("what" : Str), PyData.str w)] from rfl, mf_tl, mf_mf, mf_oth, mf_what, List.lookup, q_what, plc]
  rfl
end K90
set_option Elab.async false
set_option linter.all false
set_option maxRecDepth 100000
set_option maxHeartbeats 1000000
namespace K90
open PySem PySem.Spec PyProof.Rows Dv
/-! the refusals -/
structure Cs where
  rs : Rows
  t : Ty
  a : Int
  w : Str
  n : Option Int
def Cs.due (c : Cs) : PyData := match c.n with
  | some n => .tuple [.str "TooLarge", .str c.w, .int n]
  | none => .tuple [.str "Malformed", .str c.w]
def Cs.exn (c : Cs) : Exn := match c.n with
  | some n => tooLarge c.w n
  | none => malformed c.w
def csD (c : Cs) : PyData := .tuple [rwsD c.rs, tlD c.t, .int c.a, c.due]
structure OkCs (c : Cs) : Prop where
  err : judgeErr c.rs c.t c.a = some c.exn
  rows : ShortR c.rs
  tal : ShortT c.t
  len : c.rs.length < 1000
  flat : c.rs.flatten.length < 1000000
theorem e_case (c : Cs) (h : OkCs c) : m__law_judged .n [rwsD c.rs, tlD c.t, .int c.a] = .ok (.fz c.due) none := by
  have e := e_judge_err c.rs c.t c.a c.exn h.rows h.tal h.len h.flat h.err
  unfold Cs.exn at e
  unfold Cs.due
  cases q : c.n with
  | some n =>
    rw [q] at e
    exact e_judged_tl _ _ _ _ _ e
  | none =>
    rw [q] at e
    exact e_judged_mf _ _ _ _ e
theorem due_ex (c : Cs) : ExD 6 c.due := by
  unfold Cs.due
  cases c.n with
  | some n =>
    refine .tup _ _ (by simp) fun d hd => ?_
    simp only [List.mem_cons, List.not_mem_nil, or_false] at hd
    rcases hd with rfl | rfl | rfl
    · exact .str _ _
    · exact .str _ _
    · exact .int _ _
  | none =>
    refine .tup _ _ (by simp) fun d hd => ?_
    simp only [List.mem_cons, List.not_mem_nil, or_false] at hd
    rcases hd with rfl | rfl
    · exact .str _ _
    · exact .str _ _
def dot : Str := "."
def crowd : Ty := List.replicate 61 ("a", 1)
def c1 : Cs := ⟨List.replicate 13 ["."], crowd, 1001, "days", some 12⟩
def c2 : Cs := ⟨[List.replicate 241 "a"], crowd, 0, "row", some 240⟩
def c3 (t : Ty) : Cs := ⟨List.replicate 3 (List.replicate 201 "."), t, 1001, "places", some 600⟩
def c4 (a : Int) : Cs := ⟨[], crowd, a, "marks", some 60⟩
def c5 : Cs := ⟨[["-"]], [("a", 1001)], 0, "number", some 1000⟩
def c6 : Cs := ⟨[[]], [("a", 0)], 1001, "apart", some 1000⟩
def c7 (n : Nat) : Cs := ⟨[List.replicate n ".", ["?"]], [("a", 0)], 0, "rows", none⟩
def c8 (n : Nat) : Cs := ⟨[List.replicate n "."], [("b", 1), ("a", 1)], 0, "tally", none⟩
def c9 (n : Nat) (t : Ty) : Cs := ⟨[List.replicate n "."], t, 0, "apart", none⟩
theorem short_rep (n : Nat) (x : Str) (h : x.length ≤ 1000000) : Short (List.replicate n x) := fun c hc => by
  rw [(List.mem_replicate.mp hc).2]
  exact h
theorem shortT_of {t : Ty} (h : t.all (fun p => decide (p.1.length ≤ 1000000)) = true) : ShortT t := fun p hp => of_decide_eq_true (List.all_eq_true.mp h p hp)
theorem shortR_of {rs : Rows} (h : rs.all (fun r => r.all fun x => decide (x.length ≤ 1000000)) = true) : ShortR rs := fun r hr x hx => of_decide_eq_true (List.all_eq_true.mp (List.all_eq_true.mp h r hr) x hx)
theorem lt_of {a b : Nat} (h : decide (a < b) = true) : a < b := of_decide_eq_true h
theorem ok1 : OkCs c1 := ⟨by rfl, shortR_of (by rfl), shortT_of (by rfl), lt_of (by rfl), lt_of (by rfl)⟩
theorem ok2 : OkCs c2 := ⟨by rfl, shortR_of (by rfl), shortT_of (by rfl), lt_of (by rfl), lt_of (by rfl)⟩
theorem ok3 (t : Ty) (h : ShortT t) : OkCs (c3 t) := ⟨by rfl, shortR_of (by rfl), h, lt_of (by rfl), lt_of (by rfl)⟩
theorem ok4 (a : Int) : OkCs (c4 a) := ⟨by rfl, shortR_of (by rfl), shortT_of (by rfl), lt_of (by rfl), lt_of (by rfl)⟩
theorem ok5 : OkCs c5 := ⟨by rfl, shortR_of (by rfl), shortT_of (by rfl), lt_of (by rfl), lt_of (by rfl)⟩
theorem ok6 : OkCs c6 := ⟨by rfl, shortR_of (by rfl), shortT_of (by rfl), lt_of (by rfl), lt_of (by rfl)⟩
theorem dots_good {n : Nat} (h : 1 ≤ n) : goodRow (List.replicate n ".") = true := by
  unfold goodRow
  rw [List.length_replicate, decide_eq_true (by omega), Bool.true_and]
  unfold okRow
  refine List.all_eq_true.mpr fun x hx => ?_
  rw [(List.mem_replicate.mp hx).2]
  rfl
theorem days_dots {n : Nat} (h : 1 ≤ n ∧ n ≤ 48) : daysFault [List.replicate n "."] = none := by
  unfold daysFault
  rw [if_neg (by simp), if_neg, if_neg, if_pos]
  · unfold allGood
    rw [List.all_cons, dots_good h.1]
    rfl
  · simp [sizeOf_]
    omega
  · unfold anyBig
    simp
    omega
theorem days_dots2 {n : Nat} (h : 1 ≤ n ∧ n ≤ 48) : daysFault [List.replicate n ".", ["?"]] = none := by
  unfold daysFault
  rw [if_neg (by simp), if_neg, if_neg, if_pos]
  · unfold allGood
    rw [List.all_cons, dots_good h.1]
    rfl
  · simp [sizeOf_]
    omega
  · unfold anyBig
    simp
    omega
theorem cells_dots {n : Nat} (h : 1 ≤ n ∧ n ≤ 48) : cellsX [List.replicate n "."] = .ok (List.replicate n ".") := by
  unfold cellsX
  rw [days_dots h]
  dsimp only
  rw [if_neg]
  · simp
  · rw [inS_iff]
    intro z
    have z : ("?" : Str) ∈ List.replicate n ("." : Str) := by simpa using z
    exact absurd (List.mem_replicate.mp z).2 (by decide +kernel)
theorem dots_ne {n : Nat} (h : 1 ≤ n) : ¬ List.replicate n ("." : Str) = [] := fun e => by
  have := congrArg List.length e
  simp at this
  omega
theorem short_dots (n : Nat) : Short (List.replicate n ".") := short_rep n _ (by decide +kernel)
theorem ok7 {n : Nat} (h : 1 ≤ n ∧ n ≤ 48) : OkCs (c7 n) := by
  refine ⟨?_, ?_, shortT_of (by rfl), lt_of (by rfl), ?_⟩
  · unfold judgeErr cellsX c7
    dsimp only
    rw [days_dots2 h]
    dsimp only
    rw [if_pos]
    · rfl
    · rw [inS_iff]
      simp
  · intro r hr
    simp only [c7, List.mem_cons, List.not_mem_nil, or_false] at hr
    rcases hr with rfl | rfl
    · exact short_dots n
    · exact short_rep 1 "?" (by decide +kernel)
  · simp [c7]
    omega
theorem ok8 {n : Nat} (h : 1 ≤ n ∧ n ≤ 48) : OkCs (c8 n) := by
  refine ⟨?_, ?_, shortT_of (by rfl), lt_of (by rfl), ?_⟩
  · unfold judgeErr c8
    dsimp only
    rw [cells_dots h]
    dsimp only
    unfold judge2
    rw [show largeT [("b", 1), ("a", 1)] = none from rfl]
    dsimp only
    rw [if_neg (by omega), if_neg (dots_ne h.1), if_pos (by rfl)]
    rfl
  · intro r hr
    simp only [c8, List.mem_cons, List.not_mem_nil, or_false] at hr
    rw [hr]
    exact short_dots n
  · simp [c8]
    omega
theorem ok9 {n : Nat} {t : Ty} {m : Int} (h : 1 ≤ n ∧ n ≤ 48) (g : GoodT t m) : OkCs (c9 n t) := by
  refine ⟨?_, ?_, g.short, lt_of (by rfl), ?_⟩
  · unfold judgeErr c9
    dsimp only
    rw [cells_dots h]
    dsimp only
    unfold judge2
    rw [g.large]
    dsimp only
    rw [if_neg (by omega), if_neg (dots_ne h.1), if_neg (by rw [g.wrong]; simp), if_pos (by omega)]
    rfl
  · intro r hr
    simp only [c9, List.mem_cons, List.not_mem_nil, or_false] at hr
    rw [hr]
    exact short_dots n
  · simp [c9]
    omega
end K90
set_option Elab.async false
set_option linter.all false
set_option maxRecDepth 100000
set_option maxHeartbeats 1000000
namespace K90
open PySem PySem.Spec PyProof.Rows Dv
def Rf (n : Nat) (t : Ty) (a : Int) (cs : List Cs) : Rho := [some (.fz (rwsD [List.replicate n "."])), some (.fz (tlD t)), some (.fz (.int a)), some (.fz (tlD crowd)), some (.ob true (.l (cs.map csD))), none]
theorem e_refusals (n : Nat) (t : Ty) (a m : Int) (h : 1 ≤ n ∧ n ≤ 48) (g : GoodT t m) : m__law_refusals_hold .n [rwsD [List.replicate n "."], tlD t, .int a] = .ok (.fz (.bool true)) none := by
  have rb13 : repB 1 13 := repB_of (by decide) (by omega)
  have rb61 : repB 1 61 := repB_of (by decide) (by omega)
  have rb241 : repB 1 241 := repB_of (by decide) (by omega)
  have rb201 : repB 1 201 := repB_of (by decide) (by omega)
  have rb3 : repB 1 3 := repB_of (by decide) (by omega)
  unfold m__law_refusals_hold
  with_reducible refine mk_n ?_
  with_reducible refine wp_cut (fun ρ => ρ = [some (.fz (rwsD [List.replicate n "."])), some (.fz (tlD t)), some (.fz (.int a)), some (.fz (tlD crowd)), none, none]) ?_ fun ρ e => ?_
  · have r3 : List.replicate 3 (none : Option Sl) = [none, none, none] := rfl
    simp [env0, sl0, rep_one, crowd, rb61, r3, tlD, prD, -List.reduceReplicate]
  subst e
  with_reducible refine wp_cut (fun ρ => ρ = Rf n t a [c1, c2]) ?_ fun ρ e => ?_
  · simp [Rf, csD, Cs.due, c1, c2, rep_one, rb13, rb241, -List.reduceReplicate]
  subst e
  with_reducible refine wp_cut (fun ρ => ρ = Rf n t a [c1, c2, c3 t]) ?_ fun ρ e => ?_
  · simp [Rf, csD, Cs.due, c3, rep_one, rb201, rb3, -List.reduceReplicate]
  subst e
  with_reducible refine wp_cut (fun ρ => ρ = Rf n t a [c1, c2, c3 t, c4 a]) ?_ fun ρ e => ?_
  · simp [Rf, csD, Cs.due, c4, rep_one, -List.reduceReplicate]
  subst e
  with_reducible refine wp_cut (fun ρ => ρ = Rf n t a [c1, c2, c3 t, c4 a, c5]) ?_ fun ρ e => ?_
  · simp [Rf, csD, Cs.due, c5, rep_one, -List.reduceReplicate]
  subst e
  with_reducible refine wp_cut (fun ρ => ρ = Rf n t a [c1, c2, c3 t, c4 a, c5, c6]) ?_ fun ρ e => ?_
  · simp [Rf, csD, Cs.due, c6, rep_one, -List.reduceReplicate]
  subst e
  with_reducible refine wp_cut (fun ρ => ρ = Rf n t a [c1, c2, c3 t, c4 a, c5, c6, c7 n]) ?_ fun ρ e => ?_
  · simp [Rf, csD, Cs.due, c7, rep_one, -List.reduceReplicate]
  subst e
  with_reducible refine wp_cut (fun ρ => ρ = Rf n t a [c1, c2, c3 t, c4 a, c5, c6, c7 n, c8 n]) ?_ fun ρ e => ?_
  · simp [Rf, csD, Cs.due, c8, rep_one, -List.reduceReplicate]
  subst e
  with_reducible refine wp_cut (fun ρ => ρ = Rf n t a [c1, c2, c3 t, c4 a, c5, c6, c7 n, c8 n, c9 n t]) ?_ fun ρ e => ?_
  · simp [Rf, csD, Cs.due, c9, rep_one, -List.reduceReplicate]
  subst e
  have all : ∀ c ∈ [c1, c2, c3 t, c4 a, c5, c6, c7 n, c8 n, c9 n t], OkCs c := fun c hc => by
    simp only [List.mem_cons, List.not_mem_nil, or_false] at hc
    rcases hc with rfl | rfl | rfl | rfl | rfl | rfl | rfl | rfl | rfl
    · exact ok1
    · exact ok2
    · exact ok3 t g.short
    · exact ok4 a
    · exact ok5
    · exact ok6
    · exact ok7 h
    · exact ok8 h
    · exact ok9 h g
  have hlen : [c1, c2, c3 t, c4 a, c5, c6, c7 n, c8 n, c9 n t].length < 1000000 := lt_of (by rfl)
  generalize [c1, c2, c3 t, c4 a, c5, c6, c7 n, c8 n, c9 n t] = cs at all hlen
  simp [Rf, wp_lcO]
  with_reducible refine wp_lcT csD (fun _ => none) ?_ hlen (fun c hc => ?_) ?_
  · rfl
  · have e1 := e_case c (all c hc)
    have e2 := e_exact (due_ex c)
    unfold Turn1
    simp [csD, wipeR, e1, e2]
  · rw [fm_none fun _ _ => rfl]
    simp [restR, wipeR]
end K90
set_option Elab.async false
set_option linter.all false
set_option maxRecDepth 100000
set_option maxHeartbeats 1000000
namespace K90
open PySem PySem.Spec PyProof.Rows Dv
/-! the law -/
theorem okZ_cell {t : Ty} (ht : ∀ p ∈ t, isMark p.1 = true) {x : Str} (h : OkZ t x) : okCell dots x = true ∧ okCell beg x = true ∧ x ≠ "?" ∧ x.length ≤ 1000000 := by
  have mk : isMark x = true → okCell dots x = true ∧ okCell beg x = true ∧ x ≠ "?" ∧ x.length ≤ 1000000 := fun m => by
    unfold okCell
    rw [m, Bool.or_true, Bool.or_true]
    refine ⟨rfl, rfl, fun e => ?_, by have := mark_len m; omega⟩
    rw [e] at m
    exact absurd m (by decide +kernel)
  rcases h with (rfl | h) | rfl
  · exact ⟨by decide +kernel, by decide +kernel, by decide +kernel, by decide +kernel⟩
  · obtain ⟨p, hp, rfl⟩ := List.mem_map.mp h
    exact mk (ht p hp)
  · exact mk (by decide +kernel)
theorem flat_le : ∀ {rs : Rows} {m : Nat}, (∀ r ∈ rs, r.length ≤ m) → rs.flatten.length ≤ rs.length * m
  | [], _, _ => Nat.zero_le _
  | r :: rs, m, h => by
    rw [List.flatten_cons, List.length_append, List.length_cons, Nat.succ_mul]
    have := h r List.mem_cons_self
    have := flat_le fun q hq => h q (List.mem_cons_of_mem _ hq)
    omega
theorem flat_sum : ∀ rs : Rows, (rs.flatten.length : Int) = sizeOf_ rs
  | [] => rfl
  | r :: rs => by
    rw [List.flatten_cons, List.length_append]
    unfold sizeOf_
    rw [List.map_cons, List.sum_cons]
    have := flat_sum rs
    unfold sizeOf_ at this
    rw [← this]
    simp
structure RowsZ (t : Ty) (rs : Rows) : Prop where
  len : 1 ≤ rs.length ∧ rs.length ≤ 12
  rows : ∀ r ∈ rs, RowZ t r
section
variable {t : Ty} {rs : Rows} (ht : ∀ p ∈ t, isMark p.1 = true) (h : RowsZ t rs)
include ht h
theorem z_short : ShortR rs := fun r hr x hx => (okZ_cell ht ((h.rows r hr).2.2 x hx)).2.2.2
theorem z_cells : OkCells rs := fun r hr x hx => (okZ_cell ht ((h.rows r hr).2.2 x hx)).1
omit ht in
theorem z_flat : rs.flatten.length < 1000000 := by
  have := flat_le (rs := rs) (m := 241) fun r hr => (h.rows r hr).2.1
  have := h.len
  omega
theorem z_fault (a : Nat) (ha : 1 ≤ a) : m__law_fault .n [rwsD rs, tlD t, .int (a : Nat)] = .ok (.fz (faultD rs t a)) none :=
  e_law_fault rs t a ha (by have := h.len; omega) (fun r hr => by have := (h.rows r hr).2.1; omega) (z_flat h) (z_cells ht h)
theorem z_none (a : Nat) (n : Int) (g : GoodT t n) (ha : 1 ≤ a ∧ a ≤ 1000) (h1 : sizeOf_ rs ≤ 600) (h2 : ∀ r ∈ rs, r.length ≤ 240) : judgeErr rs t a = none := by
  have hd : daysFault rs = none := by
    unfold daysFault
    rw [if_neg (by have := h.len; omega), if_neg, if_neg (by omega), if_pos]
    · unfold allGood
      refine Bool.and_eq_true_iff.mpr ⟨List.all_eq_true.mpr fun r hr => ?_, ?_⟩
      · unfold goodRow okRow
        have := (h.rows r hr).1
        rw [decide_eq_true (by omega), Bool.true_and]
        exact List.all_eq_true.mpr fun x hx => (okZ_cell ht ((h.rows r hr).2.2 x hx)).2.1
      · have := h.len
        cases rs with
        | nil => simp at this
        | cons _ _ => rfl
    · intro z
      obtain ⟨r, hr, z⟩ := List.any_eq_true.mp z
      have := of_decide_eq_true z
      have := h2 r hr
      omega
  have hq : inS "?" rs.flatten = false := by
    cases q : inS "?" rs.flatten with
    | false => rfl
    | true =>
      obtain ⟨r, hr, hx⟩ := List.mem_flatten.mp (inS_iff.mp q)
      exact absurd rfl (okZ_cell ht ((h.rows r hr).2.2 _ hx)).2.2.1
  unfold judgeErr cellsX
  rw [hd]
  dsimp only
  rw [hq, if_neg Bool.false_ne_true]
  unfold judge2
  rw [g.large]
  dsimp only
  rw [if_neg (by omega), if_neg, if_neg (by rw [g.wrong]; simp), if_neg (by omega)]
  intro e
  have hl := h.len
  cases rs with
  | nil => simp at hl
  | cons r rs =>
    have := (h.rows r List.mem_cons_self).1
    rw [List.flatten_cons] at e
    have := congrArg List.length e
    rw [List.length_append, List.length_nil] at this
    omega
theorem z_judge (a : Nat) (n : Int) (g : GoodT t n) (ha : 1 ≤ a ∧ a ≤ 1000) (h1 : sizeOf_ rs ≤ 600) (h2 : ∀ r ∈ rs, r.length ≤ 240) : m__law_judged .n [rwsD rs, tlD t, .int (a : Nat)] = .ok (.fz (faultD rs t a)) none := by
  have hf := flat_sum rs
  exact e_judged_ok _ _ _ _ (e_judge_ok rs t a (z_short ht h) g.short (by have := h.len; omega) (by omega) (judge_none (z_none ht h a n g ha h1 h2)))
end
theorem fault_ex (rs : Rows) (t : Ty) (a : Int) : ∃ ds : List PyData, faultD rs t a = .tuple ds ∧ ExD 6 (faultD rs t a) ∧ (ds = [] → numF t (headLen rs) 0 rs = none ∧ nearF a.toNat 0 rs.flatten = none) := by
  unfold faultD
  cases q : numF t (headLen rs) 0 rs with
  | some d =>
    refine ⟨_, rfl, .tup _ _ (by simp) fun d hd => ?_, fun e => nomatch e⟩
    simp only [List.mem_cons, List.not_mem_nil, or_false] at hd
    rcases hd with rfl | rfl
    · exact .str _ _
    · exact .int _ _
  | none =>
    dsimp only
    unfold clashD
    cases q2 : nearF a.toNat 0 rs.flatten with
    | none => exact ⟨_, rfl, .tup _ _ (by simp) fun d hd => (nomatch hd), fun _ => ⟨rfl, rfl⟩⟩
    | some p =>
      refine ⟨_, rfl, .tup _ _ (by simp) fun d hd => ?_, fun e => nomatch e⟩
      simp only [List.mem_cons, List.not_mem_nil, or_false] at hd
      rcases hd with rfl | rfl | rfl
      · exact .str _ _
      · exact .int _ _
      · exact .int _ _
/-- a programme without a fault: the tally fits -/
theorem no_fault {rs : Rows} {t : Ty} {n d k : Nat} {m : Int} (g : GoodT t m) (hd : 1 ≤ d ∧ d ≤ 12) (hn : 1 ≤ n ∧ n ≤ 240) (hl : rs.length = d) (hr : ∀ r ∈ rs, r.length = n ∧ ∀ x ∈ r, OkC t x) (h1 : numF t (headLen rs) 0 rs = none) (h2 : nearF k 0 rs.flatten = none) : fitsL t n k d = true := by
  obtain ⟨p1, p2, p3⟩ := wrong_pos g.wrong
  have hz := num_none h1
  rw [← hl]
  refine fits_of_ok (fun r hm => ⟨?_, (hr r hm).1⟩) ?_ p1 p3 h2
  · have hcell : ∀ x ∈ r, okCell dots x = true ∧ okCell beg x = true ∧ x ≠ "?" ∧ x.length ≤ 1000000 := fun x hx => okZ_cell (fun p hp => (p1 p hp).1) (.inl ((hr r hm).2 x hx))
    have hf : rowFault r dots = none := by
      unfold rowFault
      have := (hr r hm).1
      rw [if_neg (by omega), if_neg (by omega), if_pos]
      exact List.all_eq_true.mpr fun x hx => (hcell x hx).1
    obtain ⟨t', _, ct⟩ := e_count_row r (fun x hx => (hcell x hx).2.2.2) hf
    have e := cOf_eq ct
    rw [(hz r hm).2] at e
    rw [e]
    exact ct
  · intro e
    rw [e] at hl
    simp at hl
    omega
end K90
set_option Elab.async false
set_option linter.all false
set_option maxRecDepth 100000
set_option maxHeartbeats 1000000
namespace K90
open PySem PySem.Spec PyProof.Rows Dv
def RL (sc : List PyData) (c : BR) (s2 s3 s4 s5 s6 : Option Sl) (n k d : Int) (s10 s11 s12 : Option Sl) : Rho := [some (.sc sc), some (.ob true c), s2, s3, s4, s5, s6, some (.fz (.int n)), some (.fz (.int k)), some (.fz (.int d)), s10, s11, s12, none]
theorem exB (b : Bool) : ExD 6 (.bool b) := .bool _ _
theorem ex_rows (rs : Rows) (hl : rs.length < 100000) (h : ∀ r ∈ rs, r.length < 100000) : ExD 6 (rwsD rs) := exD_map rw_ 5 rs hl fun r hr => exD_map .str 4 r (h r hr) fun x _ => .str _ _
theorem ex_tal (t : Ty) (hl : t.length < 100000) : ExD 6 (tlD t) := exD_map prD 5 t hl fun p _ => .tup _ _ (by simp) fun d hd => by
  simp only [List.mem_cons, List.not_mem_nil, or_false] at hd
  rcases hd with rfl | rfl
  · exact .str _ _
  · exact .int _ _
def I_law (sc : List PyData) (t : Ty) (fit : Bool) (n k d : Int) (ρ : Rho) : Prop := ∃ (c : BR) (w4 : Sl) (s5 s6 s10 s11 s12 : Option Sl), ρ = RL sc c (some (.fz (tlD t))) (some (.fz (.bool fit))) (some w4) s5 s6 n k d s10 s11 s12 ∧ St c ∧ Lst w4 (t.map prD)
theorem law_true (ns : List Int) (hns : ns.length ≤ 63) : ∃ c, m_law (.s (ns.map .int)) [] = .ok (.fz (.bool true)) c := by
  have z : fout (m_law (.s (ns.map .int)) []) (fun w _ => w = .fz (.bool true)) (fun _ _ => False) := by
    generalize hsc : ns.map PyData.int = sc
    have hstore := e_store ns hns
    rw [hsc] at hstore
    obtain ⟨c0, o, s1, s2⟩ := hstore
    unfold m_law
    with_reducible refine mk_x ?_
    with_reducible refine wp_cut (fun ρ => ρ = [some (.sc sc), some (.ob true c0), none, none, none, none, none, none, none, none, none, none, none, none]) ?_ fun ρ e => ?_
    · simp [env0, sl0, s1]
    subst e
    obtain ⟨n, k, d, c1, z1, z2, hn, hk, hd, hnd⟩ := e_days_size c0 s2
    with_reducible refine wp_cut (fun ρ => ρ = RL sc c1 none none none none none n k d none none none) ?_ fun ρ e => ?_
    · simp [z1, RL]
    subst e
    obtain ⟨t0, c2, t1, t2, ms, t3, t4⟩ := e_days_tally c1 z2 n k d hn hk hd
    with_reducible refine wp_cut (fun ρ => ρ = RL sc c2 (some (.ob true (.l (t0.map prD)))) none none none none n k d none none none) ?_ fun ρ e => ?_
    · simp [t1, RL]
    subst e
    have hq : 0 ≤ n / k ∧ n / k ≤ 240 := ⟨Int.ediv_nonneg (by omega) (by omega), Int.le_trans (Int.ediv_le_self k (by omega)) hn.2⟩
    with_reducible refine wp_cut (fun ρ => ∃ (c : BR) (t : Ty), ρ = RL sc c (some (.ob true (.l (t.map prD)))) none none none none n k d none none none ∧ St c ∧ GoodT t n) ?_ fun ρ e => ?_
    · obtain ⟨u, c3, u1, u2, u3, u4⟩ := take_in c2 t2 3 (by omega)
      obtain ⟨t', c4, v1, v2, ms', v3, v4⟩ := e_tally c3 u2 (n / k + 2) n (by omega) (by omega)
      by_cases hu : u = 0
      · simp [RL, u1, hu, v1]
        exact ⟨by omega, c4, t', ⟨rfl, rfl⟩, v2, good_of v4 v3 (by omega)⟩
      · simp [RL, u1, hu]
        exact ⟨c3, t0, ⟨rfl, rfl⟩, u2, good_of t4 t3 (by omega)⟩
    obtain ⟨c, t, rfl, hc, g⟩ := e
    have hlen := good_len g
    obtain ⟨p1, p2, p3⟩ := wrong_pos g.wrong
    have lf : ∀ x : Int, 0 ≤ x ∧ x ≤ 12 → m__law_fits .n [tlD t, .int n, .int k, .int x] = .ok (.fz (.bool (fitsL t n k x))) none := fun x hx => e_law_fits t n k x (by omega) hn hk hx
    have lc : ∀ x : Int, 0 ≤ x ∧ x ≤ 12 → m_fits_days .n [tlD t, .int n, .int k, .int x] = .ok (.fz (.bool (fitsL t n k x))) none := fun x hx => by
      rw [e_fits_days t n k x g hn hk hx, fits_eq g hn.1 hk.1 hx.1]
    with_reducible refine wp_cut (fun ρ => ρ = RL sc c (some (.fz (tlD t))) (some (.fz (.bool (fitsL t n k d)))) none none none n k d none none none) ?_ fun ρ e => ?_
    · simp [RL, lf d (by omega)]
    subst e
    with_reducible refine wp_cut (I_law sc t (fitsL t n k d) n k d) ?_ fun ρ e => ?_
    · simp [RL]
      exact ⟨c, _, _, _, _, _, _, rfl, hc, .inl rfl⟩
    with_reducible refine wp_cut (I_law sc t (fitsL t n k d) n k d) ?_ fun ρ e => ?_
    · obtain ⟨c, w4, s5, s6, s10, s11, s12, rfl, hc, hw⟩ := e
      simp [RL]
      rw [show [PyData.int d, PyData.int 1, PyData.int 0, PyData.int 12] = [d, 1, 0, 12].map PyData.int from rfl]
      with_reducible refine wp_loopT PyData.int (fun xs ρ => I_law sc t (fitsL t n k d) n k d ρ ∧ ∀ x ∈ xs, 0 ≤ x ∧ x ≤ 12) ⟨?_, ?_⟩ ?_ ?_
      · exact ⟨c, w4, s5, s6, s10, s11, s12, rfl, hc, hw⟩
      · intro x hx
        simp only [List.mem_cons, List.not_mem_nil, or_false] at hx
        omega
      · intro x xs ρ hI
        obtain ⟨⟨c, w4, s5, s6, s10, s11, s12, e, hc, hw⟩, hx⟩ := hI
        have h1 := hx x List.mem_cons_self
        have h2 : ∀ y ∈ xs, 0 ≤ y ∧ y ≤ 12 := fun y hy => hx y (List.mem_cons_of_mem _ hy)
        have ee := e_exact (exB (fitsL t n k x))
        subst e
        rcases hw with rfl | rfl
        · simp [RL, lc x h1, lf x h1, ee]
          exact ⟨⟨c, _, _, _, _, _, _, rfl, hc, .inr rfl⟩, fun y hy => h2 y hy⟩
        · simp [RL, lc x h1, lf x h1, ee]
          exact ⟨⟨c, _, _, _, _, _, _, rfl, hc, .inr rfl⟩, fun y hy => h2 y hy⟩
      · intro ρ hI
        exact ⟨rfl, hI.1⟩
    obtain ⟨N, rfl⟩ : ∃ N : Nat, n = N := ⟨n.toNat, by omega⟩
    obtain ⟨D, rfl⟩ : ∃ N : Nat, d = N := ⟨d.toNat, by omega⟩
    obtain ⟨K, rfl⟩ : ∃ N : Nat, k = N := ⟨k.toNat, by omega⟩
    have pm : ∀ p ∈ t, isMark p.1 = true := fun p hp => (p1 p hp).1
    with_reducible refine wp_cut (I_law sc t (fitsL t N K D) N K D) ?_ fun ρ e => ?_
    · obtain ⟨c, w4, s5, s6, s10, s11, s12, rfl, hc, hw⟩ := e
      simp [RL]
      refine ⟨rngB_of (by omega), ?_⟩
      rw [rngD_0]
      with_reducible refine wp_loopT natD (fun _ ρ => I_law sc t (fitsL t N K D) N K D ρ) ?_ ?_ ?_
      · exact ⟨c, w4, s5, s6, s10, s11, s12, rfl, hc, hw⟩
      · intro b bs ρ hI
        obtain ⟨c, w4, s5, s6, s10, s11, s12, e, hc, hw⟩ := hI
        subst e
        simp [RL, -wp_sSeq]
        obtain ⟨rs, c2, r1, r2, r3, r4⟩ := e_programme c hc t N D (by omega) (by omega) (fun p hp => (p1 p hp).2) g.total (by omega)
        with_reducible refine wp_cut (fun ρ => ρ = RL sc c2 (some (.fz (tlD t))) (some (.fz (.bool (fitsL t N K D)))) (some w4) s5 (some (.fz (natD b))) N K D (some (.ob true (.l (rs.map rw_)))) s11 s12) ?_ fun ρ e => ?_
        · simp [RL, r1]
        subst e
        have rz : RowsZ t rs := ⟨by omega, fun r hr => ⟨by have := (r4 r hr).1; omega, by have := (r4 r hr).1; omega, fun x hx => .inl ((r4 r hr).2 x hx)⟩⟩
        with_reducible refine wp_cut (fun ρ => ∃ w10, Lst w10 (rs.map rw_) ∧ ρ = RL sc c2 (some (.fz (tlD t))) (some (.fz (.bool (fitsL t N K D)))) (some w4) s5 (some (.fz (natD b))) N K D (some w10) s11 s12) ?_ fun ρ e => ?_
        · have hf := z_fault pm rz K (by omega)
          obtain ⟨ds, f1, f2, f3⟩ := fault_ex rs t K
          cases hfit : fitsL t N K D with
          | true =>
            simp [RL]
            exact .inl rfl
          | false =>
            have hne : ds.length ≠ 0 := fun e => by
              obtain ⟨h1, h2⟩ := f3 (List.eq_nil_of_length_eq_zero e)
              have := no_fault g (by omega) (by omega) r3 r4 h1 (k := K) (by simpa using h2)
              rw [this] at hfit
              cases hfit
            simp [RL, hf, f1, hne]
            exact .inr rfl
        obtain ⟨w10, hw10, rfl⟩ := e
        with_reducible refine wp_cut (fun ρ => ∃ (c : BR) (rs : Rows) (w10 : Sl), Lst w10 (rs.map rw_) ∧ St c ∧ RowsZ t rs ∧ ρ = RL sc c (some (.fz (tlD t))) (some (.fz (.bool (fitsL t N K D)))) (some w4) s5 (some (.fz (natD b))) N K D (some w10) s11 s12) ?_ fun ρ e => ?_
        · obtain ⟨w', rs', c3, b1, b2, b3, b4, b5⟩ := e_bent c2 r2 t rs (by omega) (by omega) fun r hr => ⟨by have := (r4 r hr).1; omega, by have := (r4 r hr).1; omega, (r4 r hr).2⟩
          by_cases hb : (b : Int) % 4 = 3
          · rcases hw10 with rfl | rfl
            · simp [RL, hb, b1]
              exact ⟨c3, rs', w', b2, b3, ⟨by omega, b5⟩, rfl, rfl⟩
            · simp [RL, hb, b1]
              exact ⟨c3, rs', w', b2, b3, ⟨by omega, b5⟩, rfl, rfl⟩
          · simp [RL, hb]
            exact ⟨c2, rs, w10, hw10, r2, rz, rfl, rfl⟩
        obtain ⟨c, rs, w10, hw10, hc, rz, rfl⟩ := e
        have hrl := rz.len
        with_reducible refine wp_cut (fun ρ => ρ = RL sc c (some (.fz (tlD t))) (some (.fz (.bool (fitsL t N K D)))) (some w4) s5 (some (.fz (natD b))) N K D (some (.fz (rwsD rs))) (some (.ob true (.l (rs.map rw_)))) s12) ?_ fun ρ e => ?_
        · rcases hw10 with rfl | rfl
          · simp [RL, wp_lcO]
            refine wp_lcT rw_ (fun r => some (rw_ r)) (by rfl) (by omega) (fun r hr => ?_) ?_
            · unfold Turn1
              simp [wipeR]
            · rw [fm_some]
              simp [restR, wipeR]
          · simp [RL, wp_lcO]
            refine wp_lcT rw_ (fun r => some (rw_ r)) (by rfl) (by omega) (fun r hr => ?_) ?_
            · unfold Turn1
              simp [wipeR]
            · rw [fm_some]
              simp [restR, wipeR]
        subst e
        have hf := z_fault pm rz K (by omega)
        with_reducible refine wp_cut (fun ρ => ρ = RL sc c (some (.fz (tlD t))) (some (.fz (.bool (fitsL t N K D)))) (some w4) s5 (some (.fz (natD b))) N K D (some (.fz (rwsD rs))) (some (.ob true (.l (rs.map rw_)))) (some (.fz (faultD rs t K)))) ?_ fun ρ e => ?_
        · simp [RL, hf]
        subst e
        simp [RL, wp_lcO]
        refine wp_lcT rw_ (fun r => some (.int (r.length : Int))) (by rfl) (by omega) (fun r hr => ?_) ?_
        · unfold Turn1
          simp [wipeR]
        · rw [fm_some]
          simp [restR, wipeR, ints_typed (fun r : List Str => PyData.int (r.length : Int)) (fun r => (r.length : Int)) (fun _ => rfl)]
          rw [show (rs.map fun r => (r.length : Int)).sum = sizeOf_ rs from rfl]
          have stay : ∀ w11 w4', Lst w4' (t.map prD) → I_law sc t (fitsL t N K D) N K D [some (.sc sc), some (.ob true c), some (.fz (tlD t)), some (.fz (.bool (fitsL t N K D))), some w4', s5, some (.fz (natD b)), some (.fz (.int (N : Nat))), some (.fz (.int (K : Nat))), some (.fz (.int (D : Nat))), some (.fz (rwsD rs)), w11, some (.fz (faultD rs t K)), none] := fun w11 w4' h4 => ⟨c, w4', _, _, _, _, _, rfl, hc, h4⟩
          by_cases h600 : sizeOf_ rs ≤ 600
          · rw [if_pos h600]
            refine wp_lcT rw_ (fun r => some (.int (r.length : Int))) (by rfl) (by omega) (fun r hr => ?_) ?_
            · unfold Turn1
              simp [wipeR]
            · rw [fm_some]
              obtain ⟨m, m1, m2, m3⟩ := maxI_some (ns := rs.map fun r => (r.length : Int)) (by
                intro e
                have := congrArg List.length e
                simp at this
                rw [this] at hrl
                simp at hrl)
              simp [restR, wipeR, ints_typed (fun r : List Str => PyData.int (r.length : Int)) (fun r => (r.length : Int)) (fun _ => rfl), m1]
              by_cases h240 : m ≤ 240
              · rw [if_pos h240]
                have hj := z_judge pm rz K N g (by omega) h600 fun r hr => by
                  have := m3 r.length (List.mem_map.mpr ⟨r, hr, rfl⟩)
                  omega
                obtain ⟨ds, f1, f2, f3⟩ := fault_ex rs t K
                have e1 := e_exact f2
                have e2 := e_exact (ex_rows rs (by omega) fun r hr => by have := (rz.rows r hr).2.1; omega)
                rcases hw with rfl | rfl
                · simp [hj, e1, e2]
                  exact stay _ _ (.inr rfl)
                · simp [hj, e1, e2]
                  exact stay _ _ (.inr rfl)
              · rw [if_neg h240]
                exact stay _ _ hw
          · rw [if_neg h600]
            exact stay _ _ hw
      · intro ρ hI
        exact ⟨rfl, hI⟩
    with_reducible refine wp_cut (I_law sc t (fitsL t N K D) N K D) ?_ fun ρ e => ?_
    · obtain ⟨c, w4, s5, s6, s10, s11, s12, rfl, hc, hw⟩ := e
      by_cases h48 : N ≤ 48
      · have hr := e_refusals N t K N ⟨by omega, h48⟩ g
        have h48' : (N : Int) ≤ 48 := by omega
        rw [rwsD, List.map_cons, List.map_nil, rw_, List.map_replicate] at hr
        simp [RL, h48', rep_one, hr]
        exact ⟨repB_of (by omega) (by omega), c, w4, _, _, _, _, _, rfl, hc, hw⟩
      · have h48' : ¬ (N : Int) ≤ 48 := by omega
        simp [RL, h48']
        exact ⟨c, w4, _, _, _, _, _, rfl, hc, hw⟩
    obtain ⟨c, w4, s5, s6, s10, s11, s12, rfl, hc, hw⟩ := e
    have ee := e_exact (ex_tal t (by omega))
    rcases hw with rfl | rfl
    · simp [RL, ee]
      rfl
    · simp [RL, ee]
      rfl
  obtain ⟨w, c, e, rfl⟩ := fout_ok z
  exact ⟨c, e⟩
end K90
set_option Elab.async false
set_option linter.all false
set_option maxRecDepth 100000
set_option maxHeartbeats 0
namespace K90
open PySem PySem.Spec PyProof.Rows L2
theorem run (w : World) : HandSHeadRun.RunEq R (PySem.W.view R.prog [lawi]) hk ob 12000 loose w := by
  intro os
  kernel_rfl
theorem facts {P : Program} {w : World} {K : PySem.W.Frag} {h : Heap} {mg : Str → Option Value} {f : Addr} (X : K.In h) (G : h.Ns mainGlobals mg) (hfa : mg ("law" : Str) = some (.ref f)) (c : hd.Says K) :
    ∃ fd : FuncData, (∀ (s : Shared) (v : Value), BindsTo s fd ⟨[v], []⟩ [("script", v)]) ∧ ∀ base : Heap, K.In base → base.Ns mainGlobals mg → FnOk P w K mg base (L2.CX P w) 12 f fd ["script"] (Dv.spD K 1 m_law) := by
  obtain ⟨fd, D⟩ := c.sd.def_ 57 (d := d_law) rfl
  have e := hfa.symm.trans (He.glo_ok X G (c.sd.fact 57 (f := .glo "law") rfl))
  cases e
  have b := FunD.bindsA (ps := ["script"]) D fun _ _ _ _ _ _ us hl => match us, hl with | [_], _ => rfl
  exact ⟨fd, fun s v => b s [v] rfl, fun base kb nb => w_law ⟨kb, nb, c⟩ D⟩
end K90
open PySem PySem.W PySem.Calls PyProof.Rows
theorem PySem.Challenge.cw_airwheel_k90_whole_refused_programmes_holds : PySem.Challenge.rw_airwheel_k90_whole_refused_programmes.Holds := by
  w_on; o_law
  refine HandSHeadRun.head_any (r := OpenLaw.row PySem.Challenge.rw_airwheel_k90_whole_refused_programmes) (q := view (OpenLaw.row PySem.Challenge.rw_airwheel_k90_whole_refused_programmes).prog [K90.lawi]) (H := K90.hk) (ob := K90.ob) (M := 12000) (loose := K90.loose)
    (d := HandSHeadRun.topDef (OpenLaw.row PySem.Challenge.rw_airwheel_k90_whole_refused_programmes).prog K90.lawi) (kwd := []) K90.ob_eq
    (by kernel_rfl) (fun s => by kernel_rfl) K90.run (by kernel_rfl) (by kernel_rfl) (by kernel_rfl) (by rfl) (by first | assumption | decide +kernel) (by decide +kernel) ⟨rfl, rfl, rfl, rfl, rfl, by decide +kernel⟩ ?hw ?hc
  case hw => w_witness2
  case hc =>
    refine Dv.law_end (l := PySem.Challenge.rw_airwheel_k90_whole_refused_programmes) (n := 63) (k := 12) (m := K90.m_law) rfl (by decide) (by kernel_rfl) ⟨rfl, by decide, by decide⟩ K90.law_true fun w mg fa h Y G hmg0 => ?_
    obtain ⟨K, KX, c⟩ := Y
    have hmg : mg ("law" : PySem.Str) = some (.ref fa) := by
      have e : (HandSHeadRun.topDef (OpenLaw.row PySem.Challenge.rw_airwheel_k90_whole_refused_programmes).prog K90.lawi).name = ("law" : PySem.Str) := by kernel_rfl
      rw [← e]
      exact hmg0
    obtain ⟨fd, hb, hF⟩ := K90.facts (P := (PySem.Challenge.rw_airwheel_k90_whole_refused_programmes).prog) (w := w) KX G hmg c
    exact ⟨K, fd, KX, hb, hF⟩
