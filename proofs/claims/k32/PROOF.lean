import PyProof.Rows.All
import Wide.All
import Wide.FinOn
import OpenK.AllK
import HandS.ForMost
import HandS.ForExc
import HandS.IsInst
import HandS.Deep
import HandS.Conv
import HandS.Walk
import HandS.Style
import HandS.Zip
import HandS.WordsExc
import HandS.TryOnly
import HandS.ExcIs
import HandS.ExcValue
import HandS.HeadHook1
import HandS.HeadHook2
import PySem.Challenge.RW_pickruns_k32_too_many_runs
import KE.KStateDown
import Lean
import HandS.Head0
import HandS.Head1
import HandS.Head2
import HandS.HeadEnd
import HandS.HeadNt
section
set_option Elab.async false
set_option linter.all false
set_option maxRecDepth 100000
/-! The data layer, part 0: what is represented, slots, environments. -/
namespace Pk
open PySem PySem.Spec PyProof.Rows L2

abbrev Le (F H : Hp) : Prop := ∀ a o, F a = some o → H a = some o
theorem Le.rfl' {F : Hp} : Le F F := fun _ _ h => h
theorem Le.tr {F G H : Hp} (a : Le F G) (b : Le G H) : Le F H := fun x o h => b x o (a x o h)
theorem Le.nn {F H : Hp} (e : Le F H) {a : Addr} (h : H a = none) : F a = none := by
  cases q : F a with
  | none => rfl
  | some o => rw [e a o q] at h; cases h
theorem Le.new {F H : Hp} (e : Le F H) {p : Addr} {o : HO} (h : F p = none) : Le F (upd H p o) := fun a u q => by
  rw [upd_ne (ne_of_none q h)]; exact e a u q
theorem Le.both {F H : Hp} (e : Le F H) {p : Addr} {o : HO} : Le (upd F p o) (upd H p o) := fun a u q => by
  by_cases hp : a = p
  · subst hp; rw [upd_same] at q ⊢; exact q
  · rw [upd_ne hp] at q ⊢; exact e a u q
theorem Le.up {F : Hp} {p : Addr} {o : HO} (h : F p = none) : Le F (upd F p o) := Le.new Le.rfl' h
theorem Le.lay {F H : Hp} (e : Le F H) {p : Addr} {o : HO} (h : H p = some o) : Le (upd F p o) H := fun a u q => by
  by_cases hp : a = p
  · subst hp; rw [upd_same] at q; rw [← q]; exact h
  · rw [upd_ne hp] at q; exact e a u q

theorem sqT_le {K : PySem.W.Frag} {F F' : Hp} {a : Addr} {xs : List V} (e : Le F F') (h : SqT K F a xs) : SqT K F' a xs := by
  rcases h with (h | ⟨o, h⟩) | h
  · exact .inl (.inl (e _ _ h))
  · exact .inl (.inr ⟨o, e _ _ h⟩)
  · exact .inr h
theorem sqL_le {K : PySem.W.Frag} {F F' : Hp} {a : Addr} {xs : List V} (e : Le F F') (h : SqL K F a xs) : SqL K F' a xs := by
  rcases h with (h | ⟨o, h⟩) | h
  · exact .inl (.inl (e _ _ h))
  · exact .inl (.inr ⟨o, e _ _ h⟩)
  · exact .inr h

/-! ### data as it stands in a heap -/
mutual
inductive Rp (K : PySem.W.Frag) (F : Hp) : V → PyData → Prop
  | non : Rp K F .non .none
  | bl (b : Bool) : Rp K F (.bl b) (.bool b)
  | int (i : Int) : Rp K F (.int i) (.int i)
  | str (x : Str) : Rp K F (.str x) (.str x)
  | lst {a : Addr} {xs : List V} {ds : List PyData} : F a = some (.lst xs) → RpA K F xs ds → Rp K F (.ref a) (.list ds)
  | tup {a : Addr} {xs : List V} {ds : List PyData} : SqT K F a xs → RpA K F xs ds → Rp K F (.ref a) (.tuple ds)
inductive RpA (K : PySem.W.Frag) (F : Hp) : List V → List PyData → Prop
  | nil : RpA K F [] []
  | cons {v : V} {vs : List V} {d : PyData} {ds : List PyData} : Rp K F v d → RpA K F vs ds → RpA K F (v :: vs) (d :: ds)
end
section
variable {K : PySem.W.Frag} {F F' H : Hp}
mutual
theorem Rp.le (e : Le F F') : ∀ (d : PyData) {v : V}, Rp K F v d → Rp K F' v d
  | .none, _, h => by cases h; exact .non
  | .bool _, _, h => by cases h; exact .bl _
  | .int _, _, h => by cases h; exact .int _
  | .str _, _, h => by cases h; exact .str _
  | .list ds, _, h => by
    cases h with
    | lst a b => exact .lst (e _ _ a) (RpA.le e ds b)
  | .tuple ds, _, h => by
    cases h with
    | tup a b => exact .tup (sqT_le e a) (RpA.le e ds b)
  | .dict _, _, h => by cases h
theorem RpA.le (e : Le F F') : ∀ (ds : List PyData) {vs : List V}, RpA K F vs ds → RpA K F' vs ds
  | [], _, h => by cases h; exact .nil
  | d :: ds, _, h => by
    cases h with
    | cons a b => exact .cons (Rp.le e d a) (RpA.le e ds b)
end
theorem Rp.mono {v : V} {d : PyData} (h : Rp K F v d) (e : Le F F') : Rp K F' v d := Rp.le e d h
theorem RpA.mono {vs : List V} {ds : List PyData} (h : RpA K F vs ds) (e : Le F F') : RpA K F' vs ds := RpA.le e ds h
mutual
theorem Rp.dp : ∀ (d : PyData) {v : V}, Rp K F v d → Dp K F v d
  | .none, _, h => by cases h; exact .non
  | .bool _, _, h => by cases h; exact .bl _
  | .int _, _, h => by cases h; exact .int _
  | .str _, _, h => by cases h; exact .str _
  | .list ds, _, h => by
    cases h with
    | lst a b => exact .lst (SqL.of a) (RpA.dp ds b)
  | .tuple ds, _, h => by
    cases h with
    | tup a b => exact .tup a (RpA.dp ds b)
  | .dict _, _, h => by cases h
theorem RpA.dp : ∀ (ds : List PyData) {vs : List V}, RpA K F vs ds → DpAll K F vs ds
  | [], _, h => by cases h; exact .nil
  | d :: ds, _, h => by
    cases h with
    | cons a b => exact .cons (Rp.dp d a) (RpA.dp ds b)
end
theorem RpA.length : ∀ {vs : List V} {ds : List PyData}, RpA K F vs ds → vs.length = ds.length
  | [], [], _ => rfl
  | _ :: _, [], h => by cases h
  | [], _ :: _, h => by cases h
  | _ :: vs, _ :: ds, h => by
    cases h with
    | cons _ b => simp [RpA.length b]
theorem RpA.get : ∀ {vs : List V} {ds : List PyData} {i : Nat} {d : PyData}, RpA K F vs ds → ds[i]? = some d → ∃ v, vs[i]? = some v ∧ Rp K F v d
  | [], [], i, d, _, e => by simp at e
  | _ :: _, [], _, _, h, _ => by cases h
  | [], _ :: _, _, _, h, _ => by cases h
  | v :: vs, x :: ds, 0, d, h, e => by
    cases h with
    | cons a b => simp at e; subst e; exact ⟨v, rfl, a⟩
  | v :: vs, x :: ds, i + 1, d, h, e => by
    cases h with
    | cons a b =>
      obtain ⟨u, h1, h2⟩ := RpA.get (i := i) (d := d) b (by simpa using e)
      exact ⟨u, by simpa using h1, h2⟩
theorem RpA.getV : ∀ {vs : List V} {ds : List PyData} {i : Nat} {v : V}, RpA K F vs ds → vs[i]? = some v → ∃ d, ds[i]? = some d ∧ Rp K F v d
  | [], [], i, d, _, e => by simp at e
  | _ :: _, [], _, _, h, _ => by cases h
  | [], _ :: _, _, _, h, _ => by cases h
  | v :: vs, x :: ds, 0, d, h, e => by
    cases h with
    | cons a b => simp at e; subst e; exact ⟨x, rfl, a⟩
  | v :: vs, x :: ds, i + 1, d, h, e => by
    cases h with
    | cons a b =>
      obtain ⟨u, h1, h2⟩ := RpA.getV (i := i) (v := d) b (by simpa using e)
      exact ⟨u, by simpa using h1, h2⟩
theorem RpA.append : ∀ {vs us : List V} {ds es : List PyData}, RpA K F vs ds → RpA K F us es → RpA K F (vs ++ us) (ds ++ es)
  | [], _, [], _, _, h => h
  | _ :: _, _, [], _, h, _ => by cases h
  | [], _, _ :: _, _, h, _ => by cases h
  | _ :: _, _, _ :: _, _, h, k => by
    cases h with
    | cons a b => exact .cons a (RpA.append b k)
theorem RpA.take : ∀ {vs : List V} {ds : List PyData} (n : Nat), RpA K F vs ds → RpA K F (vs.take n) (ds.take n)
  | [], [], n, _ => by simp; exact .nil
  | _ :: _, [], _, h => by cases h
  | [], _ :: _, _, h => by cases h
  | _ :: _, _ :: _, 0, _ => .nil
  | _ :: _, _ :: _, n + 1, h => by
    cases h with
    | cons a b => exact .cons a (RpA.take n b)
theorem RpA.drop : ∀ {vs : List V} {ds : List PyData} (n : Nat), RpA K F vs ds → RpA K F (vs.drop n) (ds.drop n)
  | [], [], n, _ => by simp; exact .nil
  | _ :: _, [], _, h => by cases h
  | [], _ :: _, _, h => by cases h
  | _ :: _, _ :: _, 0, h => h
  | _ :: _, _ :: _, n + 1, h => by
    cases h with
    | cons a b => exact RpA.drop n b
theorem RpA.set : ∀ {vs : List V} {ds : List PyData} {v : V} {d : PyData} (n : Nat), RpA K F vs ds → Rp K F v d → RpA K F (vs.set n v) (ds.set n d)
  | [], [], _, _, n, _, _ => by simp; exact .nil
  | _ :: _, [], _, _, _, h, _ => by cases h
  | [], _ :: _, _, _, _, h, _ => by cases h
  | _ :: _, _ :: _, _, _, 0, h, k => by
    cases h with
    | cons a b => exact .cons k b
  | _ :: _, _ :: _, _, _, n + 1, h, k => by
    cases h with
    | cons a b => exact .cons a (RpA.set n b k)
theorem RpA.reverse : ∀ {vs : List V} {ds : List PyData}, RpA K F vs ds → RpA K F vs.reverse ds.reverse
  | [], [], _ => .nil
  | _ :: _, [], h => by cases h
  | [], _ :: _, h => by cases h
  | _ :: _, _ :: _, h => by
    cases h with
    | cons a b => simp only [List.reverse_cons]; exact (RpA.reverse b).append (.cons a .nil)
theorem RpA.one {v : V} {d : PyData} (h : Rp K F v d) : RpA K F [v] [d] := .cons h .nil
/-- a scalar stands in any heap -/
def flat : PyData → Bool
  | .none => true | .bool _ => true | .int _ => true | .str _ => true | _ => false
theorem Rp.flat {v : V} {d : PyData} (h : Rp K F v d) (f : flat d = true) : Rp K F' v d := by
  cases h with
  | non => exact .non
  | bl b => exact .bl b
  | int i => exact .int i
  | str x => exact .str x
  | lst _ _ => cases f
  | tup _ _ => cases f
end

/-! ### list-free data; data whose lists are new -/
mutual
def lf : PyData → Bool
  | .list _ => false
  | .dict _ => false
  | .tuple xs => lfA xs
  | _ => true
def lfA : List PyData → Bool
  | [] => true
  | x :: xs => lf x && lfA xs
end
def TupLe (K : PySem.W.Frag) (F F' : Hp) : Prop := ∀ a xs, SqT K F a xs → SqT K F' a xs
theorem Le.tup {K : PySem.W.Frag} {F F' : Hp} (e : Le F F') : TupLe K F F' := fun _ _ h => sqT_le e h
section
variable {K : PySem.W.Frag} {F F' : Hp}
mutual
theorem Rp.lfree (e : TupLe K F F') : ∀ (d : PyData) {v : V}, lf d = true → Rp K F v d → Rp K F' v d
  | .none, _, _, h => by cases h; exact .non
  | .bool _, _, _, h => by cases h; exact .bl _
  | .int _, _, _, h => by cases h; exact .int _
  | .str _, _, _, h => by cases h; exact .str _
  | .list ds, _, z, h => by simp [lf] at z
  | .tuple ds, _, z, h => by
    cases h with
    | tup a b => exact .tup (e _ _ a) (RpA.lfree e ds (by simpa [lf] using z) b)
  | .dict _, _, _, h => by cases h
theorem RpA.lfree (e : TupLe K F F') : ∀ (ds : List PyData) {vs : List V}, lfA ds = true → RpA K F vs ds → RpA K F' vs ds
  | [], _, _, h => by cases h; exact .nil
  | d :: ds, _, z, h => by
    have z' : lf d = true ∧ lfA ds = true := by simpa [lfA] using z
    cases h with
    | cons a b => exact .cons (Rp.lfree e d z'.1 a) (RpA.lfree e ds z'.2 b)
end
end
open Classical in
/-- F without the lists of N -/
noncomputable def cutN (N : Addr → Prop) (F : Hp) : Hp := fun a => match F a with
  | some (.lst xs) => if N a then none else some (.lst xs)
  | o => o
theorem cutN_le (N : Addr → Prop) (F : Hp) : Le (cutN N F) F := fun a o h => by
  unfold cutN at h
  split at h
  · rename_i xs e
    split at h
    · cases h
    · rw [e]; exact h
  · exact h
theorem cutN_at {N : Addr → Prop} {F : Hp} {a : Addr} (h : ¬ N a) : cutN N F a = F a := by
  unfold cutN
  split
  · rename_i xs e
    rw [if_neg h, e]
  · rfl
theorem cutN_lst {N : Addr → Prop} {F : Hp} {a : Addr} {xs : List V} (h : cutN N F a = some (.lst xs)) : ¬ N a ∧ F a = some (.lst xs) := by
  refine ⟨fun n => ?_, cutN_le N F a _ h⟩
  have e := cutN_le N F a _ h
  unfold cutN at h
  rw [e] at h
  simp [n] at h
theorem cutN_mono {N N' : Addr → Prop} {F F' : Hp} (hN : ∀ a, N' a → N a) (e : Le F F') : Le (cutN N F) (cutN N' F') := fun a o h => by
  cases o with
  | lst xs =>
    obtain ⟨n, q⟩ := cutN_lst h
    rw [cutN_at fun z => n (hN a z)]
    exact e _ _ q
  | _ =>
    have q := e _ _ (cutN_le N F a _ h)
    unfold cutN
    rw [q]
theorem cutN_tup {K : PySem.W.Frag} {N : Addr → Prop} {F : Hp} : TupLe K F (cutN N F) := fun a xs h => by
  rcases h with (h | ⟨o, h⟩) | h
  · refine .inl (.inl ?_)
    unfold cutN
    rw [h]
  · refine .inl (.inr ⟨o, ?_⟩)
    unfold cutN
    rw [h]
  · exact .inr h

/-! ### slots -/
/-- what a def's environment leans on: the heap at the entry, what of it is frozen, what of it may be changed -/
structure Bs where
  K : PySem.W.Frag
  F0 : Hp
  H0 : Hp
  S0 : Addr → Prop
  N : Addr → Prop
def Bs.own (X : Bs) (a : Addr) : Prop := X.H0 a = none ∨ X.S0 a
/-- the frozen part, all of it, or without the lists that stood before -/
noncomputable def Bs.ff (X : Bs) (F : Hp) : Bool → Hp
  | true => cutN X.N F
  | false => F
theorem Bs.ff_le (X : Bs) (F : Hp) (m : Bool) : Le (X.ff F m) F := by
  cases m with
  | true => exact cutN_le X.N F
  | false => exact Le.rfl'
theorem Bs.ff_mono {X : Bs} {F F' : Hp} (e : Le F F') (m : Bool) : Le (X.ff F m) (X.ff F' m) := by
  cases m with
  | true => exact cutN_mono (fun _ h => h) e
  | false => exact e
theorem Bs.ff_at {X : Bs} {F : Hp} {m : Bool} {a : Addr} (h : ¬ X.N a) : X.ff F m a = F a := by
  cases m with
  | true => exact cutN_at h
  | false => rfl
theorem Bs.ff_tup {X : Bs} {F : Hp} {m : Bool} {K : PySem.W.Frag} : TupLe K F (X.ff F m) := by
  cases m with
  | true => exact cutN_tup
  | false => exact fun _ _ h => h
/-- another's new is new to me -/
theorem Bs.ff_to {X X' : Bs} {F : Hp} (hN : ∀ a, X'.N a → X.N a) (m : Bool) : Le (X.ff F m) (X'.ff F m) := by
  cases m with
  | true => exact cutN_mono hN Le.rfl'
  | false => exact Le.rfl'
open Classical in
/-- F with what stands in H at S -/
noncomputable def lay (S : Addr → Prop) (H F : Hp) : Hp := fun a => if S a then H a else F a
/-- a thing of one's own that may change, by what holds of it; vw: as which data it may be read -/
structure Own where
  K : PySem.W.Frag
  p : Hp → Hp → V → (Addr → Prop) → Prop
  vw : Option PyData
  keep : ∀ {F F' H H' : Hp} {v : V} {S : Addr → Prop}, p F H v S → Le F F' → (∀ a, S a → H' a = H a) → p F' H' v S
  /-- what is read as no data bears the loss of frozen lists -/
  keepT : vw = none → ∀ {F F' H H' : Hp} {v : V} {S : Addr → Prop}, p F H v S → TupLe K F F' → (∀ a, S a → H' a = H a) → p F' H' v S
  view : ∀ {F H : Hp} {v : V} {S : Addr → Prop} {d : PyData}, Le F H → p F H v S → vw = some d → Rp K (lay S H F) v d ∧ ∀ a, S a → ∃ xs, H a = some (.lst xs)
inductive Sl where
  | no
  | dat (m : Bool) (d : PyData)
  | ml (m : Bool) (l : Addr) (ds : List PyData)
  | ex (v : V) (Φ : Own)
abbrev Sl.dt (d : PyData) : Sl := .dat false d
def SlOk (X : Bs) (F H : Hp) (ov : Option V) (S : Addr → Prop) : Sl → Prop
  | .no => ∀ a, ¬ S a
  | .dat m d => (∃ v, ov = some v ∧ Rp X.K (X.ff F m) v d) ∧ ∀ a, ¬ S a
  | .ml m l ds => ∃ xs, ov = some (.ref l) ∧ (∀ a, S a ↔ a = l) ∧ H l = some (.lst xs) ∧ RpA X.K (X.ff F m) xs ds ∧ (m = true → ¬ X.N l)
  | .ex v Φ => ov = some v ∧ Φ.K = X.K ∧ Φ.p F H v S
theorem SlOk.mono {X : Bs} {F F' H H' : Hp} {ov : Option V} {S : Addr → Prop} : ∀ {s : Sl}, SlOk X F H ov S s → Le F F' → (∀ a, S a → H' a = H a) → SlOk X F' H' ov S s
  | .no, h, _, _ => h
  | .dat m _, ⟨⟨v, e, r⟩, n⟩, le, _ => ⟨⟨v, e, r.mono (Bs.ff_mono le m)⟩, n⟩
  | .ml m l ds, ⟨xs, e, hS, hl, r, nl⟩, le, k => ⟨xs, e, hS, (k l ((hS l).mpr rfl)).trans hl, r.mono (Bs.ff_mono le m), nl⟩
  | .ex _ Φ, ⟨e, hk, q⟩, le, k => ⟨e, hk, Φ.keep q le k⟩
/-- the same over another base -/
theorem SlOk.to {X X' : Bs} {F H : Hp} {ov : Option V} {S : Addr → Prop} (hK : X.K = X'.K) (hN : ∀ a, X'.N a → X.N a) : ∀ {s : Sl}, SlOk X F H ov S s → SlOk X' F H ov S s
  | .no, h => h
  | .dat m _, ⟨⟨v, e, r⟩, n⟩ => ⟨⟨v, e, by rw [← hK]; exact r.mono (Bs.ff_to hN m)⟩, n⟩
  | .ml m l ds, ⟨xs, e, hS, hl, r, nl⟩ => ⟨xs, e, hS, hl, by rw [← hK]; exact r.mono (Bs.ff_to hN m), fun z n => nl z (hN l n)⟩
  | .ex _ Φ, ⟨e, hk, q⟩ => ⟨e, hk.trans hK, q⟩
structure En (X : Bs) (F H : Hp) (σ : L2.St) (Γ : List Sl) : Prop where
  le : Le F H
  len : σ.length = Γ.length
  sl : ∃ S : Nat → Addr → Prop, (∀ i s, Γ[i]? = some s → SlOk X F H (σ.getD i none) (S i) s) ∧ (∀ i j a, S i a → S j a → i = j) ∧ (∀ i a, S i a → F a = none ∧ H a ≠ none ∧ X.own a)
  fr : ∀ a o, X.H0 a = some o → ¬ X.S0 a → H a = some o ∧ F a = X.F0 a
  f0 : Le X.F0 F
  nn : ∀ a, X.N a → H a ≠ none
section
variable {X : Bs} {F F' H H' : Hp} {σ : L2.St} {Γ : List Sl}
theorem En.ownN (E : En X F H σ Γ) {p : Addr} (h : H p = none) : X.own p := by
  by_cases hs : X.S0 p
  · exact .inr hs
  · refine .inl ?_
    cases q : X.H0 p with
    | none => rfl
    | some o => rw [(E.fr p o q hs).1] at h; cases h
theorem En.dat (E : En X F H σ Γ) {i : Nat} {m : Bool} {d : PyData} (h : Γ[i]? = some (.dat m d)) : ∃ v, σ[i]? = some (some v) ∧ Rp X.K (X.ff F m) v d := by
  obtain ⟨S, hs, _⟩ := E.sl
  obtain ⟨⟨v, e, r⟩, _⟩ := hs i _ h
  refine ⟨v, ?_, r⟩
  have hi : i < σ.length := by rw [E.len]; exact (List.getElem?_eq_some_iff.mp h).1
  simp only [List.getD_eq_getElem?_getD, List.getElem?_eq_getElem hi, Option.getD_some] at e
  rw [List.getElem?_eq_getElem hi, e]
theorem En.at {i : Nat} {s : Sl} {v : V} (E : En X F H σ Γ) (h : Γ[i]? = some s) (e : σ.getD i none = some v) : σ[i]? = some (some v) := by
  have hi : i < σ.length := by rw [E.len]; exact (List.getElem?_eq_some_iff.mp h).1
  simp only [List.getD_eq_getElem?_getD, List.getElem?_eq_getElem hi, Option.getD_some] at e
  rw [List.getElem?_eq_getElem hi, e]
theorem En.ml (E : En X F H σ Γ) {i : Nat} {m : Bool} {l : Addr} {ds : List PyData} (h : Γ[i]? = some (.ml m l ds)) : ∃ xs, σ[i]? = some (some (.ref l)) ∧ H l = some (.lst xs) ∧ F l = none ∧ RpA X.K (X.ff F m) xs ds := by
  obtain ⟨S, hs, _, ho⟩ := E.sl
  obtain ⟨xs, e, hS, hl, r, _⟩ := hs i _ h
  exact ⟨xs, E.at h e, hl, (ho i l ((hS l).mpr rfl)).1, r⟩
theorem En.ex (E : En X F H σ Γ) {i : Nat} {v : V} {Φ : Own} (h : Γ[i]? = some (.ex v Φ)) : σ[i]? = some (some v) := by
  obtain ⟨S, hs, _⟩ := E.sl
  obtain ⟨e, _⟩ := hs i _ h
  exact E.at h e
/-- more is frozen, what stands apart may change -/
theorem En.grow (E : En X F H σ Γ) (lf : Le F F') (le : Le F' H') (hh : ∀ a o, H a = some o → H' a = some o) (hn : ∀ a o, H a = some o → F' a = F a) : En X F' H' σ Γ := by
  have hnn : ∀ a, X.N a → H' a ≠ none := fun a n => by
    cases q : H a with
    | none => exact absurd q (E.nn a n)
    | some o => rw [hh a o q]; simp
  obtain ⟨S, hs, hd, ho⟩ := E.sl
  refine ⟨le, E.len, ⟨S, fun i s e => (hs i s e).mono lf fun a sa => ?_, hd, fun i a sa => ?_⟩, fun a o e n => ?_, E.f0.tr lf, hnn⟩
  · obtain ⟨_, h1, _⟩ := ho i a sa
    cases q : H a with
    | none => exact absurd q h1
    | some o => exact hh a o q
  · obtain ⟨h0, h1, h2⟩ := ho i a sa
    cases q : H a with
    | none => exact absurd q h1
    | some o => exact ⟨(hn a o q).trans h0, by rw [hh a o q]; simp, h2⟩
  · obtain ⟨h1, h2⟩ := E.fr a o e n
    exact ⟨hh a o h1, (hn a o h1).trans h2⟩
/-- a new frozen object -/
theorem En.alloc (E : En X F H σ Γ) {p : Addr} {o : HO} (h : H p = none) : En X (upd F p o) (upd H p o) σ Γ :=
  E.grow (Le.up (E.le.nn h)) E.le.both (fun a u q => by rw [upd_ne (ne_of_none q h)]; exact q) (fun a u q => by rw [upd_ne (ne_of_none q h)])
/-- a new object that is not frozen, held by nobody -/
theorem En.free (E : En X F H σ Γ) {p : Addr} {o : HO} (h : H p = none) : En X F (upd H p o) σ Γ :=
  E.grow Le.rfl' (E.le.new (E.le.nn h)) (fun a u q => by rw [upd_ne (ne_of_none q h)]; exact q) (fun _ _ _ => rfl)
theorem getD_app {α : Type} {l : List α} {x d : α} {i : Nat} (h : i < l.length) : (l ++ [x]).getD i d = l.getD i d := by
  simp [List.getD_eq_getElem?_getD, List.getElem?_append_left h]
theorem getD_last {α : Type} {l : List α} {x d : α} : (l ++ [x]).getD l.length d = x := by
  simp [List.getD_eq_getElem?_getD]
/-- one more slot, of a new thing or of data -/
theorem En.pushG (E : En X F H σ Γ) {ov : Option V} {s : Sl} {T : Addr → Prop} (lf : Le F F') (le : Le F' H') (hh : ∀ a o, H a = some o → H' a = some o) (hn : ∀ a o, H a = some o → F' a = F a)
    (h : SlOk X F' H' ov T s) (hT : ∀ a, T a → H a = none ∧ F' a = none ∧ H' a ≠ none) : En X F' H' (σ ++ [ov]) (Γ ++ [s]) := by
  have hown : ∀ a, T a → X.own a := fun a ta => E.ownN (hT a ta).1
  have hdis : ∀ (S : Nat → Addr → Prop), (∀ i a, S i a → F a = none ∧ H a ≠ none ∧ X.own a) → ∀ i a, S i a → ¬ T a := fun S ho i a sa ta => (ho i a sa).2.1 (hT a ta).1
  have E' := E.grow lf le hh hn
  obtain ⟨S, hs, hdj, ho⟩ := E.sl
  have hkeep : ∀ i a, S i a → F' a = none ∧ H' a ≠ none ∧ X.own a := fun i a sa => by
    obtain ⟨h0, h1, h2⟩ := ho i a sa
    cases q : H a with
    | none => exact absurd q h1
    | some o => exact ⟨(hn a o q).trans h0, by rw [hh a o q]; simp, h2⟩
  have hs' : ∀ i s, Γ[i]? = some s → SlOk X F' H' (σ.getD i none) (S i) s := fun i s e => (hs i s e).mono lf fun a sa => by
    obtain ⟨_, h1, _⟩ := ho i a sa
    cases q : H a with
    | none => exact absurd q h1
    | some o => exact hh a o q
  refine ⟨E'.le, by simp [E.len], ⟨fun i a => (i < Γ.length ∧ S i a) ∨ (i = Γ.length ∧ T a), fun i u e => ?_, fun i j a h1 h2 => ?_, fun i a h1 => ?_⟩, E'.fr, E'.f0, E'.nn⟩
  · have hi : i < (Γ ++ [s]).length := (List.getElem?_eq_some_iff.mp e).1
    simp only [List.length_append, List.length_cons, List.length_nil] at hi
    by_cases hlt : i < Γ.length
    · rw [List.getElem?_append_left hlt] at e
      rw [getD_app (by rw [E.len]; exact hlt)]
      have eS : (fun a => (i < Γ.length ∧ S i a) ∨ (i = Γ.length ∧ T a)) = S i := by
        funext a
        apply propext
        constructor
        · rintro (⟨_, q⟩ | ⟨q, _⟩)
          · exact q
          · omega
        · intro q; exact .inl ⟨hlt, q⟩
      show SlOk X F' H' _ (fun a => (i < Γ.length ∧ S i a) ∨ (i = Γ.length ∧ T a)) u
      rw [eS]
      exact hs' i u e
    · have hie : i = Γ.length := by omega
      subst hie
      simp at e; subst e
      have eS : (fun a => (Γ.length < Γ.length ∧ S Γ.length a) ∨ (Γ.length = Γ.length ∧ T a)) = T := by
        funext a
        apply propext
        constructor
        · rintro (⟨q, _⟩ | ⟨_, q⟩)
          · omega
          · exact q
        · intro q; exact .inr ⟨rfl, q⟩
      show SlOk X F' H' _ (fun a => (Γ.length < Γ.length ∧ S Γ.length a) ∨ (Γ.length = Γ.length ∧ T a)) s
      rw [eS, ← E.len, getD_last]
      exact h
  · rcases h1 with ⟨a1, b1⟩ | ⟨a1, b1⟩ <;> rcases h2 with ⟨a2, b2⟩ | ⟨a2, b2⟩
    · exact hdj i j a b1 b2
    · exact absurd b2 (hdis S ho i a b1)
    · exact absurd b1 (hdis S ho j a b2)
    · omega
  · rcases h1 with ⟨a1, b1⟩ | ⟨a1, b1⟩
    · exact hkeep i a b1
    · exact ⟨(hT a b1).2.1, (hT a b1).2.2, hown a b1⟩
theorem En.noN (E : En X F H σ Γ) {p : Addr} (h : H p = none) : ¬ X.N p := fun n => E.nn p n h
theorem En.pushD (E : En X F H σ Γ) {v : V} {m : Bool} {d : PyData} (r : Rp X.K (X.ff F m) v d) : En X F H (σ ++ [some v]) (Γ ++ [.dat m d]) :=
  E.pushG (T := fun _ => False) Le.rfl' E.le (fun _ _ q => q) (fun _ _ _ => rfl) ⟨⟨v, rfl, r⟩, fun _ z => z⟩ (fun _ z => z.elim)
/-- a new list of one's own -/
theorem En.pushM (E : En X F H σ Γ) {p : Addr} {xs : List V} {m : Bool} {ds : List PyData} (h : H p = none) (r : RpA X.K (X.ff F m) xs ds) : En X F (upd H p (.lst xs)) (σ ++ [some (.ref p)]) (Γ ++ [.ml m p ds]) :=
  E.pushG (T := fun a => a = p) Le.rfl' (E.le.new (E.le.nn h)) (fun a u q => by rw [upd_ne (ne_of_none q h)]; exact q) (fun _ _ _ => rfl)
    ⟨xs, rfl, fun _ => Iff.rfl, upd_same, r, fun _ => E.noN h⟩ (fun a e => by subst e; exact ⟨h, E.le.nn h, by rw [upd_same]; simp⟩)
theorem En.drop {ov : Option V} {s : Sl} (E : En X F H (σ ++ [ov]) (Γ ++ [s])) : En X F H σ Γ := by
  have hl : σ.length = Γ.length := by
    have := E.len
    simp at this
    exact this
  obtain ⟨S, hs, hdj, ho⟩ := E.sl
  refine ⟨E.le, hl, ⟨S, fun i u e => ?_, hdj, ho⟩, E.fr, E.f0, E.nn⟩
  have hi : i < Γ.length := (List.getElem?_eq_some_iff.mp e).1
  have q := hs i u (by rw [List.getElem?_append_left hi]; exact e)
  rw [getD_app (by rw [hl]; exact hi)] at q
  exact q
/-- the value that came last is put into a slot -/
theorem En.put {ov : Option V} {s : Sl} (E : En X F H (σ ++ [ov]) (Γ ++ [s])) (i : Nat) : En X F H (σ.set i ov) (Γ.set i s) := by
  have hl : σ.length = Γ.length := by
    have := E.len
    simp at this
    exact this
  obtain ⟨S, hs, hdj, ho⟩ := E.sl
  by_cases hi : i < Γ.length
  · refine ⟨E.le, by simp [hl], ⟨fun j a => if j = i then S Γ.length a else if j = Γ.length then False else S j a, fun j u e => ?_, fun j k a h1 h2 => ?_, fun j a h1 => ?_⟩, E.fr, E.f0, E.nn⟩
    · by_cases hj : j = i
      · subst hj
        rw [List.getElem?_set_self hi] at e
        cases e
        have q := hs Γ.length s (by simp)
        rw [← hl, getD_last, hl] at q
        have : (σ.set j ov).getD j none = ov := by simp [List.getD_eq_getElem?_getD, hl, hi]
        rw [this]
        simpa using q
      · rw [List.getElem?_set_ne (Ne.symm hj)] at e
        have hj' : j < Γ.length := (List.getElem?_eq_some_iff.mp e).1
        have q := hs j u (by rw [List.getElem?_append_left hj']; exact e)
        rw [getD_app (by rw [hl]; exact hj')] at q
        have : (σ.set i ov).getD j none = σ.getD j none := by simp [List.getD_eq_getElem?_getD, List.getElem?_set_ne (Ne.symm hj)]
        rw [this]
        have hne : j ≠ Γ.length := by omega
        simpa [hj, hne] using q
    · by_cases a1 : j = i
      · by_cases a2 : k = i
        · omega
        · simp only [if_pos a1, if_neg a2] at h1 h2
          by_cases a3 : k = Γ.length
          · simp [a3] at h2
          · simp only [if_neg a3] at h2
            have := hdj _ _ _ h1 h2
            omega
      · simp only [if_neg a1] at h1
        by_cases a4 : j = Γ.length
        · simp [a4] at h1
        · simp only [if_neg a4] at h1
          by_cases a2 : k = i
          · simp only [if_pos a2] at h2
            have := hdj _ _ _ h1 h2
            omega
          · simp only [if_neg a2] at h2
            by_cases a3 : k = Γ.length
            · simp [a3] at h2
            · simp only [if_neg a3] at h2
              exact hdj _ _ _ h1 h2
    · by_cases a1 : j = i
      · simp only [if_pos a1] at h1; exact ho _ a h1
      · simp only [if_neg a1] at h1
        by_cases a4 : j = Γ.length
        · simp [a4] at h1
        · simp only [if_neg a4] at h1; exact ho _ a h1
  · have e1 : σ.set i ov = σ := List.set_eq_of_length_le (by omega)
    have e2 : Γ.set i s = Γ := List.set_eq_of_length_le (by omega)
    rw [e1, e2]
    exact E.drop
/-- a slot is told otherwise, over the same addresses (or fewer) -/
theorem En.retell (E : En X F H σ Γ) (lf : Le F F') (le : Le F' H) (hf : ∀ a o, X.H0 a = some o → ¬ X.S0 a → F' a = F a) {i : Nat} {s s' : Sl} (hi : Γ[i]? = some s)
    (h : ∀ S : Addr → Prop, (∀ a, S a → F a = none ∧ H a ≠ none) → SlOk X F H (σ.getD i none) S s → ∃ S' : Addr → Prop, SlOk X F' H (σ.getD i none) S' s' ∧ (∀ a, S' a → S a ∧ F' a = none) ∧ ∀ a, F' a ≠ F a → S a) : En X F' H σ (Γ.set i s') := by
  obtain ⟨S, hs, hdj, ho⟩ := E.sl
  have hil : i < Γ.length := (List.getElem?_eq_some_iff.mp hi).1
  obtain ⟨S', q, hsub, hch⟩ := h (S i) (fun a sa => ⟨(ho i a sa).1, (ho i a sa).2.1⟩) (hs i s hi)
  have hother : ∀ j a, j ≠ i → S j a → F' a = F a := fun j a hj sa => by
    by_cases e : F' a = F a
    · exact e
    · exact absurd (hdj j i a sa (hch a e)) hj
  refine ⟨le, by simp [E.len], ⟨fun j a => if j = i then S' a else S j a, fun j u e => ?_, fun j k a h1 h2 => ?_, fun j a h1 => ?_⟩, fun a o e n => ?_, E.f0.tr lf, E.nn⟩
  · by_cases hj : j = i
    · subst hj
      rw [List.getElem?_set_self hil] at e
      cases e
      simpa using q
    · rw [List.getElem?_set_ne (Ne.symm hj)] at e
      have := (hs j u e).mono lf (H' := H) fun _ _ => rfl
      simpa [hj] using this
  · by_cases a1 : j = i <;> by_cases a2 : k = i
    · omega
    · simp only [if_pos a1, if_neg a2] at h1 h2
      have := hdj _ _ _ (hsub a h1).1 h2
      omega
    · simp only [if_neg a1, if_pos a2] at h1 h2
      have := hdj _ _ _ h1 (hsub a h2).1
      omega
    · simp only [if_neg a1, if_neg a2] at h1 h2
      exact hdj _ _ _ h1 h2
  · by_cases a1 : j = i
    · simp only [if_pos a1] at h1
      obtain ⟨sa, fn⟩ := hsub a h1
      exact ⟨fn, (ho i a sa).2.1, (ho i a sa).2.2⟩
    · simp only [if_neg a1] at h1
      exact ⟨(hother j a a1 h1).trans (ho j a h1).1, (ho j a h1).2⟩
  · exact ⟨(E.fr a o e n).1, (hf a o e n).trans (E.fr a o e n).2⟩
/-- a list of one's own is frozen -/
theorem En.freeze (E : En X F H σ Γ) {i : Nat} {m : Bool} {l : Addr} {ds : List PyData} (hi : Γ[i]? = some (.ml m l ds)) : ∃ F', Le F F' ∧ En X F' H σ (Γ.set i (.dat m (.list ds))) := by
  obtain ⟨xs, e1, hl, fl, r⟩ := E.ml hi
  obtain ⟨S, hs, hdj, ho⟩ := id E.sl
  have own : X.own l ∧ (m = true → ¬ X.N l) := by
    obtain ⟨_, _, hS, _, _, nl⟩ := hs i _ hi
    exact ⟨(ho i l ((hS l).mpr rfl)).2.2, nl⟩
  obtain ⟨own, nl⟩ := own
  have fl' : ∀ {F : Hp}, F l = some (.lst xs) → X.ff F m l = some (.lst xs) := fun {F} h => by
    cases m with
    | false => exact h
    | true => rw [Bs.ff_at (nl rfl)]; exact h
  refine ⟨upd F l (.lst xs), Le.up fl, E.retell (Le.up fl) (E.le.lay hl) (fun a o e n => ?_) hi fun S hS q => ?_⟩
  · refine upd_ne fun z => ?_
    subst z
    rcases own with w | w
    · rw [w] at e; cases e
    · exact n w
  · obtain ⟨ys, e, hS', hl', r', _⟩ := q
    rw [hl] at hl'; cases hl'
    refine ⟨fun _ => False, ⟨⟨.ref l, e, .lst (fl' upd_same) (r.mono (Bs.ff_mono (Le.up fl) m))⟩, fun _ z => z⟩, fun _ z => z.elim, fun a ha => ?_⟩
    refine (hS' a).mpr ?_
    by_cases z : a = l
    · exact z
    · exact absurd (upd_ne z) ha
theorem En.forget (E : En X F H σ Γ) {i : Nat} {s : Sl} (hi : Γ[i]? = some s) : En X F H σ (Γ.set i .no) :=
  E.retell Le.rfl' E.le (fun _ _ _ _ => rfl) hi fun S _ _ => ⟨fun _ => False, fun _ z => z, fun _ z => z.elim, fun _ h => absurd rfl h⟩
end
end Pk
end
section
set_option Elab.async false
set_option linter.all false
set_option maxRecDepth 100000
/-! The data layer, part 1: the frame, judgements, expressions, tests, arguments, calls. -/
namespace Pk
open PySem PySem.Spec PyProof.Rows L2

/-- one slot stands aside while the others work -/
theorem En.frame {X : Bs} {F H : Hp} {σ : L2.St} {Γ : List Sl} {ov : Option V} {s : Sl} (E : En X F H (σ ++ [ov]) (Γ ++ [s])) :
    ∃ X' : Bs, X'.K = X.K ∧ X'.N = X.N ∧ En X' F H σ Γ ∧ ∀ F' H' σ' Γ', Γ'.length = Γ.length → Le F F' → En X' F' H' σ' Γ' → En X F' H' (σ' ++ [ov]) (Γ' ++ [s]) := by
  have hl : σ.length = Γ.length := by
    have := E.len
    simp at this
    exact this
  have own0 : ∀ p, H p = none → X.own p := fun p h => E.ownN h
  obtain ⟨S, hs, hdj, ho⟩ := id E.sl
  refine ⟨⟨X.K, F, H, fun a => ∃ i, i < Γ.length ∧ S i a, X.N⟩, rfl, rfl, ⟨E.le, hl, ⟨fun i a => i < Γ.length ∧ S i a, fun i u e => ?_, fun i j a h1 h2 => hdj i j a h1.2 h2.2, fun i a h1 => ⟨(ho i a h1.2).1, (ho i a h1.2).2.1, .inr ⟨i, h1⟩⟩⟩, fun a o e _ => ⟨e, rfl⟩, Le.rfl', E.nn⟩, fun F' H' σ' Γ' hlen lf E' => ?_⟩
  · have hi : i < Γ.length := (List.getElem?_eq_some_iff.mp e).1
    have q := hs i u (by rw [List.getElem?_append_left hi]; exact e)
    rw [getD_app (by rw [hl]; exact hi)] at q
    have eS : (fun a => i < Γ.length ∧ S i a) = S i := by
      funext a
      exact propext ⟨fun z => z.2, fun z => ⟨hi, z⟩⟩
    show SlOk _ F H _ (fun a => i < Γ.length ∧ S i a) u
    rw [eS]
    exact q.to rfl fun _ h => h
  · obtain ⟨S', hs', hdj', ho'⟩ := id E'.sl
    have notS : ∀ a, S Γ.length a → ¬ ∃ i, i < Γ.length ∧ S i a := fun a sa ⟨i, hi, si⟩ => by
      have := hdj i _ a si sa
      omega
    have keepS : ∀ a, S Γ.length a → H' a = H a ∧ F' a = F a := fun a sa => by
      obtain ⟨_, h1, _⟩ := ho _ a sa
      cases q : H a with
      | none => exact absurd q h1
      | some o => exact E'.fr a o q (notS a sa)
    have disS : ∀ i a, S' i a → ¬ S Γ.length a := fun i a h1 h2 => by
      rcases (ho' i a h1).2.2 with w | w
      · exact (ho _ a h2).2.1 w
      · exact notS a h2 w
    have hl' : σ'.length = Γ'.length := E'.len
    refine ⟨E'.le, by simp [hl'], ⟨fun i a => (i < Γ'.length ∧ S' i a) ∨ (i = Γ'.length ∧ S Γ.length a), fun i u e => ?_, fun i j a h1 h2 => ?_, fun i a h1 => ?_⟩, fun a o e n => ?_, E.f0.tr lf, E'.nn⟩
    · have hi : i < (Γ' ++ [s]).length := (List.getElem?_eq_some_iff.mp e).1
      simp only [List.length_append, List.length_cons, List.length_nil] at hi
      by_cases hlt : i < Γ'.length
      · rw [List.getElem?_append_left hlt] at e
        rw [getD_app (by rw [hl']; exact hlt)]
        have eS : (fun a => (i < Γ'.length ∧ S' i a) ∨ (i = Γ'.length ∧ S Γ.length a)) = S' i := by
          funext a
          apply propext
          constructor
          · rintro (⟨_, q⟩ | ⟨q, _⟩)
            · exact q
            · omega
          · intro q; exact .inl ⟨hlt, q⟩
        show SlOk X F' H' _ (fun a => (i < Γ'.length ∧ S' i a) ∨ (i = Γ'.length ∧ S Γ.length a)) u
        rw [eS]
        exact (hs' i u e).to rfl fun _ h => h
      · have hie : i = Γ'.length := by omega
        subst hie
        simp at e; subst e
        have eS : (fun a => (Γ'.length < Γ'.length ∧ S' Γ'.length a) ∨ (Γ'.length = Γ'.length ∧ S Γ.length a)) = S Γ.length := by
          funext a
          apply propext
          constructor
          · rintro (⟨q, _⟩ | ⟨_, q⟩)
            · omega
            · exact q
          · intro q; exact .inr ⟨rfl, q⟩
        show SlOk X F' H' _ (fun a => (Γ'.length < Γ'.length ∧ S' Γ'.length a) ∨ (Γ'.length = Γ'.length ∧ S Γ.length a)) s
        rw [eS, ← hl', getD_last]
        have q := hs Γ.length s (by simp)
        rw [← hl, getD_last, hl] at q
        exact q.mono lf fun a sa => (keepS a sa).1
    · rcases h1 with ⟨a1, b1⟩ | ⟨a1, b1⟩ <;> rcases h2 with ⟨a2, b2⟩ | ⟨a2, b2⟩
      · exact hdj' i j a b1 b2
      · exact absurd b2 (disS i a b1)
      · exact absurd b1 (disS j a b2)
      · omega
    · rcases h1 with ⟨a1, b1⟩ | ⟨a1, b1⟩
      · refine ⟨(ho' i a b1).1, (ho' i a b1).2.1, ?_⟩
        rcases (ho' i a b1).2.2 with w | ⟨j, _, w⟩
        · exact own0 a w
        · exact (ho j a w).2.2
      · obtain ⟨k1, k2⟩ := keepS a b1
        exact ⟨k2.trans (ho _ a b1).1, by rw [k1]; exact (ho _ a b1).2.1, (ho _ a b1).2.2⟩
    · obtain ⟨q1, q2⟩ := E.fr a o e n
      have nS : ¬ ∃ i, i < Γ.length ∧ S i a := fun ⟨i, _, si⟩ => by
        rcases (ho i a si).2.2 with w | w
        · rw [w] at e; cases e
        · exact n w
      obtain ⟨r1, r2⟩ := E'.fr a o q1 nS
      exact ⟨r1, r2.trans q2⟩
theorem En.rebase {X : Bs} {F H : Hp} {σ : L2.St} {Γ : List Sl} (E : En X F H σ Γ) :
    ∃ X' : Bs, X'.K = X.K ∧ X'.N = X.N ∧ X'.F0 = F ∧ X'.H0 = H ∧ En X' F H σ Γ ∧ ∀ F' H' σ' Γ', En X' F' H' σ' Γ' → En X F' H' σ' Γ' := by
  obtain ⟨S, hs, hdj, ho⟩ := id E.sl
  refine ⟨⟨X.K, F, H, fun a => ∃ i, S i a, X.N⟩, rfl, rfl, rfl, rfl, ⟨E.le, E.len, ⟨S, fun i s e => (hs i s e).to rfl fun _ h => h, hdj, fun i a h1 => ⟨(ho i a h1).1, (ho i a h1).2.1, .inr ⟨i, h1⟩⟩⟩, fun a o e _ => ⟨e, rfl⟩, Le.rfl', E.nn⟩, fun F' H' σ' Γ' E' => ?_⟩
  have lf : Le F F' := E'.f0
  obtain ⟨S', hs', hdj', ho'⟩ := id E'.sl
  refine ⟨E'.le, E'.len, ⟨S', fun i s e => (hs' i s e).to rfl fun _ h => h, hdj', fun i a h1 => ⟨(ho' i a h1).1, (ho' i a h1).2.1, ?_⟩⟩, fun a o e n => ?_, E.f0.tr lf, E'.nn⟩
  · rcases (ho' i a h1).2.2 with w | ⟨j, w⟩
    · exact E.ownN w
    · exact (ho j a w).2.2
  · obtain ⟨q1, q2⟩ := E.fr a o e n
    have nS : ¬ ∃ i, S i a := fun ⟨i, si⟩ => by
      rcases (ho i a si).2.2 with w | w
      · rw [w] at e; cases e
      · exact n w
    obtain ⟨r1, r2⟩ := E'.fr a o q1 nS
    exact ⟨r1, r2.trans q2⟩

/-! ### judgements over data -/
/-- the reading t gives data, of which Q holds; m: its lists are new -/
def WD (K : PySem.W.Frag) (m : Bool) (Γ : List Sl) (t : TE) (Q : PyData → Prop) : Prop := ∀ X : Bs, X.K = K → ∀ F H σ, En X F H σ Γ → ∀ C : VK,
  (∀ v F' H' d, Le F F' → En X F' H' σ Γ → Rp K (X.ff F' m) v d → Q d → C v H') → t σ H C
/-- .. or a new thing of one's own -/
def WX (K : PySem.W.Frag) (Γ : List Sl) (t : TE) (Q : Sl → Prop) : Prop := ∀ X : Bs, X.K = K → ∀ F H σ, En X F H σ Γ → ∀ C : VK,
  (∀ v F' H' s, Le F F' → En X F' H' (σ ++ [some v]) (Γ ++ [s]) → Q s → C v H') → t σ H C
def WT (K : PySem.W.Frag) (Γ : List Sl) (t : TT) (Q : Bool → Prop) : Prop := ∀ X : Bs, X.K = K → ∀ F H σ, En X F H σ Γ → ∀ C : Bool → Hp → Prop,
  (∀ b F' H', Le F F' → En X F' H' σ Γ → Q b → C b H') → t σ H C
/-- an argument: data, or one's own in a slot -/
inductive Ag where
  | d (x : PyData)
  | o (i : Nat)
def Ag.ix : Ag → Option Nat
  | .d _ => none
  | .o i => some i
def Ag.sl (Γ : List Sl) : Ag → Sl
  | .d x => .dat false x
  | .o i => Γ.getD i .no
def AgOk (X : Bs) (m : Bool) (F : Hp) (σ : L2.St) : V → Ag → Prop
  | v, .d x => Rp X.K (X.ff F m) v x
  | v, .o i => σ[i]? = some (some v)
inductive AgsOk (X : Bs) (m : Bool) (F : Hp) (σ : L2.St) : List V → List Ag → Prop
  | nil : AgsOk X m F σ [] []
  | cons {v vs a as} : AgOk X m F σ v a → AgsOk X m F σ vs as → AgsOk X m F σ (v :: vs) (a :: as)
def WA (K : PySem.W.Frag) (m : Bool) (Γ : List Sl) (t : TA) (Q : List Ag → Prop) : Prop := ∀ X : Bs, X.K = K → ∀ F H σ, En X F H σ Γ → ∀ C : List V → Hp → Prop,
  (∀ vs F' H' as, Le F F' → En X F' H' σ Γ → AgsOk X m F' σ vs as → Q as → C vs H') → t σ H C
/-- operations on values -/
def RD (K : PySem.W.Frag) (m : Bool) (Γ : List Sl) (r : R2) (x y : PyData) (Q : PyData → Prop) : Prop := ∀ X : Bs, X.K = K → ∀ F H σ, En X F H σ Γ → ∀ v u, Rp K (X.ff F m) v x → Rp K (X.ff F m) u y → ∀ C : VK,
  (∀ z F' H' d, Le F F' → En X F' H' σ Γ → Rp K (X.ff F' m) z d → Q d → C z H') → r v u H C
def RX (K : PySem.W.Frag) (m : Bool) (Γ : List Sl) (r : R2) (x y : PyData) (Q : Sl → Prop) : Prop := ∀ X : Bs, X.K = K → ∀ F H σ, En X F H σ Γ → ∀ v u, Rp K (X.ff F m) v x → Rp K (X.ff F m) u y → ∀ C : VK,
  (∀ z F' H' s, Le F F' → En X F' H' (σ ++ [some z]) (Γ ++ [s]) → Q s → C z H') → r v u H C
def RU (K : PySem.W.Frag) (m : Bool) (Γ : List Sl) (r : V → Hp → VK → Prop) (x : PyData) (Q : PyData → Prop) : Prop := ∀ X : Bs, X.K = K → ∀ F H σ, En X F H σ Γ → ∀ v, Rp K (X.ff F m) v x → ∀ C : VK,
  (∀ z F' H' d, Le F F' → En X F' H' σ Γ → Rp K (X.ff F' m) z d → Q d → C z H') → r v H C
def RC (K : PySem.W.Frag) (m : Bool) (Γ : List Sl) (r : List V → Hp → VK → Prop) (xs : List PyData) (Q : PyData → Prop) : Prop := ∀ X : Bs, X.K = K → ∀ F H σ, En X F H σ Γ → ∀ vs, RpA K (X.ff F m) vs xs → ∀ C : VK,
  (∀ z F' H' d, Le F F' → En X F' H' σ Γ → Rp K (X.ff F' m) z d → Q d → C z H') → r vs H C
def RCX (K : PySem.W.Frag) (m : Bool) (Γ : List Sl) (r : List V → Hp → VK → Prop) (xs : List PyData) (Q : Sl → Prop) : Prop := ∀ X : Bs, X.K = K → ∀ F H σ, En X F H σ Γ → ∀ vs, RpA K (X.ff F m) vs xs → ∀ C : VK,
  (∀ z F' H' s, Le F F' → En X F' H' (σ ++ [some z]) (Γ ++ [s]) → Q s → C z H') → r vs H C

/-- a slot as data -/
def Sl.toD (m : Bool) : Sl → Option PyData
  | .dat m' d => if m = true ∧ m' = false then none else some d
  | .ml m' _ ds => if m = true ∧ m' = false then none else some (.list ds)
  | .ex _ Φ => if m = true then none else Φ.vw
  | .no => none
/-- what is new may be taken as any -/
theorem Bs.ff_any {X : Bs} {F : Hp} {m m' : Bool} (h : ¬ (m = true ∧ m' = false)) : Le (X.ff F m') (X.ff F m) := by
  cases m with
  | false => exact X.ff_le F m'
  | true =>
    cases m' with
    | true => exact Le.rfl'
    | false => exact absurd ⟨rfl, rfl⟩ h
section
variable {K : PySem.W.Frag} {m : Bool} {Γ : List Sl} {t ta tb : TE} {Q : PyData → Prop} {QX : Sl → Prop}
theorem lastFreeze {X : Bs} {F H : Hp} {σ : L2.St} {v : V} {s : Sl} {d : PyData} (hs : s.toD m = some d) (E : En X F H (σ ++ [some v]) (Γ ++ [s])) : ∃ F', Le F F' ∧ En X F' H σ Γ ∧ Rp X.K (X.ff F' m) v d := by
  have hl : σ.length = Γ.length := by
    have := E.len
    simp at this
    exact this
  cases s with
  | no => cases hs
  | ex u Φ =>
    cases m with
    | true => simp [Sl.toD] at hs
    | false =>
      have hv : Φ.vw = some d := by simpa [Sl.toD] using hs
      obtain ⟨S, h1, hdj, ho⟩ := id E.sl
      obtain ⟨e, hk, p⟩ := h1 Γ.length (.ex u Φ) (by simp)
      rw [← hl, getD_last] at e
      cases e
      obtain ⟨rv, hL⟩ := Φ.view E.le p hv
      have lf : Le F (lay (S Γ.length) H F) := fun a o q => by
        unfold lay
        rw [if_neg fun sa => by rw [(ho _ a sa).1] at q; cases q]
        exact q
      have ln : ∀ a, ¬ S Γ.length a → lay (S Γ.length) H F a = F a := fun a h => by unfold lay; rw [if_neg h]
      have Ed := E.drop
      refine ⟨lay (S Γ.length) H F, lf, ⟨fun a o q => ?_, hl, ⟨fun i a => i < Γ.length ∧ S i a, fun i w q => ?_, fun i j a q1 q2 => hdj i j a q1.2 q2.2, fun i a q => ⟨?_, (ho i a q.2).2⟩⟩, fun a o q n => ⟨(E.fr a o q n).1, ?_⟩, E.f0.tr lf, E.nn⟩, by rw [← hk]; exact rv⟩
      · unfold lay at q
        split at q
        · exact q
        · exact E.le a o q
      · have hi : i < Γ.length := (List.getElem?_eq_some_iff.mp q).1
        have z := h1 i w (by rw [List.getElem?_append_left hi]; exact q)
        rw [getD_app (by rw [hl]; exact hi)] at z
        have eS : (fun a => i < Γ.length ∧ S i a) = S i := by
          funext a
          exact propext ⟨fun z => z.2, fun z => ⟨hi, z⟩⟩
        show SlOk X _ H _ (fun a => i < Γ.length ∧ S i a) w
        rw [eS]
        exact z.mono lf fun _ _ => rfl
      · rw [ln a fun sa => by have := hdj _ _ a sa q.2; omega]
        exact (ho i a q.2).1
      · rw [ln a fun sa => ?_]
        · exact (E.fr a o q n).2
        · rcases (ho _ a sa).2.2 with z | z
          · rw [z] at q; cases q
          · exact n z
  | dat m' x =>
    simp only [Sl.toD] at hs
    split at hs
    · cases hs
    · rename_i hm
      cases hs
      obtain ⟨u, e, r⟩ := E.dat (i := Γ.length) (m := m') (d := d) (by simp)
      rw [← hl] at e
      simp at e
      subst e
      exact ⟨F, Le.rfl', E.drop, r.mono (Bs.ff_any hm)⟩
  | ml m' l ds =>
    simp only [Sl.toD] at hs
    split at hs
    · cases hs
    · rename_i hm
      cases hs
      obtain ⟨F', lf, E'⟩ := E.freeze (i := Γ.length) (m := m') (l := l) (ds := ds) (by simp)
      have e2 : (Γ ++ [Sl.ml m' l ds]).set Γ.length (.dat m' (.list ds)) = Γ ++ [.dat m' (.list ds)] := by simp
      rw [e2] at E'
      obtain ⟨u, e, r⟩ := E'.dat (i := Γ.length) (m := m') (d := .list ds) (by simp)
      rw [← hl] at e
      simp at e
      subst e
      exact ⟨F', lf, E'.drop, r.mono (Bs.ff_any hm)⟩
theorem toD_dat {d : PyData} : (Sl.dat m d).toD m = some d := by cases m <;> simp [Sl.toD]
theorem toD_ml {l : Addr} {ds : List PyData} : (Sl.ml m l ds).toD m = some (.list ds) := by cases m <;> simp [Sl.toD]
theorem WD.ofX (h : WX K Γ t fun s => ∃ d, s.toD m = some d ∧ Q d) : WD K m Γ t Q := fun X hK F H σ E C k =>
  h X hK F H σ E C fun v F' H' s lf E' ⟨d, hs, q⟩ => by
    obtain ⟨F2, l2, E2, r⟩ := lastFreeze hs E'
    subst hK
    exact k v F2 H' d (lf.tr l2) E2 r q
theorem WX.ofD (h : WD K m Γ t fun d => QX (.dat m d)) : WX K Γ t QX := fun X hK F H σ E C k =>
  h X hK F H σ E C fun v F' H' d lf E' r q => k v F' H' _ lf (E'.pushD (by rw [hK]; exact r)) q
theorem RD.ofX {r : R2} {x y : PyData} (h : RX K m Γ r x y fun s => ∃ d, s.toD m = some d ∧ Q d) : RD K m Γ r x y Q := fun X hK F H σ E v u rv ru C k =>
  h X hK F H σ E v u rv ru C fun z F' H' s lf E' ⟨d, hs, q⟩ => by
    obtain ⟨F2, l2, E2, r⟩ := lastFreeze hs E'
    subst hK
    exact k z F2 H' d (lf.tr l2) E2 r q
theorem RC.ofX {r : List V → Hp → VK → Prop} {xs : List PyData} (h : RCX K m Γ r xs fun s => ∃ d, s.toD m = some d ∧ Q d) : RC K m Γ r xs Q := fun X hK F H σ E vs rv C k =>
  h X hK F H σ E vs rv C fun z F' H' s lf E' ⟨d, hs, q⟩ => by
    obtain ⟨F2, l2, E2, r⟩ := lastFreeze hs E'
    subst hK
    exact k z F2 H' d (lf.tr l2) E2 r q
theorem WD.mono {Q' : PyData → Prop} (h : WD K m Γ t Q) (k : ∀ d, Q d → Q' d) : WD K m Γ t Q' := fun X hK F H σ E C c => h X hK F H σ E C fun v F' H' d lf E' r q => c v F' H' d lf E' r (k d q)
theorem WX.mono {Q' : Sl → Prop} (h : WX K Γ t QX) (k : ∀ s, QX s → Q' s) : WX K Γ t Q' := fun X hK F H σ E C c => h X hK F H σ E C fun v F' H' d lf E' q => c v F' H' d lf E' (k d q)
theorem WT.mono {tt : TT} {Q Q' : Bool → Prop} (h : WT K Γ tt Q) (k : ∀ b, Q b → Q' b) : WT K Γ tt Q' := fun X hK F H σ E C c => h X hK F H σ E C fun v F' H' lf E' q => c v F' H' lf E' (k v q)
/-- what holds no list is new -/
theorem wd_lf (h : WD K false Γ t fun d => lf d = true ∧ Q d) : WD K m Γ t Q := fun X hK F H σ E C k =>
  h X hK F H σ E C fun v F' H' d l E' r ⟨z, q⟩ => k v F' H' d l E' (Rp.lfree Bs.ff_tup d z r) q
/-- what is new is data -/
theorem wd_new (h : WD K true Γ t Q) : WD K false Γ t Q := fun X hK F H σ E C k =>
  h X hK F H σ E C fun v F' H' d l E' r q => k v F' H' d l E' (r.mono (X.ff_le F' true)) q

/-! ### names, constants -/
theorem wd_var {i : Nat} {d : PyData} (h : Γ[i]? = some (.dat m d)) (q : Q d) : WD K m Γ (tVar i) Q := fun X hK F H σ E C k => by
  obtain ⟨v, e, r⟩ := E.dat h
  subst hK
  exact ⟨v, e, k v F H d Le.rfl' E r q⟩
theorem wd_varN {i : Nat} {d : PyData} (h : Γ[i]? = some (.dat true d)) (q : Q d) : WD K m Γ (tVar i) Q := by
  cases m with
  | true => exact wd_var h q
  | false => exact wd_new (wd_var h q)
theorem wd_c {v : V} {d : PyData} (h : ∀ F, Rp K F v d) (q : Q d) : WD K m Γ (tC v) Q := fun X hK F H σ E C k => k v F H d Le.rfl' E (h _) q
theorem wd_int {i : Int} (q : Q (.int i)) : WD K m Γ (tC (.int i)) Q := wd_c (fun _ => .int i) q
theorem wd_bl {b : Bool} (q : Q (.bool b)) : WD K m Γ (tC (.bl b)) Q := wd_c (fun _ => .bl b) q
theorem wd_str {x : Str} (q : Q (.str x)) : WD K m Γ (tC (.str x)) Q := wd_c (fun _ => .str x) q
theorem wd_non (q : Q .none) : WD K m Γ (tC .non) Q := wd_c (fun _ => .non) q
/-! ### operators -/
theorem Bs.mo {X : Bs} {F F' : Hp} {v : V} {d : PyData} (r : Rp K (X.ff F m) v d) (l : Le F F') : Rp K (X.ff F' m) v d := r.mono (Bs.ff_mono l m)
theorem Bs.moA {X : Bs} {F F' : Hp} {v : List V} {d : List PyData} (r : RpA K (X.ff F m) v d) (l : Le F F') : RpA K (X.ff F' m) v d := r.mono (Bs.ff_mono l m)
theorem wd_op {r : R2} (h : WD K m Γ ta fun x => WD K m Γ tb fun y => RD K m Γ r x y Q) : WD K m Γ (tOp r ta tb) Q := fun X hK F H σ E C k =>
  h X hK F H σ E _ fun v F1 H1 x l1 E1 r1 h1 => h1 X hK F1 H1 σ E1 _ fun u F2 H2 y l2 E2 r2 h2 =>
    h2 X hK F2 H2 σ E2 v u (Bs.mo r1 l2) r2 C fun z F3 H3 d l3 E3 r3 q => k z F3 H3 d (l1.tr (l2.tr l3)) E3 r3 q
theorem wx_op {r : R2} (m : Bool) (h : WD K m Γ ta fun x => WD K m Γ tb fun y => RX K m Γ r x y QX) : WX K Γ (tOp r ta tb) QX := fun X hK F H σ E C k =>
  h X hK F H σ E _ fun v F1 H1 x l1 E1 r1 h1 => h1 X hK F1 H1 σ E1 _ fun u F2 H2 y l2 E2 r2 h2 =>
    h2 X hK F2 H2 σ E2 v u (Bs.mo r1 l2) r2 C fun z F3 H3 d l3 E3 q => k z F3 H3 d (l1.tr (l2.tr l3)) E3 q
theorem wd_un {r : V → Hp → VK → Prop} (h : WD K m Γ ta fun x => RU K m Γ r x Q) : WD K m Γ (tUn r ta) Q := fun X hK F H σ E C k =>
  h X hK F H σ E _ fun v F1 H1 x l1 E1 r1 h1 => h1 X hK F1 H1 σ E1 v r1 C fun z F3 H3 d l3 E3 r3 q => k z F3 H3 d (l1.tr l3) E3 r3 q
theorem En.lef {X : Bs} {F H : Hp} {σ : L2.St} (E : En X F H σ Γ) (m : Bool) : Le (X.ff F m) H := (X.ff_le F m).tr E.le
/-- a plain value: no new object -/
theorem rd_plain {r : R2} {x y d : PyData} (h : ∀ (F H : Hp) v u (C : VK), Le F H → Rp K F v x → Rp K F u y → (∀ z, Rp K F z d → C z H) → r v u H C) (q : Q d) : RD K m Γ r x y Q := fun X hK F H σ E v u rv ru C k =>
  h (X.ff F m) H v u C (E.lef m) rv ru fun z rz => k z F H d Le.rfl' E rz q
theorem rc_plain {r : List V → Hp → VK → Prop} {xs : List PyData} {d : PyData} (h : ∀ (F H : Hp) vs (C : VK), Le F H → RpA K F vs xs → (∀ z, Rp K F z d → C z H) → r vs H C) (q : Q d) : RC K m Γ r xs Q := fun X hK F H σ E vs rv C k =>
  h (X.ff F m) H vs C (E.lef m) rv fun z rz => k z F H d Le.rfl' E rz q
theorem ru_plain {r : V → Hp → VK → Prop} {x d : PyData} (h : ∀ (F H : Hp) v (C : VK), Le F H → Rp K F v x → (∀ z, Rp K F z d → C z H) → r v H C) (q : Q d) : RU K m Γ r x Q := fun X hK F H σ E v rv C k =>
  h (X.ff F m) H v C (E.lef m) rv fun z rz => k z F H d Le.rfl' E rz q
/-- a new list -/
theorem rx_list {r : R2} {x y : PyData} {ds : List PyData} (h : ∀ (F H : Hp) v u (C : VK), Le F H → Rp K F v x → Rp K F u y → (∀ p xs, H p = none → RpA K F xs ds → C (.ref p) (upd H p (.lst xs))) → r v u H C) (q : ∀ l, QX (.ml m l ds)) : RX K m Γ r x y QX := fun X hK F H σ E v u rv ru C k =>
  h (X.ff F m) H v u C (E.lef m) rv ru fun p xs hp rx => k (.ref p) F _ _ Le.rfl' (E.pushM hp (by rw [hK]; exact rx)) (q p)
theorem rcx_list {r : List V → Hp → VK → Prop} {xs ds : List PyData} (h : ∀ (F H : Hp) vs (C : VK), Le F H → RpA K F vs xs → (∀ p ys, H p = none → RpA K F ys ds → C (.ref p) (upd H p (.lst ys))) → r vs H C) (q : ∀ l, QX (.ml m l ds)) : RCX K m Γ r xs QX := fun X hK F H σ E vs rv C k =>
  h (X.ff F m) H vs C (E.lef m) rv fun p xs hp rx => k (.ref p) F _ _ Le.rfl' (E.pushM hp (by rw [hK]; exact rx)) (q p)
/-- a new tuple -/
theorem En.newT {X : Bs} (hK : X.K = K) {F H : Hp} {σ : L2.St} (E : En X F H σ Γ) {p : Addr} {xs : List V} {ds : List PyData} (hp : H p = none) (rx : RpA K (X.ff F m) xs ds) : Le F (upd F p (.tup xs)) ∧ En X (upd F p (.tup xs)) (upd H p (.tup xs)) σ Γ ∧ Rp K (X.ff (upd F p (.tup xs)) m) (.ref p) (.tuple ds) :=
  ⟨Le.up (E.le.nn hp), E.alloc hp, .tup (Bs.ff_tup _ _ (SqT.of upd_same)) (Bs.moA rx (Le.up (E.le.nn hp)))⟩
theorem rd_tuple {r : R2} {x y : PyData} {ds : List PyData} (h : ∀ (F H : Hp) v u (C : VK), Le F H → Rp K F v x → Rp K F u y → (∀ p xs, H p = none → RpA K F xs ds → C (.ref p) (upd H p (.tup xs))) → r v u H C) (q : Q (.tuple ds)) : RD K m Γ r x y Q := fun X hK F H σ E v u rv ru C k =>
  h (X.ff F m) H v u C (E.lef m) rv ru fun p xs hp rx => let ⟨a, b, c⟩ := E.newT hK hp rx; k (.ref p) _ _ _ a b c q
theorem rc_tuple {r : List V → Hp → VK → Prop} {xs ds : List PyData} (h : ∀ (F H : Hp) vs (C : VK), Le F H → RpA K F vs xs → (∀ p ys, H p = none → RpA K F ys ds → C (.ref p) (upd H p (.tup ys))) → r vs H C) (q : Q (.tuple ds)) : RC K m Γ r xs Q := fun X hK F H σ E vs rv C k =>
  h (X.ff F m) H vs C (E.lef m) rv fun p xs hp rx => let ⟨a, b, c⟩ := E.newT hK hp rx; k (.ref p) _ _ _ a b c q

/-! ### tests -/
variable {tt tu : TT} {QT : Bool → Prop}
theorem wt_test (h : WD K false Γ t fun d => ∃ b, d = .bool b ∧ QT b) : WT K Γ (tTest t) QT := fun X hK F H σ E C k =>
  h X hK F H σ E _ fun v F1 H1 x l1 E1 r1 ⟨b, e, q⟩ => by
    subst e
    cases r1
    exact ⟨b, rfl, k b F1 H1 l1 E1 q⟩
theorem wt_B (h : WD K false Γ t fun d => ∃ b, d = .bool b ∧ QT b) : WT K Γ (tB t) QT := fun X hK F H σ E C k =>
  h X hK F H σ E _ fun v F1 H1 x l1 E1 r1 ⟨b, e, q⟩ => by
    subst e
    cases r1
    exact ⟨b, rfl, k b F1 H1 l1 E1 q⟩
theorem wt_not (h : WT K Γ tt fun b => QT (!b)) : WT K Γ (tNot tt) QT := fun X hK F H σ E C k => h X hK F H σ E _ fun b F1 H1 l1 E1 q => k _ F1 H1 l1 E1 q
theorem wt_and (h : WT K Γ tt fun b => if b = true then WT K Γ tu QT else QT false) : WT K Γ (tAnd tt tu) QT := fun X hK F H σ E C k =>
  h X hK F H σ E _ fun b F1 H1 l1 E1 q => by
    cases b with
    | true => exact q X hK F1 H1 σ E1 C fun b F2 H2 l2 E2 q2 => k b F2 H2 (l1.tr l2) E2 q2
    | false => exact k false F1 H1 l1 E1 q
theorem wt_or (h : WT K Γ tt fun b => if b = true then QT true else WT K Γ tu QT) : WT K Γ (tOr tt tu) QT := fun X hK F H σ E C k =>
  h X hK F H σ E _ fun b F1 H1 l1 E1 q => by
    cases b with
    | false => exact q X hK F1 H1 σ E1 C fun b F2 H2 l2 E2 q2 => k b F2 H2 (l1.tr l2) E2 q2
    | true => exact k true F1 H1 l1 E1 q
theorem wt_yes (q : QT true) : WT K Γ tYes QT := fun X hK F H σ E C k => k true F H Le.rfl' E q
theorem wd_andV (h : WD K false Γ ta fun d => ∃ b, d = .bool b ∧ if b = true then WD K m Γ tb Q else Q (.bool false)) : WD K m Γ (tAndV ta tb) Q := fun X hK F H σ E C k =>
  h X hK F H σ E _ fun v F1 H1 x l1 E1 r1 ⟨b, e, q⟩ => by
    subst e
    cases r1
    refine ⟨b, rfl, ?_⟩
    cases b with
    | true => exact q X hK F1 H1 σ E1 C fun v F2 H2 d l2 E2 r q2 => k v F2 H2 d (l1.tr l2) E2 r q2
    | false => exact k _ F1 H1 _ l1 E1 (.bl false) q
theorem wd_orV (h : WD K false Γ ta fun d => ∃ b, d = .bool b ∧ if b = true then Q (.bool true) else WD K m Γ tb Q) : WD K m Γ (tOrV ta tb) Q := fun X hK F H σ E C k =>
  h X hK F H σ E _ fun v F1 H1 x l1 E1 r1 ⟨b, e, q⟩ => by
    subst e
    cases r1
    refine ⟨b, rfl, ?_⟩
    cases b with
    | false => exact q X hK F1 H1 σ E1 C fun v F2 H2 d l2 E2 r q2 => k v F2 H2 d (l1.tr l2) E2 r q2
    | true => exact k _ F1 H1 _ l1 E1 (.bl true) q
theorem wd_notV (h : WD K false Γ ta fun d => ∃ b, d = .bool b ∧ Q (.bool (!b))) : WD K m Γ (tNotV ta) Q := fun X hK F H σ E C k =>
  h X hK F H σ E _ fun v F1 H1 x l1 E1 r1 ⟨b, e, q⟩ => by
    subst e
    cases r1
    exact ⟨b, rfl, k _ F1 H1 _ l1 E1 (.bl _) q⟩
theorem wd_if (h : WT K Γ tt fun b => if b = true then WD K m Γ ta Q else WD K m Γ tb Q) : WD K m Γ (tIf tt ta tb) Q := fun X hK F H σ E C k =>
  h X hK F H σ E _ fun b F1 H1 l1 E1 q => by
    cases b with
    | true => exact q X hK F1 H1 σ E1 C fun v F2 H2 d l2 E2 r q2 => k v F2 H2 d (l1.tr l2) E2 r q2
    | false => exact q X hK F1 H1 σ E1 C fun v F2 H2 d l2 E2 r q2 => k v F2 H2 d (l1.tr l2) E2 r q2
theorem wd_chain {tc : TE} {r r' : R2} (h : WD K false Γ ta fun x => WD K false Γ tb fun y => RD K false Γ r x y fun z => ∃ b, z = .bool b ∧ if b = true then WD K false Γ tc fun w => RD K false Γ r' y w fun z => ∃ b, z = .bool b ∧ Q (.bool b) else Q (.bool false)) : WD K m Γ (tChain r r' ta tb tc) Q := fun X hK F H σ E C k =>
  h X hK F H σ E _ fun v F1 H1 x l1 E1 r1 h1 => h1 X hK F1 H1 σ E1 _ fun u F2 H2 y l2 E2 r2 h2 =>
    h2 X hK F2 H2 σ E2 v u (r1.mono l2) r2 _ fun z F3 H3 d l3 E3 r3 ⟨b, e, q⟩ => by
      subst e
      cases r3
      refine ⟨b, rfl, ?_⟩
      cases b with
      | true =>
        exact q X hK F3 H3 σ E3 _ fun w' F4 H4 d4 l4 E4 r4 q4 => q4 X hK F4 H4 σ E4 u w' (r2.mono (l3.tr l4)) r4 C fun z F5 H5 d5 l5 E5 r5 ⟨b, e, q5⟩ => by
          subst e
          cases r5
          exact k _ F5 H5 _ (l1.tr (l2.tr (l3.tr (l4.tr l5)))) E5 (.bl _) q5
      | false => exact k _ F3 H3 _ (l1.tr (l2.tr l3)) E3 (.bl false) q

/-! ### arguments, displays -/
theorem AgsOk.mono {X : Bs} {F F' : Hp} {σ : L2.St} (l : Le F F') : ∀ {vs : List V} {as : List Ag}, AgsOk X m F σ vs as → AgsOk X m F' σ vs as
  | _, _, .nil => .nil
  | _, _, .cons (a := .d x) h t => .cons (a := .d x) (Bs.mo h l) (AgsOk.mono l t)
  | _, _, .cons (a := .o i) h t => .cons (a := .o i) h (AgsOk.mono l t)
variable {tr : TA} {QA : List Ag → Prop}
theorem wa_nil (q : QA []) : WA K m Γ tNil QA := fun X hK F H σ E C k => k [] F H [] Le.rfl' E .nil q
theorem wa_d (h : WD K m Γ ta fun d => WA K m Γ tr fun as => QA (.d d :: as)) : WA K m Γ (tCons ta tr) QA := fun X hK F H σ E C k =>
  h X hK F H σ E _ fun v F1 H1 x l1 E1 r1 h1 => h1 X hK F1 H1 σ E1 _ fun vs F2 H2 as l2 E2 r2 q => k (v :: vs) F2 H2 _ (l1.tr l2) E2 (.cons (a := .d x) (by subst hK; exact Bs.mo r1 l2) r2) q
theorem wa_o {i : Nat} {v : V} {Φ : Own} (hi : Γ[i]? = some (.ex v Φ)) (h : WA K m Γ tr fun as => QA (.o i :: as)) : WA K m Γ (tCons (tVar i) tr) QA := fun X hK F H σ E C k =>
  ⟨v, E.ex hi, h X hK F H σ E _ fun vs F2 H2 as l2 E2 r2 q => k (v :: vs) F2 H2 _ l2 E2 (.cons (a := .o i) (E2.ex hi) r2) q⟩
/-- all arguments are data -/
def allD : List Ag → Option (List PyData)
  | [] => some []
  | .d x :: r => (allD r).map (x :: ·)
  | .o _ :: _ => none
theorem AgsOk.all {X : Bs} {F : Hp} {σ : L2.St} : ∀ {vs : List V} {as : List Ag} {ds : List PyData}, AgsOk X m F σ vs as → allD as = some ds → RpA X.K (X.ff F m) vs ds
  | _, _, ds, .nil, e => by cases e; exact .nil
  | _, _, ds, .cons (a := .d x) (as := as) h t, e => by
    cases q : allD as with
    | none => rw [allD, q] at e; cases e
    | some es => rw [allD, q] at e; cases e; exact .cons h (AgsOk.all t q)
  | _, _, ds, .cons (a := .o i) h t, e => by cases e
theorem WA.mono {QA' : List Ag → Prop} (h : WA K m Γ tr QA) (k : ∀ as, QA as → QA' as) : WA K m Γ tr QA' := fun X hK F H σ E C c => h X hK F H σ E C fun vs F' H' as l E' r q => c vs F' H' as l E' r (k as q)
theorem wd_tup (h : WA K m Γ tr fun as => ∃ ds, allD as = some ds ∧ ds.length ≤ 100000 ∧ Q (.tuple ds)) : WD K m Γ (tTup tr) Q := fun X hK F H σ E C k =>
  h X hK F H σ E _ fun vs F1 H1 as l1 E1 r1 ⟨ds, e, hz, q⟩ => by
    have rv := r1.all e
    refine ⟨Nat.le_trans (by rw [rv.length]; exact hz) (by decide), fun p hp => ?_⟩
    obtain ⟨a, b, c⟩ := E1.newT hK hp (by rw [← hK]; exact rv)
    exact k (.ref p) _ _ _ (l1.tr a) b c q
theorem wx_lst (m : Bool) (h : WA K m Γ tr fun as => ∃ ds, allD as = some ds ∧ ds.length ≤ 100000 ∧ ∀ l, QX (.ml m l ds)) : WX K Γ (tLst tr) QX := fun X hK F H σ E C k =>
  h X hK F H σ E _ fun vs F1 H1 as l1 E1 r1 ⟨ds, e, hz, q⟩ => by
    have rv := r1.all e
    refine ⟨Nat.le_trans (by rw [rv.length]; exact hz) (by decide), fun p hp => ?_⟩
    exact k (.ref p) _ _ _ l1 (E1.pushM hp rv) (q p)
theorem wd_lst (h : WA K m Γ tr fun as => ∃ ds, allD as = some ds ∧ ds.length ≤ 100000 ∧ Q (.list ds)) : WD K m Γ (tLst tr) Q :=
  .ofX (wx_lst m (h.mono fun as ⟨ds, e, hz, q⟩ => ⟨ds, e, hz, fun _ => ⟨_, toD_ml, q⟩⟩))
theorem wd_cb {r : List V → Hp → VK → Prop} (h : WA K m Γ tr fun as => ∃ ds, allD as = some ds ∧ RC K m Γ r ds Q) : WD K m Γ (tCB r tr) Q := fun X hK F H σ E C k =>
  h X hK F H σ E _ fun vs F1 H1 as l1 E1 r1 ⟨ds, e, q⟩ => q X hK F1 H1 σ E1 vs (by rw [← hK]; exact r1.all e) C fun z F2 H2 d l2 E2 r2 q2 => k z F2 H2 d (l1.tr l2) E2 r2 q2
theorem wx_cb {r : List V → Hp → VK → Prop} (m : Bool) (h : WA K m Γ tr fun as => ∃ ds, allD as = some ds ∧ RCX K m Γ r ds QX) : WX K Γ (tCB r tr) QX := fun X hK F H σ E C k =>
  h X hK F H σ E _ fun vs F1 H1 as l1 E1 r1 ⟨ds, e, q⟩ => q X hK F1 H1 σ E1 vs (by rw [← hK]; exact r1.all e) C fun z F2 H2 d l2 E2 q2 => k z F2 H2 d (l1.tr l2) E2 q2
end
end Pk
end
section
set_option Elab.async false
set_option linter.all false
set_option maxRecDepth 100000
/-! The data layer, part 2: promises over data, calls, a def's body. -/
namespace Pk
open PySem PySem.Spec PyProof.Rows L2

/-- a promise over data: T tells of the arguments what is wanted of the result -/
def spG (K : PySem.W.Frag) (T : List Sl → (Sl → Prop) → Prop) : Sp := fun vs H Q _ => ∃ (X : Bs) (F : Hp) (Γ : List Sl) (Qr : Sl → Prop), X.K = K ∧ X.F0 = F ∧ X.H0 = H ∧ (∀ a, X.N a ↔ H a ≠ none) ∧ En X F H (vs.map some) Γ ∧ T Γ Qr ∧
  ∀ F' H' v s, Le F F' → En X F' H' (vs.map some ++ [some v]) (Γ ++ [s]) → Qr s → Q v H'
/-- the arguments of one's own are unlike slots -/
def AgsGood (Γ : List Sl) (as : List Ag) : Prop := (as.filterMap Ag.ix).Nodup ∧ ∀ i ∈ as.filterMap Ag.ix, ∃ v Φ, Γ[i]? = some (.ex v Φ)
theorem ix_mem {as : List Ag} {k i : Nat} (h : as[k]? = some (.o i)) : i ∈ as.filterMap Ag.ix := List.mem_filterMap.mpr ⟨.o i, List.mem_of_getElem? h, rfl⟩
theorem ix_inj : ∀ {as : List Ag} {k k' i : Nat}, (as.filterMap Ag.ix).Nodup → as[k]? = some (.o i) → as[k']? = some (.o i) → k = k'
  | [], k, k', i, _, h, _ => by simp at h
  | a :: as, 0, 0, i, _, _, _ => rfl
  | a :: as, 0, k' + 1, i, nd, h, h' => by
    simp at h h'
    subst h
    simp [Ag.ix] at nd
    exact absurd h' (fun z => nd.1 _ (List.mem_of_getElem? z) rfl)
  | a :: as, k + 1, 0, i, nd, h, h' => by
    simp at h h'
    subst h'
    simp [Ag.ix] at nd
    exact absurd h (fun z => nd.1 _ (List.mem_of_getElem? z) rfl)
  | a :: as, k + 1, k' + 1, i, nd, h, h' => by
    simp at h h'
    have nd' : (as.filterMap Ag.ix).Nodup := by
      cases a with
      | d x => exact nd
      | o j => simp [Ag.ix] at nd; exact nd.2
    rw [ix_inj nd' h h']
theorem AgsOk.len {X : Bs} {m : Bool} {F : Hp} {σ : L2.St} : ∀ {vs : List V} {as : List Ag}, AgsOk X m F σ vs as → vs.length = as.length
  | _, _, .nil => rfl
  | _, _, .cons _ t => by simp [AgsOk.len t]
theorem AgsOk.at {X : Bs} {m : Bool} {F : Hp} {σ : L2.St} : ∀ {vs : List V} {as : List Ag} {k : Nat} {a : Ag}, AgsOk X m F σ vs as → as[k]? = some a → ∃ v, vs[k]? = some v ∧ AgOk X m F σ v a
  | _, _, _, _, .nil, e => by simp at e
  | _, _, 0, _, .cons h _, e => by simp at e; subst e; exact ⟨_, rfl, h⟩
  | _, _, k + 1, a, .cons _ t, e => by
    obtain ⟨v, h1, h2⟩ := AgsOk.at (k := k) (a := a) t (by simpa using e)
    exact ⟨v, by simpa using h1, h2⟩
theorem map_some_getD {vs : List V} {k : Nat} {v : V} (h : vs[k]? = some v) : (vs.map some).getD k none = some v := by
  simp [List.getD_eq_getElem?_getD, h]
/-- THE CALL over data: what the called sees, and how its end is ours -/
theorem call_sp {K : PySem.W.Frag} {Γ : List Sl} {X : Bs} (hK : X.K = K) {F H : Hp} {σ : L2.St} (E : En X F H σ Γ) {vs : List V} {as : List Ag} (ra : AgsOk X false F σ vs as) (hg : AgsGood Γ as) :
    ∃ X1 : Bs, X1.K = K ∧ X1.F0 = F ∧ X1.H0 = H ∧ (∀ a, X1.N a ↔ H a ≠ none) ∧ En X1 F H (vs.map some) (as.map (Ag.sl Γ)) ∧ ∀ F' H' v s, Le F F' → En X1 F' H' (vs.map some ++ [some v]) (as.map (Ag.sl Γ) ++ [s]) → En X F' H' (σ ++ [some v]) (Γ ++ [s]) := by
  subst hK
  obtain ⟨S, hs, hdj, ho⟩ := id E.sl
  obtain ⟨nd, hex⟩ := hg
  have exv : ∀ {k i : Nat}, as[k]? = some (.o i) → ∃ v Φ, Γ[i]? = some (.ex v Φ) ∧ vs[k]? = some v ∧ σ.getD i none = some v ∧ Φ.K = X.K ∧ Φ.p F H v (S i) := fun {k i} h => by
    obtain ⟨v, Φ, hΓ⟩ := hex i (ix_mem h)
    obtain ⟨e, hk, q⟩ := hs i _ hΓ
    obtain ⟨u, hu, hv⟩ := ra.at h
    have e2 : σ[i]? = some (some v) := E.ex hΓ
    have e3 : σ[i]? = some (some u) := hv
    rw [e2] at e3
    cases e3
    exact ⟨v, Φ, hΓ, hu, e, hk, q⟩
  refine ⟨⟨X.K, F, H, fun a => ∃ (k i : Nat), as[k]? = some (.o i) ∧ S i a, fun a => H a ≠ none⟩, rfl, rfl, rfl, fun _ => Iff.rfl, ⟨E.le, by simp [ra.len], ⟨fun k a => ∃ (i : Nat), as[k]? = some (.o i) ∧ S i a, fun k s e => ?_, fun k k' a h1 h2 => ?_, fun k a h1 => ?_⟩, fun a o e _ => ⟨e, rfl⟩, Le.rfl', fun _ h => h⟩, fun F' H' v s lf E' => ?_⟩
  · rw [List.getElem?_map] at e
    cases ha : as[k]? with
    | none => rw [ha] at e; cases e
    | some a =>
      rw [ha] at e
      cases e
      cases a with
      | d x =>
        obtain ⟨u, hu, hv⟩ := ra.at ha
        exact ⟨⟨u, map_some_getD hu, hv⟩, fun a ⟨i, z, _⟩ => by rw [ha] at z; cases z⟩
      | o i =>
        obtain ⟨u, Φ, hΓ, hu, _, hk, q⟩ := exv ha
        have e1 : Ag.sl Γ (.o i) = .ex u Φ := by simp [Ag.sl, List.getD_eq_getElem?_getD, hΓ]
        rw [e1]
        have eS : (fun a => ∃ (j : Nat), as[k]? = some (.o j) ∧ S j a) = S i := by
          funext a
          apply propext
          constructor
          · rintro ⟨j, e, z⟩
            rw [ha] at e
            cases e
            exact z
          · intro z; exact ⟨i, ha, z⟩
        show SlOk _ F H _ (fun a => ∃ (j : Nat), as[k]? = some (.o j) ∧ S j a) _
        rw [eS]
        exact ⟨map_some_getD hu, hk, q⟩
  · obtain ⟨i, e1, s1⟩ := h1
    obtain ⟨j, e2, s2⟩ := h2
    have := hdj i j a s1 s2
    subst this
    exact ix_inj nd e1 e2
  · obtain ⟨i, e1, s1⟩ := h1
    exact ⟨(ho i a s1).1, (ho i a s1).2.1, .inr ⟨k, i, e1, s1⟩⟩
  · -- behind the call
    obtain ⟨S', hs', hdj', ho'⟩ := id E'.sl
    have hlen : (vs.map some).length = (as.map (Ag.sl Γ)).length := by simp [ra.len]
    have notP : ∀ j a, S j a → (∀ (k : Nat), as[k]? ≠ some (.o j)) → ¬ ∃ (k i : Nat), as[k]? = some (.o i) ∧ S i a := fun j a sj hn ⟨k, i, e, si⟩ => by
      have := hdj i j a si sj
      subst this
      exact hn k e
    have keepP : ∀ j a, S j a → (∀ (k : Nat), as[k]? ≠ some (.o j)) → H' a = H a ∧ F' a = F a := fun j a sj hn => by
      obtain ⟨_, h1, _⟩ := ho j a sj
      cases z : H a with
      | none => exact absurd z h1
      | some o => exact E'.fr a o z (notP j a sj hn)
    have disP : ∀ k j a, S' k a → S j a → (∀ (k : Nat), as[k]? ≠ some (.o j)) → False := fun k j a h1 sj hn => by
      rcases (ho' k a h1).2.2 with w | w
      · exact (ho j a sj).2.1 w
      · exact notP j a sj hn w
    have ownX : ∀ k a, S' k a → X.own a := fun k a h1 => by
      rcases (ho' k a h1).2.2 with w | ⟨k', i, _, w⟩
      · exact E.ownN w
      · exact (ho i a w).2.2
    have kl : ∀ {k i : Nat}, as[k]? = some (.o i) → k < as.length := fun h => (List.getElem?_eq_some_iff.mp h).1
    refine ⟨E'.le, by simp [E.len], ⟨fun j a => (j < Γ.length ∧ ((∃ (k : Nat), as[k]? = some (.o j) ∧ S' k a) ∨ ((∀ (k : Nat), as[k]? ≠ some (.o j)) ∧ S j a))) ∨ (j = Γ.length ∧ S' as.length a), fun j u e => ?_, fun j j' a h1 h2 => ?_, fun j a h1 => ?_⟩, fun a o e n => ?_, E.f0.tr lf, fun a n => E'.nn a (E.nn a n)⟩
    · have hj : j < (Γ ++ [s]).length := (List.getElem?_eq_some_iff.mp e).1
      simp only [List.length_append, List.length_cons, List.length_nil] at hj
      by_cases hlt : j < Γ.length
      · rw [List.getElem?_append_left hlt] at e
        rw [getD_app (by rw [E.len]; exact hlt)]
        by_cases hp : ∃ (k : Nat), as[k]? = some (.o j)
        · obtain ⟨k, hk⟩ := hp
          obtain ⟨u0, Φ, hΓ, hu, e0, hkk, _⟩ := exv hk
          rw [hΓ] at e
          cases e
          have eS : (fun a => (j < Γ.length ∧ ((∃ (k : Nat), as[k]? = some (.o j) ∧ S' k a) ∨ ((∀ (k : Nat), as[k]? ≠ some (.o j)) ∧ S j a))) ∨ (j = Γ.length ∧ S' as.length a)) = S' k := by
            funext a
            apply propext
            constructor
            · rintro (⟨_, ⟨k', e', z⟩ | ⟨z, _⟩⟩ | ⟨z, _⟩)
              · rw [ix_inj nd hk e']; exact z
              · exact absurd hk (z k)
              · omega
            · intro z; exact .inl ⟨hlt, .inl ⟨k, hk, z⟩⟩
          show SlOk X F' H' _ (fun a => (j < Γ.length ∧ ((∃ (k : Nat), as[k]? = some (.o j) ∧ S' k a) ∨ ((∀ (k : Nat), as[k]? ≠ some (.o j)) ∧ S j a))) ∨ (j = Γ.length ∧ S' as.length a)) _
          rw [eS]
          have hk' : k < as.length := kl hk
          have q1 := hs' k (.ex u0 Φ) (by
            rw [List.getElem?_append_left (by simpa using hk'), List.getElem?_map, hk]
            simp [Ag.sl, List.getD_eq_getElem?_getD, hΓ])
          exact ⟨e0, hkk, q1.2.2⟩
        · have hn : ∀ (k : Nat), as[k]? ≠ some (.o j) := fun k z => hp ⟨k, z⟩
          have eS : (fun a => (j < Γ.length ∧ ((∃ (k : Nat), as[k]? = some (.o j) ∧ S' k a) ∨ ((∀ (k : Nat), as[k]? ≠ some (.o j)) ∧ S j a))) ∨ (j = Γ.length ∧ S' as.length a)) = S j := by
            funext a
            apply propext
            constructor
            · rintro (⟨_, ⟨k', e', z⟩ | ⟨_, z⟩⟩ | ⟨z, _⟩)
              · exact absurd e' (hn k')
              · exact z
              · omega
            · intro z; exact .inl ⟨hlt, .inr ⟨hn, z⟩⟩
          show SlOk X F' H' _ (fun a => (j < Γ.length ∧ ((∃ (k : Nat), as[k]? = some (.o j) ∧ S' k a) ∨ ((∀ (k : Nat), as[k]? ≠ some (.o j)) ∧ S j a))) ∨ (j = Γ.length ∧ S' as.length a)) _
          rw [eS]
          exact (hs j u e).mono lf fun a sa => (keepP j a sa hn).1
      · have hje : j = Γ.length := by omega
        subst hje
        simp at e
        subst e
        have eS : (fun a => (Γ.length < Γ.length ∧ ((∃ (k : Nat), as[k]? = some (.o Γ.length) ∧ S' k a) ∨ ((∀ (k : Nat), as[k]? ≠ some (.o Γ.length)) ∧ S Γ.length a))) ∨ (Γ.length = Γ.length ∧ S' as.length a)) = S' as.length := by
          funext a
          apply propext
          constructor
          · rintro (⟨z, _⟩ | ⟨_, z⟩)
            · omega
            · exact z
          · intro z; exact .inr ⟨rfl, z⟩
        show SlOk X F' H' _ (fun a => (Γ.length < Γ.length ∧ ((∃ (k : Nat), as[k]? = some (.o Γ.length) ∧ S' k a) ∨ ((∀ (k : Nat), as[k]? ≠ some (.o Γ.length)) ∧ S Γ.length a))) ∨ (Γ.length = Γ.length ∧ S' as.length a)) _
        rw [eS, ← E.len, getD_last]
        have q1 := hs' as.length s (by
          have : as.length = (as.map (Ag.sl Γ)).length := by simp
          rw [this]
          simp)
        have e4 : (vs.map some ++ [some v]).getD as.length none = some v := by
          have : as.length = (vs.map some).length := by simp [ra.len]
          rw [this, getD_last]
        rw [e4] at q1
        refine SlOk.to ?_ ?_ q1
        · rfl
        · exact fun a n => E.nn a n
    · rcases h1 with ⟨a1, ⟨k1, e1, z1⟩ | ⟨n1, z1⟩⟩ | ⟨a1, z1⟩ <;> rcases h2 with ⟨a2, ⟨k2, e2, z2⟩ | ⟨n2, z2⟩⟩ | ⟨a2, z2⟩
      · have := hdj' k1 k2 a z1 z2
        subst this
        rw [e1] at e2
        cases e2
        rfl
      · exact (disP k1 j' a z1 z2 n2).elim
      · have := hdj' k1 as.length a z1 z2
        have := kl e1
        omega
      · exact (disP k2 j a z2 z1 n1).elim
      · exact hdj j j' a z1 z2
      · exact (disP _ j a z2 z1 n1).elim
      · have := hdj' k2 as.length a z2 z1
        have := kl e2
        omega
      · exact (disP _ j' a z1 z2 n2).elim
      · omega
    · rcases h1 with ⟨a1, ⟨k1, e1, z1⟩ | ⟨n1, z1⟩⟩ | ⟨a1, z1⟩
      · exact ⟨(ho' k1 a z1).1, (ho' k1 a z1).2.1, ownX k1 a z1⟩
      · obtain ⟨q1, q2⟩ := keepP j a z1 n1
        exact ⟨q2.trans (ho j a z1).1, by rw [q1]; exact (ho j a z1).2.1, (ho j a z1).2.2⟩
      · exact ⟨(ho' _ a z1).1, (ho' _ a z1).2.1, ownX _ a z1⟩
    · obtain ⟨q1, q2⟩ := E.fr a o e n
      have nS : ¬ ∃ (k i : Nat), as[k]? = some (.o i) ∧ S i a := fun ⟨k, i, _, si⟩ => by
        rcases (ho i a si).2.2 with w | w
        · rw [w] at e; cases e
        · exact n w
      obtain ⟨r1, r2⟩ := E'.fr a o q1 nS
      exact ⟨r1, r2.trans q2⟩
theorem call_g {K : PySem.W.Frag} {Γ : List Sl} {T : List Sl → (Sl → Prop) → Prop} {X : Bs} (hK : X.K = K) {F H : Hp} {σ : L2.St} (E : En X F H σ Γ) {vs : List V} {as : List Ag} (ra : AgsOk X false F σ vs as) (hg : AgsGood Γ as) {Qr : Sl → Prop} (hT : T (as.map (Ag.sl Γ)) Qr) {C : VK} {EE : XK}
    (k : ∀ v F' H' s, Le F F' → En X F' H' (σ ++ [some v]) (Γ ++ [s]) → Qr s → C v H') : spG K T vs H C EE := by
  obtain ⟨X1, a, b, c, d, e, f⟩ := call_sp hK E ra hg
  exact ⟨X1, F, _, Qr, a, b, c, d, e, hT, fun F' H' v s lf E' q => k v F' H' s lf (f F' H' v s lf E') q⟩
section
variable {K : PySem.W.Frag} {Γ : List Sl} {T : List Sl → (Sl → Prop) → Prop} {EE : XK} {tr : TA}
theorem wx_call {QX : Sl → Prop} (h : WA K false Γ tr fun as => AgsGood Γ as ∧ T (as.map (Ag.sl Γ)) QX) : WX K Γ (tCall (spG K T) [] EE tr) QX := fun X hK F H σ E C k =>
  h X hK F H σ E _ fun vs F1 H1 as l1 E1 r1 ⟨hg, hT⟩ => by
    rw [List.append_nil]
    exact call_g hK E1 r1 hg hT fun v F' H' s lf E' q => k v F' H' s (l1.tr lf) E' q
theorem wd_call {m : Bool} {Q : PyData → Prop} (h : WA K false Γ tr fun as => AgsGood Γ as ∧ T (as.map (Ag.sl Γ)) fun s => ∃ d, s.toD m = some d ∧ Q d) : WD K m Γ (tCall (spG K T) [] EE tr) Q := .ofX (wx_call h)
/-- arguments that are data alone -/
theorem agsGood_d {as : List Ag} {ds : List PyData} (h : allD as = some ds) : AgsGood Γ as := by
  have e : as.filterMap Ag.ix = [] := by
    induction as generalizing ds with
    | nil => rfl
    | cons a as ih =>
      cases a with
      | o i => cases h
      | d x =>
        cases q : allD as with
        | none => rw [allD, q] at h; cases h
        | some es => simpa [Ag.ix] using ih q
  exact ⟨by rw [e]; exact List.nodup_nil, fun i hi => by rw [e] at hi; cases hi⟩
theorem agsGood_1 {i : Nat} {v : V} {Φ : Own} {as : List Ag} {ds : List PyData} (hi : Γ[i]? = some (.ex v Φ)) (h : allD as = some ds) : AgsGood Γ (.o i :: as) := by
  have e : as.filterMap Ag.ix = [] := by
    induction as generalizing ds with
    | nil => rfl
    | cons a as ih =>
      cases a with
      | o i => cases h
      | d x =>
        cases q : allD as with
        | none => rw [allD, q] at h; cases h
        | some es => simpa [Ag.ix] using ih q
  have e' : (Ag.o i :: as).filterMap Ag.ix = [i] := by simp [Ag.ix, e]
  refine ⟨by rw [e']; simp, fun j hj => ?_⟩
  rw [e'] at hj
  simp at hj
  subst hj
  exact ⟨v, Φ, hi⟩
end

/-! ### statements -/
structure Po where
  nx : List Sl → Prop
  rt : Sl → List Sl → Prop
  bk : List Sl → Prop := fun _ => False
  ct : List Sl → Prop := fun _ => False
  /-- what an exception is let out to, and what is told of it -/
  W : Value → Option Addr → L2.St → Hp → Prop := fun _ _ _ _ => False
  ex : Value → Option Addr → List Sl → Prop := fun _ _ _ => False
structure Meets (X : Bs) (P : Po) (D : Ends) : Prop where
  nx : ∀ F H σ Γ, En X F H σ Γ → P.nx Γ → D.nx σ H
  rt : ∀ F H σ Γ v s, En X F H (σ ++ [some v]) (Γ ++ [s]) → P.rt s Γ → D.rt v H
  bk : ∀ F H σ Γ, En X F H σ Γ → P.bk Γ → D.bk σ H
  ct : ∀ F H σ Γ, En X F H σ Γ → P.ct Γ → D.ct σ H
  xc : ∀ F H σ Γ cls d, En X F H σ Γ → P.ex cls d Γ → P.W cls d σ H
def SJ (K : PySem.W.Frag) (Γ : List Sl) (ts : TS) (P : Po) : Prop := ∀ X : Bs, X.K = K → ∀ F H σ, En X F H σ Γ → ∀ D : Ends, Meets X P D → ts D σ H

/-- the def's own base, not a loop's -/
def Bs.Top (X : Bs) : Prop := (∀ a, X.N a ↔ X.H0 a ≠ none) ∧ Le X.F0 X.H0
/-- .. at the def's own level -/
def SJt (K : PySem.W.Frag) (Γ : List Sl) (ts : TS) (P : Po) : Prop := ∀ X : Bs, X.K = K → X.Top → ∀ F H σ, En X F H σ Γ → ∀ D : Ends, Meets X P D → ts D σ H
theorem SJ.t {K : PySem.W.Frag} {Γ : List Sl} {ts : TS} {P : Po} (h : SJ K Γ ts P) : SJt K Γ ts P := fun X hK _ F H σ E D hD => h X hK F H σ E D hD
theorem sjt_seq {K : PySem.W.Frag} {Γ : List Sl} {t u : TS} {P : Po} (h : SJt K Γ t { P with nx := fun Γ' => SJt K Γ' u P }) : SJt K Γ (tSeq t u) P := fun X hK hT F H σ E D hD =>
  h X hK hT F H σ E _ ⟨fun F' H' σ' Γ' E' q => q X hK hT F' H' σ' E' D hD, hD.rt, hD.bk, hD.ct, hD.xc⟩
theorem sjt_cut {K : PySem.W.Frag} {Γ : List Sl} {t u : TS} {P : Po} (M : List Sl → Prop) (h : SJt K Γ t { P with nx := M }) (k : ∀ Γ', M Γ' → SJt K Γ' u P) : SJt K Γ (tSeq t u) P := fun X hK hT F H σ E D hD =>
  h X hK hT F H σ E _ ⟨fun F' H' σ' Γ' E' q => k Γ' q X hK hT F' H' σ' E' D hD, hD.rt, hD.bk, hD.ct, hD.xc⟩
/-- what the def keeps of the arguments of others -/
def Keep (Γ Γ' : List Sl) : Prop := ∀ (i : Nat) (v : V) (Φ : Own), Γ[i]? = some (.ex v Φ) → Γ'[i]? = some (.ex v Φ)
theorem keep_nil {Γ' : List Sl} : Keep [] Γ' := fun i v Φ h => by simp at h
theorem keep_ex {v : V} {Φ : Own} {Γ Γ' : List Sl} (h : Keep Γ Γ') : Keep (.ex v Φ :: Γ) (.ex v Φ :: Γ') := fun i u Ψ e => by
  cases i with
  | zero => simpa using e
  | succ i => simp at e ⊢; exact h i u Ψ e
theorem keep_dat {m : Bool} {d : PyData} {s : Sl} {Γ Γ' : List Sl} (h : Keep Γ Γ') : Keep (.dat m d :: Γ) (s :: Γ') := fun i u Ψ e => by
  cases i with
  | zero => simp at e
  | succ i => simp at e ⊢; exact h i u Ψ e
/-- no lists of one's own among arguments -/
def NoMl (Γ : List Sl) : Prop := ∀ (i : Nat) (m : Bool) (l : Addr) (ds : List PyData), Γ[i]? ≠ some (.ml m l ds)
theorem noMl_nil : NoMl [] := fun i m l ds h => by simp at h
theorem noMl_dat {m : Bool} {d : PyData} {Γ : List Sl} (h : NoMl Γ) : NoMl (.dat m d :: Γ) := fun i m l ds e => by
  cases i with
  | zero => simp at e
  | succ i => simp at e; exact h i m l ds e
theorem noMl_ex {v : V} {Φ : Own} {Γ : List Sl} (h : NoMl Γ) : NoMl (.ex v Φ :: Γ) := fun i m l ds e => by
  cases i with
  | zero => simp at e
  | succ i => simp at e; exact h i m l ds e
theorem En.pad {X : Bs} {F H : Hp} {σ : L2.St} {Γ : List Sl} (E : En X F H σ Γ) (n : Nat) : En X F H (σ ++ List.replicate n none) (Γ ++ List.replicate n .no) := by
  induction n with
  | zero => simpa using E
  | succ n ih =>
    rw [List.replicate_succ', List.replicate_succ', ← List.append_assoc, ← List.append_assoc]
    exact ih.pushG (T := fun _ => False) Le.rfl' E.le (fun _ _ q => q) (fun _ _ _ => rfl) (fun _ z => z) (fun _ z => z.elim)
/-- the arguments as they stand at the end -/
theorem En.back {X : Bs} {F H F' H' : Hp} {σ' : L2.St} {Γ Γ' : List Sl} {vs : List V} {ov : Option V} {s : Sl} (E0 : En X F H (vs.map some) Γ) (hF : X.F0 = F) (nm : NoMl Γ) (kp : Keep Γ Γ') (E : En X F' H' (σ' ++ [ov]) (Γ' ++ [s])) : En X F' H' (vs.map some ++ [ov]) (Γ ++ [s]) := by
  have lf : Le F F' := by rw [← hF]; exact E.f0
  have hl : σ'.length = Γ'.length := by
    have := E.len
    simp at this
    exact this
  obtain ⟨S0, hs0, _, _⟩ := id E0.sl
  obtain ⟨S, hs, hdj, ho⟩ := id E.sl
  refine ⟨E.le, by simp [← E0.len], ⟨fun i a => (i < Γ.length ∧ (∃ v Φ, Γ[i]? = some (.ex v Φ)) ∧ S i a) ∨ (i = Γ.length ∧ S Γ'.length a), fun i u e => ?_, fun i j a h1 h2 => ?_, fun i a h1 => ?_⟩, E.fr, E.f0, E.nn⟩
  · have hi : i < (Γ ++ [s]).length := (List.getElem?_eq_some_iff.mp e).1
    simp only [List.length_append, List.length_cons, List.length_nil] at hi
    by_cases hlt : i < Γ.length
    · rw [List.getElem?_append_left hlt] at e
      rw [getD_app (by rw [E0.len]; exact hlt)]
      cases u with
      | no =>
        intro a z
        rcases z with ⟨_, ⟨v, Φ, z⟩, _⟩ | ⟨z, _⟩
        · rw [e] at z; cases z
        · omega
      | dat m d =>
        obtain ⟨⟨v, ev, r⟩, _⟩ := hs0 i _ e
        refine ⟨⟨v, ev, Bs.mo r lf⟩, fun a z => ?_⟩
        rcases z with ⟨_, ⟨v, Φ, z⟩, _⟩ | ⟨z, _⟩
        · rw [e] at z; cases z
        · omega
      | ml m l ds => exact absurd e (nm i m l ds)
      | ex v Φ =>
        have e' := kp i v Φ e
        have hi' : i < Γ'.length := (List.getElem?_eq_some_iff.mp e').1
        have q := hs i _ (by rw [List.getElem?_append_left hi']; exact e')
        obtain ⟨ev, hk, _⟩ := hs0 i _ e
        have eS : (fun a => (i < Γ.length ∧ (∃ v Φ, Γ[i]? = some (.ex v Φ)) ∧ S i a) ∨ (i = Γ.length ∧ S Γ'.length a)) = S i := by
          funext a
          apply propext
          constructor
          · rintro (⟨_, _, z⟩ | ⟨z, _⟩)
            · exact z
            · omega
          · intro z; exact .inl ⟨hlt, ⟨v, Φ, e⟩, z⟩
        show SlOk X F' H' _ (fun a => (i < Γ.length ∧ (∃ v Φ, Γ[i]? = some (.ex v Φ)) ∧ S i a) ∨ (i = Γ.length ∧ S Γ'.length a)) _
        rw [eS]
        exact ⟨ev, hk, q.2.2⟩
    · have hie : i = Γ.length := by omega
      subst hie
      simp at e
      subst e
      have eS : (fun a => (Γ.length < Γ.length ∧ (∃ v Φ, Γ[Γ.length]? = some (.ex v Φ)) ∧ S Γ.length a) ∨ (Γ.length = Γ.length ∧ S Γ'.length a)) = S Γ'.length := by
        funext a
        apply propext
        constructor
        · rintro (⟨z, _⟩ | ⟨_, z⟩)
          · omega
          · exact z
        · intro z; exact .inr ⟨rfl, z⟩
      show SlOk X F' H' _ (fun a => (Γ.length < Γ.length ∧ (∃ v Φ, Γ[Γ.length]? = some (.ex v Φ)) ∧ S Γ.length a) ∨ (Γ.length = Γ.length ∧ S Γ'.length a)) _
      rw [eS, ← E0.len, getD_last]
      have q := hs Γ'.length s (by simp)
      rw [← hl, getD_last, hl] at q
      exact q
  · have le : ∀ {i : Nat}, (∃ v Φ, Γ[i]? = some (Sl.ex v Φ)) → i < Γ'.length := fun {i} ⟨v, Φ, z⟩ => (List.getElem?_eq_some_iff.mp (kp i v Φ z)).1
    rcases h1 with ⟨a1, b1, c1⟩ | ⟨a1, c1⟩ <;> rcases h2 with ⟨a2, b2, c2⟩ | ⟨a2, c2⟩
    · exact hdj i j a c1 c2
    · have := hdj _ _ a c1 c2
      have := le b1
      omega
    · have := hdj _ _ a c1 c2
      have := le b2
      omega
    · omega
  · rcases h1 with ⟨a1, b1, c1⟩ | ⟨a1, c1⟩
    · exact ho i a c1
    · exact ho _ a c1
/-- what is wanted of a def's body -/
def retP (Γ : List Sl) (Qr : Sl → Prop) : Po := { nx := fun Γ' => Keep Γ Γ' ∧ Qr (.dat true .none), rt := fun s Γ' => Keep Γ Γ' ∧ Qr s }
section
variable {P : Program} {w : World} {K : PySem.W.Frag} {mg : Str → Option Value} {base : Heap}
/-- a body keeps its promise -/
theorem body_g {N : List Str} {T : List Sl → (Sl → Prop) → Prop} {vs : List V} {H : Hp} {Q : VK} {E : XK} {t : TS} (h : spG K T vs H Q E) (hn : ∀ Γ Qr, T Γ Qr → NoMl Γ) (hj : ∀ Γ Qr, T Γ Qr → SJt K (Γ ++ List.replicate (N.length - Γ.length) .no) t (retP Γ Qr)) : t { nx := fun _ H' => Q .non H', rt := Q } (L2.start N vs) H := by
  obtain ⟨X, F, Γ, Qr, hK, hF, hH, hNN, E0, hT, k⟩ := h
  have hl : vs.length = Γ.length := by simpa using E0.len
  have Ep := E0.pad (N.length - Γ.length)
  have es : L2.start N vs = vs.map some ++ List.replicate (N.length - Γ.length) none := by rw [L2.start, hl]
  rw [es]
  refine hj Γ Qr hT X hK ⟨fun a => by rw [hH]; exact hNN a, by rw [hF, hH]; exact E0.le⟩ F H _ Ep _ ⟨fun F' H' σ' Γ' E' ⟨kp, q⟩ => ?_, fun F' H' σ' Γ' v s E' ⟨kp, q⟩ => ?_, fun _ _ _ _ _ z => z, fun _ _ _ _ _ z => z, fun _ _ _ _ _ _ _ z => z⟩
  · exact k F' H' .non (.dat true .none) (by rw [← hF]; exact E'.f0) (E0.back hF (hn Γ Qr hT) kp (E'.pushD .non)) q
  · exact k F' H' v s (by rw [← hF]; exact E'.drop.f0) (E0.back hF (hn Γ Qr hT) kp E') q
theorem len_g {T : List Sl → (Sl → Prop) → Prop} {n : Nat} (hl : ∀ Γ Qr, T Γ Qr → Γ.length = n) : ∀ vs H Q E, spG K T vs H Q E → vs.length = n := fun vs H Q E h => by
  obtain ⟨X, F, Γ, Qr, hK, hF, hH, hNN, E0, hT, k⟩ := h
  have := E0.len
  rw [List.length_map] at this
  rw [this]
  exact hl Γ Qr hT
/-- a def that calls what it calls, as others call it -/
structure Cal (P : Program) (w : World) (K : PySem.W.Frag) (mg : Str → Option Value) (base : Heap) (CX : CXT) (k : Nat) (x : Str) (ps : List Str) (sp : Sp) : Prop where
  ex : ∃ f fd, mg x = some (.ref f) ∧ PySem.W.keepIn K (.ref f) = true ∧ Binds K fd ps [] ∧ FnOk P w K mg base CX k f fd ps sp
/-- where a def stands, and how it is called -/
structure Def (K : PySem.W.Frag) (mg : Str → Option Value) (x : Str) (st : Stmt) (ps : List Str) : Prop where
  ex : ∃ f fd, mg x = some (.ref f) ∧ Fun K x x st f fd ∧ Binds K fd ps []
theorem Cal.mono {CX : CXT} {j k : Nat} {x : Str} {ps : List Str} {sp : Sp} (c : Cal P w K mg base CX j x ps sp) (h : j ≤ k) : Cal P w K mg base CX k x ps sp :=
  let ⟨f, fd, a, b, d, e⟩ := c.ex
  ⟨f, fd, a, b, d, e.mono h⟩
theorem Cal.imp {CX : CXT} {k : Nat} {x : Str} {ps : List Str} {sp sp' : Sp} (c : Cal P w K mg base CX k x ps sp) (h : ∀ vs H Q E, sp' vs H Q E → sp vs H Q E) : Cal P w K mg base CX k x ps sp' :=
  let ⟨f, fd, a, b, d, e⟩ := c.ex
  ⟨f, fd, a, b, d, e.imp h⟩
/-- THE RULE for a def over data that raises nothing -/
theorem cal_g {x : Str} {st : Stmt} {N ps : List Str} {k : Nat} {T : List Sl → (Sl → Prop) → Prop} (D : Def K mg x st ps) (S : FnScope N ps (defScope st)) (hT : ∀ Γ Qr, T Γ Qr → Γ.length = ps.length ∧ NoMl Γ)
    (hb : ∀ (f : Addr) (cdv : Value) (A : Around) (outer : List Env) (s : Shared) (H : Hp) (E : XK), Room k (A.deeper (envOfC x (defScope st) s.heap.objs.size f cdv)) →
      ∃ t, PSs (cxOf CX0 P w K mg base N x (defScope st) f cdv A outer s H E).nox (defBody st) t ∧ ∀ Γ Qr, T Γ Qr → SJ K (Γ ++ List.replicate (N.length - Γ.length) .no) t (retP Γ Qr)) : Cal P w K mg base CX0 (k + 1) x ps (spG K T) := by
  obtain ⟨f, fd, a, F, b⟩ := D.ex
  refine ⟨f, fd, a, F.kp, b, F.ok S (len_g fun Γ Qr h => (hT Γ Qr h).1) fun cdv A outer s H vs Q E hr h => ?_⟩
  obtain ⟨t, ht, hj⟩ := hb f cdv A outer s H E hr
  exact ⟨t, ht, body_g h (fun Γ Qr z => (hT Γ Qr z).2) fun Γ Qr z => (hj Γ Qr z).t⟩
/-- .. whose body is told at its own level -/
theorem cal_t {x : Str} {st : Stmt} {N ps : List Str} {k : Nat} {T : List Sl → (Sl → Prop) → Prop} (D : Def K mg x st ps) (S : FnScope N ps (defScope st)) (hT : ∀ Γ Qr, T Γ Qr → Γ.length = ps.length ∧ NoMl Γ)
    (hb : ∀ (f : Addr) (cdv : Value) (A : Around) (outer : List Env) (s : Shared) (H : Hp) (E : XK), Room k (A.deeper (envOfC x (defScope st) s.heap.objs.size f cdv)) →
      ∃ t, PSs (cxOf CX0 P w K mg base N x (defScope st) f cdv A outer s H E).nox (defBody st) t ∧ ∀ Γ Qr, T Γ Qr → SJt K (Γ ++ List.replicate (N.length - Γ.length) .no) t (retP Γ Qr)) : Cal P w K mg base CX0 (k + 1) x ps (spG K T) := by
  obtain ⟨f, fd, a, F, b⟩ := D.ex
  refine ⟨f, fd, a, F.kp, b, F.ok S (len_g fun Γ Qr h => (hT Γ Qr h).1) fun cdv A outer s H vs Q E hr h => ?_⟩
  obtain ⟨t, ht, hj⟩ := hb f cdv A outer s H E hr
  exact ⟨t, ht, body_g h (fun Γ Qr z => (hT Γ Qr z).2) hj⟩
/-- a def of which nothing is asked -/
theorem cal_no {x : Str} {st : Stmt} {ps : List Str} {k : Nat} (D : Def K mg x st ps) : Cal P w K mg base CX0 k x ps (fun _ _ _ _ => False) := by
  obtain ⟨f, fd, a, F, b⟩ := D.ex
  exact ⟨f, fd, a, F.kp, b, ⟨fun _ _ _ _ h => h.elim, fun _ _ _ _ _ _ _ _ _ _ _ _ _ h => h.elim⟩⟩
end
section
variable {X : Cx} {k : Nat} {x : Str} {ps : List Str} {sp : Sp} {p pos : Pos} {e : Expr} {es : List Expr} {t : TA}
/-- f(e, ..) -/
theorem pe_c (c : Cal X.prog X.w X.K X.mg X.base CX0 k x ps sp) (hr : Room k X.A) (hg : Gl X x) (ha : PA X (e :: es) t) (hdb : (x == ("__debug__" : Str)) = false := by decide) (he : starEach (e :: es) X.env = (false, eval e X.env) :: starEach es X.env := by rfl) (hpl : ((backTo pos (starEach es X.env)).any fun x => x.fst) = false := by rfl) : PE X (.Call (.Name x p) (e :: es) [] pos) (tCall sp [] E0 t) := by
  obtain ⟨f, fd, a, b, d, F⟩ := c.ex
  exact pe_call F hr hg a b d .nil pass0 ha hdb he hpl
theorem pe_c0 (c : Cal X.prog X.w X.K X.mg X.base CX0 k x ps sp) (hr : Room k X.A) (hg : Gl X x) (hdb : (x == ("__debug__" : Str)) = false := by decide) : PE X (.Call (.Name x p) [] [] pos) (tCall sp [] E0 tNil) := by
  obtain ⟨f, fd, a, b, d, F⟩ := c.ex
  exact pe_call0 F hr hg a b d .nil pass0 hdb
end
end Pk
end
section
set_option Elab.async false
set_option linter.all false
set_option maxRecDepth 100000
/-! The data layer, part 3: statements, loops, comprehensions. -/
namespace Pk
open PySem PySem.Spec PyProof.Rows L2

section
variable {X : Bs} {F H : Hp} {σ : L2.St} {Γ : List Sl}
/-- a list of one's own changes -/
theorem En.mut (E : En X F H σ Γ) {i : Nat} {m : Bool} {l : Addr} {ds es : List PyData} {ys : List V} (hi : Γ[i]? = some (.ml m l ds)) (r : RpA X.K (X.ff F m) ys es) : En X F (upd H l (.lst ys)) σ (Γ.set i (.ml m l es)) := by
  obtain ⟨S, hs, hdj, ho⟩ := id E.sl
  have hil : i < Γ.length := (List.getElem?_eq_some_iff.mp hi).1
  obtain ⟨xs, e, hS, hl, _, nl⟩ := hs i _ hi
  have sl : S i l := (hS l).mpr rfl
  refine ⟨E.le.new (ho i l sl).1, by simp [E.len], ⟨S, fun j u q => ?_, hdj, fun j a sa => ⟨(ho j a sa).1, ?_, (ho j a sa).2.2⟩⟩, fun a o q n => ?_, E.f0, fun a n => ?_⟩
  · by_cases hj : j = i
    · subst hj
      rw [List.getElem?_set_self hil] at q
      cases q
      exact ⟨ys, e, hS, upd_same, r, nl⟩
    · rw [List.getElem?_set_ne (Ne.symm hj)] at q
      exact (hs j u q).mono Le.rfl' fun a sa => upd_ne fun z => hj (by subst z; exact hdj j i a sa sl)
  · by_cases z : a = l
    · subst z; rw [upd_same]; simp
    · rw [upd_ne z]; exact (ho j a sa).2.1
  · obtain ⟨q1, q2⟩ := E.fr a o q n
    refine ⟨?_, q2⟩
    rw [upd_ne]
    · exact q1
    · intro z
      subst z
      rcases (ho i a sl).2.2 with w | w
      · rw [w] at q; cases q
      · exact n w
  · by_cases z : a = l
    · subst z; rw [upd_same]; simp
    · rw [upd_ne z]; exact E.nn a n
def wipeG (Γ : List Sl) : List Nat → List Sl
  | [] => Γ
  | v :: vs => (wipeG Γ vs).set v .no
theorem wipeG_length (Γ : List Sl) : ∀ vs : List Nat, (wipeG Γ vs).length = Γ.length
  | [] => rfl
  | v :: vs => by simp [wipeG, wipeG_length Γ vs]
theorem wipeG_out {i : Nat} : ∀ {vs : List Nat}, i ∉ vs → (wipeG Γ vs)[i]? = Γ[i]?
  | [], _ => rfl
  | v :: vs, h => by
    rw [wipeG, List.getElem?_set_ne (by intro z; subst z; exact h List.mem_cons_self)]
    exact wipeG_out fun z => h (List.mem_cons_of_mem _ z)
theorem wipeG_in {i : Nat} (hl : i < Γ.length) : ∀ {vs : List Nat}, i ∈ vs → (wipeG Γ vs)[i]? = some .no
  | [], h => by cases h
  | v :: vs, h => by
    rw [wipeG]
    by_cases z : v = i
    · subst z
      rw [List.getElem?_set_self (by rw [wipeG_length]; exact hl)]
    · rw [List.getElem?_set_ne z]
      rcases List.mem_cons.mp h with w | w
      · exact absurd w.symm z
      · exact wipeG_in hl w
theorem En.set_no (E : En X F H σ Γ) (i : Nat) (ov : Option V) : En X F H (σ.set i ov) (Γ.set i .no) := by
  have h := E.pushG (ov := ov) (s := .no) (T := fun _ => False) Le.rfl' E.le (fun _ _ q => q) (fun _ _ _ => rfl) (fun _ z => z) (fun _ z => z.elim)
  exact h.put i
theorem En.wipe (E : En X F H σ Γ) : ∀ vs : List Nat, En X F H (L2.wipe σ vs) (wipeG Γ vs)
  | [] => E
  | v :: vs => (En.wipe E vs).set_no v none
/-- slots that a comprehension may use as its own -/
def wipeOk (Γ : List Sl) (vs : List Nat) : Prop := ∀ i ∈ vs, ∀ s, Γ[i]? = some s → s = .no ∨ ∃ m d, s = .dat m d
theorem wipeOk_nil : wipeOk Γ [] := fun _ h => by cases h
theorem wipeOk_no {i : Nat} {vs : List Nat} (h : Γ[i]? = some .no) (r : wipeOk Γ vs) : wipeOk Γ (i :: vs) := fun j hj s e => by
  rcases List.mem_cons.mp hj with z | z
  · subst z; rw [h] at e; cases e; exact .inl rfl
  · exact r j z s e
theorem wipeOk_dat {i : Nat} {vs : List Nat} {m : Bool} {d : PyData} (h : Γ[i]? = some (.dat m d)) (r : wipeOk Γ vs) : wipeOk Γ (i :: vs) := fun j hj s e => by
  rcases List.mem_cons.mp hj with z | z
  · subst z; rw [h] at e; cases e; exact .inr ⟨m, d, rfl⟩
  · exact r j z s e
theorem En.unwipe {X0 : Bs} {F0 H0 : Hp} {ov : Option V} {s : Sl} {vs : List Nat} (E0 : En X0 F0 H0 σ Γ) (hK : X0.K = X.K) (hN : X0.N = X.N) (lf : Le F0 F) (hv : wipeOk Γ vs) (E : En X F H (L2.wipe σ vs ++ [ov]) (wipeG Γ vs ++ [s])) : En X F H (σ ++ [ov]) (Γ ++ [s]) := by
  obtain ⟨S0, hs0, _, _⟩ := id E0.sl
  obtain ⟨S, hs, hdj, ho⟩ := id E.sl
  have hl : σ.length = Γ.length := E0.len
  refine ⟨E.le, by simp [hl], ⟨S, fun i u e => ?_, hdj, ho⟩, E.fr, E.f0, E.nn⟩
  have hi : i < (Γ ++ [s]).length := (List.getElem?_eq_some_iff.mp e).1
  simp only [List.length_append, List.length_cons, List.length_nil] at hi
  by_cases hlt : i < Γ.length
  · rw [List.getElem?_append_left hlt] at e
    rw [getD_app (by rw [hl]; exact hlt)]
    by_cases hin : i ∈ vs
    · have q := hs i .no (by rw [List.getElem?_append_left (by rw [wipeG_length]; exact hlt)]; exact wipeG_in hlt hin)
      rcases hv i hin u e with z | ⟨m, d, z⟩
      · subst z; exact q
      · subst z
        obtain ⟨⟨v, ev, r⟩, _⟩ := hs0 i _ e
        refine ⟨⟨v, ev, ?_⟩, q⟩
        rw [← hK]
        exact (Bs.mo r lf).mono (Bs.ff_to (fun a h => by rw [hN]; exact h) m)
    · have q := hs i u (by rw [List.getElem?_append_left (by rw [wipeG_length]; exact hlt), wipeG_out hin]; exact e)
      rw [getD_app (by rw [wipe_length, hl]; exact hlt)] at q
      have : (L2.wipe σ vs).getD i none = σ.getD i none := by simp [List.getD_eq_getElem?_getD, wipe_out hin]
      rw [this] at q
      exact q
  · have hie : i = Γ.length := by omega
    subst hie
    simp at e
    subst e
    rw [← hl, getD_last, hl]
    have q := hs Γ.length s (by rw [← wipeG_length Γ vs]; simp)
    have : (L2.wipe σ vs ++ [ov]).getD Γ.length none = ov := by
      rw [← hl, ← wipe_length σ vs, getD_last]
    rw [this] at q
    exact q
end

/-! ### targets -/
def GJ (K : PySem.W.Frag) (m : Bool) (Γ : List Sl) (g : TG) (d : PyData) (N : List Sl → Prop) : Prop := ∀ X : Bs, X.K = K → ∀ F H σ, En X F H σ Γ → ∀ v, Rp K (X.ff F m) v d → ∀ C : L2.St → Hp → Prop,
  (∀ F' H' σ' Γ', Le F F' → En X F' H' σ' Γ' → N Γ' → C σ' H') → g v σ H C
def GJs (K : PySem.W.Frag) (m : Bool) (Γ : List Sl) (g : TGs) (ds : List PyData) (N : List Sl → Prop) : Prop := ∀ X : Bs, X.K = K → ∀ F H σ, En X F H σ Γ → ∀ vs, RpA K (X.ff F m) vs ds → ∀ C : L2.St → Hp → Prop,
  (∀ F' H' σ' Γ', Le F F' → En X F' H' σ' Γ' → N Γ' → C σ' H') → g vs σ H C
section
variable {K : PySem.W.Frag} {m : Bool} {Γ : List Sl} {N : List Sl → Prop}
theorem gj_name {i : Nat} {d : PyData} (q : N (Γ.set i (.dat m d))) : GJ K m Γ (gName i) d N := fun X hK F H σ E v r C k => by
  subst hK
  exact k F H _ _ Le.rfl' ((E.pushD r).put i) q
theorem gj_tup {n : Nat} {gs : TGs} {ds : List PyData} (hn : ds.length = n) (h : GJs K m Γ gs ds N) : GJ K m Γ (gTup K n gs) (.tuple ds) N := fun X hK F H σ E v r C k => by
  cases r with
  | tup a b => exact ⟨_, _, rfl, sqT_le (E.lef m) a, by rw [b.length]; exact hn, h X hK F H σ E _ b C k⟩
theorem gjs_nil (q : N Γ) : GJs K m Γ gNil [] N := fun X hK F H σ E vs r C k => by
  cases r
  exact ⟨rfl, k F H σ Γ Le.rfl' E q⟩
theorem gjs_cons {g : TG} {gs : TGs} {d : PyData} {ds : List PyData} (h : GJ K m Γ g d fun Γ' => GJs K m Γ' gs ds N) : GJs K m Γ (gCons g gs) (d :: ds) N := fun X hK F H σ E vs r C k => by
  cases r with
  | cons a b => exact ⟨_, _, rfl, h X hK F H σ E _ a _ fun F' H' σ' Γ' lf E' h' => h' X hK F' H' σ' E' _ (Bs.moA b lf) C fun F2 H2 σ2 Γ2 l2 E2 q => k F2 H2 σ2 Γ2 (lf.tr l2) E2 q⟩
end
/-- a target that stores into the comprehension's own slots alone -/
def Gw (g : TG) (vs : List Nat) : Prop := ∀ v σ H (C C' : L2.St → Hp → Prop) σ0, L2.wipe σ vs = L2.wipe σ0 vs → (∀ σ2 H2, L2.wipe σ2 vs = L2.wipe σ0 vs → C σ2 H2 → C' σ2 H2) → g v σ H C → g v σ H C'
def Gws (g : TGs) (vs : List Nat) : Prop := ∀ us σ H (C C' : L2.St → Hp → Prop) σ0, L2.wipe σ vs = L2.wipe σ0 vs → (∀ σ2 H2, L2.wipe σ2 vs = L2.wipe σ0 vs → C σ2 H2 → C' σ2 H2) → g us σ H C → g us σ H C'
theorem wipe_in {σ : L2.St} {i : Nat} (hl : i < σ.length) : ∀ {vs : List Nat}, i ∈ vs → (L2.wipe σ vs)[i]? = some none
  | [], h => by cases h
  | v :: vs, h => by
    rw [L2.wipe]
    by_cases z : v = i
    · subst z
      rw [List.getElem?_set_self (by rw [wipe_length]; exact hl)]
    · rw [List.getElem?_set_ne z]
      rcases List.mem_cons.mp h with w | w
      · exact absurd w.symm z
      · exact wipe_in hl w
theorem wipe_eq {σ σ' : L2.St} {vs : List Nat} (hl : σ.length = σ'.length) (h : ∀ i, i ∉ vs → σ[i]? = σ'[i]?) : L2.wipe σ vs = L2.wipe σ' vs := by
  apply List.ext_getElem?
  intro i
  by_cases hin : i ∈ vs
  · by_cases hlt : i < σ.length
    · rw [wipe_in hlt hin, wipe_in (by rw [← hl]; exact hlt) hin]
    · rw [List.getElem?_eq_none (by rw [wipe_length]; omega), List.getElem?_eq_none (by rw [wipe_length]; omega)]
  · rw [wipe_out hin, wipe_out hin]
    exact h i hin
theorem wipe_set {σ : L2.St} {i : Nat} {ov : Option V} {vs : List Nat} (h : i ∈ vs) : L2.wipe (σ.set i ov) vs = L2.wipe σ vs := wipe_eq (by simp) fun j hj => by
  rw [List.getElem?_set_ne]
  intro z
  subst z
  exact hj h
theorem wipe_wipe {σ : L2.St} {vs : List Nat} : L2.wipe (L2.wipe σ vs) vs = L2.wipe σ vs := wipe_eq (wipe_length σ vs) fun j hj => wipe_out hj
theorem gw_name {i : Nat} {vs : List Nat} (h : i ∈ vs) : Gw (gName i) vs := fun v σ H C C' σ0 e k q => k _ _ ((wipe_set h).trans e) q
theorem gw_tup {K : PySem.W.Frag} {n : Nat} {gs : TGs} {vs : List Nat} (h : Gws gs vs) : Gw (gTup K n gs) vs := fun v σ H C C' σ0 e k q => by
  obtain ⟨a, xs, e1, h1, h2, q⟩ := q
  exact ⟨a, xs, e1, h1, h2, h xs σ H C C' σ0 e k q⟩
theorem gws_nil {vs : List Nat} : Gws gNil vs := fun us σ H C C' σ0 e k q => ⟨q.1, k σ H e q.2⟩
theorem gws_cons {g : TG} {gs : TGs} {vs : List Nat} (h : Gw g vs) (hs : Gws gs vs) : Gws (gCons g gs) vs := fun us σ H C C' σ0 e k q => by
  obtain ⟨v, r, e1, q⟩ := q
  exact ⟨v, r, e1, h v σ H _ _ σ0 e (fun σ2 H2 e2 q2 => hs r σ2 H2 C C' σ0 e2 k q2) q⟩

/-! ### statements -/
section
variable {K : PySem.W.Frag} {m : Bool} {Γ : List Sl} {P : Po} {t u ts : TS} {te ta tb : TE}
theorem Meets.imp {X : Bs} {P P' : Po} {D : Ends} (h : Meets X P D) (nx : ∀ Γ, P'.nx Γ → P.nx Γ) (rt : ∀ s Γ, P'.rt s Γ → P.rt s Γ) (bk : ∀ Γ, P'.bk Γ → P.bk Γ) (ct : ∀ Γ, P'.ct Γ → P.ct Γ) (hW : P'.W = P.W) (ex : ∀ c d Γ, P'.ex c d Γ → P.ex c d Γ) : Meets X P' D :=
  ⟨fun F H σ Γ E q => h.nx F H σ Γ E (nx Γ q), fun F H σ Γ v s E q => h.rt F H σ Γ v s E (rt s Γ q), fun F H σ Γ E q => h.bk F H σ Γ E (bk Γ q), fun F H σ Γ E q => h.ct F H σ Γ E (ct Γ q), fun F H σ Γ c d E q => by rw [hW]; exact h.xc F H σ Γ c d E (ex c d Γ q)⟩
theorem SJ.mono {P' : Po} (h : SJ K Γ ts P') (nx : ∀ Γ, P'.nx Γ → P.nx Γ) (rt : ∀ s Γ, P'.rt s Γ → P.rt s Γ) (bk : ∀ Γ, P'.bk Γ → P.bk Γ) (ct : ∀ Γ, P'.ct Γ → P.ct Γ) (hW : P'.W = P.W) (ex : ∀ c d Γ, P'.ex c d Γ → P.ex c d Γ) : SJ K Γ ts P := fun X hK F H σ E D hD => h X hK F H σ E D (hD.imp nx rt bk ct hW ex)
theorem sj_next (q : P.nx Γ) : SJ K Γ tNext P := fun X hK F H σ E D hD => hD.nx F H σ Γ E q
theorem sj_seq (h : SJ K Γ t { P with nx := fun Γ' => SJ K Γ' u P }) : SJ K Γ (tSeq t u) P := fun X hK F H σ E D hD =>
  h X hK F H σ E _ ⟨fun F' H' σ' Γ' E' q => q X hK F' H' σ' E' D hD, hD.rt, hD.bk, hD.ct, hD.xc⟩
/-- with a word between -/
theorem sj_cut (M : List Sl → Prop) (h : SJ K Γ t { P with nx := M }) (k : ∀ Γ', M Γ' → SJ K Γ' u P) : SJ K Γ (tSeq t u) P := fun X hK F H σ E D hD =>
  h X hK F H σ E _ ⟨fun F' H' σ' Γ' E' q => k Γ' q X hK F' H' σ' E' D hD, hD.rt, hD.bk, hD.ct, hD.xc⟩
theorem sj_asg {g : TG} (m : Bool) (h : WD K m Γ te fun d => GJ K m Γ g d P.nx) : SJ K Γ (tAsg te g) P := fun X hK F H σ E D hD =>
  h X hK F H σ E _ fun v F1 H1 d l1 E1 r q => q X hK F1 H1 σ E1 v r _ fun F2 H2 σ2 Γ2 l2 E2 q2 => hD.nx F2 H2 σ2 Γ2 E2 q2
theorem sj_set {i : Nat} (m : Bool) (h : WD K m Γ te fun d => P.nx (Γ.set i (.dat m d))) : SJ K Γ (tAsg te (gName i)) P := sj_asg m (h.mono fun d q => gj_name q)
theorem sj_setX {i : Nat} (h : WX K Γ te fun s => P.nx (Γ.set i s)) : SJ K Γ (tAsg te (gName i)) P := fun X hK F H σ E D hD =>
  h X hK F H σ E _ fun v F1 H1 s l1 E1 q => hD.nx F1 H1 _ _ (E1.put i) q
theorem sj_ret (h : WX K Γ te fun s => P.rt s Γ) : SJ K Γ (tRet te) P := fun X hK F H σ E D hD =>
  h X hK F H σ E _ fun v F1 H1 s l1 E1 q => hD.rt F1 H1 _ _ v s E1 q
theorem sj_retD (m : Bool) (h : WD K m Γ te fun d => P.rt (.dat m d) Γ) : SJ K Γ (tRet te) P := sj_ret (.ofD h)
theorem sj_retN (h : P.rt (.dat true .none) Γ) : SJ K Γ tRetN P := fun X hK F H σ E D hD => hD.rt F H σ Γ .non _ (E.pushD .non) h
theorem sj_brk (h : P.bk Γ) : SJ K Γ tBreak P := fun X hK F H σ E D hD => hD.bk F H σ Γ E h
theorem sj_cont (h : P.ct Γ) : SJ K Γ tCont P := fun X hK F H σ E D hD => hD.ct F H σ Γ E h
/-- a list of one's own is frozen -/
theorem sj_frz (i : Nat) {l : Addr} {ds : List PyData} (hi : Γ[i]? = some (.ml m l ds)) (h : SJ K (Γ.set i (.dat m (.list ds))) ts P) : SJ K Γ ts P := fun X hK F H σ E D hD => by
  obtain ⟨F', lf, E'⟩ := E.freeze hi
  exact h X hK F' H σ E' D hD
theorem En.take {X : Bs} {F H : Hp} {σ : L2.St} (E : En X F H σ Γ) {i : Nat} {l : Addr} {ds : List PyData} (hi : Γ[i]? = some (.ml m l ds)) : En X F H (σ ++ [some (.ref l)]) (Γ.set i .no ++ [.ml m l ds]) := by
  obtain ⟨S, hs, hdj, ho⟩ := id E.sl
  have hil : i < Γ.length := (List.getElem?_eq_some_iff.mp hi).1
  refine ⟨E.le, by simp [E.len], ⟨fun j a => (j < Γ.length ∧ j ≠ i ∧ S j a) ∨ (j = Γ.length ∧ S i a), fun j u e => ?_, fun j k a h1 h2 => ?_, fun j a h1 => ?_⟩, E.fr, E.f0, E.nn⟩
  · have hj : j < (Γ.set i .no ++ [Sl.ml m l ds]).length := (List.getElem?_eq_some_iff.mp e).1
    simp only [List.length_append, List.length_cons, List.length_nil, List.length_set] at hj
    by_cases hlt : j < Γ.length
    · rw [List.getElem?_append_left (by simpa using hlt)] at e
      rw [getD_app (by rw [E.len]; exact hlt)]
      by_cases z : j = i
      · subst z
        rw [List.getElem?_set_self hil] at e
        cases e
        intro a q
        rcases q with ⟨_, q, _⟩ | ⟨q, _⟩
        · exact q rfl
        · omega
      · rw [List.getElem?_set_ne (Ne.symm z)] at e
        have eS : (fun a => (j < Γ.length ∧ j ≠ i ∧ S j a) ∨ (j = Γ.length ∧ S i a)) = S j := by
          funext a
          apply propext
          constructor
          · rintro (⟨_, _, q⟩ | ⟨q, _⟩)
            · exact q
            · omega
          · intro q; exact .inl ⟨hlt, z, q⟩
        show SlOk X F H _ (fun a => (j < Γ.length ∧ j ≠ i ∧ S j a) ∨ (j = Γ.length ∧ S i a)) _
        rw [eS]
        exact hs j u e
    · have hje : j = Γ.length := by omega
      subst hje
      have e' : (Γ.set i .no ++ [Sl.ml m l ds])[Γ.length]? = some (.ml m l ds) := by
        have : Γ.length = (Γ.set i Sl.no).length := by simp
        rw [this]; simp
      rw [e'] at e
      cases e
      have eS : (fun a => (Γ.length < Γ.length ∧ Γ.length ≠ i ∧ S Γ.length a) ∨ (Γ.length = Γ.length ∧ S i a)) = S i := by
        funext a
        apply propext
        constructor
        · rintro (⟨q, _⟩ | ⟨_, q⟩)
          · omega
          · exact q
        · intro q; exact .inr ⟨rfl, q⟩
      show SlOk X F H _ (fun a => (Γ.length < Γ.length ∧ Γ.length ≠ i ∧ S Γ.length a) ∨ (Γ.length = Γ.length ∧ S i a)) _
      rw [eS, ← E.len, getD_last]
      obtain ⟨xs, e0, r⟩ := hs i _ hi
      exact ⟨xs, rfl, r⟩
  · rcases h1 with ⟨a1, b1, c1⟩ | ⟨a1, c1⟩ <;> rcases h2 with ⟨a2, b2, c2⟩ | ⟨a2, c2⟩
    · exact hdj j k a c1 c2
    · exact absurd (hdj _ _ a c1 c2) b1
    · exact absurd (hdj _ _ a c2 c1) b2
    · omega
  · rcases h1 with ⟨_, _, c1⟩ | ⟨_, c1⟩
    · exact ho j a c1
    · exact ho i a c1
/-- return of a list of one's own -/
theorem sj_retM {i : Nat} {l : Addr} {ds : List PyData} (hi : Γ[i]? = some (.ml m l ds)) (h : P.rt (.ml m l ds) (Γ.set i .no)) : SJ K Γ (tRet (tVar i)) P := fun X hK F H σ E D hD => by
  obtain ⟨xs, e, _⟩ := E.ml hi
  exact ⟨_, e, hD.rt F H σ _ (.ref l) _ (E.take hi) h⟩
theorem sj_if {c : TT} (h : WT K Γ c fun b => if b = true then SJ K Γ t P else SJ K Γ u P) : SJ K Γ (tIfS c t u) P := fun X hK F H σ E D hD =>
  h X hK F H σ E _ fun b F1 H1 l1 E1 q => by
    cases b with
    | true => exact q X hK F1 H1 σ E1 D hD
    | false => exact q X hK F1 H1 σ E1 D hD
theorem sj_drop (h : WX K Γ te fun _ => P.nx Γ) : SJ K Γ (tDrop te) P := fun X hK F H σ E D hD =>
  h X hK F H σ E _ fun v F1 H1 s l1 E1 q => hD.nx F1 H1 _ _ E1.drop q
theorem sz_lt {n : Nat} (h : n < 100000) : n < sizeLine := Nat.lt_of_lt_of_le h (by decide)
theorem sz_le {n : Nat} (h : n ≤ 100000) : n ≤ sizeLine := Nat.le_trans h (by decide)
/-- xs.append(e), of one's own -/
theorem sj_app {i : Nat} {l : Addr} {ds : List PyData} (hi : Γ[i]? = some (.ml m l ds)) (hz : ds.length < 100000) (h : WD K m Γ te fun d => P.nx (Γ.set i (.ml m l (ds ++ [d])))) : SJ K Γ (tDrop (tBM K "list" rAppend (tVar i) (tCons te tNil))) P := fun X hK F H σ E D hD => by
  subst hK
  obtain ⟨xs, e, hl, fl, r⟩ := E.ml hi
  refine ⟨.ref l, e, .inl ⟨rfl, _, SqL.of hl⟩, h X rfl F H σ E _ fun v F1 H1 d l1 E1 rv q => ?_⟩
  obtain ⟨xs1, e1, hl1, fl1, r1⟩ := E1.ml hi
  refine ⟨l, xs1, v, rfl, rfl, hl1, sz_lt (by rw [r1.length]; exact hz), hD.nx F1 _ σ _ (E1.mut hi (r1.append (RpA.one rv))) q⟩
/-- xs.extend(e), of one's own -/
theorem sj_ext {i : Nat} {l : Addr} {ds : List PyData} (hi : Γ[i]? = some (.ml m l ds)) (h : WD K m Γ te fun d => ∃ es, d = .list es ∧ ds.length + es.length ≤ 100000 ∧ P.nx (Γ.set i (.ml m l (ds ++ es)))) : SJ K Γ (tDrop (tBM K "list" rExtend (tVar i) (tCons te tNil))) P := fun X hK F H σ E D hD => by
  subst hK
  obtain ⟨xs, e, hl, fl, r⟩ := E.ml hi
  refine ⟨.ref l, e, .inl ⟨rfl, _, SqL.of hl⟩, h X rfl F H σ E _ fun v F1 H1 d l1 E1 rv ⟨es, e2, hz, q⟩ => ?_⟩
  subst e2
  obtain ⟨xs1, e1, hl1, fl1, r1⟩ := E1.ml hi
  cases rv with
  | lst hb rb => exact ⟨l, _, xs1, _, rfl, rfl, hl1, E1.lef m _ _ hb, sz_le (by rw [r1.length, rb.length]; exact hz), hD.nx F1 _ σ _ (E1.mut hi (r1.append rb)) q⟩
/-- xs[k] = e, of one's own -/
theorem sj_setI {i : Nat} {l : Addr} {ds : List PyData} {ti : TE} (hi : Γ[i]? = some (.ml m l ds)) (h : WD K m Γ te fun d => WD K false Γ ti fun k => ∃ n j, k = .int n ∧ ixN ds.length n = some j ∧ P.nx (Γ.set i (.ml m l (ds.set j d)))) : SJ K Γ (tAsg te (gSub (tVar i) ti rSetL)) P := fun X hK F H σ E D hD => by
  subst hK
  refine h X rfl F H σ E _ fun v F1 H1 d l1 E1 rv q1 => ?_
  obtain ⟨xs1, e1, hl1, fl1, r1⟩ := E1.ml hi
  refine ⟨.ref l, e1, q1 X rfl F1 H1 σ E1 _ fun w' F2 H2 k l2 E2 rk ⟨n, j, ek, hj, q⟩ => ?_⟩
  subst ek
  cases rk
  obtain ⟨xs2, e2, hl2, fl2, r2⟩ := E2.ml hi
  exact ⟨l, xs2, n, j, rfl, rfl, hl2, by rw [r2.length]; exact hj, hD.nx F2 _ σ _ (E2.mut hi (r2.set j (Bs.mo rv l2))) q⟩
/-- target = xs.pop(), of one's own -/
theorem sj_pop {i : Nat} {l : Addr} {ds : List PyData} {d : PyData} {g : TG} (hi : Γ[i]? = some (.ml m l (ds ++ [d]))) (h : GJ K m (Γ.set i (.ml m l ds)) g d P.nx) : SJ K Γ (tAsg (tBM0 K "list" rPop (tVar i)) g) P := fun X hK F H σ E D hD => by
  subst hK
  obtain ⟨xs, e, hl, fl, r⟩ := E.ml hi
  have hn : xs.length = ds.length + 1 := by rw [r.length]; simp
  obtain ⟨v, hv, rv⟩ := r.get (i := ds.length) (d := d) (by simp)
  have rd : RpA X.K (X.ff F m) xs.dropLast ds := by
    have := r.take ds.length
    simp at this
    rw [List.dropLast_eq_take, hn]
    simpa using this
  refine ⟨.ref l, e, .inl ⟨rfl, _, SqL.of hl⟩, l, xs, v, rfl, rfl, hl, by rw [hn]; simpa using hv, ?_⟩
  exact h X rfl F _ σ (E.mut hi rd) v rv _ fun F2 H2 σ2 Γ2 l2 E2 q2 => hD.nx F2 H2 σ2 Γ2 E2 q2
/-- xs.clear(), of one's own -/
theorem sj_clear {i : Nat} {l : Addr} {ds : List PyData} (hi : Γ[i]? = some (.ml m l ds)) (h : P.nx (Γ.set i (.ml m l []))) : SJ K Γ (tDrop (tBM0 K "list" rClear (tVar i))) P := fun X hK F H σ E D hD => by
  subst hK
  obtain ⟨xs, e, hl, fl, r⟩ := E.ml hi
  exact ⟨.ref l, e, .inl ⟨rfl, _, SqL.of hl⟩, l, xs, rfl, rfl, hl, hD.nx F _ σ _ (E.mut hi .nil) h⟩
/-- name op= e (ints) -/
theorem sj_aug {i : Nat} {f : Int → Int → Int} {a : Int} {m' : Bool} (hi : Γ[i]? = some (.dat m' (.int a))) (h : WD K false Γ te fun d => ∃ b, d = .int b ∧ P.nx (Γ.set i (.dat m (.int (f a b))))) : SJ K Γ (tAug i te (ipI f)) P := fun X hK F H σ E D hD => by
  subst hK
  obtain ⟨v, e, r⟩ := E.dat hi
  cases r
  refine ⟨_, e, h X rfl F H σ E _ fun v F1 H1 d l1 E1 rv ⟨b, eb, q⟩ => ?_⟩
  subst eb
  cases rv
  exact ⟨a, b, rfl, rfl, hD.nx F1 H1 _ _ ((E1.pushD (.int _)).put i) q⟩
/-- while -/
theorem sj_while {c : TT} (I : Nat → List Sl → Prop) (m : Nat) (h0 : I m Γ) (hs : ∀ m Γ', I m Γ' → WT K Γ' c fun b => if b = true then SJ K Γ' t { P with nx := fun Γ2 => ∃ m', m' < m ∧ I m' Γ2, ct := fun Γ2 => ∃ m', m' < m ∧ I m' Γ2, bk := P.nx } else P.nx Γ') : SJ K Γ (tWhile c t) P := fun X hK F H σ E D hD => by
  refine ⟨fun m σ H => ∃ F Γ', En X F H σ Γ' ∧ I m Γ', ⟨m, F, Γ, E, h0⟩, fun m σ' H' ⟨F', Γ', E', hi⟩ => ?_⟩
  refine hs m Γ' hi X hK F' H' σ' E' _ fun b F1 H1 l1 E1 q => ?_
  cases b with
  | true =>
    rw [if_pos rfl]
    refine ⟨fun σ2 H2 => ∃ F2 Γ2, En X F2 H2 σ2 Γ2 ∧ ∃ m', m' < m ∧ I m' Γ2, fun σ2 H2 ⟨F2, Γ2, E2, m', hm, h2⟩ => ⟨m', hm, F2, Γ2, E2, h2⟩, ?_⟩
    exact q X hK F1 H1 σ' E1 _ ⟨fun F2 H2 σ2 Γ2 E2 z => ⟨F2, Γ2, E2, z⟩, hD.rt, hD.nx, fun F2 H2 σ2 Γ2 E2 z => ⟨F2, Γ2, E2, z⟩, hD.xc⟩
  | false =>
    rw [if_neg Bool.false_ne_true]
    exact hD.nx F1 H1 σ' Γ' E1 q
end

/-! ### what is walked -/
/-- the heap has grown by a new thing, or is as it was -/
structure Gr (F H F' H' : Hp) : Prop where
  lf : Le F F'
  le : Le F' H'
  hh : ∀ a o, H a = some o → H' a = some o
  hn : ∀ a o, H a = some o → F' a = F a
theorem Gr.same {F H : Hp} (h : Le F H) : Gr F H F H := ⟨Le.rfl', h, fun _ _ q => q, fun _ _ _ => rfl⟩
theorem Gr.new {F H : Hp} (h : Le F H) {p : Addr} {o : HO} (hp : H p = none) : Gr F H (upd F p o) (upd H p o) :=
  ⟨Le.up (h.nn hp), h.both, fun a u q => by rw [upd_ne (ne_of_none q hp)]; exact q, fun a u q => by rw [upd_ne (ne_of_none q hp)]⟩
theorem En.gr {X : Bs} {F H F' H' : Hp} {σ : L2.St} {Γ : List Sl} (E : En X F H σ Γ) (g : Gr F H F' H') : En X F' H' σ Γ := E.grow g.lf g.le g.hh g.hn
def WI (K : PySem.W.Frag) (m : Bool) (Γ : List Sl) (wi : TI) (Q : List PyData → Prop) : Prop := ∀ X : Bs, X.K = K → ∀ F H σ, En X F H σ Γ → ∀ C : It → Hp → Prop,
  (∀ J F' H' G Y ds, Le F F' → En X F' H' σ Γ → Walk J ds.length G Y → (∀ H2, Le F' H2 → G H2) → (∀ i F2 H2 x H3, Le F' F2 → Le F2 H2 → i < ds.length → Y i H2 x H3 → ∃ d F3, ds[i]? = some d ∧ Gr F2 H2 F3 H3 ∧ Rp K (X.ff F3 m) x d) → Q ds → C J H') → wi σ H C
section
variable {K : PySem.W.Frag} {m : Bool} {Γ : List Sl} {P : Po} {g : TG} {tb : TS} {wi : TI} {tl : TE} {QI : List PyData → Prop} {ta : TA}
theorem sj_for (m : Bool) (h : WI K m Γ wi fun ds => ∃ I : Nat → List Sl → Prop, I 0 Γ ∧ (∀ i d Γ', ds[i]? = some d → I i Γ' → GJ K m Γ' g d fun Γ2 => SJ K Γ2 tb { P with nx := I (i + 1), ct := I (i + 1), bk := P.nx }) ∧ ∀ Γ', I ds.length Γ' → P.nx Γ') : SJ K Γ (tFor wi g tb) P := fun X hK F H σ E D hD => by
  refine h X hK F H σ E _ fun J F1 H1 G Y ds lf E1 wk hG hY ⟨I, h0, hs, he⟩ => ?_
  obtain ⟨X1, k1, n1, f1, _, Er, back⟩ := E1.rebase
  have ffe : ∀ F, X1.ff F m = X.ff F m := fun F => by cases m <;> simp [Bs.ff, n1]
  have hK1 : X1.K = K := k1.trans hK
  refine for_it wk (fun i σ' H' => ∃ F' Γ', En X1 F' H' σ' Γ' ∧ I i Γ') ⟨F1, Γ, Er, h0⟩ (fun i σ' H' _ ⟨F', Γ', E', _⟩ => hG H' ?_) (fun i x σ' H' H3 hi ⟨F', Γ', E', hI⟩ hy => ?_) (fun σ' H' ⟨F', Γ', E', hI⟩ => hD.nx F' H' σ' Γ' (back _ _ _ _ E') (he Γ' hI))
  · exact Le.tr (by rw [← f1]; exact E'.f0) E'.le
  · obtain ⟨d, F3, hd, gr, r⟩ := hY i F' H' x H3 (by rw [← f1]; exact E'.f0) E'.le hi hy
    refine hs i d Γ' hd hI X1 hK1 F3 H3 σ' (E'.gr gr) x (by rw [ffe]; exact r) _ fun F4 H4 σ4 Γ4 l4 E4 sj => ?_
    exact sj X1 hK1 F4 H4 σ4 E4 _ ⟨fun F5 H5 σ5 Γ5 E5 q => ⟨F5, Γ5, E5, q⟩, fun F5 H5 σ5 Γ5 v s E5 q => hD.rt F5 H5 σ5 Γ5 v s (back _ _ _ _ E5) q, fun F5 H5 σ5 Γ5 E5 q => hD.nx F5 H5 σ5 Γ5 (back _ _ _ _ E5) q, fun F5 H5 σ5 Γ5 E5 q => ⟨F5, Γ5, E5, q⟩, fun F5 H5 σ5 Γ5 c d E5 q => hD.xc F5 H5 σ5 Γ5 c d (back _ _ _ _ E5) q⟩
theorem wi_list (h : WD K m Γ tl fun d => ∃ ds, d = .list ds ∧ QI ds) : WI K m Γ (iList K tl) QI := fun X hK F H σ E C k =>
  h X hK F H σ E _ fun v F1 H1 d l1 E1 r ⟨ds, e, q⟩ => by
    subst e
    cases r with
    | lst ha rs =>
      rename_i a xs
      have hn : xs.length = ds.length := rs.length
      refine ⟨a, rfl, ⟨xs, SqL.of (E1.lef m _ _ ha)⟩, k (Itl K a) F1 H1 (fun H => SqL K H a xs) (YAt xs) ds l1 E1 (by rw [← hn]; exact walk_list) (fun H2 l2 => SqL.of (l2 _ _ (X.ff_le F1 m _ _ ha))) (fun i F2 H2 x H3 l2 le hi hy => ?_) q⟩
      obtain ⟨rfl, hx⟩ := hy
      obtain ⟨d, hd, rd⟩ := rs.getV hx
      exact ⟨d, F2, hd, Gr.same le, Bs.mo rd l2⟩
theorem wi_tup (h : WD K m Γ tl fun d => ∃ ds, d = .tuple ds ∧ QI ds) : WI K m Γ (iTup K tl) QI := fun X hK F H σ E C k =>
  h X hK F H σ E _ fun v F1 H1 d l1 E1 r ⟨ds, e, q⟩ => by
    subst e
    cases r with
    | tup ha rs =>
      rename_i a xs
      have hn : xs.length = ds.length := rs.length
      refine ⟨a, rfl, ⟨xs, sqT_le (E1.lef m) ha⟩, k (Itt K a) F1 H1 (fun H => SqT K H a xs) (YAt xs) ds l1 E1 (by rw [← hn]; exact walk_tup) (fun H2 l2 => sqT_le ((X.ff_le F1 m).tr l2) ha) (fun i F2 H2 x H3 l2 le hi hy => ?_) q⟩
      obtain ⟨rfl, hx⟩ := hy
      obtain ⟨d, hd, rd⟩ := rs.getV hx
      exact ⟨d, F2, hd, Gr.same le, Bs.mo rd l2⟩
/-- lo, lo + 1, .. -/
def rangeD (lo : Int) (n : Nat) : List PyData := (List.range n).map fun (i : Nat) => PyData.int (lo + i)
theorem rangeD_len {lo : Int} {n : Nat} : (rangeD lo n).length = n := by simp [rangeD]
theorem rangeD_get {lo : Int} {n i : Nat} (h : i < n) : (rangeD lo n)[i]? = some (.int (lo + i)) := by simp [rangeD, h]
theorem rangeD_of {lo : Int} {n i : Nat} {d : PyData} (h : (rangeD lo n)[i]? = some d) : i < n ∧ d = .int (lo + i) := by
  have hi : i < (rangeD lo n).length := (List.getElem?_eq_some_iff.mp h).1
  rw [rangeD_len] at hi
  rw [rangeD_get hi] at h
  exact ⟨hi, (Option.some.inj h).symm⟩
theorem walkR {X : Bs} {F' : Hp} {lo : Int} {n : Nat} : (∀ i F2 H2 x H3, Le F' F2 → Le F2 H2 → i < (rangeD lo n).length → YFn (fun i => V.int (lo + i)) i H2 x H3 → ∃ d F3, (rangeD lo n)[i]? = some d ∧ Gr F2 H2 F3 H3 ∧ Rp K (X.ff F3 m) x d) := fun i F2 H2 x H3 l2 le hi hy => by
  obtain ⟨rfl, rfl⟩ := hy
  rw [rangeD_len] at hi
  exact ⟨_, F2, rangeD_get hi, Gr.same le, .int _⟩
theorem wi_rng1 (h : WA K false Γ ta fun as => ∃ j : Int, as = [.d (.int j)] ∧ (-(2 ^ 62) ≤ j ∧ j < 2 ^ 62) ∧ QI (rangeD 0 j.toNat)) : WI K m Γ (iRng1 ta) QI := fun X hK F H σ E C k =>
  h X hK F H σ E _ fun vs F1 H1 as l1 E1 r ⟨j, e, hj, q⟩ => by
    subst e
    cases r with
    | cons a b =>
      cases b
      have a' : Rp X.K (X.ff F1 false) _ (.int j) := a
      cases a'
      exact ⟨j, rfl, hj.1, hj.2, k (Itr 0 j.toNat) F1 H1 (fun _ => True) _ (rangeD 0 j.toNat) l1 E1 (by rw [rangeD_len]; exact walk_range) (fun _ _ => trivial) walkR q⟩
theorem wi_rng2 (h : WA K false Γ ta fun as => ∃ i j : Int, as = [.d (.int i), .d (.int j)] ∧ (-(2 ^ 62) ≤ i ∧ i < 2 ^ 62 ∧ -(2 ^ 62) ≤ j ∧ j < 2 ^ 62) ∧ QI (rangeD i (j - i).toNat)) : WI K m Γ (iRng2 ta) QI := fun X hK F H σ E C k =>
  h X hK F H σ E _ fun vs F1 H1 as l1 E1 r ⟨i, j, e, hj, q⟩ => by
    subst e
    cases r with
    | cons a b =>
      cases b with
      | cons b c =>
        cases c
        have a' : Rp X.K (X.ff F1 false) _ (.int i) := a
        have b' : Rp X.K (X.ff F1 false) _ (.int j) := b
        cases a'
        cases b'
        exact ⟨i, j, rfl, hj, k (Itr i (j - i).toNat) F1 H1 (fun _ => True) _ (rangeD i (j - i).toNat) l1 E1 (by rw [rangeD_len]; exact walk_range) (fun _ _ => trivial) walkR q⟩
/-- a list comprehension -/
theorem wx_lc {mi : Bool} (m : Bool) {tt : TT} {te : TE} {vs : List Nat} {QX : Sl → Prop} (hv : wipeOk Γ vs) (hgw : Gw g vs)
    (h : WI K mi Γ wi fun ds => ∃ I : Nat → List PyData → Prop, ds.length ≤ 100000 ∧ I 0 [] ∧ (∀ i d acc, ds[i]? = some d → acc.length ≤ i → I i acc → GJ K mi (wipeG Γ vs) g d fun Γ2 => wipeG Γ2 vs = wipeG Γ vs ∧ WT K Γ2 tt fun b => if b = true then WD K m Γ2 te fun y => I (i + 1) (acc ++ [y]) else I (i + 1) acc) ∧
      ∀ acc, acc.length ≤ ds.length → I ds.length acc → ∀ l, QX (.ml m l acc)) : WX K Γ (tLc wi g tt te vs) QX := fun X hK F H σ E C k => by
  refine h X hK F H σ E _ fun J F1 H1 G Y ds lf E1 wk hG hY ⟨I, hz, h0, hs, he⟩ Da hD => ?_
  obtain ⟨X1, k1, n1, f1, _, Er, back⟩ := E1.rebase
  have ffe : ∀ F, X1.ff F m = X.ff F m := fun F => by cases m <;> simp [Bs.ff, n1]
  have hK1 : X1.K = K := k1.trans hK
  have lef : ∀ {F' H' σ' Γ'}, En X1 F' H' σ' Γ' → Le F1 F' := fun E' => by rw [← f1]; exact E'.f0
  refine lc_it wk (fun i H' => ∃ F' acc, En X1 F' H' (L2.wipe σ vs ++ [some (.ref Da)]) (wipeG Γ vs ++ [.ml m Da acc]) ∧ acc.length ≤ i ∧ I i acc) ⟨F1, [], (Er.wipe vs).pushM hD .nil, Nat.le_refl _, h0⟩ (fun i H' _ ⟨F', acc, E', _⟩ => hG H' ((lef E').tr E'.le)) (fun i x H' H3 hi ⟨F', acc, E', hacc, hI⟩ hy => ?_) (fun H' ⟨F', acc, E', hacc, hI⟩ => ?_)
  · obtain ⟨d, F3, hd, gr, r⟩ := hY i F' H' x H3 (lef E') E'.le hi hy
    have E3 := E'.gr gr
    obtain ⟨X2, k2, n2, Ef, fb⟩ := E3.frame
    have ff2 : ∀ F m, X2.ff F m = X.ff F m := fun F m => by cases m <;> simp [Bs.ff, n2, n1]
    have hK2 : X2.K = K := k2.trans hK1
    refine hgw x _ H3 (fun σ2 H2 => L2.wipe σ2 vs = L2.wipe σ vs → _) _ σ wipe_wipe (fun σ2 H2 e2 q => ⟨e2, q e2⟩) ?_
    refine hs i d acc hd hacc hI X2 hK2 F3 H3 _ Ef x (by rw [ff2]; exact r) _ fun F4 H4 σ4 Γ4 l4 E4 ⟨eΓ, wt⟩ eσ => ?_
    have hlen : Γ4.length = (wipeG Γ vs).length := by rw [← eΓ, wipeG_length]
    have again : ∀ {F5 H5}, Le F4 F5 → En X2 F5 H5 σ4 Γ4 → En X1 F5 H5 (L2.wipe σ vs ++ [some (.ref Da)]) (wipeG Γ vs ++ [.ml m Da acc]) := fun {F5 H5} l5 E5 => by
      have := fb F5 H5 _ _ (by rw [wipeG_length, hlen]) (l4.tr l5) (E5.wipe vs)
      rw [eΓ, eσ] at this
      exact this
    refine wt X2 hK2 F4 H4 σ4 E4 _ fun b F5 H5 l5 E5 q5 => ?_
    cases b with
    | false => exact ⟨F5, acc, again l5 E5, Nat.le_succ_of_le hacc, q5⟩
    | true =>
      rw [if_pos rfl] at q5 ⊢
      refine q5 X2 hK2 F5 H5 σ4 E5 _ fun y F6 H6 dy l6 E6 ry q6 => ?_
      have E7 := again (l5.tr l6) E6
      obtain ⟨xs, _, hl, _, rx⟩ := E7.ml (i := (wipeG Γ vs).length) (m := m) (l := Da) (ds := acc) (by simp)
      have e8 := E7.mut (i := (wipeG Γ vs).length) (m := m) (l := Da) (ds := acc) (es := acc ++ [dy]) (ys := xs ++ [y]) (by simp) (rx.append (RpA.one (by rw [hK1, ffe, ← ff2]; exact ry)))
      have es : (wipeG Γ vs ++ [Sl.ml m Da acc]).set (wipeG Γ vs).length (.ml m Da (acc ++ [dy])) = wipeG Γ vs ++ [.ml m Da (acc ++ [dy])] := by simp
      rw [es] at e8
      exact ⟨xs, hl, sz_lt (by rw [rx.length]; omega), F6, acc ++ [dy], e8, by simp; omega, q6⟩
  · have hE := back _ _ _ _ (En.unwipe E1 (by rw [hK, hK1]) n1.symm (lef E') hv E')
    exact k (.ref Da) F' H' _ (lf.tr (lef E')) hE (he acc hacc hI Da)
end
end Pk
end
section
set_option Elab.async false
set_option linter.all false
set_option maxRecDepth 100000
/-! The data layer, part 4: operations over data. -/
namespace Pk
open PySem PySem.Spec PyProof.Rows L2

/-! ### things of one's own read as data -/
def Sl.frz : Sl → Sl
  | .ml _ _ ds => .dat false (.list ds)
  | .ex v Φ => match Φ.vw with
    | some d => .dat false d
    | none => .ex v Φ
  | s => s
def Sl.fz : Sl → Bool
  | .ml _ _ _ => true
  | .ex _ Φ => Φ.vw.isSome
  | _ => false
section
variable {K : PySem.W.Frag} {Γ : List Sl}
open Classical in
/-- all things of one's own that may be read as data are frozen for a while -/
theorem En.thaw {X : Bs} {F H : Hp} {σ : L2.St} (E : En X F H σ Γ) : ∃ F1, Le F F1 ∧ En X F1 H σ (Γ.map Sl.frz) ∧ ∀ F2 H2, Le F1 F2 → En X F2 H2 σ (Γ.map Sl.frz) → ∃ F3, Le F F3 ∧ En X F3 H2 σ Γ := by
  obtain ⟨S, hs, hdj, ho⟩ := id E.sl
  let M : Addr → Prop := fun a => ∃ (i : Nat) (s : Sl), Γ[i]? = some s ∧ s.fz = true ∧ S i a
  have hML : ∀ {a}, M a → ∃ xs, H a = some (.lst xs) := fun {a} ⟨i, s, h, f, sa⟩ => by
    have q := hs i s h
    cases s with
    | no => cases f
    | dat _ _ => cases f
    | ml m l ds =>
      obtain ⟨xs, _, hS, hl, _⟩ := q
      rw [(hS a).mp sa]
      exact ⟨xs, hl⟩
    | ex v Φ =>
      obtain ⟨_, _, p⟩ := q
      cases hv : Φ.vw with
      | none => simp [Sl.fz, hv] at f
      | some d => exact (Φ.view E.le p hv).2 a sa
  have hMF : ∀ {a}, M a → F a = none := fun {a} ⟨i, s, h, f, sa⟩ => (ho i a sa).1
  have hMO : ∀ {a}, M a → X.own a := fun {a} ⟨i, s, h, f, sa⟩ => (ho i a sa).2.2
  let F1 : Hp := fun a => if M a then H a else F a
  have f1M : ∀ {a}, M a → F1 a = H a := fun h => if_pos h
  have f1N : ∀ {a}, ¬ M a → F1 a = F a := fun h => if_neg h
  have lf : Le F F1 := fun a o q => by
    by_cases h : M a
    · rw [hMF h] at q; cases q
    · rw [f1N h]; exact q
  have le1 : Le F1 H := fun a o q => by
    by_cases h : M a
    · rw [f1M h] at q; exact q
    · rw [f1N h] at q; exact E.le a o q
  have notM : ∀ {j : Nat} {a : Addr} {s : Sl}, Γ[j]? = some s → s.fz = false → S j a → ¬ M a := fun {j a s} hj hn sa ⟨i, u, h, f, si⟩ => by
    have := hdj i j a si sa
    subst this
    rw [h] at hj
    cases hj
    rw [f] at hn
    cases hn
  have frM : ∀ a o, X.H0 a = some o → ¬ X.S0 a → ¬ M a := fun a o e n h => by
    rcases hMO h with w | w
    · rw [w] at e; cases e
    · exact n w
  have frz_no : ∀ {s : Sl}, s.fz = false → s.frz = s := fun {s} h => by
    cases s with
    | no => rfl
    | dat _ _ => rfl
    | ml _ _ _ => cases h
    | ex v Φ =>
      cases hv : Φ.vw with
      | none => simp [Sl.frz, hv]
      | some d => simp [Sl.fz, hv] at h
  refine ⟨F1, lf, ⟨le1, by simp [E.len], ⟨fun i a => (∀ s, Γ[i]? = some s → s.fz = false) ∧ i < Γ.length ∧ S i a, fun i s e => ?_, fun i j a h1 h2 => hdj i j a h1.2.2 h2.2.2, fun i a h1 => ?_⟩, fun a o e n => ⟨(E.fr a o e n).1, (f1N (frM a o e n)).trans (E.fr a o e n).2⟩, E.f0.tr lf, E.nn⟩, fun F2 H2 l2 E2 => ?_⟩
  · rw [List.getElem?_map] at e
    cases hg : Γ[i]? with
    | none => rw [hg] at e; cases e
    | some u =>
      rw [hg] at e
      cases e
      have hi : i < Γ.length := (List.getElem?_eq_some_iff.mp hg).1
      cases hf : u.fz with
      | false =>
        rw [frz_no hf]
        have eS : (fun a => (∀ s, Γ[i]? = some s → s.fz = false) ∧ i < Γ.length ∧ S i a) = S i := by
          funext a
          exact propext ⟨fun z => z.2.2, fun z => ⟨fun s w => (by rw [hg] at w; cases w; exact hf), hi, z⟩⟩
        show SlOk X F1 H _ (fun a => (∀ s, Γ[i]? = some s → s.fz = false) ∧ i < Γ.length ∧ S i a) u
        rw [eS]
        exact (hs i u hg).mono lf fun _ _ => rfl
      | true =>
        have none_ : ∀ a, ¬ ((∀ s, Γ[i]? = some s → s.fz = false) ∧ i < Γ.length ∧ S i a) := fun a z => by
          have := z.1 u hg
          rw [hf] at this
          cases this
        cases u with
        | no => cases hf
        | dat _ _ => cases hf
        | ml m l ds =>
          obtain ⟨xs, e0, hS, hl, r, _⟩ := hs i _ hg
          exact ⟨⟨_, e0, .lst ((f1M ⟨i, _, hg, rfl, (hS l).mpr rfl⟩).trans hl) (r.mono ((X.ff_le F m).tr lf))⟩, none_⟩
        | ex v Φ =>
          obtain ⟨e0, hk, p⟩ := hs i _ hg
          cases hv : Φ.vw with
          | none => simp [Sl.fz, hv] at hf
          | some d =>
            have rv := (Φ.view E.le p hv).1
            have ll : Le (lay (S i) H F) F1 := fun a o q => by
              unfold lay at q
              by_cases sa : S i a
              · rw [if_pos sa] at q
                rw [f1M ⟨i, _, hg, hf, sa⟩]
                exact q
              · rw [if_neg sa] at q
                exact lf a o q
            have ef : (Sl.ex v Φ).frz = .dat false d := by simp [Sl.frz, hv]
            rw [ef]
            refine ⟨⟨v, e0, ?_⟩, none_⟩
            rw [← hk]
            exact rv.mono ll
  · obtain ⟨n1, hi, sa⟩ := h1
    have hg : Γ[i]? = some Γ[i] := List.getElem?_eq_getElem hi
    have nM : ¬ M a := notM hg (n1 _ hg) sa
    exact ⟨(f1N nM).trans (ho i a sa).1, (ho i a sa).2⟩
  · obtain ⟨S2, hs2, hdj2, ho2⟩ := id E2.sl
    let F3 : Hp := fun a => if M a then none else F2 a
    have f3M : ∀ {a}, M a → F3 a = none := fun h => if_pos h
    have f3N : ∀ {a}, ¬ M a → F3 a = F2 a := fun h => if_neg h
    have l3 : Le F F3 := fun a o q => by
      by_cases h : M a
      · rw [hMF h] at q; cases q
      · rw [f3N h]; exact l2 a o (lf a o q)
    have h2M : ∀ {a}, M a → F2 a = H a ∧ H2 a = H a := fun {a} h => by
      obtain ⟨xs, hx⟩ := hML h
      have := l2 a _ ((f1M h).trans hx)
      rw [hx]
      exact ⟨this, E2.le _ _ this⟩
    have s2M : ∀ {i a}, S2 i a → ¬ M a := fun {i a} sa h => by
      obtain ⟨xs, hx⟩ := hML h
      have := (h2M h).1
      rw [(ho2 i a sa).1, hx] at this; cases this
    have tl : TupLe X.K F2 F3 := fun a xs h => by
      rcases h with (h | ⟨o, h⟩) | h
      · refine .inl (.inl ?_)
        rw [f3N]
        · exact h
        · intro z
          obtain ⟨ys, hx⟩ := hML z
          rw [(h2M z).1, hx] at h; cases h
      · refine .inl (.inr ⟨o, ?_⟩)
        rw [f3N]
        · exact h
        · intro z
          obtain ⟨ys, hx⟩ := hML z
          rw [(h2M z).1, hx] at h; cases h
      · exact .inr h
    refine ⟨F3, l3, ⟨fun a o q => ?_, E.len, ⟨fun i a => (∃ s, Γ[i]? = some s ∧ s.fz = true ∧ S i a) ∨ (∃ s, Γ[i]? = some s ∧ s.fz = false ∧ S2 i a), fun i s e => ?_, fun i j a h1 h2 => ?_, fun i a h1 => ?_⟩, fun a o e n => ⟨(E2.fr a o e n).1, (f3N (frM a o e n)).trans (E2.fr a o e n).2⟩, E.f0.tr l3, E2.nn⟩⟩
    · by_cases h : M a
      · rw [f3M h] at q; cases q
      · rw [f3N h] at q; exact E2.le a o q
    · cases hf : s.fz with
      | true =>
        have eS : (fun a => (∃ s, Γ[i]? = some s ∧ s.fz = true ∧ S i a) ∨ (∃ s, Γ[i]? = some s ∧ s.fz = false ∧ S2 i a)) = S i := by
          funext a
          apply propext
          constructor
          · rintro (⟨u, z, _, w⟩ | ⟨u, z, w, _⟩)
            · exact w
            · rw [e] at z; cases z; rw [hf] at w; cases w
          · intro z; exact .inl ⟨s, e, hf, z⟩
        show SlOk X F3 H2 _ (fun a => (∃ s, Γ[i]? = some s ∧ s.fz = true ∧ S i a) ∨ (∃ s, Γ[i]? = some s ∧ s.fz = false ∧ S2 i a)) _
        rw [eS]
        exact (hs i s e).mono l3 fun a sa => (h2M ⟨i, s, e, hf, sa⟩).2
      | false =>
        have q := hs2 i s (by rw [List.getElem?_map, e]; exact congrArg some (frz_no hf))
        have eS : (fun a => (∃ s, Γ[i]? = some s ∧ s.fz = true ∧ S i a) ∨ (∃ s, Γ[i]? = some s ∧ s.fz = false ∧ S2 i a)) = S2 i := by
          funext a
          apply propext
          constructor
          · rintro (⟨u, z, w, _⟩ | ⟨u, z, _, w⟩)
            · rw [e] at z; cases z; rw [hf] at w; cases w
            · exact w
          · intro z; exact .inr ⟨s, e, hf, z⟩
        show SlOk X F3 H2 _ (fun a => (∃ s, Γ[i]? = some s ∧ s.fz = true ∧ S i a) ∨ (∃ s, Γ[i]? = some s ∧ s.fz = false ∧ S2 i a)) _
        rw [eS]
        cases s with
        | no => exact q
        | dat m d =>
          obtain ⟨⟨v, e0, r⟩, n⟩ := hs i _ e
          exact ⟨⟨v, e0, Bs.mo r l3⟩, q.2⟩
        | ml _ _ _ => cases hf
        | ex v Φ =>
          obtain ⟨e0, hk, p⟩ := q
          exact ⟨e0, hk, Φ.keepT (by
            cases hv : Φ.vw with
            | none => rfl
            | some d => simp [Sl.fz, hv] at hf) p (by rw [hk]; exact tl) fun _ _ => rfl⟩
    · rcases h1 with ⟨s1, e1, f1, z1⟩ | ⟨s1, e1, f1, z1⟩ <;> rcases h2 with ⟨s2, e2, f2, z2⟩ | ⟨s2, e2, f2, z2⟩
      · exact hdj i j a z1 z2
      · exact absurd ⟨i, s1, e1, f1, z1⟩ (s2M z2)
      · exact absurd ⟨j, s2, e2, f2, z2⟩ (s2M z1)
      · exact hdj2 i j a z1 z2
    · rcases h1 with ⟨s1, e1, f1, z1⟩ | ⟨s1, e1, f1, z1⟩
      · have hm : M a := ⟨i, s1, e1, f1, z1⟩
        exact ⟨f3M hm, by rw [(h2M hm).2]; exact (ho i a z1).2.1, (ho i a z1).2.2⟩
      · exact ⟨(f3N (s2M z1)).trans (ho2 i a z1).1, (ho2 i a z1).2⟩
theorem wd_thaw {m : Bool} {t : TE} {Q : PyData → Prop} (h : WD K false (Γ.map Sl.frz) t fun d => flat d = true ∧ Q d) : WD K m Γ t Q := fun X hK F H σ E C k => by
  obtain ⟨F1, lf, E1, back⟩ := E.thaw
  refine h X hK F1 H σ E1 C fun v F2 H2 d l2 E2 r ⟨fl, q⟩ => ?_
  obtain ⟨F3, l3, E3⟩ := back F2 H2 l2 E2
  exact k v F3 H2 d l3 E3 (r.flat fl) q
theorem wt_thaw {t : TT} {Q : Bool → Prop} (h : WT K (Γ.map Sl.frz) t Q) : WT K Γ t Q := fun X hK F H σ E C k => by
  obtain ⟨F1, lf, E1, back⟩ := E.thaw
  refine h X hK F1 H σ E1 C fun b F2 H2 l2 E2 q => ?_
  obtain ⟨F3, l3, E3⟩ := back F2 H2 l2 E2
  exact k b F3 H2 l3 E3 q
/-- an item of a list of one's own -/
theorem atI_rp {F : Hp} {xs : List V} {ds : List PyData} {n : Int} {d : PyData} (r : RpA K F xs ds) (h : atI ds n = some d) : ∃ v, atI xs n = some v ∧ Rp K F v d := by
  unfold atI at h ⊢
  rw [r.length]
  cases hx : ixN ds.length n with
  | none => rw [hx] at h; cases h
  | some j =>
    rw [hx] at h
    exact r.get h
/-- an item of a list of one's own -/
theorem wd_ixm {m : Bool} {i : Nat} {l : Addr} {ds : List PyData} {ti : TE} {Q : PyData → Prop} (hi : Γ[i]? = some (.ml m l ds)) (h : WD K false Γ ti fun k => ∃ n d, k = .int n ∧ atI ds n = some d ∧ Q d) : WD K m Γ (tOp (rIx K) (tVar i) ti) Q := fun X hK F H σ E C k => by
  subst hK
  obtain ⟨xs, e, hl, fl, rx⟩ := E.ml hi
  refine ⟨.ref l, e, h X rfl F H σ E _ fun u F1 H1 x l1 E1 r1 ⟨n, d, ek, ha, q⟩ => ?_⟩
  subst ek
  cases r1
  obtain ⟨xs1, e1, hl1, fl1, rx1⟩ := E1.ml hi
  obtain ⟨v, hv, rv⟩ := atI_rp rx1 ha
  exact .inl ⟨l, xs1, n, v, rfl, rfl, SqL.of hl1, hv, k v F1 H1 d l1 E1 rv q⟩
end

/-! ### ints -/
section
variable {K : PySem.W.Frag} {m : Bool} {Γ : List Sl} {Q : PyData → Prop} {QX : Sl → Prop}
theorem rd_I0 {g : Int → Int → V} {i j : Int} {d : PyData} (hg : ∀ F, Rp K F (g i j) d) (q : Q d) : RD K m Γ (rI0 g) (.int i) (.int j) Q := rd_plain (d := d) (fun F H v u C le rv ru k => by
  cases rv; cases ru
  exact ⟨i, j, rfl, rfl, k _ (hg F)⟩) q
theorem rd_I {P : Int → Int → Prop} {g : Int → Int → V} {i j : Int} {d : PyData} (hg : ∀ F, Rp K F (g i j) d) (hc : P i j) (q : Q d) : RD K m Γ (rI P g) (.int i) (.int j) Q := rd_plain (d := d) (fun F H v u C le rv ru k => by
  cases rv; cases ru
  exact ⟨i, j, rfl, rfl, hc, k _ (hg F)⟩) q
/-! + -/
def dAdd (K : PySem.W.Frag) : R2 := fun x y H Q => rI0 (fun i j => .int (i + j)) x y H Q ∨ rCat x y H Q ∨ (∃ i j, x = .str i ∧ y = .str j ∧ i.length + j.length ≤ sizeLine ∧ Q (.str (i ++ j)) H) ∨ rCatT K x y H Q
theorem o_add {X : Cx} : OpR X (binaryOp .Add) (dAdd X.K) := op_add.or (op_cat.or (op_add_str.or op_catT))
theorem rd_add {i j : Int} (q : Q (.int (i + j))) : RD K m Γ (dAdd K) (.int i) (.int j) Q := rd_plain (d := .int (i + j)) (fun F H v u C le rv ru k => by
  cases rv; cases ru
  exact .inl ⟨i, j, rfl, rfl, k _ (.int _)⟩) q
theorem rx_cat {a b : List PyData} (hz : a.length + b.length ≤ 100000) (q : ∀ l, QX (.ml m l (a ++ b))) : RX K m Γ (dAdd K) (.list a) (.list b) QX := rx_list (ds := a ++ b) (fun F H v u C le rv ru k => by
  cases rv with
  | lst h1 r1 =>
    cases ru with
    | lst h2 r2 => exact .inr (.inl ⟨_, _, _, _, rfl, rfl, le _ _ h1, le _ _ h2, sz_le (by rw [r1.length, r2.length]; exact hz), fun p hp => k p _ hp (r1.append r2)⟩)) q
theorem rd_cat {a b : List PyData} (hz : a.length + b.length ≤ 100000) (q : Q (.list (a ++ b))) : RD K m Γ (dAdd K) (.list a) (.list b) Q := .ofX (rx_cat hz fun _ => ⟨_, toD_ml, q⟩)
theorem rd_addS {a b : Str} (hz : a.length + b.length ≤ 100000) (q : Q (.str (a ++ b))) : RD K m Γ (dAdd K) (.str a) (.str b) Q := rd_plain (d := .str (a ++ b)) (fun F H v u C le rv ru k => by
  cases rv; cases ru
  exact .inr (.inr (.inl ⟨a, b, rfl, rfl, sz_le hz, k _ (.str _)⟩))) q
theorem rd_catT {a b : List PyData} (hz : a.length + b.length ≤ 100000) (ha : a ≠ []) (q : Q (.tuple (a ++ b))) : RD K m Γ (dAdd K) (.tuple a) (.tuple b) Q := fun X hK F H σ E v u rv ru C k => by
  cases rv with
  | tup h1 r1 =>
    cases ru with
    | tup h2 r2 =>
      rename_i p1 xs p2 ys
      have n1 : xs ≠ [] := fun z => ha (List.length_eq_zero_iff.mp (by rw [← r1.length, z]; rfl))
      refine .inr (.inr (.inr ⟨p1, p2, xs, ys, rfl, rfl, sqT_le (E.lef m) h1, sqT_le (E.lef m) h2, n1, sz_le (by rw [r1.length, r2.length]; exact hz), fun z => ?_, fun z p hp => ?_⟩))
      · have eb : b = [] := List.length_eq_zero_iff.mp (by rw [← r2.length, z]; rfl)
        rw [eb, List.append_nil] at q
        exact k _ F H _ Le.rfl' E (.tup h1 r1) q
      · obtain ⟨a', b', c'⟩ := E.newT hK hp (r1.append r2)
        exact k (.ref p) _ _ _ a' b' c' q
/-! - * // % ** -/
def dSub : R2 := rI0 fun i j => .int (i - j)
theorem o_sub {X : Cx} : OpR X (binaryOp .Sub) dSub := op_sub
theorem rd_sub {i j : Int} (q : Q (.int (i - j))) : RD K m Γ dSub (.int i) (.int j) Q := rd_I0 (fun _ => .int _) q
def dMul : R2 := fun x y H Q => rI CMul (fun i j => .int (i * j)) x y H Q ∨ rRep x y H Q
theorem o_mul {X : Cx} : OpR X (binaryOp .Mult) dMul := op_mul.or op_rep
theorem rd_mul {i j : Int} (hc : CMul i j) (q : Q (.int (i * j))) : RD K m Γ dMul (.int i) (.int j) Q := rd_plain (d := .int (i * j)) (fun F H v u C le rv ru k => by
  cases rv; cases ru
  exact .inl ⟨i, j, rfl, rfl, hc, k _ (.int _)⟩) q
theorem rep_rpA {F : Hp} {xs : List V} {ds : List PyData} (r : RpA K F xs ds) : ∀ n : Nat, RpA K F (List.replicate n xs).flatten (List.replicate n ds).flatten
  | 0 => .nil
  | n + 1 => by
    rw [List.replicate_succ, List.replicate_succ, List.flatten_cons, List.flatten_cons]
    exact r.append (rep_rpA r n)
theorem rx_rep {a : List PyData} {n : Int} (h0 : 0 ≤ n) (hn : n ≤ 100000) (hz : a.length * n.toNat ≤ 100000) (q : ∀ l, QX (.ml m l (List.replicate n.toNat a).flatten)) : RX K m Γ dMul (.list a) (.int n) QX := rx_list (fun F H v u C le rv ru k => by
  cases rv with
  | lst h1 r1 =>
    cases ru
    exact .inr ⟨_, n, _, rfl, rfl, le _ _ h1, by omega, by omega, sz_le (by rw [r1.length]; exact hz), fun p hp => k p _ hp (rep_rpA r1 _)⟩) q
theorem rd_rep {a : List PyData} {n : Int} (h0 : 0 ≤ n) (hn : n ≤ 100000) (hz : a.length * n.toNat ≤ 100000) (q : Q (.list (List.replicate n.toNat a).flatten)) : RD K m Γ dMul (.list a) (.int n) Q := .ofX (rx_rep h0 hn hz fun _ => ⟨_, toD_ml, q⟩)
def dDiv : R2 := rI CDiv fun i j => .int (i / j)
theorem o_div {X : Cx} : OpR X (binaryOp .FloorDiv) dDiv := op_fdiv
theorem rd_div {i j : Int} (h : 0 < j) (h2 : j < 1073741824) (q : Q (.int (i / j))) : RD K m Γ dDiv (.int i) (.int j) Q := rd_I (fun _ => .int _) ⟨h, h2⟩ q
def dMod : R2 := rI (fun _ j => 0 < j) fun i j => .int (i % j)
theorem o_mod {X : Cx} : OpR X (binaryOp .Mod) dMod := op_mod
theorem rd_mod {i j : Int} (h : 0 < j) (q : Q (.int (i % j))) : RD K m Γ dMod (.int i) (.int j) Q := rd_I (fun _ => .int _) h q
def dPow : R2 := rI CPow fun i j => .int (i ^ j.toNat)
theorem o_pow {X : Cx} : OpR X (binaryOp .Pow) dPow := op_pow
theorem rd_pow {i j : Int} (h : CPow i j) (q : Q (.int (i ^ j.toNat))) : RD K m Γ dPow (.int i) (.int j) Q := rd_I (fun _ => .int _) h q
def dNeg : V → Hp → VK → Prop := rU fun i => .int (-i)
theorem o_neg {X : Cx} : UnR X (unaryOp .USub) dNeg := un_neg
theorem ru_neg {i : Int} (q : Q (.int (-i))) : RU K m Γ dNeg (.int i) Q := ru_plain (d := .int (-i)) (fun F H v C le rv k => by
  cases rv
  exact ⟨i, rfl, k _ (.int _)⟩) q
/-! comparisons -/
def dLt : R2 := rI0 fun i j => .bl (decide (i < j))
def dLe : R2 := rI0 fun i j => .bl (decide (i ≤ j))
def dGt : R2 := rI0 fun i j => .bl (decide (j < i))
def dGe : R2 := rI0 fun i j => .bl (decide (j ≤ i))
theorem o_lt {X : Cx} : OpR X (compareOp .Lt) dLt := op_lt
theorem o_le {X : Cx} : OpR X (compareOp .LtE) dLe := op_le
theorem o_gt {X : Cx} : OpR X (compareOp .Gt) dGt := op_gt
theorem o_ge {X : Cx} : OpR X (compareOp .GtE) dGe := op_ge
theorem rd_lt {i j : Int} (q : Q (.bool (decide (i < j)))) : RD K m Γ dLt (.int i) (.int j) Q := rd_I0 (fun _ => .bl _) q
theorem rd_le {i j : Int} (q : Q (.bool (decide (i ≤ j)))) : RD K m Γ dLe (.int i) (.int j) Q := rd_I0 (fun _ => .bl _) q
theorem rd_gt {i j : Int} (q : Q (.bool (decide (j < i)))) : RD K m Γ dGt (.int i) (.int j) Q := rd_I0 (fun _ => .bl _) q
theorem rd_ge {i j : Int} (q : Q (.bool (decide (j ≤ i)))) : RD K m Γ dGe (.int i) (.int j) Q := rd_I0 (fun _ => .bl _) q
def dEq (K : PySem.W.Frag) : R2 := rEqD K
def dNe (K : PySem.W.Frag) : R2 := rNeD K
theorem o_eq {X : Cx} (hu : X.A.units + 64 < cLine) : OpR X (compareOp .Eq) (dEq X.K) := op_eqD hu
theorem o_ne {X : Cx} (hu : X.A.units + 64 < cLine) : OpR X (compareOp .NotEq) (dNe X.K) := op_neD hu
theorem rd_eq {x y : PyData} (sx : SeqAt.shaped x = true) (sy : SeqAt.shaped y = true) (q : Q (.bool (PyData.eqv x y))) : RD K m Γ (dEq K) x y Q := rd_plain (d := .bool (PyData.eqv x y)) (fun F H v u C le rv ru k =>
  ⟨x, y, Rp.dp x (rv.mono le), Rp.dp y (ru.mono le), sx, sy, k _ (.bl _)⟩) q
theorem rd_ne {x y : PyData} (sx : SeqAt.shaped x = true) (sy : SeqAt.shaped y = true) (q : Q (.bool (!PyData.eqv x y))) : RD K m Γ (dNe K) x y Q := rd_plain (d := .bool (!PyData.eqv x y)) (fun F H v u C le rv ru k =>
  ⟨x, y, Rp.dp x (rv.mono le), Rp.dp y (ru.mono le), sx, sy, k _ (.bl _)⟩) q
def dIn (K : PySem.W.Frag) : R2 := fun x y H Q => rInD K x y H Q ∨ ∃ i j, x = .str i ∧ y = .str j ∧ Q (.bl (!(Builtin.Str.occurrences j i 0 j.length 1).isEmpty)) H
def dNotIn (K : PySem.W.Frag) : R2 := fun x y H Q => rNotInD K x y H Q ∨ ∃ i j, x = .str i ∧ y = .str j ∧ Q (.bl (!(!(Builtin.Str.occurrences j i 0 j.length 1).isEmpty))) H
theorem o_in {X : Cx} (hu : X.A.units + 65 < cLine) : OpR X (compareOp .In) (dIn X.K) := (op_inD hu).or op_in_str
theorem o_notIn {X : Cx} (hu : X.A.units + 65 < cLine) : OpR X (compareOp .NotIn) (dNotIn X.K) := (op_notInD hu).or op_notin_str
theorem rd_in {x : PyData} {ds : List PyData} (sx : SeqAt.shaped x = true) (sy : SeqAt.shaped (.list ds) = true) (q : Q (.bool (ds.any fun z => PyData.eqv z x))) : RD K m Γ (dIn K) x (.list ds) Q := rd_plain (d := .bool _) (fun F H v u C le rv ru k =>
  .inl ⟨x, ds, Rp.dp x (rv.mono le), Rp.dp _ (ru.mono le), sx, sy, k _ (.bl _)⟩) q
theorem rd_notIn {x : PyData} {ds : List PyData} (sx : SeqAt.shaped x = true) (sy : SeqAt.shaped (.list ds) = true) (q : Q (.bool (!ds.any fun z => PyData.eqv z x))) : RD K m Γ (dNotIn K) x (.list ds) Q := rd_plain (d := .bool _) (fun F H v u C le rv ru k =>
  .inl ⟨x, ds, Rp.dp x (rv.mono le), Rp.dp _ (ru.mono le), sx, sy, k _ (.bl _)⟩) q
/-! items -/
theorem rd_ixL {ds : List PyData} {n : Int} {d : PyData} (h : atI ds n = some d) (q : Q d) : RD K m Γ (rIx K) (.list ds) (.int n) Q := rd_plain (d := d) (fun F H v u C le rv ru k => by
  cases rv with
  | lst h1 r1 =>
    cases ru
    obtain ⟨z, hz, rz⟩ := atI_rp r1 h
    exact .inl ⟨_, _, n, z, rfl, rfl, SqL.of (le _ _ h1), hz, k z rz⟩) q
theorem rd_ixT {ds : List PyData} {n : Int} {d : PyData} (h : atI ds n = some d) (q : Q d) : RD K m Γ (rIx K) (.tuple ds) (.int n) Q := rd_plain (d := d) (fun F H v u C le rv ru k => by
  cases rv with
  | tup h1 r1 =>
    cases ru
    obtain ⟨z, hz, rz⟩ := atI_rp r1 h
    exact .inr (.inl ⟨_, _, n, z, rfl, rfl, sqT_le le h1, hz, k z rz⟩)) q
theorem rd_ixS {x : Str} {n : Int} {c : Nat} (hz : x.length ≤ 100000) (h : atI x.cps.toList n = some c) (q : Q (.str ⟨#[c]⟩)) : RD K m Γ (rIx K) (.str x) (.int n) Q := rd_plain (d := .str ⟨#[c]⟩) (fun F H v u C le rv ru k => by
  cases rv; cases ru
  exact .inr (.inr ⟨x, n, c, rfl, rfl, sz_le hz, h, k _ (.str _)⟩)) q
theorem atI_ofNat {α : Type} {xs : List α} {n : Nat} : atI xs (n : Int) = xs[n]? := by
  unfold atI ixN
  by_cases h : n < xs.length
  · rw [if_pos (by omega), if_pos (by omega)]
    simp
  · rw [if_pos (by omega), if_neg (by omega)]
    simp [List.getElem?_eq_none (by omega : xs.length ≤ n)]
theorem atI_of {α : Type} {xs : List α} {z : Int} {n : Nat} {x : α} (e : z = (n : Int)) (h : xs[n]? = some x) : atI xs z = some x := by
  rw [e, atI_ofNat]; exact h
theorem atI_lastD {α : Type} {xs : List α} {x : α} : atI (xs ++ [x]) (-1) = some x := atI_last xs x
/-! len, list, sum, max, min, int -/
def dLen (K : PySem.W.Frag) : List V → Hp → VK → Prop := fun xs H Q => ∃ x n, xs = [x] ∧ LenV K x H n ∧ Q (.int n) H
theorem o_len {X : Cx} : CallR X (.builtin "len") (dLen X.K) := call_len
theorem rc_lenL {ds : List PyData} (q : Q (.int ds.length)) : RC K m Γ (dLen K) [.list ds] Q := rc_plain (d := .int ds.length) (fun F H vs C le rv k => by
  cases rv with
  | cons a b =>
    cases b
    cases a with
    | lst h1 r1 => exact ⟨_, ds.length, rfl, .inl ⟨_, SqL.of (le _ _ h1), r1.length.symm⟩, k _ (.int _)⟩) q
theorem rc_lenT {ds : List PyData} (q : Q (.int ds.length)) : RC K m Γ (dLen K) [.tuple ds] Q := rc_plain (d := .int ds.length) (fun F H vs C le rv k => by
  cases rv with
  | cons a b =>
    cases b
    cases a with
    | tup h1 r1 => exact ⟨_, ds.length, rfl, .inr ⟨_, sqT_le le h1, r1.length.symm⟩, k _ (.int _)⟩) q
theorem rc_lenS {x : Str} (hz : x.length ≤ 100000) (q : Q (.int x.length)) : RC K m Γ (dLen K) [.str x] Q := rc_plain (d := .int x.length) (fun F H vs C le rv k => by
  cases rv with
  | cons a b =>
    cases b
    cases a
    exact ⟨_, x.length, rfl, ⟨sz_le hz, rfl⟩, k _ (.int _)⟩) q
def dList (K : PySem.W.Frag) : List V → Hp → VK → Prop := fun xs H Q => ∃ p ys, xs = [.ref p] ∧ (SqL K H p ys ∨ SqT K H p ys) ∧ ∀ l, H l = none → Q (.ref l) (upd H l (.lst ys))
theorem o_list {X : Cx} : CallR X (.type "list") (dList X.K) := call_list_of
theorem rcx_listL {ds : List PyData} (q : ∀ l, QX (.ml m l ds)) : RCX K m Γ (dList K) [.list ds] QX := rcx_list (fun F H vs C le rv k => by
  cases rv with
  | cons a b =>
    cases b
    cases a with
    | lst h1 r1 => exact ⟨_, _, rfl, .inl (SqL.of (le _ _ h1)), fun p hp => k p _ hp r1⟩) q
theorem rcx_listT {ds : List PyData} (q : ∀ l, QX (.ml m l ds)) : RCX K m Γ (dList K) [.tuple ds] QX := rcx_list (fun F H vs C le rv k => by
  cases rv with
  | cons a b =>
    cases b
    cases a with
    | tup h1 r1 => exact ⟨_, _, rfl, .inr (sqT_le le h1), fun p hp => k p _ hp r1⟩) q
theorem rc_listL {ds : List PyData} (q : Q (.list ds)) : RC K m Γ (dList K) [.list ds] Q := .ofX (rcx_listL fun _ => ⟨_, toD_ml, q⟩)
theorem rc_listT {ds : List PyData} (q : Q (.list ds)) : RC K m Γ (dList K) [.tuple ds] Q := .ofX (rcx_listT fun _ => ⟨_, toD_ml, q⟩)
def dTuple (K : PySem.W.Frag) : List V → Hp → VK → Prop := fun xs H Q => ∃ p ys, xs = [.ref p] ∧ ((SqL K H p ys ∧ ∀ l, H l = none → Q (.ref l) (upd H l (.tup ys))) ∨ (SqT K H p ys ∧ Q (.ref p) H))
theorem o_tuple {X : Cx} : CallR X (.type "tuple") (dTuple X.K) := call_tuple_of
theorem rc_tupleL {ds : List PyData} (q : Q (.tuple ds)) : RC K m Γ (dTuple K) [.list ds] Q := rc_tuple (fun F H vs C le rv k => by
  cases rv with
  | cons a b =>
    cases b
    cases a with
    | lst h1 r1 => exact ⟨_, _, rfl, .inl ⟨SqL.of (le _ _ h1), fun p hp => k p _ hp r1⟩⟩) q
theorem ints_of {F : Hp} : ∀ {xs : List V} {ns : List Int}, RpA K F xs (ns.map PyData.int) → xs = ns.map V.int
  | [], [], _ => rfl
  | _ :: _, [], h => by cases h
  | [], _ :: _, h => by cases h
  | v :: xs, n :: ns, h => by
    cases h with
    | cons a b =>
      cases a
      rw [ints_of b]
      rfl
def dSum (K : PySem.W.Frag) : List V → Hp → VK → Prop := rSum K
theorem o_sum {X : Cx} (hc : X.calm = true) : CallR X (.builtin "sum") (dSum X.K) := cr_sum hc
theorem rc_sum {ns : List Int} (q : Q (.int ns.sum)) : RC K m Γ (dSum K) [.list (ns.map PyData.int)] Q := rc_plain (d := .int ns.sum) (fun F H vs C le rv k => by
  cases rv with
  | cons a b =>
    cases b
    cases a with
    | lst h1 r1 =>
      rw [ints_of r1] at h1
      exact ⟨_, ns, rfl, SqL.of (le _ _ h1), k _ (.int _)⟩) q
def dMax (K : PySem.W.Frag) : List V → Hp → VK → Prop := fun xs H Q => (∃ i j, xs = [.int i, .int j] ∧ Q (.int (if j > i then j else i)) H) ∨ rMax K xs H Q
def dMin (K : PySem.W.Frag) : List V → Hp → VK → Prop := fun xs H Q => (∃ i j, xs = [.int i, .int j] ∧ Q (.int (if j < i then j else i)) H) ∨ rMin K xs H Q
theorem o_max {X : Cx} (hc : X.calm = true) : CallR X (.builtin "max") (dMax X.K) := (call_max2 hc).or (cr_max hc)
theorem o_min {X : Cx} (hc : X.calm = true) : CallR X (.builtin "min") (dMin X.K) := (call_min2 hc).or (cr_min hc)
theorem rc_max2 {i j : Int} (q : Q (.int (max i j))) : RC K m Γ (dMax K) [.int i, .int j] Q := rc_plain (d := .int (max i j)) (fun F H vs C le rv k => by
  cases rv with
  | cons a b =>
    cases b with
    | cons b c =>
      cases c; cases a; cases b
      have e : (if j > i then j else i) = max i j := by split <;> omega
      exact .inl ⟨i, j, rfl, by rw [e]; exact k _ (.int _)⟩) q
theorem rc_min2 {i j : Int} (q : Q (.int (min i j))) : RC K m Γ (dMin K) [.int i, .int j] Q := rc_plain (d := .int (min i j)) (fun F H vs C le rv k => by
  cases rv with
  | cons a b =>
    cases b with
    | cons b c =>
      cases c; cases a; cases b
      have e : (if j < i then j else i) = min i j := by split <;> omega
      exact .inl ⟨i, j, rfl, by rw [e]; exact k _ (.int _)⟩) q
def dInt : List V → Hp → VK → Prop := fun xs H Q => (∃ i, xs = [.int i] ∧ Q (.int i) H) ∨ ∃ k, xs = [.bl k] ∧ Q (.int (if k then 1 else 0)) H
theorem o_int {X : Cx} : CallR X (.type "int") dInt := call_int1
theorem rc_intB {b : Bool} (q : Q (.int (if b then 1 else 0))) : RC K m Γ dInt [.bool b] Q := rc_plain (d := .int (if b then 1 else 0)) (fun F H vs C le rv k => by
  cases rv with
  | cons a c =>
    cases c; cases a
    exact .inr ⟨b, rfl, k _ (.int _)⟩) q
theorem rc_intI {i : Int} (q : Q (.int i)) : RC K m Γ dInt [.int i] Q := rc_plain (d := .int i) (fun F H vs C le rv k => by
  cases rv with
  | cons a c =>
    cases c; cases a
    exact .inl ⟨i, rfl, k _ (.int _)⟩) q
/-! list(range(n)) -/
theorem rg_rp {F : Hp} {a b : Int} : RpA K F (rgV a b) (rangeD a (b - a).toNat) := by
  unfold rgV rangeD
  generalize List.range (b - a).toNat = l
  induction l with
  | nil => exact .nil
  | cons i l ih => exact .cons (.int _) ih
theorem wx_lrg1 {ta : TE} (m : Bool) (h : WD K false Γ ta fun x => ∃ n : Int, x = .int n ∧ (0 ≤ n ∧ n ≤ 100000) ∧ ∀ l, QX (.ml m l (rangeD 0 n.toNat))) : WX K Γ (tLstRg (tRg1 ta)) QX := fun X hK F H σ E C k =>
  h X hK F H σ E _ fun v F1 H1 x l1 E1 r ⟨n, e, hn, q⟩ => by
    subst e
    cases r
    refine ⟨n, rfl, RgOk.of_le (by omega) (by omega) (by omega) (by omega), fun p hp => ?_⟩
    have rr : RpA X.K (X.ff F1 m) (rgV 0 n) (rangeD 0 n.toNat) := by
      have := rg_rp (K := X.K) (F := X.ff F1 m) (a := 0) (b := n)
      rwa [Int.sub_zero] at this
    exact k (.ref p) F1 _ _ l1 (E1.pushM hp rr) (q p)
theorem wd_lrg1 {ta : TE} (h : WD K false Γ ta fun x => ∃ n : Int, x = .int n ∧ (0 ≤ n ∧ n ≤ 100000) ∧ Q (.list (rangeD 0 n.toNat))) : WD K m Γ (tLstRg (tRg1 ta)) Q := .ofX (wx_lrg1 m (h.mono fun d ⟨n, e, hn, q⟩ => ⟨n, e, hn, fun _ => ⟨_, toD_ml, q⟩⟩))
/-! xs[::-1] -/
theorem wx_rev {ta : TE} (m : Bool) (h : WD K m Γ ta fun x => ∃ ds, x = .list ds ∧ ∀ l, QX (.ml m l ds.reverse)) : WX K Γ (tRevL K ta) QX := fun X hK F H σ E C k =>
  h X hK F H σ E _ fun v F1 H1 x l1 E1 r ⟨ds, e, q⟩ => by
    subst e
    subst hK
    cases r with
    | lst h1 r1 => exact ⟨_, _, rfl, SqL.of (E1.lef m _ _ h1), fun p hp => k (.ref p) F1 _ _ l1 (E1.pushM hp r1.reverse) (q p)⟩
theorem wd_rev {ta : TE} (h : WD K m Γ ta fun x => ∃ ds, x = .list ds ∧ Q (.list ds.reverse)) : WD K m Γ (tRevL K ta) Q := .ofX (wx_rev m (h.mono fun d ⟨n, e, q⟩ => ⟨n, e, fun _ => ⟨_, toD_ml, q⟩⟩))
/-! slices -/
def WO (K : PySem.W.Frag) (Γ : List Sl) (t : TO) (Q : Option Int → Prop) : Prop := ∀ X : Bs, X.K = K → ∀ F H σ, En X F H σ Γ → ∀ C : Option Int → Hp → Prop, (∀ o F' H', Le F F' → En X F' H' σ Γ → Q o → C o H') → t σ H C
theorem wo_no {Q : Option Int → Prop} (q : Q none) : WO K Γ tNoPart Q := fun X hK F H σ E C k => k none F H Le.rfl' E q
theorem wo_some {t : TE} {Q : Option Int → Prop} (h : WD K false Γ t fun d => ∃ i, d = .int i ∧ Q (some i)) : WO K Γ (tPart t) Q := fun X hK F H σ E C k =>
  h X hK F H σ E _ fun v F1 H1 x l1 E1 r ⟨i, e, q⟩ => by
    subst e
    cases r
    exact ⟨i, rfl, k (some i) F1 H1 l1 E1 q⟩
def cutD {α : Type} (xs : List α) (lo hi : Option Int) : List α := (xs.drop (HT.sIx xs.length 0 lo)).take (HT.sIx xs.length xs.length hi - HT.sIx xs.length 0 lo)
theorem cut_rp {F : Hp} {xs : List V} {ds : List PyData} (r : RpA K F xs ds) (lo hi : Option Int) : RpA K F (cutV xs lo hi) (cutD ds lo hi) := by
  unfold cutV cutD
  rw [r.length]
  exact (r.drop _).take _
theorem wx_sl {t : TE} {tl th : TO} (m : Bool) (h : WD K m Γ t fun x => ∃ ds, x = .list ds ∧ WO K Γ tl fun lo => WO K Γ th fun hi => ∀ l, QX (.ml m l (cutD ds lo hi))) : WX K Γ (tSl (rSlL K) t tl th) QX := fun X hK F H σ E C k =>
  h X hK F H σ E _ fun v F1 H1 x l1 E1 r ⟨ds, e, h1⟩ => h1 X hK F1 H1 σ E1 _ fun lo F2 H2 l2 E2 h2 => h2 X hK F2 H2 σ E2 _ fun hi F3 H3 l3 E3 q => by
    subst e
    subst hK
    cases (Bs.mo r (l2.tr l3)) with
    | lst h1 r1 => exact ⟨_, _, rfl, SqL.of (E3.lef m _ _ h1), fun p hp => k (.ref p) F3 _ _ (l1.tr (l2.tr l3)) (E3.pushM hp (cut_rp r1 lo hi)) (q p)⟩
theorem WO.mono {t : TO} {Q Q' : Option Int → Prop} (h : WO K Γ t Q) (k : ∀ o, Q o → Q' o) : WO K Γ t Q' := fun X hK F H σ E C c => h X hK F H σ E C fun o F' H' l E' q => c o F' H' l E' (k o q)
theorem wd_sl {t : TE} {tl th : TO} (h : WD K m Γ t fun x => ∃ ds, x = .list ds ∧ WO K Γ tl fun lo => WO K Γ th fun hi => Q (.list (cutD ds lo hi))) : WD K m Γ (tSl (rSlL K) t tl th) Q :=
  .ofX (wx_sl m (h.mono fun d ⟨ds, e, q⟩ => ⟨ds, e, q.mono fun lo q => q.mono fun hi q l => ⟨_, toD_ml, q⟩⟩))
/-! isinstance -/
def tyN : PyData → String
  | .none => "NoneType" | .bool _ => "bool" | .int _ => "int" | .str _ => "str" | .list _ => "list" | .tuple _ => "tuple" | .dict _ => "dict"
def isTyS (a T : String) : Bool := a == T || (a == "bool" && T == "int")
def isTy (d : PyData) (T : String) : Bool := isTyS (tyN d) T
theorem tyX {F H : Hp} {v : V} {d : PyData} (le : Le F H) (r : Rp K F v d) : TyX K H v (.type (tyN d)) := by
  cases r with
  | non => exact .base .non
  | bl b => exact .base (.bl b)
  | int i => exact .base (.int i)
  | str x => exact .base (.str x)
  | lst h _ => exact .base (.lst (le _ _ h))
  | tup h _ =>
    rcases h with (h | ⟨o, h⟩) | ⟨o, its, n, hk, hc, _⟩
    · exact .base (.tup (le _ _ h))
    · exact .fTuple (le _ _ h)
    · exact .kTuple hk hc
theorem kit_tab : ∀ a ∈ ["NoneType", "bool", "int", "str", "list", "tuple", "dict"], ∀ T ∈ ["int", "bool", "str", "list", "tuple", "dict"], kitB a T = some (isTyS a T) := by decide +kernel
theorem tyN_mem (d : PyData) : tyN d ∈ ["NoneType", "bool", "int", "str", "list", "tuple", "dict"] := by cases d <;> simp [tyN]
theorem kit_isTy {d : PyData} {T : String} (hT : T ∈ ["int", "bool", "str", "list", "tuple", "dict"]) : PySem.W.kitOne K (.type (tyN d)) (.type T) = some (isTy d T) := kit_ty (kit_tab _ (tyN_mem d) T hT)
theorem wd_isi {ta : TE} {T : String} (hT : T ∈ ["int", "bool", "str", "list", "tuple", "dict"]) (h : WD K false Γ ta fun d => Q (.bool (isTy d T))) : WD K m Γ (tCB (rIsi K) (tCons ta (tCons (tC (.ty T)) tNil))) Q := fun X hK F H σ E C k =>
  h X hK F H σ E _ fun v F1 H1 d l1 E1 r q => ⟨v, .ty T, .type (tyN d), .type T, isTy d T, rfl, .ty T, tyX E1.le r, kit_isTy hT, k _ F1 H1 _ l1 E1 (.bl _) q⟩
theorem wd_isi2 {ta : TE} {T U : String} (hT : T ∈ ["int", "bool", "str", "list", "tuple", "dict"]) (hU : U ∈ ["int", "bool", "str", "list", "tuple", "dict"]) (h : WD K false Γ ta fun d => Q (.bool (isTy d T || isTy d U))) : WD K m Γ (tCB (rIsiT K) (tCons ta (tCons (tTup (tCons (tC (.ty T)) (tCons (tC (.ty U)) tNil))) tNil))) Q := fun X hK F H σ E C k =>
  h X hK F H σ E _ fun v F1 H1 d l1 E1 r q => ⟨by show 2 ≤ sizeLine; decide, fun p hp => by
    refine ⟨v, p, [.ty T, .ty U], .type (tyN d), [.type T, .type U], isTy d T || isTy d U, rfl, upd_same, .cons (.ty T) (.cons (.ty U) .nil), tyX (E1.free hp).le r, ?_, k _ F1 _ _ l1 (E1.free hp) (.bl _) q⟩
    refine kitAny_cons (kit_isTy hT) (fun e => ?_) (fun e => by rw [e]; rfl)
    refine kitAny_cons (kit_isTy hU) (fun e2 => by rw [e, e2]; exact kitAny_nil) (fun e2 => by rw [e2]; simp)⟩
end
end Pk
end
section
set_option Elab.async false
set_option linter.all false
set_option maxRecDepth 100000
/-! The data layer, part 5: zip, enumerate, texts walked; shapes of data. -/
namespace Pk
open PySem PySem.Spec PyProof.Rows L2
section
variable {K : PySem.W.Frag} {m : Bool} {Γ : List Sl} {QI : List PyData → Prop} {ta : TA} {te : TE}
def pairD (x y : PyData) : PyData := .tuple [x, y]
theorem yPair {X : Bs} {F' : Hp} {fx fy : Nat → Option V} {xs ys ds : List PyData} (hd : ∀ i, i < ds.length → ∃ x y, xs[i]? = some x ∧ ys[i]? = some y ∧ ds[i]? = some (pairD x y)) (hx : ∀ i x, xs[i]? = some x → ∀ v, fx i = some v → Rp K (X.ff F' m) v x) (hy : ∀ i x, ys[i]? = some x → ∀ v, fy i = some v → Rp K (X.ff F' m) v x) :
    ∀ i F2 H2 x H3, Le F' F2 → Le F2 H2 → i < ds.length → YPair fx fy i H2 x H3 → ∃ d F3, ds[i]? = some d ∧ Gr F2 H2 F3 H3 ∧ Rp K (X.ff F3 m) x d := fun i F2 H2 v H3 l2 le hi hy' => by
  obtain ⟨T, x, y, rfl, nT, rfl, e1, e2⟩ := hy'
  obtain ⟨dx, dy, h1, h2, h3⟩ := hd i hi
  have g := Gr.new le (p := T) (o := .tup [x, y]) nT
  refine ⟨_, _, h3, g, .tup (Bs.ff_tup _ _ (SqT.of upd_same)) (.cons (Bs.mo (hx i dx h1 x e1) (l2.tr g.lf)) (.cons (Bs.mo (hy i dy h2 y e2) (l2.tr g.lf)) .nil))⟩
theorem zip_get {xs ys : List PyData} {i : Nat} (h : i < (List.zipWith pairD xs ys).length) : ∃ x y, xs[i]? = some x ∧ ys[i]? = some y ∧ (List.zipWith pairD xs ys)[i]? = some (pairD x y) := by
  rw [List.length_zipWith] at h
  have h1 : i < xs.length := by omega
  have h2 : i < ys.length := by omega
  exact ⟨xs[i], ys[i], by simp [h1], by simp [h2], by simp [List.getElem?_zipWith, h1, h2]⟩
theorem wi_zip (h : WA K m Γ ta fun as => ∃ xs ys, as = [.d (.list xs), .d (.list ys)] ∧ QI (List.zipWith pairD xs ys)) : WI K m Γ (iZip K ta) QI := fun X hK F H σ E C k =>
  h X hK F H σ E _ fun vs F1 H1 as l1 E1 r ⟨xs, ys, e, q⟩ => by
    subst e
    cases r with
    | cons a b =>
      cases b with
      | cons b c =>
        cases c
        have a' : Rp X.K (X.ff F1 m) _ (.list xs) := a
        have b' : Rp X.K (X.ff F1 m) _ (.list ys) := b
        cases a' with
        | lst ha ra =>
          cases b' with
          | lst hb rb =>
            rename_i pa us pb ws
            refine ⟨pa, pb, us, ws, rfl, SqL.of (E1.lef m _ _ ha), SqL.of (E1.lef m _ _ hb), k (Itz K pa pb) F1 H1 _ _ (List.zipWith pairD xs ys) l1 E1 (walk_zip (xs := us) (ys := ws) (by rw [List.length_zipWith, ra.length, rb.length])) (fun H2 l2 => ⟨SqL.of (l2 _ _ (X.ff_le F1 m _ _ ha)), SqL.of (l2 _ _ (X.ff_le F1 m _ _ hb))⟩) (yPair (fun i hi => zip_get hi) (fun i x hx v hv => ?_) (fun i x hx v hv => ?_)) q⟩
            · obtain ⟨u, hu, ru⟩ := ra.get hx
              rw [hv] at hu; cases hu; rw [← hK]; exact ru
            · obtain ⟨u, hu, ru⟩ := rb.get hx
              rw [hv] at hu; cases hu; rw [← hK]; exact ru
/-- (0, x0), (1, x1), .. -/
def enumD (xs : List PyData) : List PyData := List.zipWith pairD (rangeD 0 xs.length) xs
theorem enumD_len {xs : List PyData} : (enumD xs).length = xs.length := by simp [enumD, rangeD_len]
theorem enumD_of {xs : List PyData} {i : Nat} {d : PyData} (h : (enumD xs)[i]? = some d) : ∃ x, xs[i]? = some x ∧ d = .tuple [.int i, x] := by
  have hi : i < (enumD xs).length := (List.getElem?_eq_some_iff.mp h).1
  obtain ⟨a, b, h1, h2, h3⟩ := zip_get hi
  obtain ⟨_, e⟩ := rangeD_of h1
  refine ⟨b, h2, ?_⟩
  unfold enumD at h
  rw [h3] at h
  cases h
  rw [e, Int.zero_add]
  rfl
theorem wi_enum (h : WA K m Γ ta fun as => ∃ xs, as = [.d (.list xs)] ∧ QI (enumD xs)) : WI K m Γ (iEnum K ta) QI := fun X hK F H σ E C k =>
  h X hK F H σ E _ fun vs F1 H1 as l1 E1 r ⟨xs, e, q⟩ => by
    subst e
    cases r with
    | cons a b =>
      cases b
      have a' : Rp X.K (X.ff F1 m) _ (.list xs) := a
      cases a' with
      | lst ha ra =>
        rename_i pa us
        refine ⟨pa, us, rfl, SqL.of (E1.lef m _ _ ha), k (Ite K pa) F1 H1 _ _ (enumD xs) l1 E1 (by rw [enumD_len, ← ra.length]; exact walk_enum (xs := us)) (fun H2 l2 => SqL.of (l2 _ _ (X.ff_le F1 m _ _ ha))) (yPair (xs := rangeD 0 xs.length) (ys := xs) (fun i hi => zip_get hi) (fun i x hx v hv => ?_) (fun i x hx v hv => ?_)) q⟩
        · obtain ⟨_, e⟩ := rangeD_of hx
          cases hv
          rw [e, Int.zero_add]
          exact .int _
        · obtain ⟨u, hu, ru⟩ := ra.get hx
          rw [hv] at hu; cases hu; rw [← hK]; exact ru
/-- the signs of a text -/
def signsD (x : Str) : List PyData := x.cps.toList.map fun c => .str ⟨#[c]⟩
theorem wi_str (h : WD K false Γ te fun d => ∃ x, d = .str x ∧ QI (signsD x)) : WI K m Γ (iStr te) QI := fun X hK F H σ E C k =>
  h X hK F H σ E _ fun v F1 H1 d l1 E1 r ⟨x, e, q⟩ => by
    subst e
    cases r
    have hn : (signsD x).length = x.cps.size := by simp [signsD]
    refine ⟨x, rfl, k (Its x) F1 H1 _ _ (signsD x) l1 E1 (by rw [hn]; exact walk_str) (fun _ _ => trivial) (fun i F2 H2 u H3 l2 le hi hy => ?_) q⟩
    obtain ⟨rfl, c, hc, rfl⟩ := hy
    exact ⟨.str ⟨#[c]⟩, F2, by simp [signsD, hc], Gr.same le, .str _⟩
end

/-! ### shapes: which data may be compared -/
/-- at most n deep, no dicts, texts of signs -/
def dep : Nat → PyData → Prop
  | _, .none => True
  | _, .bool _ => True
  | _, .int _ => True
  | _, .str x => PyData.strOk x = true
  | 0, .list _ => False
  | 0, .tuple _ => False
  | n + 1, .list xs => ∀ x ∈ xs, dep n x
  | n + 1, .tuple xs => ∀ x ∈ xs, dep n x
  | _, .dict _ => False
theorem dep_can : ∀ (n : Nat) (d : PyData), dep n d → d.canLay0 = true ∧ d.depth ≤ n + 1
  | _, .none, _ => ⟨rfl, by simp [PyData.depth]⟩
  | _, .bool _, _ => ⟨rfl, by simp [PyData.depth]⟩
  | _, .int _, _ => ⟨rfl, by simp [PyData.depth]⟩
  | n, .str x, h => by
    have h' : PyData.strOk x = true := by cases n <;> exact h
    exact ⟨by simpa [PyData.canLay0] using h', by simp [PyData.depth]⟩
  | 0, .list _, h => h.elim
  | 0, .tuple _, h => h.elim
  | n + 1, .list xs, h => by
    have : PyData.canLayAll0 xs = true ∧ PyData.depthAll xs ≤ n + 1 := by
      have h' : ∀ x ∈ xs, dep n x := h
      clear h
      induction xs with
      | nil => exact ⟨rfl, by simp [PyData.depthAll]⟩
      | cons x xs ih =>
        obtain ⟨a, b⟩ := dep_can n x (h' x List.mem_cons_self)
        obtain ⟨c, d⟩ := ih fun y hy => h' y (List.mem_cons_of_mem _ hy)
        exact ⟨by simp [PyData.canLayAll0, a, c], by simp only [PyData.depthAll]; omega⟩
    exact ⟨by simpa [PyData.canLay0] using this.1, by simp only [PyData.depth]; omega⟩
  | n + 1, .tuple xs, h => by
    have : PyData.canLayAll0 xs = true ∧ PyData.depthAll xs ≤ n + 1 := by
      have h' : ∀ x ∈ xs, dep n x := h
      clear h
      induction xs with
      | nil => exact ⟨rfl, by simp [PyData.depthAll]⟩
      | cons x xs ih =>
        obtain ⟨a, b⟩ := dep_can n x (h' x List.mem_cons_self)
        obtain ⟨c, d⟩ := ih fun y hy => h' y (List.mem_cons_of_mem _ hy)
        exact ⟨by simp [PyData.canLayAll0, a, c], by simp only [PyData.depthAll]; omega⟩
    exact ⟨by simpa [PyData.canLay0] using this.1, by simp only [PyData.depth]; omega⟩
  | n, .dict _, h => by cases n <;> exact h.elim
theorem dep_shaped {n : Nat} {d : PyData} (h : dep n d) (hn : n ≤ 63) : SeqAt.shaped d = true := by
  obtain ⟨a, b⟩ := dep_can n d h
  simp only [SeqAt.shaped, a, Bool.true_and, decide_eq_true_eq]
  omega
theorem sh_int {i : Int} : SeqAt.shaped (.int i) = true := dep_shaped (n := 0) (d := .int i) trivial (by decide)
theorem sh_bool {b : Bool} : SeqAt.shaped (.bool b) = true := dep_shaped (n := 0) (d := .bool b) trivial (by decide)
theorem sh_non : SeqAt.shaped .none = true := dep_shaped (n := 0) (d := .none) trivial (by decide)
theorem sh_str {x : Str} (h : PyData.strOk x = true) : SeqAt.shaped (.str x) = true := dep_shaped (n := 0) (d := .str x) h (by decide)
theorem sh_nil : SeqAt.shaped (.list []) = true := dep_shaped (n := 1) (d := .list []) (fun x h => by cases h) (by decide)
/-- == of texts, ints -/
theorem eqv_int {i j : Int} : PyData.eqv (.int i) (.int j) = decide (i = j) := by simp only [PyData.eqv]; exact Bool.beq_eq_decide_eq i j
theorem eqv_str {x y : Str} : PyData.eqv (.str x) (.str y) = decide (x = y) := by simp only [PyData.eqv]; exact Bool.beq_eq_decide_eq x y
theorem eqv_bool {x y : Bool} : PyData.eqv (.bool x) (.bool y) = (x == y) := by simp only [PyData.eqv]
theorem eqv_nil {xs : List PyData} : PyData.eqv (.list xs) (.list []) = xs.isEmpty := by cases xs <;> simp [PyData.eqv, PyData.eqvAll]
/-- no truths within -/
inductive NB : PyData → Prop
  | non : NB .none
  | int (i : Int) : NB (.int i)
  | str (x : Str) : NB (.str x)
  | lst {xs : List PyData} : (∀ x ∈ xs, NB x) → NB (.list xs)
  | tup {xs : List PyData} : (∀ x ∈ xs, NB x) → NB (.tuple xs)
mutual
theorem eqv_iff : ∀ (x y : PyData), NB x → NB y → (PyData.eqv x y = true ↔ x = y)
  | .none, y, _, hy => by cases hy <;> simp [PyData.eqv]
  | .int i, y, _, hy => by cases hy <;> simp [PyData.eqv]
  | .str s, y, _, hy => by cases hy <;> simp [PyData.eqv]
  | .list xs, y, hx, hy => by
    cases hx with
    | lst h =>
      cases hy with
      | lst k => simp only [PyData.eqv, PyData.list.injEq]; exact eqvAll_iff xs _ h k
      | _ => simp [PyData.eqv]
  | .tuple xs, y, hx, hy => by
    cases hx with
    | tup h =>
      cases hy with
      | tup k => simp only [PyData.eqv, PyData.tuple.injEq]; exact eqvAll_iff xs _ h k
      | _ => simp [PyData.eqv]
  | .bool _, _, hx, _ => by cases hx
  | .dict _, _, hx, _ => by cases hx
theorem eqvAll_iff : ∀ (xs ys : List PyData), (∀ x ∈ xs, NB x) → (∀ x ∈ ys, NB x) → (PyData.eqvAll xs ys = true ↔ xs = ys)
  | [], ys, _, _ => by cases ys <;> simp [PyData.eqvAll]
  | x :: xs, [], _, _ => by simp [PyData.eqvAll]
  | x :: xs, y :: ys, hx, hy => by
    simp only [PyData.eqvAll, Bool.and_eq_true, List.cons.injEq]
    rw [eqv_iff x y (hx x List.mem_cons_self) (hy y List.mem_cons_self), eqvAll_iff xs ys (fun z h => hx z (List.mem_cons_of_mem _ h)) (fun z h => hy z (List.mem_cons_of_mem _ h))]
end
theorem eqv_self {x : PyData} (h : NB x) : PyData.eqv x x = true := (eqv_iff x x h h).mpr rfl
theorem eqv_no {x y : PyData} (h : NB x) (k : NB y) (n : x ≠ y) : PyData.eqv x y = false := by
  cases e : PyData.eqv x y with
  | false => rfl
  | true => exact absurd ((eqv_iff x y h k).mp e) n
end Pk
end
section
set_option Elab.async false
set_option linter.all false
set_option maxRecDepth 100000
/-! The data layer, part 6: short forms, own lists of ints, the script. -/
namespace Pk
open PySem PySem.Spec PyProof.Rows L2
section
variable {K : PySem.W.Frag} {m : Bool} {Γ : List Sl} {Q : PyData → Prop} {QX : Sl → Prop} {ta tb tc td te tf : TE}
/-! ### displays and built-ins by their number of arguments -/
theorem wd_cb1 {r : List V → Hp → VK → Prop} (h : WD K m Γ ta fun x => RC K m Γ r [x] Q) : WD K m Γ (tCB r (tCons ta tNil)) Q := wd_cb (wa_d (h.mono fun x q => wa_nil ⟨_, rfl, q⟩))
theorem wd_cb2 {r : List V → Hp → VK → Prop} (h : WD K m Γ ta fun x => WD K m Γ tb fun y => RC K m Γ r [x, y] Q) : WD K m Γ (tCB r (tCons ta (tCons tb tNil))) Q := wd_cb (wa_d (h.mono fun x h => wa_d (h.mono fun y q => wa_nil ⟨_, rfl, q⟩)))
theorem wx_cb1 {r : List V → Hp → VK → Prop} (m : Bool) (h : WD K m Γ ta fun x => RCX K m Γ r [x] QX) : WX K Γ (tCB r (tCons ta tNil)) QX := wx_cb m (wa_d (h.mono fun x q => wa_nil ⟨_, rfl, q⟩))
theorem le_lit {n : Nat} (h : Nat.ble n 100000 = true) : n ≤ 100000 := Nat.le_of_ble_eq_true h
theorem wd_tup0 (q : Q (.tuple [])) : WD K m Γ (tTup tNil) Q := wd_tup (wa_nil ⟨_, rfl, le_lit rfl, q⟩)
theorem wd_tup1 (h : WD K m Γ ta fun x => Q (.tuple [x])) : WD K m Γ (tTup (tCons ta tNil)) Q := wd_tup (wa_d (h.mono fun x q => wa_nil ⟨_, rfl, le_lit rfl, q⟩))
theorem wd_tup2 (h : WD K m Γ ta fun x => WD K m Γ tb fun y => Q (.tuple [x, y])) : WD K m Γ (tTup (tCons ta (tCons tb tNil))) Q := wd_tup (wa_d (h.mono fun x h => wa_d (h.mono fun y q => wa_nil ⟨_, rfl, le_lit rfl, q⟩)))
theorem wd_tup3 (h : WD K m Γ ta fun x => WD K m Γ tb fun y => WD K m Γ tc fun z => Q (.tuple [x, y, z])) : WD K m Γ (tTup (tCons ta (tCons tb (tCons tc tNil)))) Q := wd_tup (wa_d (h.mono fun x h => wa_d (h.mono fun y h => wa_d (h.mono fun z q => wa_nil ⟨_, rfl, le_lit rfl, q⟩))))
theorem wd_lst0 (q : Q (.list [])) : WD K m Γ (tLst tNil) Q := wd_lst (wa_nil ⟨_, rfl, le_lit rfl, q⟩)
theorem wd_lst1 (h : WD K m Γ ta fun x => Q (.list [x])) : WD K m Γ (tLst (tCons ta tNil)) Q := wd_lst (wa_d (h.mono fun x q => wa_nil ⟨_, rfl, le_lit rfl, q⟩))
theorem wd_lst2 (h : WD K m Γ ta fun x => WD K m Γ tb fun y => Q (.list [x, y])) : WD K m Γ (tLst (tCons ta (tCons tb tNil))) Q := wd_lst (wa_d (h.mono fun x h => wa_d (h.mono fun y q => wa_nil ⟨_, rfl, le_lit rfl, q⟩)))
theorem wd_lst3 (h : WD K m Γ ta fun x => WD K m Γ tb fun y => WD K m Γ tc fun z => Q (.list [x, y, z])) : WD K m Γ (tLst (tCons ta (tCons tb (tCons tc tNil)))) Q := wd_lst (wa_d (h.mono fun x h => wa_d (h.mono fun y h => wa_d (h.mono fun z q => wa_nil ⟨_, rfl, le_lit rfl, q⟩))))
theorem wd_lst4 (h : WD K m Γ ta fun x => WD K m Γ tb fun y => WD K m Γ tc fun z => WD K m Γ td fun u => Q (.list [x, y, z, u])) : WD K m Γ (tLst (tCons ta (tCons tb (tCons tc (tCons td tNil))))) Q := wd_lst (wa_d (h.mono fun x h => wa_d (h.mono fun y h => wa_d (h.mono fun z h => wa_d (h.mono fun u q => wa_nil ⟨_, rfl, le_lit rfl, q⟩)))))
theorem wd_lst5 (h : WD K m Γ ta fun x => WD K m Γ tb fun y => WD K m Γ tc fun z => WD K m Γ td fun u => WD K m Γ te fun w => Q (.list [x, y, z, u, w])) : WD K m Γ (tLst (tCons ta (tCons tb (tCons tc (tCons td (tCons te tNil)))))) Q := wd_lst (wa_d (h.mono fun x h => wa_d (h.mono fun y h => wa_d (h.mono fun z h => wa_d (h.mono fun u h => wa_d (h.mono fun w q => wa_nil ⟨_, rfl, le_lit rfl, q⟩))))))
theorem wd_lst6 (h : WD K m Γ ta fun x => WD K m Γ tb fun y => WD K m Γ tc fun z => WD K m Γ td fun u => WD K m Γ te fun w => WD K m Γ tf fun r => Q (.list [x, y, z, u, w, r])) : WD K m Γ (tLst (tCons ta (tCons tb (tCons tc (tCons td (tCons te (tCons tf tNil))))))) Q := wd_lst (wa_d (h.mono fun x h => wa_d (h.mono fun y h => wa_d (h.mono fun z h => wa_d (h.mono fun u h => wa_d (h.mono fun w h => wa_d (h.mono fun r q => wa_nil ⟨_, rfl, le_lit rfl, q⟩)))))))
theorem wx_lst0 (m : Bool) (q : ∀ l, QX (.ml m l [])) : WX K Γ (tLst tNil) QX := wx_lst m (wa_nil ⟨_, rfl, le_lit rfl, q⟩)
theorem wx_lst1 (m : Bool) (h : WD K m Γ ta fun x => ∀ l, QX (.ml m l [x])) : WX K Γ (tLst (tCons ta tNil)) QX := wx_lst m (wa_d (h.mono fun x q => wa_nil ⟨_, rfl, le_lit rfl, q⟩))
theorem wx_lst2 (m : Bool) (h : WD K m Γ ta fun x => WD K m Γ tb fun y => ∀ l, QX (.ml m l [x, y])) : WX K Γ (tLst (tCons ta (tCons tb tNil))) QX := wx_lst m (wa_d (h.mono fun x h => wa_d (h.mono fun y q => wa_nil ⟨_, rfl, le_lit rfl, q⟩)))
theorem wx_lst3 (m : Bool) (h : WD K m Γ ta fun x => WD K m Γ tb fun y => WD K m Γ tc fun z => ∀ l, QX (.ml m l [x, y, z])) : WX K Γ (tLst (tCons ta (tCons tb (tCons tc tNil)))) QX := wx_lst m (wa_d (h.mono fun x h => wa_d (h.mono fun y h => wa_d (h.mono fun z q => wa_nil ⟨_, rfl, le_lit rfl, q⟩))))
/-! ### calls of own defs -/
variable {T : List Sl → (Sl → Prop) → Prop} {EE : XK}
theorem wx_call0 (h : T [] QX) : WX K Γ (tCall (spG K T) [] EE tNil) QX := wx_call (wa_nil ⟨agsGood_d rfl, h⟩)
theorem wx_call1 (h : WD K false Γ ta fun x => T [.dat false x] QX) : WX K Γ (tCall (spG K T) [] EE (tCons ta tNil)) QX := wx_call (wa_d (h.mono fun x q => wa_nil ⟨agsGood_d rfl, q⟩))
theorem wx_call2 (h : WD K false Γ ta fun x => WD K false Γ tb fun y => T [.dat false x, .dat false y] QX) : WX K Γ (tCall (spG K T) [] EE (tCons ta (tCons tb tNil))) QX := wx_call (wa_d (h.mono fun x h => wa_d (h.mono fun y q => wa_nil ⟨agsGood_d rfl, q⟩)))
theorem wx_call3 (h : WD K false Γ ta fun x => WD K false Γ tb fun y => WD K false Γ tc fun z => T [.dat false x, .dat false y, .dat false z] QX) : WX K Γ (tCall (spG K T) [] EE (tCons ta (tCons tb (tCons tc tNil)))) QX := wx_call (wa_d (h.mono fun x h => wa_d (h.mono fun y h => wa_d (h.mono fun z q => wa_nil ⟨agsGood_d rfl, q⟩))))
theorem wx_call4 (h : WD K false Γ ta fun x => WD K false Γ tb fun y => WD K false Γ tc fun z => WD K false Γ td fun u => T [.dat false x, .dat false y, .dat false z, .dat false u] QX) : WX K Γ (tCall (spG K T) [] EE (tCons ta (tCons tb (tCons tc (tCons td tNil))))) QX := wx_call (wa_d (h.mono fun x h => wa_d (h.mono fun y h => wa_d (h.mono fun z h => wa_d (h.mono fun u q => wa_nil ⟨agsGood_d rfl, q⟩)))))
theorem ag_ex {i : Nat} {v : V} {Φ : Own} (hi : Γ[i]? = some (.ex v Φ)) : Ag.sl Γ (.o i) = .ex v Φ := by simp [Ag.sl, List.getD_eq_getElem?_getD, hi]
theorem wx_callO0 {i : Nat} {v : V} {Φ : Own} (hi : Γ[i]? = some (.ex v Φ)) (h : T [.ex v Φ] QX) : WX K Γ (tCall (spG K T) [] EE (tCons (tVar i) tNil)) QX := wx_call (wa_o hi (wa_nil ⟨agsGood_1 hi rfl, by rw [List.map_cons, ag_ex hi]; exact h⟩))
theorem wx_callO1 {i : Nat} {v : V} {Φ : Own} (hi : Γ[i]? = some (.ex v Φ)) (h : WD K false Γ ta fun x => T [.ex v Φ, .dat false x] QX) : WX K Γ (tCall (spG K T) [] EE (tCons (tVar i) (tCons ta tNil))) QX := wx_call (wa_o hi (wa_d (h.mono fun x q => wa_nil ⟨agsGood_1 hi rfl, by rw [List.map_cons, ag_ex hi]; exact q⟩)))
theorem wx_callO2 {i : Nat} {v : V} {Φ : Own} (hi : Γ[i]? = some (.ex v Φ)) (h : WD K false Γ ta fun x => WD K false Γ tb fun y => T [.ex v Φ, .dat false x, .dat false y] QX) : WX K Γ (tCall (spG K T) [] EE (tCons (tVar i) (tCons ta (tCons tb tNil)))) QX := wx_call (wa_o hi (wa_d (h.mono fun x h => wa_d (h.mono fun y q => wa_nil ⟨agsGood_1 hi rfl, by rw [List.map_cons, ag_ex hi]; exact q⟩))))
theorem wx_callO3 {i : Nat} {v : V} {Φ : Own} (hi : Γ[i]? = some (.ex v Φ)) (h : WD K false Γ ta fun x => WD K false Γ tb fun y => WD K false Γ tc fun z => T [.ex v Φ, .dat false x, .dat false y, .dat false z] QX) : WX K Γ (tCall (spG K T) [] EE (tCons (tVar i) (tCons ta (tCons tb (tCons tc tNil))))) QX := wx_call (wa_o hi (wa_d (h.mono fun x h => wa_d (h.mono fun y h => wa_d (h.mono fun z q => wa_nil ⟨agsGood_1 hi rfl, by rw [List.map_cons, ag_ex hi]; exact q⟩)))))
/-- what is wanted of a call's result, as data -/
def asD (m : Bool) (Q : PyData → Prop) : Sl → Prop := fun s => ∃ d, s.toD m = some d ∧ Q d
theorem asD_dat {d : PyData} (q : Q d) : asD m Q (.dat m d) := ⟨d, toD_dat, q⟩
theorem asD_new {d : PyData} (q : Q d) : asD m Q (.dat true d) := ⟨d, by cases m <;> simp [Sl.toD], q⟩
theorem asD_ml {l : Addr} {ds : List PyData} (q : Q (.list ds)) : asD m Q (.ml m l ds) := ⟨_, toD_ml, q⟩
theorem asD_mln {l : Addr} {ds : List PyData} (q : Q (.list ds)) : asD m Q (.ml true l ds) := ⟨_, by cases m <;> simp [Sl.toD], q⟩
theorem asD_ex {v : V} {Φ : Own} {d : PyData} (hv : Φ.vw = some d) (q : Q d) : asD false Q (.ex v Φ) := ⟨d, by simp [Sl.toD, hv], q⟩
theorem wd_call0 (h : T [] (asD m Q)) : WD K m Γ (tCall (spG K T) [] EE tNil) Q := .ofX (wx_call0 h)
theorem wd_call1 (h : WD K false Γ ta fun x => T [.dat false x] (asD m Q)) : WD K m Γ (tCall (spG K T) [] EE (tCons ta tNil)) Q := .ofX (wx_call1 h)
theorem wd_call2 (h : WD K false Γ ta fun x => WD K false Γ tb fun y => T [.dat false x, .dat false y] (asD m Q)) : WD K m Γ (tCall (spG K T) [] EE (tCons ta (tCons tb tNil))) Q := .ofX (wx_call2 h)
theorem wd_call3 (h : WD K false Γ ta fun x => WD K false Γ tb fun y => WD K false Γ tc fun z => T [.dat false x, .dat false y, .dat false z] (asD m Q)) : WD K m Γ (tCall (spG K T) [] EE (tCons ta (tCons tb (tCons tc tNil)))) Q := .ofX (wx_call3 h)
theorem wd_call4 (h : WD K false Γ ta fun x => WD K false Γ tb fun y => WD K false Γ tc fun z => WD K false Γ td fun u => T [.dat false x, .dat false y, .dat false z, .dat false u] (asD m Q)) : WD K m Γ (tCall (spG K T) [] EE (tCons ta (tCons tb (tCons tc (tCons td tNil))))) Q := .ofX (wx_call4 h)
theorem wd_callO0 {i : Nat} {v : V} {Φ : Own} (hi : Γ[i]? = some (.ex v Φ)) (h : T [.ex v Φ] (asD m Q)) : WD K m Γ (tCall (spG K T) [] EE (tCons (tVar i) tNil)) Q := .ofX (wx_callO0 hi h)
theorem wd_callO1 {i : Nat} {v : V} {Φ : Own} (hi : Γ[i]? = some (.ex v Φ)) (h : WD K false Γ ta fun x => T [.ex v Φ, .dat false x] (asD m Q)) : WD K m Γ (tCall (spG K T) [] EE (tCons (tVar i) (tCons ta tNil))) Q := .ofX (wx_callO1 hi h)
theorem wd_callO2 {i : Nat} {v : V} {Φ : Own} (hi : Γ[i]? = some (.ex v Φ)) (h : WD K false Γ ta fun x => WD K false Γ tb fun y => T [.ex v Φ, .dat false x, .dat false y] (asD m Q)) : WD K m Γ (tCall (spG K T) [] EE (tCons (tVar i) (tCons ta (tCons tb tNil)))) Q := .ofX (wx_callO2 hi h)
theorem wd_callO3 {i : Nat} {v : V} {Φ : Own} (hi : Γ[i]? = some (.ex v Φ)) (h : WD K false Γ ta fun x => WD K false Γ tb fun y => WD K false Γ tc fun z => T [.ex v Φ, .dat false x, .dat false y, .dat false z] (asD m Q)) : WD K m Γ (tCall (spG K T) [] EE (tCons (tVar i) (tCons ta (tCons tb (tCons tc tNil))))) Q := .ofX (wx_callO3 hi h)
end
/-! ### tests -/
theorem iteD {p A B : Prop} [Decidable p] (h1 : p → A) (h2 : ¬ p → B) : if decide p = true then A else B := by
  by_cases h : p
  · rw [decide_eq_true h, if_pos rfl]; exact h1 h
  · rw [decide_eq_false h, if_neg Bool.false_ne_true]; exact h2 h
theorem iteN {p A B : Prop} [Decidable p] (h1 : ¬ p → A) (h2 : p → B) : if (!decide p) = true then A else B := by
  by_cases h : p
  · rw [decide_eq_true h, if_neg (by decide)]; exact h2 h
  · rw [decide_eq_false h, if_pos (by decide)]; exact h1 h
theorem iteB {b : Bool} {A B : Prop} (h1 : b = true → A) (h2 : b = false → B) : if b = true then A else B := by
  cases b with
  | true => rw [if_pos rfl]; exact h1 rfl
  | false => rw [if_neg Bool.false_ne_true]; exact h2 rfl
theorem iteT' {A B : Prop} {b : Bool} (hb : b = true) (h : A) : if b = true then A else B := by rw [if_pos hb]; exact h
theorem iteF' {A B : Prop} {b : Bool} (hb : b = false) (h : B) : if b = true then A else B := by rw [hb, if_neg Bool.false_ne_true]; exact h
/-! ### a list of ints of one's own, of another's def -/
def OwnL (K : PySem.W.Frag) (P : List Int → Prop) : Own where
  K := K
  p := fun _ H v S => ∃ (l : Addr) (ns : List Int), v = .ref l ∧ (∀ b, S b ↔ b = l) ∧ H l = some (.lst (ns.map V.int)) ∧ P ns
  vw := none
  keep := fun {F F' H H' v S} ⟨l, ns, e, hS, hl, hp⟩ _ k => ⟨l, ns, e, hS, (k l ((hS l).mpr rfl)).trans hl, hp⟩
  keepT := fun _ {F F' H H' v S} ⟨l, ns, e, hS, hl, hp⟩ _ k => ⟨l, ns, e, hS, (k l ((hS l).mpr rfl)).trans hl, hp⟩
  view := fun _ _ e => nomatch e
theorem ints_rp {K : PySem.W.Frag} {F : Hp} : ∀ ns : List Int, RpA K F (ns.map V.int) (ns.map PyData.int)
  | [] => .nil
  | n :: ns => .cons (.int n) (ints_rp ns)
section
variable {K : PySem.W.Frag} {Γ : List Sl} {P : Po} {ts : TS}
/-- a slot is told otherwise -/
theorem sj_retell {i : Nat} {s s' : Sl} (hi : Γ[i]? = some s) (h : ∀ (X : Bs) (F H : Hp) (ov : Option V) (S : Addr → Prop), X.K = K → SlOk X F H ov S s → SlOk X F H ov S s') (k : SJ K (Γ.set i s') ts P) : SJ K Γ ts P := fun X hK F H σ E D hD =>
  k X hK F H σ (E.retell Le.rfl' E.le (fun _ _ _ _ => rfl) hi fun S hS q => ⟨S, h X F H _ S hK q, fun a sa => ⟨sa, (hS a sa).1⟩, fun _ z => absurd rfl z⟩) D hD
theorem sj_open (i : Nat) {v : V} {PL : List Int → Prop} (hi : Γ[i]? = some (.ex v (OwnL K PL))) (k : ∀ l ns, v = .ref l → PL ns → SJ K (Γ.set i (.ml false l (ns.map PyData.int))) ts P) : SJ K Γ ts P := fun X hK F H σ E D hD => by
  obtain ⟨S, hs, _, _⟩ := id E.sl
  obtain ⟨e, _, l, ns, rfl, hS, hl, hp⟩ := hs i _ hi
  refine k l ns rfl hp X hK F H σ (E.retell Le.rfl' E.le (fun _ _ _ _ => rfl) hi fun S hS q => ⟨S, ?_, fun a sa => ⟨sa, (hS a sa).1⟩, fun _ z => absurd rfl z⟩) D hD
  obtain ⟨e', _, l', ns', er, hS', hl', hp'⟩ := q
  cases er
  rw [hl] at hl'
  have : ns.map V.int = ns'.map V.int := by injection hl' with z; injection z
  exact ⟨ns.map V.int, e, hS', hl, ints_rp ns, fun z => nomatch z⟩
theorem ints_eq {F : Hp} {xs : List V} {ns : List Int} (r : RpA K F xs (ns.map PyData.int)) : xs = ns.map V.int := ints_of r
theorem sj_close (i : Nat) {m : Bool} {l : Addr} {ns : List Int} (PL : List Int → Prop) (hi : Γ[i]? = some (.ml m l (ns.map PyData.int))) (hp : PL ns) (k : SJ K (Γ.set i (.ex (.ref l) (OwnL K PL))) ts P) : SJ K Γ ts P :=
  sj_retell hi (fun X F H ov S hK q => by
    obtain ⟨xs, e, hS, hl, r, _⟩ := q
    rw [ints_of r] at hl
    exact ⟨e, hK.symm, l, ns, rfl, hS, hl, hp⟩) k
end
/-! ### the script -/
def ScriptO (K : PySem.W.Frag) (ns : List Int) : Own where
  K := K
  p := fun _ H v S => ∃ a : Addr, v = .ref a ∧ SqL K H a (ns.map V.int) ∧ ((∀ b, S b ↔ b = a) ∨ (∀ H', SqL K H' a (ns.map V.int)) ∧ ∀ b, ¬ S b)
  vw := none
  keep := fun {F F' H H' v S} ⟨a, e, h, c⟩ _ k => by
    refine ⟨a, e, ?_, c⟩
    rcases c with c | ⟨c, _⟩
    · have z := k a ((c a).mpr rfl)
      rcases h with (h | ⟨o, h⟩) | h
      · exact .inl (.inl (z.trans h))
      · exact .inl (.inr ⟨o, z.trans h⟩)
      · exact .inr h
    · exact c H'
  keepT := fun _ {F F' H H' v S} ⟨a, e, h, c⟩ _ k => by
    refine ⟨a, e, ?_, c⟩
    rcases c with c | ⟨c, _⟩
    · have z := k a ((c a).mpr rfl)
      rcases h with (h | ⟨o, h⟩) | h
      · exact .inl (.inl (z.trans h))
      · exact .inl (.inr ⟨o, z.trans h⟩)
      · exact .inr h
    · exact c H'
  view := fun _ _ e => nomatch e
section
variable {K : PySem.W.Frag} {m : Bool} {Γ : List Sl} {Q : PyData → Prop} {ta : TE}
theorem En.script {X : Bs} {F H : Hp} {σ : L2.St} (E : En X F H σ Γ) {i : Nat} {v : V} {ns : List Int} (hi : Γ[i]? = some (.ex v (ScriptO K ns))) : ∃ a, v = .ref a ∧ SqL K H a (ns.map V.int) := by
  obtain ⟨S, hs, _, _⟩ := E.sl
  obtain ⟨_, _, a, e, h, _⟩ := hs i _ hi
  exact ⟨a, e, h⟩
theorem wd_lenScript {i : Nat} {v : V} {ns : List Int} (hi : Γ[i]? = some (.ex v (ScriptO K ns))) (q : Q (.int ns.length)) : WD K m Γ (tCB (dLen K) (tCons (tVar i) tNil)) Q := fun X hK F H σ E C k => by
  obtain ⟨a, e, h⟩ := E.script hi
  subst e
  refine ⟨_, E.ex hi, _, ns.length, rfl, .inl ⟨_, h, by simp⟩, k _ F H _ Le.rfl' E (.int _) q⟩
theorem wd_ixScript {i : Nat} {v : V} {ns : List Int} (hi : Γ[i]? = some (.ex v (ScriptO K ns))) (h : WD K false Γ ta fun d => ∃ (n : Int) (c : Int), d = .int n ∧ atI ns n = some c ∧ Q (.int c)) : WD K m Γ (tOp (rIx K) (tVar i) ta) Q := fun X hK F H σ E C k => by
  refine ⟨v, E.ex hi, h X hK F H σ E _ fun u F1 H1 x l1 E1 r1 ⟨n, c, en, hc, q⟩ => ?_⟩
  subst en
  cases r1
  obtain ⟨a, e, hq⟩ := E1.script hi
  subst e
  refine .inl ⟨a, _, n, .int c, rfl, rfl, hq, ?_, k _ F1 H1 _ l1 E1 (.int _) q⟩
  unfold atI at hc ⊢
  rw [List.length_map]
  cases hx : ixN ns.length n with
  | none => rw [hx] at hc; cases hc
  | some j =>
    rw [hx] at hc
    simp only [Option.bind_some] at hc ⊢
    rw [List.getElem?_map, hc]
    rfl
end
end Pk
end
section
set_option Elab.async false
set_option linter.all false
set_option maxRecDepth 100000
/-! The data layer, part 7: comprehensions by what each item gives; items of written lists. -/
namespace Pk
open PySem PySem.Spec PyProof.Rows L2
section
variable {K : PySem.W.Frag} {m mi : Bool} {Γ : List Sl} {Q : PyData → Prop} {QX : Sl → Prop} {ta tb te : TE} {wi : TI} {g : TG} {tt : TT} {vs : List Nat}
theorem WI.mono {QI QI' : List PyData → Prop} (h : WI K m Γ wi QI) (k : ∀ ds, QI ds → QI' ds) : WI K m Γ wi QI' := fun X hK F H σ E C c => h X hK F H σ E C fun J F' H' G Y ds l E' w a b q => c J F' H' G Y ds l E' w a b (k ds q)
theorem GJ.mono {N N' : List Sl → Prop} {d : PyData} (h : GJ K m Γ g d N) (k : ∀ Γ, N Γ → N' Γ) : GJ K m Γ g d N' := fun X hK F H σ E v r C c => h X hK F H σ E v r C fun F' H' σ' Γ' l E' q => c F' H' σ' Γ' l E' (k Γ' q)
/-- each item gives what R tells -/
theorem wx_lcF (m : Bool) (R : Nat → PyData → PyData → Prop) (hv : wipeOk Γ vs) (hgw : Gw g vs)
    (h : WI K mi Γ wi fun ds => ds.length ≤ 100000 ∧ (∀ (i : Nat) (d : PyData), ds[i]? = some d → GJ K mi (wipeG Γ vs) g d fun Γ2 => wipeG Γ2 vs = wipeG Γ vs ∧ WD K m Γ2 te (R i d)) ∧
      ∀ acc, acc.length = ds.length → (∀ (i : Nat) (d y : PyData), ds[i]? = some d → acc[i]? = some y → R i d y) → ∀ l, QX (.ml m l acc)) : WX K Γ (tLc wi g tYes te vs) QX :=
  wx_lc m hv hgw (h.mono fun ds ⟨hz, hs, he⟩ => ⟨fun n acc => acc.length = n ∧ ∀ (i : Nat) (d y : PyData), ds[i]? = some d → acc[i]? = some y → R i d y, hz, ⟨rfl, fun i d y _ e => by simp at e⟩,
    fun i d acc hd _ ⟨hl, ha⟩ => (hs i d hd).mono fun Γ2 ⟨e, w⟩ => ⟨e, wt_yes (by
      rw [if_pos rfl]
      refine w.mono fun y hy => ⟨by simp [hl], fun j d' y' h1 h2 => ?_⟩
      by_cases hj : j < acc.length
      · rw [List.getElem?_append_left hj] at h2
        exact ha j d' y' h1 h2
      · have hj2 : j < (acc ++ [y]).length := (List.getElem?_eq_some_iff.mp h2).1
        simp at hj2
        have hji : j = i := by omega
        subst hji
        rw [← hl] at h2
        simp at h2
        subst h2
        rw [hd] at h1
        cases h1
        exact hy)⟩,
    fun acc _ ⟨hl, ha⟩ l => he acc hl ha l⟩)
/-- each item gives f of it -/
theorem wx_lcM (m : Bool) (f : PyData → PyData) (hv : wipeOk Γ vs) (hgw : Gw g vs)
    (h : WI K mi Γ wi fun ds => ds.length ≤ 100000 ∧ (∀ (i : Nat) (d : PyData), ds[i]? = some d → GJ K mi (wipeG Γ vs) g d fun Γ2 => wipeG Γ2 vs = wipeG Γ vs ∧ WD K m Γ2 te fun y => y = f d) ∧ ∀ l, QX (.ml m l (ds.map f))) : WX K Γ (tLc wi g tYes te vs) QX :=
  wx_lcF m (fun _ d y => y = f d) hv hgw (h.mono fun ds ⟨hz, hs, he⟩ => ⟨hz, hs, fun acc hl ha l => by
    have : acc = ds.map f := by
      apply List.ext_getElem?
      intro i
      by_cases hi : i < ds.length
      · have h1 : ds[i]? = some ds[i] := List.getElem?_eq_getElem hi
        have h2 : acc[i]? = some (acc[i]'(by omega)) := List.getElem?_eq_getElem (by omega)
        rw [h2, List.getElem?_map, h1, ha i _ _ h1 h2]
        rfl
      · rw [List.getElem?_eq_none (by omega), List.getElem?_eq_none (by simp; omega)]
    rw [this]
    exact he l⟩)
/-- those that p keeps, f of each -/
theorem wx_lcP (m : Bool) (p : PyData → Bool) (f : PyData → PyData) (hv : wipeOk Γ vs) (hgw : Gw g vs)
    (h : WI K mi Γ wi fun ds => ds.length ≤ 100000 ∧ (∀ (i : Nat) (d : PyData), ds[i]? = some d → GJ K mi (wipeG Γ vs) g d fun Γ2 => wipeG Γ2 vs = wipeG Γ vs ∧ WT K Γ2 tt fun b => b = p d ∧ (b = true → WD K m Γ2 te fun y => y = f d)) ∧ ∀ l, QX (.ml m l ((ds.filter p).map f))) : WX K Γ (tLc wi g tt te vs) QX :=
  wx_lc m hv hgw (h.mono fun ds ⟨hz, hs, he⟩ => ⟨fun n acc => acc = ((ds.take n).filter p).map f, hz, by simp,
    fun i d acc hd _ ha => (hs i d hd).mono fun Γ2 ⟨e, w⟩ => ⟨e, w.mono fun b ⟨hb, hw⟩ => by
      have ht : ds.take (i + 1) = ds.take i ++ [d] := by rw [List.take_add_one, hd]; rfl
      cases hp : b with
      | true =>
        rw [if_pos rfl]
        refine (hw hp).mono fun y hy => ?_
        show acc ++ [y] = ((ds.take (i + 1)).filter p).map f
        have ha : acc = ((ds.take i).filter p).map f := ha
        rw [ht, List.filter_append, List.map_append, ha, hy]
        rw [hb] at hp
        simp [hp]
      | false =>
        rw [if_neg Bool.false_ne_true]
        show acc = ((ds.take (i + 1)).filter p).map f
        have ha : acc = ((ds.take i).filter p).map f := ha
        rw [ht, List.filter_append, List.map_append, ha]
        rw [hb] at hp
        simp [hp]⟩,
    fun acc _ ha l => by
      have ha : acc = ((ds.take ds.length).filter p).map f := ha
      rw [ha, List.take_length]
      exact he l⟩)
/-- .. of typed items -/
theorem wx_lcPa {α : Type} (m : Bool) (enc : α → PyData) (p : α → Bool) (f : α → PyData) (hv : wipeOk Γ vs) (hgw : Gw g vs)
    (h : WI K mi Γ wi fun ds => ∃ xs : List α, ds = xs.map enc ∧ xs.length ≤ 100000 ∧ (∀ (i : Nat) (x : α), xs[i]? = some x → GJ K mi (wipeG Γ vs) g (enc x) fun Γ2 => wipeG Γ2 vs = wipeG Γ vs ∧ WT K Γ2 tt fun b => b = p x ∧ (b = true → WD K m Γ2 te fun y => y = f x)) ∧ ∀ l, QX (.ml m l ((xs.filter p).map f))) : WX K Γ (tLc wi g tt te vs) QX :=
  wx_lc m hv hgw (h.mono fun ds ⟨xs, ed, hz, hs, he⟩ => by
    subst ed
    refine ⟨fun n acc => acc = ((xs.take n).filter p).map f, by simpa using hz, by simp, fun i d acc hd _ ha => ?_, fun acc _ ha l => ?_⟩
    · rw [List.getElem?_map] at hd
      cases hx : xs[i]? with
      | none => rw [hx] at hd; cases hd
      | some x =>
        rw [hx] at hd
        cases hd
        have ha : acc = ((xs.take i).filter p).map f := ha
        refine (hs i x hx).mono fun Γ2 ⟨e, w⟩ => ⟨e, w.mono fun b ⟨hb, hw⟩ => ?_⟩
        have ht : xs.take (i + 1) = xs.take i ++ [x] := by rw [List.take_add_one, hx]; rfl
        cases hp : b with
        | true =>
          rw [if_pos rfl]
          refine (hw hp).mono fun y hy => ?_
          show acc ++ [y] = ((xs.take (i + 1)).filter p).map f
          rw [ht, List.filter_append, List.map_append, ha, hy]
          rw [hb] at hp
          simp [hp]
        | false =>
          rw [if_neg Bool.false_ne_true]
          show acc = ((xs.take (i + 1)).filter p).map f
          rw [ht, List.filter_append, List.map_append, ha]
          rw [hb] at hp
          simp [hp]
    · have ha : acc = ((xs.take (xs.map enc).length).filter p).map f := ha
      rw [ha, List.length_map, List.take_length]
      exact he l)
theorem wx_lcMa {α : Type} (m : Bool) (enc : α → PyData) (f : α → PyData) (hv : wipeOk Γ vs) (hgw : Gw g vs)
    (h : WI K mi Γ wi fun ds => ∃ xs : List α, ds = xs.map enc ∧ xs.length ≤ 100000 ∧ (∀ (i : Nat) (x : α), xs[i]? = some x → GJ K mi (wipeG Γ vs) g (enc x) fun Γ2 => wipeG Γ2 vs = wipeG Γ vs ∧ WD K m Γ2 te fun y => y = f x) ∧ ∀ l, QX (.ml m l (xs.map f))) : WX K Γ (tLc wi g tYes te vs) QX :=
  wx_lcPa m enc (fun _ => true) f hv hgw (h.mono fun ds ⟨xs, ed, hz, hs, he⟩ => ⟨xs, ed, hz, fun i x hx => (hs i x hx).mono fun Γ2 ⟨e, w⟩ => ⟨e, wt_yes ⟨rfl, fun _ => w⟩⟩, fun l => by
    have : xs.filter (fun _ => true) = xs := by simp
    rw [this]
    exact he l⟩)
theorem wd_lcPa {α : Type} (enc : α → PyData) (p : α → Bool) (f : α → PyData) (hv : wipeOk Γ vs) (hgw : Gw g vs)
    (h : WI K mi Γ wi fun ds => ∃ xs : List α, ds = xs.map enc ∧ xs.length ≤ 100000 ∧ (∀ (i : Nat) (x : α), xs[i]? = some x → GJ K mi (wipeG Γ vs) g (enc x) fun Γ2 => wipeG Γ2 vs = wipeG Γ vs ∧ WT K Γ2 tt fun b => b = p x ∧ (b = true → WD K m Γ2 te fun y => y = f x)) ∧ Q (.list ((xs.filter p).map f))) : WD K m Γ (tLc wi g tt te vs) Q :=
  .ofX (wx_lcPa m enc p f hv hgw (h.mono fun ds ⟨xs, ed, hz, hs, q⟩ => ⟨xs, ed, hz, hs, fun l => ⟨_, toD_ml, q⟩⟩))
theorem wd_lcMa {α : Type} (enc : α → PyData) (f : α → PyData) (hv : wipeOk Γ vs) (hgw : Gw g vs)
    (h : WI K mi Γ wi fun ds => ∃ xs : List α, ds = xs.map enc ∧ xs.length ≤ 100000 ∧ (∀ (i : Nat) (x : α), xs[i]? = some x → GJ K mi (wipeG Γ vs) g (enc x) fun Γ2 => wipeG Γ2 vs = wipeG Γ vs ∧ WD K m Γ2 te fun y => y = f x) ∧ Q (.list (xs.map f))) : WD K m Γ (tLc wi g tYes te vs) Q :=
  .ofX (wx_lcMa m enc f hv hgw (h.mono fun ds ⟨xs, ed, hz, hs, q⟩ => ⟨xs, ed, hz, hs, fun l => ⟨_, toD_ml, q⟩⟩))
theorem wd_lcF (R : Nat → PyData → PyData → Prop) (hv : wipeOk Γ vs) (hgw : Gw g vs)
    (h : WI K mi Γ wi fun ds => ds.length ≤ 100000 ∧ (∀ (i : Nat) (d : PyData), ds[i]? = some d → GJ K mi (wipeG Γ vs) g d fun Γ2 => wipeG Γ2 vs = wipeG Γ vs ∧ WD K m Γ2 te (R i d)) ∧
      ∀ acc, acc.length = ds.length → (∀ (i : Nat) (d y : PyData), ds[i]? = some d → acc[i]? = some y → R i d y) → Q (.list acc)) : WD K m Γ (tLc wi g tYes te vs) Q :=
  .ofX (wx_lcF m R hv hgw (h.mono fun ds ⟨hz, hs, q⟩ => ⟨hz, hs, fun acc a b l => ⟨_, toD_ml, q acc a b⟩⟩))
/-- an item of a list at a drawn place -/
theorem rd_sel {ds : List PyData} {n : Int} (h0 : 0 ≤ n) (h1 : n < ds.length) (q : ∀ d ∈ ds, Q d) : RD K m Γ (rIx K) (.list ds) (.int n) Q := by
  have hl : n.toNat < ds.length := by omega
  exact rd_ixL (d := ds[n.toNat]) (atI_of (n := n.toNat) (by omega) (by simp [hl])) (q _ (List.getElem_mem hl))
theorem rd_selN {ds : List PyData} {n : Int} (j : Nat) (e : n = j) {d : PyData} (h : ds[j]? = some d) (q : Q d) : RD K m Γ (rIx K) (.list ds) (.int n) Q := rd_ixL (atI_of e h) q
theorem gwn {i : Nat} : Gw (gName i) [i] := gw_name (by simp)
/-- over range, the slot's own name -/
theorem wi_rng {mi : Bool} {ta : TE} {QI : List PyData → Prop} (h : WD K false Γ ta fun d => ∃ j : Int, d = .int j ∧ (-(2 ^ 62) ≤ j ∧ j < 2 ^ 62) ∧ QI (rangeD 0 j.toNat)) : WI K mi Γ (iRng1 (tCons ta tNil)) QI := wi_rng1 (wa_d (h.mono fun d ⟨j, e, hj, q⟩ => wa_nil ⟨j, by rw [e], hj, q⟩))
end
end Pk
end
section
set_option Elab.async false
set_option linter.all false
set_option maxRecDepth 100000
/-! The data layer, part 8: a told list of pairs, each with a list of its own. -/
namespace Pk
open PySem PySem.Spec PyProof.Rows L2
abbrev Prs := List (List PyData × PyData)
def pairsD (rs : Prs) : List PyData := rs.map fun r => .tuple [.list r.1, r.2]
def LfP (rs : Prs) : Prop := ∀ r ∈ rs, lfA r.1 = true ∧ lf r.2 = true
/-- the i-th: a tuple at t of the list at c and w -/
def PairAt (K : PySem.W.Frag) (F H : Hp) (r : List PyData × PyData) (t c : Addr) : Prop := ∃ w xs, SqT K F t [.ref c, w] ∧ Rp K F w r.2 ∧ H c = some (.lst xs) ∧ RpA K F xs r.1
def PairsP (K : PySem.W.Frag) (rs : Prs) (F H : Hp) (v : V) (S : Addr → Prop) : Prop := ∃ (l : Addr) (ts cs : List Addr), v = .ref l ∧ H l = some (.lst (ts.map V.ref)) ∧ ts.length = rs.length ∧ cs.length = rs.length ∧ (l :: cs).Nodup ∧ (∀ a, S a ↔ a = l ∨ a ∈ cs) ∧ LfP rs ∧
  ∀ (i : Nat) r t c, rs[i]? = some r → ts[i]? = some t → cs[i]? = some c → PairAt K F H r t c
theorem lay_tup {K : PySem.W.Frag} {F H : Hp} {S : Addr → Prop} (le : Le F H) (hS : ∀ a, S a → ∃ xs, H a = some (.lst xs)) : TupLe K F (lay S H F) := fun a xs h => by
  rcases h with (h | ⟨o, h⟩) | h
  · refine .inl (.inl ?_)
    unfold lay
    rw [if_neg]
    · exact h
    · intro sa
      obtain ⟨ys, q⟩ := hS a sa
      rw [le _ _ h] at q; cases q
  · refine .inl (.inr ⟨o, ?_⟩)
    unfold lay
    rw [if_neg]
    · exact h
    · intro sa
      obtain ⟨ys, q⟩ := hS a sa
      rw [le _ _ h] at q; cases q
  · exact .inr h
theorem lay_at {F H : Hp} {S : Addr → Prop} {a : Addr} (h : S a) : lay S H F a = H a := by unfold lay; rw [if_pos h]
theorem rpA_of {K : PySem.W.Frag} {F : Hp} : ∀ {xs : List V} {ds : List PyData}, xs.length = ds.length → (∀ (i : Nat) x d, xs[i]? = some x → ds[i]? = some d → Rp K F x d) → RpA K F xs ds
  | [], [], _, _ => .nil
  | [], _ :: _, h, _ => by simp at h
  | _ :: _, [], h, _ => by simp at h
  | x :: xs, d :: ds, h, k => .cons (k 0 x d rfl rfl) (rpA_of (by simpa using h) fun i y e h1 h2 => k (i + 1) y e (by simpa using h1) (by simpa using h2))
def PairsO (K : PySem.W.Frag) (rs : Prs) : Own where
  K := K
  p := PairsP K rs
  vw := some (.list (pairsD rs))
  keep := fun {F F' H H' v S} ⟨l, ts, cs, e, hl, h1, h2, nd, hS, hf, hp⟩ le k => by
    have tl : TupLe K F F' := le.tup
    refine ⟨l, ts, cs, e, (k l ((hS l).mpr (.inl rfl))).trans hl, h1, h2, nd, hS, hf, fun i r t c a b d => ?_⟩
    obtain ⟨w, xs, q1, q2, q3, q4⟩ := hp i r t c a b d
    have hm : r ∈ rs := List.mem_of_getElem? a
    exact ⟨w, xs, tl _ _ q1, Rp.lfree tl _ (hf r hm).2 q2, (k c ((hS c).mpr (.inr (List.mem_of_getElem? d)))).trans q3, RpA.lfree tl _ (hf r hm).1 q4⟩
  keepT := fun e => nomatch e
  view := fun {F H v S d} le ⟨l, ts, cs, e, hl, h1, h2, nd, hS, hf, hp⟩ ed => by
    cases ed
    have hL : ∀ a, S a → ∃ xs, H a = some (.lst xs) := fun a sa => by
      rcases (hS a).mp sa with z | z
      · subst z; exact ⟨_, hl⟩
      · obtain ⟨i, hi⟩ := List.getElem?_of_mem z
        have hil : i < cs.length := (List.getElem?_eq_some_iff.mp hi).1
        obtain ⟨w, xs, _, _, q3, _⟩ := hp i rs[i] ts[i] a (by simp [show i < rs.length by omega]) (by simp [show i < ts.length by omega]) hi
        exact ⟨xs, q3⟩
    refine ⟨?_, hL⟩
    subst e
    have tl := lay_tup (K := K) le hL
    refine .lst (by rw [lay_at ((hS l).mpr (.inl rfl))]; exact hl) (rpA_of (by simp [pairsD, h1]) fun i x d hx hd => ?_)
    rw [List.getElem?_map] at hx
    unfold pairsD at hd
    rw [List.getElem?_map] at hd
    cases ht : ts[i]? with
    | none => rw [ht] at hx; cases hx
    | some t =>
      rw [ht] at hx
      cases hx
      cases hr : rs[i]? with
      | none => rw [hr] at hd; cases hd
      | some r =>
        rw [hr] at hd
        cases hd
        have hil : i < rs.length := (List.getElem?_eq_some_iff.mp hr).1
        have hc : cs[i]? = some cs[i] := by simp [show i < cs.length by omega]
        obtain ⟨w, xs, q1, q2, q3, q4⟩ := hp i r t _ hr ht hc
        have hm : r ∈ rs := List.mem_of_getElem? hr
        exact .tup (tl _ _ q1) (.cons (.lst (by rw [lay_at ((hS _).mpr (.inr (List.mem_of_getElem? hc)))]; exact q3) (RpA.lfree tl _ (hf r hm).1 q4)) (.cons (Rp.lfree tl _ (hf r hm).2 q2) .nil))
/-- the slots of others' things alone -/
def Sl.exo : Sl → Sl
  | .ex v Φ => match Φ.vw with
    | none => .ex v Φ
    | some _ => .no
  | _ => .no
section
variable {K : PySem.W.Frag} {Γ : List Sl} {P : Po}
open Classical in
/-- return of such a list, all of it new; lists that are unlike are not one -/
theorem sjt_retPairs {i : Nat} {l : Addr} {rs : Prs} (hi : Γ[i]? = some (.ml true l (pairsD rs))) (hf : LfP rs) (hI : ∀ r ∈ rs, ∃ ns : List Int, r.1 = ns.map PyData.int) (nd : (rs.map Prod.fst).Nodup) (h : P.rt (.ex (.ref l) (PairsO K rs)) (Γ.map Sl.exo)) : SJt K Γ (tRet (tVar i)) P := fun X hK hT F H σ E D hD => by
  subst hK
  obtain ⟨xs, ev, hl, fl, rx⟩ := E.ml hi
  obtain ⟨S, hs, hdj, ho⟩ := id E.sl
  obtain ⟨_, _, hSi, _, _, nl⟩ := hs i _ hi
  refine ⟨_, ev, ?_⟩
  have hlen : xs.length = rs.length := by rw [rx.length]; simp [pairsD]
  -- each item
  have item : ∀ (j : Nat), j < rs.length → ∃ t c, xs[j]? = some (.ref t) ∧ ∃ w ys, SqT X.K (cutN X.N F) t [.ref c, w] ∧ Rp X.K (cutN X.N F) w (rs[j]?.getD ([], .none)).2 ∧ cutN X.N F c = some (.lst ys) ∧ RpA X.K (cutN X.N F) ys (rs[j]?.getD ([], .none)).1 := fun j hj => by
    have hd : (pairsD rs)[j]? = some (.tuple [.list rs[j].1, rs[j].2]) := by simp [pairsD, hj]
    obtain ⟨x, hx, r⟩ := rx.get hd
    cases r with
    | tup ht ra =>
      cases ra with
      | cons r1 rr =>
        cases rr with
        | cons r2 rn =>
          cases rn
          cases r1 with
          | lst hc ry =>
            refine ⟨_, _, hx, _, _, ht, ?_, hc, ?_⟩
            · simp only [List.getElem?_eq_getElem hj, Option.getD_some]; exact r2
            · simp only [List.getElem?_eq_getElem hj, Option.getD_some]; exact ry
  let tf : Nat → Addr := fun j => if hj : j < rs.length then (item j hj).choose else 0
  let cf : Nat → Addr := fun j => if hj : j < rs.length then (item j hj).choose_spec.choose else 0
  have hit : ∀ (j : Nat), j < rs.length → xs[j]? = some (.ref (tf j)) ∧ ∃ w ys, SqT X.K (cutN X.N F) (tf j) [.ref (cf j), w] ∧ Rp X.K (cutN X.N F) w (rs[j]?.getD ([], .none)).2 ∧ cutN X.N F (cf j) = some (.lst ys) ∧ RpA X.K (cutN X.N F) ys (rs[j]?.getD ([], .none)).1 := fun j hj => by
    have e1 : tf j = (item j hj).choose := by simp [tf, hj]
    have e2 : cf j = (item j hj).choose_spec.choose := by simp [cf, hj]
    rw [e1, e2]
    exact (item j hj).choose_spec.choose_spec
  let ts := (List.range rs.length).map tf
  let cs := (List.range rs.length).map cf
  have hxs : xs = ts.map V.ref := by
    apply List.ext_getElem?
    intro j
    by_cases hj : j < rs.length
    · rw [(hit j hj).1]; simp [ts, hj]
    · rw [List.getElem?_eq_none (by omega), List.getElem?_eq_none (by simp [ts]; omega)]
  have hcs : ∀ a, a ∈ cs → ∃ j, j < rs.length ∧ a = cf j := fun a ha => by
    obtain ⟨j, hj, e⟩ := List.mem_map.mp ha
    exact ⟨j, List.mem_range.mp hj, e.symm⟩
  have hcF : ∀ a, a ∈ cs → ¬ X.N a ∧ ∃ ys, F a = some (.lst ys) := fun a ha => by
    obtain ⟨j, hj, e⟩ := hcs a ha
    obtain ⟨_, w, ys, _, _, hc, _⟩ := hit j hj
    subst e
    exact ⟨(cutN_lst hc).1, ys, (cutN_lst hc).2⟩
  have lnc : l ∉ cs := fun hm => by
    obtain ⟨_, ys, q⟩ := hcF l hm
    rw [fl] at q; cases q
  have cnd : cs.Nodup := by
    refine List.pairwise_iff_getElem.mpr ?_
    intro a b ha hb hab heq
    simp only [cs, List.length_map, List.length_range] at ha hb
    simp only [cs, List.getElem_map, List.getElem_range] at heq
    obtain ⟨_, w1, ys1, _, _, c1, r1⟩ := hit a ha
    obtain ⟨_, w2, ys2, _, _, c2, r2⟩ := hit b hb
    rw [heq, c2] at c1
    have ey : ys2 = ys1 := by injection c1 with z; injection z
    subst ey
    -- the same list stands for both
    have same : (rs[a]?.getD ([], .none)).1 = (rs[b]?.getD ([], .none)).1 := by
      obtain ⟨n1, u1⟩ := hI _ (List.getElem_mem ha)
      obtain ⟨n2, u2⟩ := hI _ (List.getElem_mem hb)
      rw [List.getElem?_eq_getElem ha, Option.getD_some] at r1 ⊢
      rw [List.getElem?_eq_getElem hb, Option.getD_some] at r2 ⊢
      rw [u1] at r1 ⊢
      rw [u2] at r2 ⊢
      have e1 := ints_of r1
      have e2 := ints_of r2
      have : n1 = n2 := List.map_inj_right (fun x y z => V.int.inj z) |>.mp (e1.symm.trans e2)
      rw [this]
    rw [List.getElem?_eq_getElem ha, List.getElem?_eq_getElem hb, Option.getD_some, Option.getD_some] at same
    have h3 : (rs.map Prod.fst)[a]'(by simpa using ha) = (rs.map Prod.fst)[b]'(by simpa using hb) := by simpa using same
    have := (List.getElem_inj nd).mp h3
    omega
  let SS : Addr → Prop := fun a => a = l ∨ a ∈ cs
  let F' : Hp := fun a => if SS a then none else F a
  have fN : ∀ {a}, ¬ SS a → F' a = F a := fun h => if_neg h
  have fY : ∀ {a}, SS a → F' a = none := fun h => if_pos h
  have le' : Le F' F := fun a o q => by
    by_cases h : SS a
    · rw [fY h] at q; cases q
    · rw [fN h] at q; exact q
  have notN : ∀ a, SS a → ¬ X.N a := fun a sa => by
    rcases sa with z | z
    · subst z; exact nl rfl
    · exact (hcF a z).1
  have h0 : ∀ a, SS a → X.H0 a = none := fun a sa => by
    cases q : X.H0 a with
    | none => rfl
    | some o => exact absurd ((hT.1 a).mpr (by rw [q]; simp)) (notN a sa)
  have tl : TupLe X.K F F' := fun a ys z => by
    have nS : ∀ {o : HO}, F a = some o → (∀ zs, o ≠ .lst zs) → ¬ SS a := fun {o} q no sa => by
      rcases sa with z | z
      · subst z; rw [fl] at q; cases q
      · obtain ⟨_, ws, q2⟩ := hcF a z
        rw [q] at q2; cases q2; exact no _ rfl
    rcases z with (z | ⟨o, z⟩) | z
    · exact .inl (.inl (by rw [fN (nS z fun _ w => nomatch w)]; exact z))
    · exact .inl (.inr ⟨o, by rw [fN (nS z fun _ w => nomatch w)]; exact z⟩)
    · exact .inr z
  have tl2 : TupLe X.K (cutN X.N F) F' := fun a ys z => tl a ys (sqT_le (cutN_le X.N F) z)
  refine hD.rt F' H σ (Γ.map Sl.exo) (.ref l) (.ex (.ref l) (PairsO X.K rs)) ⟨le'.tr E.le, by simp [E.len], ⟨fun j a => (j < Γ.length ∧ (∃ v Φ, Γ[j]? = some (.ex v Φ) ∧ Φ.vw = none) ∧ S j a) ∨ (j = Γ.length ∧ SS a), fun j u e => ?_, fun j k a q1 q2 => ?_, fun j a q => ?_⟩, fun a o e n => ?_, fun a o q => ?_, E.nn⟩ h
  · have hj : j < (Γ.map Sl.exo ++ [Sl.ex (.ref l) (PairsO X.K rs)]).length := (List.getElem?_eq_some_iff.mp e).1
    simp only [List.length_append, List.length_map, List.length_cons, List.length_nil] at hj
    by_cases hlt : j < Γ.length
    · rw [List.getElem?_append_left (by simpa using hlt), List.getElem?_map, List.getElem?_eq_getElem hlt] at e
      rw [getD_app (by rw [E.len]; exact hlt)]
      have hg : Γ[j]? = some Γ[j] := List.getElem?_eq_getElem hlt
      simp only [Option.map_some, Option.some.injEq] at e
      subst e
      cases hu : Γ[j] with
      | ex v Φ =>
        rw [hu] at hg
        cases hv : Φ.vw with
        | some dv =>
          simp only [Sl.exo, hv]
          intro a z
          rcases z with ⟨_, ⟨v', Φ', z, hz⟩, _⟩ | ⟨z, _⟩
          · rw [hg] at z
            cases z
            rw [hv] at hz
            cases hz
          · omega
        | none =>
        simp only [Sl.exo, hv]
        obtain ⟨e0, hk, p⟩ := hs j _ hg
        have eS : (fun a => (j < Γ.length ∧ (∃ v Φ, Γ[j]? = some (.ex v Φ) ∧ Φ.vw = none) ∧ S j a) ∨ (j = Γ.length ∧ SS a)) = S j := by
          funext a
          apply propext
          constructor
          · rintro (⟨_, _, z⟩ | ⟨z, _⟩)
            · exact z
            · omega
          · intro z; exact .inl ⟨hlt, ⟨v, Φ, hg, hv⟩, z⟩
        show SlOk X F' H _ (fun a => (j < Γ.length ∧ (∃ v Φ, Γ[j]? = some (.ex v Φ) ∧ Φ.vw = none) ∧ S j a) ∨ (j = Γ.length ∧ SS a)) (.ex v Φ)
        rw [eS]
        exact ⟨e0, hk, Φ.keepT hv p (by rw [hk]; exact tl) fun _ _ => rfl⟩
      | _ =>
        rw [hu] at hg
        intro a z
        rcases z with ⟨_, ⟨v, Φ, z, _⟩, _⟩ | ⟨z, _⟩
        · rw [hg] at z; cases z
        · omega
    · have hje : j = Γ.length := by omega
      subst hje
      have e' : (Γ.map Sl.exo ++ [Sl.ex (.ref l) (PairsO X.K rs)])[Γ.length]? = some (.ex (.ref l) (PairsO X.K rs)) := by
        have : Γ.length = (Γ.map Sl.exo).length := by simp
        rw [this]; simp
      rw [e'] at e
      cases e
      have eS : (fun a => (Γ.length < Γ.length ∧ (∃ v Φ, Γ[Γ.length]? = some (.ex v Φ) ∧ Φ.vw = none) ∧ S Γ.length a) ∨ (Γ.length = Γ.length ∧ SS a)) = SS := by
        funext a
        apply propext
        constructor
        · rintro (⟨z, _⟩ | ⟨_, z⟩)
          · omega
          · exact z
        · intro z; exact .inr ⟨rfl, z⟩
      show SlOk X F' H _ (fun a => (Γ.length < Γ.length ∧ (∃ v Φ, Γ[Γ.length]? = some (.ex v Φ) ∧ Φ.vw = none) ∧ S Γ.length a) ∨ (Γ.length = Γ.length ∧ SS a)) _
      rw [eS, ← E.len, getD_last]
      refine ⟨rfl, rfl, l, ts, cs, rfl, by rw [← hxs]; exact hl, by simp [ts], by simp [cs], List.nodup_cons.mpr ⟨lnc, cnd⟩, fun a => Iff.rfl, hf, fun j r t c e1 e2 e3 => ?_⟩
      have hj : j < rs.length := (List.getElem?_eq_some_iff.mp e1).1
      have et : t = tf j := by simpa [ts, hj] using e2.symm
      have ec : c = cf j := by simpa [cs, hj] using e3.symm
      obtain ⟨_, w, ys, q1, q2, q3, q4⟩ := hit j hj
      rw [e1, Option.getD_some] at q2 q4
      subst et ec
      have hm : r ∈ rs := List.mem_of_getElem? e1
      exact ⟨w, ys, tl2 _ _ q1, Rp.lfree tl2 _ (hf r hm).2 q2, E.le _ _ (cutN_le _ _ _ _ q3), RpA.lfree tl2 _ (hf r hm).1 q4⟩
  · have exS : ∀ j a, S j a → (∃ v Φ, Γ[j]? = some (Sl.ex v Φ) ∧ Φ.vw = none) → ¬ SS a := fun j a sa ⟨v, Φ, hg, _⟩ ss => by
      rcases ss with z | z
      · subst z
        have := hdj j i a sa ((hSi a).mpr rfl)
        subst this
        rw [hi] at hg; cases hg
      · obtain ⟨_, ys, q⟩ := hcF a z
        rw [(ho j a sa).1] at q; cases q
    rcases q1 with ⟨a1, b1, c1⟩ | ⟨a1, c1⟩ <;> rcases q2 with ⟨a2, b2, c2⟩ | ⟨a2, c2⟩
    · exact hdj j k a c1 c2
    · exact absurd c2 (exS j a c1 b1)
    · exact absurd c1 (exS k a c2 b2)
    · omega
  · rcases q with ⟨a1, b1, c1⟩ | ⟨a1, c1⟩
    · refine ⟨?_, (ho j a c1).2⟩
      by_cases z : SS a
      · exact fY z
      · rw [fN z]; exact (ho j a c1).1
    · refine ⟨fY c1, ?_, .inl (h0 a c1)⟩
      rcases c1 with z | z
      · subst z; rw [hl]; simp
      · obtain ⟨_, ys, q⟩ := hcF a z
        rw [E.le _ _ q]; simp
  · obtain ⟨q1, q2⟩ := E.fr a o e n
    refine ⟨q1, ?_⟩
    rw [fN fun sa => by rw [h0 a sa] at e; cases e]
    exact q2
  · have q' := E.f0 a o q
    rw [fN]
    · exact q'
    · intro sa
      have := hT.2 a o q
      rw [h0 a sa] at this
      cases this
end
end Pk
end
section
set_option Elab.async false
set_option linter.all false
set_option maxRecDepth 100000
/-! The data layer, part 9: such a list changed by its asker. -/
namespace Pk
open PySem PySem.Spec PyProof.Rows L2
def appP (c : Int) (rs : Prs) : Prs := rs.map fun r => (r.1 ++ [.int c], r.2)
section
variable {K : PySem.W.Frag} {Γ : List Sl} {P : Po}
theorem getD_set_ne {σ : L2.St} {a j : Nat} {o : Option V} (h : j ≠ a) : (σ.set a o).getD j none = σ.getD j none := by simp [List.getD_eq_getElem?_getD, List.getElem?_set_ne (Ne.symm h)]
/-- for choices, end in found: choices.append(c) -/
theorem sj_forApp {i a b : Nat} {v : V} {rs : Prs} {c0 : Int} (hi : Γ[i]? = some (.ex v (PairsO K rs))) (hia : i ≠ a) (hib : i ≠ b) (hab : a ≠ b) (hal : a < Γ.length) (hbl : b < Γ.length) (hz : ∀ r ∈ rs, r.1.length < 100000)
    (h : P.nx (((Γ.set i (.ex v (PairsO K (appP c0 rs)))).set a .no).set b .no)) : SJ K Γ (tFor (iList K (tVar i)) (gTup K 2 (gCons (gName a) (gCons (gName b) gNil))) (tDrop (tBM K "list" rAppend (tVar a) (tCons (tC (.int c0)) tNil)))) P := fun X hK F H σ E D hD => by
  subst hK
  have ev := E.ex hi
  obtain ⟨S, hs, hdj, ho⟩ := id E.sl
  obtain ⟨e0, hk, l, ts, cs, rfl, hl, h1, h2, nd, hS, hf, hp⟩ := hs i _ hi
  have lnc : l ∉ cs := (List.nodup_cons.mp nd).1
  have cnd : cs.Nodup := (List.nodup_cons.mp nd).2
  have fc : ∀ c, c ∈ cs → F c = none := fun c hc => (ho i c ((hS c).mpr (.inr hc))).1
  have pat : ∀ (j : Nat), j < rs.length → ∃ r t c, rs[j]? = some r ∧ ts[j]? = some t ∧ cs[j]? = some c ∧ PairAt X.K F H r t c := fun j hj => by
    refine ⟨rs[j], ts[j]'(by omega), cs[j]'(by omega), by simp [hj], by simp [show j < ts.length by omega], by simp [show j < cs.length by omega], ?_⟩
    exact hp j _ _ _ (by simp [hj]) (by simp [show j < ts.length by omega]) (by simp [show j < cs.length by omega])
  refine ⟨_, ev, l, rfl, ⟨_, SqL.of hl⟩, ?_⟩
  let Pv : Nat → L2.St → Hp → Prop := fun n σ' H' => σ'.length = σ.length ∧ (∀ (j : Nat), j ≠ a → j ≠ b → σ'[j]? = σ[j]?) ∧ (∀ x, x ∉ cs → H' x = H x) ∧ ∀ (j : Nat) c xs, cs[j]? = some c → H c = some (.lst xs) → H' c = some (.lst (if j < n then xs ++ [.int c0] else xs))
  have leP : ∀ {n σ' H'}, Pv n σ' H' → Le F H' := fun {n σ' H'} p x o q => by
    rw [p.2.2.1 x fun hc => by rw [fc x hc] at q; cases q]
    exact E.le x o q
  refine for_it (walk_list (K := X.K) (a := l) (xs := ts.map V.ref)) Pv ⟨rfl, fun _ _ _ => rfl, fun _ _ => rfl, fun j c xs _ q => by simpa using q⟩ (fun n σ' H' _ p => SqL.of (by rw [p.2.2.1 l lnc]; exact hl)) (fun n x σ' H' H3 hn p hy => ?_) (fun σ' H' p => ?_)
  · obtain ⟨rfl, hx⟩ := hy
    rw [List.length_map] at hn
    obtain ⟨r, t, c, hr, ht, hc, w, xs, q1, q2, q3, q4⟩ := pat n (by omega)
    have ex : x = .ref t := by
      rw [List.getElem?_map, ht] at hx
      exact (Option.some.inj hx).symm
    subst ex
    obtain ⟨pl, ps, ph, pc⟩ := id p
    have hcn := pc n c xs hc q3
    rw [if_neg (Nat.lt_irrefl n)] at hcn
    refine ⟨t, [.ref c, w], rfl, sqT_le (leP p) q1, rfl, .ref c, [w], rfl, w, [], rfl, rfl, ?_⟩
    have hrm : r ∈ rs := List.mem_of_getElem? hr
    refine ⟨.ref c, ?_, .inl ⟨rfl, _, SqL.of hcn⟩, c, xs, .int c0, rfl, rfl, hcn, sz_lt (by rw [q4.length]; exact hz r hrm), ?_, ?_, ?_, ?_⟩
    · rw [List.getElem?_set_ne (Ne.symm hab), List.getElem?_set_self (by rw [pl, E.len]; exact hal)]
    · simp [pl]
    · intro j ja jb
      rw [List.getElem?_set_ne (Ne.symm jb), List.getElem?_set_ne (Ne.symm ja)]
      exact ps j ja jb
    · intro x hx'
      rw [upd_ne fun z => hx' (by rw [z]; exact List.mem_of_getElem? hc)]
      exact ph x hx'
    · intro j c' xs' hc' hx'
      by_cases hj : j = n
      · subst hj
        rw [hc] at hc'
        cases hc'
        rw [q3] at hx'
        cases hx'
        rw [upd_same, if_pos (Nat.lt_succ_self _)]
      · have hne : c' ≠ c := fun z => hj (by
          subst z
          exact nd_ix cnd hc' hc)
        rw [upd_ne hne, pc j c' xs' hc' hx']
        by_cases hjn : j < n
        · rw [if_pos hjn, if_pos (by omega)]
        · rw [if_neg hjn, if_neg (by omega)]
  · obtain ⟨pl, ps, ph, pc⟩ := id p
    rw [List.length_map] at pc
    have S_l : ∀ a, S i a → a = l ∨ a ∈ cs := fun a sa => (hS a).mp sa
    have other : ∀ j x, j ≠ i → S j x → H' x = H x := fun j x hj sx => ph x fun hc => hj (hdj j i x sx ((hS x).mpr (.inr hc)))
    have hil : i < Γ.length := (List.getElem?_eq_some_iff.mp hi).1
    have some_ : ∀ x, H x ≠ none → H' x ≠ none := fun x hx => by
      by_cases hc : x ∈ cs
      · obtain ⟨j, hj⟩ := List.getElem?_of_mem hc
        have hjl : j < cs.length := (List.getElem?_eq_some_iff.mp hj).1
        obtain ⟨r, t, c, _, _, hc', w, xs, _, _, q3, _⟩ := pat j (by omega)
        rw [hj] at hc'
        cases hc'
        rw [pc j x xs hj q3]
        simp
      · rw [ph x hc]; exact hx
    refine hD.nx F H' σ' _ ⟨leP p, by simp [pl, E.len], ⟨fun j x => j ≠ a ∧ j ≠ b ∧ S j x, fun j u e => ?_, fun j k x q1 q2 => hdj j k x q1.2.2 q2.2.2, fun j x q => ⟨(ho j x q.2.2).1, some_ x (ho j x q.2.2).2.1, (ho j x q.2.2).2.2⟩⟩, fun x o e n => ?_, E.f0, fun x n => some_ x (E.nn x n)⟩ h
    · by_cases jb : j = b
      · subst jb
        rw [List.getElem?_set_self (by simpa using hbl)] at e
        cases e
        exact fun x z => z.2.1 rfl
      · rw [List.getElem?_set_ne (Ne.symm jb)] at e
        by_cases ja : j = a
        · subst ja
          rw [List.getElem?_set_self (by simpa using hal)] at e
          cases e
          exact fun x z => z.1 rfl
        · rw [List.getElem?_set_ne (Ne.symm ja)] at e
          have eS : (fun x => j ≠ a ∧ j ≠ b ∧ S j x) = S j := by
            funext x
            exact propext ⟨fun z => z.2.2, fun z => ⟨ja, jb, z⟩⟩
          have eσ : σ'.getD j none = σ.getD j none := by simp [List.getD_eq_getElem?_getD, ps j ja jb]
          show SlOk X F H' (σ'.getD j none) (fun x => j ≠ a ∧ j ≠ b ∧ S j x) u
          rw [eS, eσ]
          by_cases ji : j = i
          · subst ji
            rw [List.getElem?_set_self hil] at e
            cases e
            refine ⟨e0, rfl, l, ts, cs, rfl, by rw [ph l lnc]; exact hl, by simp [appP, h1], by simp [appP, h2], nd, hS, fun r hr => ?_, fun n r t c a1 a2 a3 => ?_⟩
            · obtain ⟨r0, hr0, rfl⟩ := List.mem_map.mp hr
              refine ⟨?_, (hf r0 hr0).2⟩
              have := (hf r0 hr0).1
              show lfA (r0.1 ++ [.int c0]) = true
              have lfa : ∀ xs ys : List PyData, lfA (xs ++ ys) = (lfA xs && lfA ys) := fun xs ys => by
                induction xs with
                | nil => simp [lfA]
                | cons x xs ih => simp [lfA, ih, Bool.and_assoc]
              rw [lfa, this]
              rfl
            · unfold appP at a1
              rw [List.getElem?_map] at a1
              cases hr : rs[n]? with
              | none => rw [hr] at a1; cases a1
              | some r0 =>
                rw [hr] at a1
                cases a1
                obtain ⟨w, xs, q1, q2, q3, q4⟩ := hp n r0 t c hr a2 a3
                have hnl : n < ts.length := (List.getElem?_eq_some_iff.mp a2).1
                refine ⟨w, xs ++ [.int c0], q1, q2, ?_, q4.append (RpA.one (.int c0))⟩
                rw [pc n c xs a3 q3, if_pos hnl]
          · rw [List.getElem?_set_ne (Ne.symm ji)] at e
            exact (hs j u e).mono Le.rfl' fun x sx => other j x ji sx
    · obtain ⟨r1, r2⟩ := E.fr x o e n
      refine ⟨?_, r2⟩
      rw [ph x]
      · exact r1
      · intro hc
        rcases (ho i x ((hS x).mpr (.inr hc))).2.2 with w | w
        · rw [w] at e; cases e
        · exact n w
/-- found.clear() of such a list -/
theorem sj_clearP {i : Nat} {v : V} {rs : Prs} (hi : Γ[i]? = some (.ex v (PairsO K rs))) (h : P.nx (Γ.set i .no)) : SJ K Γ (tDrop (tBM0 K "list" rClear (tVar i))) P := fun X hK F H σ E D hD => by
  subst hK
  have ev := E.ex hi
  obtain ⟨S, hs, hdj, ho⟩ := id E.sl
  obtain ⟨e0, hk, l, ts, cs, rfl, hl, h1, h2, nd, hS, hf, hp⟩ := hs i _ hi
  have sl : S i l := (hS l).mpr (.inl rfl)
  have hil : i < Γ.length := (List.getElem?_eq_some_iff.mp hi).1
  have fl : F l = none := (ho i l sl).1
  have some_ : ∀ x, H x ≠ none → upd H l (.lst []) x ≠ none := fun x hx => by
    by_cases z : x = l
    · subst z; rw [upd_same]; simp
    · rw [upd_ne z]; exact hx
  refine ⟨_, ev, .inl ⟨rfl, _, SqL.of hl⟩, l, _, rfl, rfl, hl, hD.nx F _ σ _ ⟨E.le.new fl, by simp [E.len], ⟨fun j x => j ≠ i ∧ S j x, fun j u e => ?_, fun j k x q1 q2 => hdj j k x q1.2 q2.2, fun j x q => ⟨(ho j x q.2).1, some_ x (ho j x q.2).2.1, (ho j x q.2).2.2⟩⟩, fun x o e n => ?_, E.f0, fun x n => some_ x (E.nn x n)⟩ h⟩
  · by_cases ji : j = i
    · subst ji
      rw [List.getElem?_set_self hil] at e
      cases e
      exact fun x z => z.1 rfl
    · rw [List.getElem?_set_ne (Ne.symm ji)] at e
      have eS : (fun x => j ≠ i ∧ S j x) = S j := by
        funext x
        exact propext ⟨fun z => z.2, fun z => ⟨ji, z⟩⟩
      show SlOk X F _ _ (fun x => j ≠ i ∧ S j x) u
      rw [eS]
      exact (hs j u e).mono Le.rfl' fun x sx => upd_ne fun z => ji (by subst z; exact hdj j i x sx sl)
  · obtain ⟨r1, r2⟩ := E.fr x o e n
    refine ⟨?_, r2⟩
    rw [upd_ne]
    · exact r1
    · intro z
      subst z
      rcases (ho i x sl).2.2 with w | w
      · rw [w] at e; cases e
      · exact n w
end
end Pk
end
section
set_option Elab.async false
set_option linter.all false
set_option maxRecDepth 100000
/-! The data layer, part 10: the law itself. -/
namespace Pk
open PySem PySem.Spec PyProof.Rows L2
section
variable {P : Program} {w : World} {K : PySem.W.Frag} {mg : Str → Option Value} {base : Heap}
theorem fnOk_g {x : Str} {st : Stmt} {N ps : List Str} {k : Nat} {f : Addr} {fd : FuncData} {T : List Sl → (Sl → Prop) → Prop} (F : Fun K x x st f fd) (S : FnScope N ps (defScope st)) (hT : ∀ Γ Qr, T Γ Qr → Γ.length = ps.length ∧ NoMl Γ)
    (hb : ∀ (f : Addr) (cdv : Value) (A : Around) (outer : List Env) (s : Shared) (H : Hp) (E : XK), Room k (A.deeper (envOfC x (defScope st) s.heap.objs.size f cdv)) →
      ∃ t, PSs (cxOf CX0 P w K mg base N x (defScope st) f cdv A outer s H E).nox (defBody st) t ∧ ∀ Γ Qr, T Γ Qr → SJ K (Γ ++ List.replicate (N.length - Γ.length) .no) t (retP Γ Qr)) : FnOk P w K mg base CX0 (k + 1) f fd ps (spG K T) := by
  refine F.ok S (len_g fun Γ Qr h => (hT Γ Qr h).1) fun cdv A outer s H vs Q E hr h => ?_
  obtain ⟨t, ht, hj⟩ := hb f cdv A outer s H E hr
  exact ⟨t, ht, body_g h (fun Γ Qr z => (hT Γ Qr z).2) fun Γ Qr z => (hj Γ Qr z).t⟩
/-- a law's promise over data: of a script, the truth -/
def T_law (K : PySem.W.Frag) : List Sl → (Sl → Prop) → Prop := fun Γ Q => ∃ v ns, Γ = [.ex v (ScriptO K ns)] ∧ ns.length ≤ 63 ∧ Q (.dat true (.bool true))
theorem law_start {H : Hp} {a : Addr} {ns : List Int} {Q : VK} {E : XK} (hn : ns.length ≤ 63) (hS : SqL K H a (ns.map V.int)) (q : ∀ H', Q (.bl true) H') : spG K (T_law K) [.ref a] H Q E := by
  refine ⟨⟨K, fun _ => none, H, fun b => b = a, fun b => H b ≠ none⟩, fun _ => none, [.ex (.ref a) (ScriptO K ns)], fun s => s = .dat true (.bool true), rfl, rfl, rfl, fun _ => Iff.rfl, ?_, ⟨_, ns, rfl, hn, rfl⟩, ?_⟩
  · have hf : ∀ (b : Addr) (o : HO), H b = some o → ¬ b = a → H b = some o ∧ (none : Option HO) = none := fun b o e _ => ⟨e, rfl⟩
    rcases hS with hS | hS
    · refine ⟨fun _ _ z => (by cases z), rfl, ⟨fun i b => i = 0 ∧ b = a, fun i s e => ?_, fun i j b z1 z2 => z1.1.trans z2.1.symm, fun i b z => ⟨rfl, ?_, .inr z.2⟩⟩, hf, fun _ _ z => z, fun _ z => z⟩
      · cases i with
        | zero =>
          cases e
          exact ⟨rfl, rfl, a, rfl, .inl hS, .inl fun b => ⟨fun z => z.2, fun z => ⟨rfl, z⟩⟩⟩
        | succ i => simp at e
      · rw [z.2]
        rcases hS with h | ⟨o, h⟩ <;> rw [h] <;> simp
    · refine ⟨fun _ _ z => (by cases z), rfl, ⟨fun i b => False, fun i s e => ?_, fun i j b z1 z2 => z1.elim, fun i b z => z.elim⟩, hf, fun _ _ z => z, fun _ z => z⟩
      cases i with
      | zero =>
        cases e
        exact ⟨rfl, rfl, a, rfl, .inr hS, .inr ⟨fun H' => .inr hS, fun b z => z⟩⟩
      | succ i => simp at e
  · rintro F' H' v s _ E' rfl
    obtain ⟨S, hs, _, _⟩ := E'.sl
    obtain ⟨⟨u, e, r⟩, _⟩ := hs 1 _ rfl
    cases e
    cases r
    exact q H'
end
end Pk
end
section
set_option Elab.async false
set_option linter.all false
set_option maxRecDepth 100000
/-! The data layer, part 11: exceptions. -/
namespace Pk
open PySem PySem.Spec PyProof.Rows L2
abbrev XW := Value → Option Addr → L2.St → Hp → Prop
abbrev XQ := Value → Option Addr → Prop
/-- a promise over data of a def that may raise -/
def spX (K : PySem.W.Frag) (T : List Sl → (Sl → Prop) → XQ → Prop) : Sp := fun vs H Q E => ∃ (X : Bs) (F : Hp) (Γ : List Sl) (Qr : Sl → Prop) (Qe : XQ), X.K = K ∧ X.F0 = F ∧ X.H0 = H ∧ (∀ a, X.N a ↔ H a ≠ none) ∧ En X F H (vs.map some) Γ ∧ T Γ Qr Qe ∧
  (∀ F' H' v s, Le F F' → En X F' H' (vs.map some ++ [some v]) (Γ ++ [s]) → Qr s → Q v H') ∧ ∀ F' H' c d, Le F F' → En X F' H' (vs.map some) Γ → Qe c d → E c d H'
def retX (Γ : List Sl) (Qr : Sl → Prop) (Qe : XQ) (E : XK) : Po := { nx := fun Γ' => Keep Γ Γ' ∧ Qr (.dat true .none), rt := fun s Γ' => Keep Γ Γ' ∧ Qr s, W := fun c d _ H => E c d H, ex := fun c d Γ' => Keep Γ Γ' ∧ Qe c d }
section
variable {P : Program} {w : World} {K : PySem.W.Frag} {mg : Str → Option Value} {base : Heap}
theorem len_x {T : List Sl → (Sl → Prop) → XQ → Prop} {n : Nat} (hl : ∀ Γ Qr Qe, T Γ Qr Qe → Γ.length = n) : ∀ vs H Q E, spX K T vs H Q E → vs.length = n := fun vs H Q E h => by
  obtain ⟨X, F, Γ, Qr, Qe, hK, hF, hH, hNN, E0, hT, k⟩ := h
  have := E0.len
  rw [List.length_map] at this
  rw [this]
  exact hl Γ Qr Qe hT
theorem body_x {N : List Str} {T : List Sl → (Sl → Prop) → XQ → Prop} {vs : List V} {H : Hp} {Q : VK} {E : XK} {t : TS} (h : spX K T vs H Q E) (hn : ∀ Γ Qr Qe, T Γ Qr Qe → NoMl Γ) (hj : ∀ Γ Qr Qe, T Γ Qr Qe → SJt K (Γ ++ List.replicate (N.length - Γ.length) .no) t (retX Γ Qr Qe E)) : t { nx := fun _ H' => Q .non H', rt := Q } (L2.start N vs) H := by
  obtain ⟨X, F, Γ, Qr, Qe, hK, hF, hH, hNN, E0, hT, k, kx⟩ := h
  have hl : vs.length = Γ.length := by simpa using E0.len
  have Ep := E0.pad (N.length - Γ.length)
  have es : L2.start N vs = vs.map some ++ List.replicate (N.length - Γ.length) none := by rw [L2.start, hl]
  rw [es]
  refine hj Γ Qr Qe hT X hK ⟨fun a => by rw [hH]; exact hNN a, by rw [hF, hH]; exact E0.le⟩ F H _ Ep _ ⟨fun F' H' σ' Γ' E' ⟨kp, q⟩ => ?_, fun F' H' σ' Γ' v s E' ⟨kp, q⟩ => ?_, fun _ _ _ _ _ z => z, fun _ _ _ _ _ z => z, fun F' H' σ' Γ' c d E' ⟨kp, q⟩ => ?_⟩
  · exact k F' H' .non (.dat true .none) (by rw [← hF]; exact E'.f0) (E0.back hF (hn Γ Qr Qe hT) kp (E'.pushD .non)) q
  · exact k F' H' v s (by rw [← hF]; exact E'.drop.f0) (E0.back hF (hn Γ Qr Qe hT) kp E') q
  · exact kx F' H' c d (by rw [← hF]; exact E'.f0) (E0.back (s := .dat true .none) hF (hn Γ Qr Qe hT) kp (E'.pushD .non)).drop q
/-- THE RULE for a def over data that may raise -/
theorem cal_x {x : Str} {st : Stmt} {N ps : List Str} {k : Nat} {T : List Sl → (Sl → Prop) → XQ → Prop} (D : Def K mg x st ps) (S : FnScope N ps (defScope st)) (hT : ∀ Γ Qr Qe, T Γ Qr Qe → Γ.length = ps.length ∧ NoMl Γ)
    (hb : ∀ (f : Addr) (cdv : Value) (A : Around) (outer : List Env) (s : Shared) (H : Hp) (E : XK), Room k (A.deeper (envOfC x (defScope st) s.heap.objs.size f cdv)) →
      ∃ t, PSs (cxOf (L2.CX P w) P w K mg base N x (defScope st) f cdv A outer s H E) (defBody st) t ∧ ∀ Γ Qr Qe, T Γ Qr Qe → SJt K (Γ ++ List.replicate (N.length - Γ.length) .no) t (retX Γ Qr Qe E)) : Cal P w K mg base (L2.CX P w) (k + 1) x ps (spX K T) := by
  obtain ⟨f, fd, a, F, b⟩ := D.ex
  refine ⟨f, fd, a, F.kp, b, F.okX S (len_x fun Γ Qr Qe h => (hT Γ Qr Qe h).1) fun cdv A outer s H vs Q E hr h => ?_⟩
  obtain ⟨t, ht, hj⟩ := hb f cdv A outer s H E hr
  exact ⟨t, ht, body_x h (fun Γ Qr Qe z => (hT Γ Qr Qe z).2) hj⟩
/-- asked where it does not raise -/
theorem Cal.noX {x : Str} {ps : List Str} {k : Nat} {T : List Sl → (Sl → Prop) → XQ → Prop} (c : Cal P w K mg base (L2.CX P w) k x ps (spX K T)) : Cal P w K mg base CX0 k x ps (spG K fun Γ Q => T Γ Q fun _ _ => False) := by
  obtain ⟨f, fd, a, b, d, F⟩ := c.ex
  have hx : ∀ {vs H Q E E'}, spG K (fun Γ Q => T Γ Q fun _ _ => False) vs H Q E → spX K T vs H Q E' := fun {vs H Q E E'} ⟨X, F, Γ, Qr, h1, h2, h3, h4, h5, h6, h7⟩ => ⟨X, F, Γ, Qr, _, h1, h2, h3, h4, h5, h6, h7, fun _ _ _ _ _ _ z => z.elim⟩
  refine ⟨f, fd, a, b, d, ⟨fun vs H Q E h => F.len vs H Q E (hx h), fun A outer s H args us vs Q E hr he hb hv hs => ?_⟩⟩
  refine codeAny_mono (F.run A outer s H args us vs Q (fun _ _ _ => False) hr he hb hv (hx hs)) fun r s' h => ?_
  cases r with
  | ok fl =>
    cases fl with
    | ret u => exact h
    | _ => exact h.elim
  | error e =>
    obtain ⟨_, _, _, _, _, _, _, _, _, _, _, _, z⟩ := h
    exact z.elim
end
/-! ### calls that may raise -/
/-- an expression, under what an exception is let out to -/
def WXw (K : PySem.W.Frag) (W : XW) (ex : Value → Option Addr → List Sl → Prop) (Γ : List Sl) (t : TE) (Q : Sl → Prop) : Prop := ∀ X : Bs, X.K = K → (∀ F H σ Γ c d, En X F H σ Γ → ex c d Γ → W c d σ H) → ∀ F H σ, En X F H σ Γ → ∀ C : VK,
  (∀ v F' H' s, Le F F' → En X F' H' (σ ++ [some v]) (Γ ++ [s]) → Q s → C v H') → t σ H C
section
variable {K : PySem.W.Frag} {W : XW} {ex : Value → Option Addr → List Sl → Prop} {Γ : List Sl} {Q : Sl → Prop} {T : List Sl → (Sl → Prop) → XQ → Prop} {tr : TA} {te ta tb : TE} {P : Po}
theorem wxw_call (h : WA K false Γ tr fun as => AgsGood Γ as ∧ T (as.map (Ag.sl Γ)) Q fun c d => ex c d Γ) : WXw K W ex Γ (tCallS (spX K T) (WE W) tr) Q := fun X hK hx F H σ E C k =>
  h X hK F H σ E _ fun vs F1 H1 as l1 E1 r1 ⟨hg, hT⟩ => by
    obtain ⟨X1, a, b, c, d, e, f⟩ := call_sp hK E1 r1 hg
    exact ⟨X1, F1, _, Q, _, a, b, c, d, e, hT, fun F' H' v s lf E' q => k v F' H' s (l1.tr lf) (f F' H' v s lf E') q,
      fun F' H' cl d lf E' q => hx F' H' σ Γ cl d ((f F' H' .non (.dat true .none) lf (E'.pushD .non)).drop) q⟩
theorem wxw_call1 (h : WD K false Γ ta fun x => T [.dat false x] Q fun c d => ex c d Γ) : WXw K W ex Γ (tCallS (spX K T) (WE W) (tCons ta tNil)) Q := wxw_call (wa_d (h.mono fun x q => wa_nil ⟨agsGood_d rfl, q⟩))
theorem wxw_call2 (h : WD K false Γ ta fun x => WD K false Γ tb fun y => T [.dat false x, .dat false y] Q fun c d => ex c d Γ) : WXw K W ex Γ (tCallS (spX K T) (WE W) (tCons ta (tCons tb tNil))) Q := wxw_call (wa_d (h.mono fun x h => wa_d (h.mono fun y q => wa_nil ⟨agsGood_d rfl, q⟩)))
theorem sj_setW {i : Nat} (h : WXw K P.W P.ex Γ te fun s => P.nx (Γ.set i s)) : SJ K Γ (tAsg te (gName i)) P := fun X hK F H σ E D hD =>
  h X hK hD.xc F H σ E _ fun v F1 H1 s l1 E1 q => hD.nx F1 H1 _ _ (E1.put i) q
theorem sj_retW (h : WXw K P.W P.ex Γ te fun s => P.rt s Γ) : SJ K Γ (tRet te) P := fun X hK F H σ E D hD =>
  h X hK hD.xc F H σ E _ fun v F1 H1 s l1 E1 q => hD.rt F1 H1 _ _ v s E1 q
theorem sj_dropW (h : WXw K P.W P.ex Γ te fun _ => P.nx Γ) : SJ K Γ (tDrop te) P := fun X hK F H σ E D hD =>
  h X hK hD.xc F H σ E _ fun v F1 H1 s l1 E1 q => hD.nx F1 H1 _ _ E1.drop q
/-- raise C('..') -/
def tRaiseW (W : XW) (C : Addr) : TS := fun _ σ H => W (.ref C) none σ H
theorem sj_raise {C : Addr} (q : P.ex (.ref C) none Γ) : SJ K Γ (tRaiseW P.W C) P := fun X hK F H σ E D hD => hD.xc F H σ Γ _ _ E q
/-- try: .. except X: .. -/
def tTryOnly (K : PySem.W.Frag) (c : Value) (tb : XW → TS) (ts : TS) (Wout : XW) : TS := fun D σ H => tb (wOnly K c (fun _ _ _ => ts) Wout D) D σ H
theorem sj_tryOnly {c : Value} {tb : XW → TS} {ts : TS} (h : ∀ W : XW, SJ K Γ (tb W) { P with W := W, ex := fun cls d Γ' => ∃ b, PySem.W.exmOne K cls c = some b ∧ (b = true → SJ K Γ' ts P) ∧ (b = false → P.ex cls d Γ') }) : SJ K Γ (tTryOnly K c tb ts P.W) P := fun X hK F H σ E D hD =>
  h (wOnly K c (fun _ _ _ => ts) P.W D) X hK F H σ E D ⟨hD.nx, hD.rt, hD.bk, hD.ct, fun F' H' σ' Γ' cls d E' ⟨b, e, h1, h2⟩ => ⟨b, e, fun hb a _ => h1 hb X hK F' H' σ' E' D hD, fun hb => hD.xc F' H' σ' Γ' cls d E' (h2 hb)⟩⟩
end
end Pk
end
section
set_option Elab.async false
set_option linter.all false
set_option maxRecDepth 100000
/-! The data layer, part 12: an exception that is caught and kept: try .. except X as n: .. whose exception is known behind the statement too. -/
namespace Pk
open PySem PySem.Spec PyProof.Rows L2
/-- an exception of the class cls that was caught -/
def ExH (cls : Value) (d : Option Addr) (a : Addr) : HO := .ext fun h => ∃ (oe : Obj) (vs : Array Value), h.get? a = some oe ∧ Zc cls d oe ∧ oe.data = .fields vs
theorem exH_ok {P : Program} {w : World} {H : Hp} {h : Heap} {a : Addr} {cls : Value} {d : Option Addr} {oe : Obj} {vs : Array Value} (e : h.get? a = some oe) (z : Zc cls d oe) (q : oe.data = .fields vs) : ObjOk P w H h a (ExH cls d a) :=
  ⟨⟨oe, vs, e, z, q⟩, ⟨oe, e⟩, fun h1 h2 ⟨o, v, q1, q2⟩ k => ⟨o, v, k o q1, q2⟩⟩
section
variable {X : Cx} {pins : List (Addr × Obj)} {σ : L2.St} {H : Hp} {s : Shared}
/-- a pinned exception, new since the entry, is told of in the abstract heap -/
theorem inv_track {a : Addr} {oe : Obj} {vs : Array Value} {cls : Value} {d : Option Addr} (I : Inv X pins σ H s) (ha : s.heap.get? a = some oe) (na : H a = none) (nl : a ≠ X.env.locals) (nc : ∀ v, oe.data ≠ .cell v) (n0 : X.s_0.heap.get? a = none) (np : ∀ p ∈ X.pn ++ pins, p.1 ≠ a)
    (z : Zc cls d oe) (hd : oe.data = .fields vs) : Inv X pins σ (upd H a (ExH cls d a)) s := by
  have ne : ∀ {b : Addr}, b ≠ a → upd H a (ExH cls d a) b = H b := fun h => upd_ne h
  have B := I.base
  refine ⟨I.ok, I.os, I.bare, ⟨B.keep, B.slot, fun b o q1 q2 q3 => ?_, B.there, fun b xs q => ?_, fun b o u q => ?_, fun b ps q => ?_⟩, I.loc, I.cell, ?_, fun x c q => ?_, fun p hp => ?_, ?_, I.len⟩
  · rw [ne fun z => by rw [z, n0] at q1; cases q1]; exact B.free b o q1 q2 q3
  · have := B.tups b xs q
    rw [ne fun z => by rw [z, na] at this; cases this]; exact this
  · have := B.frzs b o u q
    rw [ne fun z => by rw [z, na] at this; cases this]; exact this
  · obtain ⟨more, this⟩ := B.tbls b ps q
    exact ⟨more, by rw [ne fun z => by rw [z, na] at this; cases this]; exact this⟩
  · rw [ne (Ne.symm nl)]; exact I.free
  · obtain ⟨v, hv⟩ := I.cell x c q
    rw [ne fun z => by
      subst z
      obtain ⟨o, q1, q2⟩ := hv
      rw [ha] at q1
      cases q1
      exact nc _ q2]
    exact I.freeC x c q
  · obtain ⟨a1, a2, a3⟩ := I.pin p hp
    exact ⟨a1, by rw [ne (np p hp)]; exact a2, a3⟩
  · exact I.hok.laidN (fun _ _ q => q) na (exH_ok ha z hd)
end
/-- what the clause wishes; behind its suite the exception at a stands in the abstract heap -/
def wKeep (K : PySem.W.Frag) (c : Value) (i : Nat) (ts : Addr → TS) (Wout : XW) (D : Ends) : XW := fun cls d σ H =>
  ∃ b, PySem.W.exmOne K cls c = some b ∧ (b = true → ∀ a, H a = none → ts a { nx := fun σ' H' => H' a = none → D.nx (σ'.set i none) (upd H' a (ExH cls d a)), rt := fun _ _ => False } (σ.set i (some (.ref a))) H) ∧ (b = false → Wout cls d σ H)
section
variable {X : Cx} {x n : Str} {c : Value} {i : Nat} {body suite : List Stmt} {b₀ : Stmt} {np pos pos' : Pos} {tb : XW → TS} {ts : Addr → TS} {Wout : XW}
theorem ps_try_kept (hst : X.stack = X.env :: X.outer) (hfm : X.env.frame = some X.env.locals) (hex : X.ex = []) (hnd : X.N.Nodup) (hix : X.N[i]? = some n) (hkd : X.env.kindOf n = some .local) (hnm : Names X x c) (tko : Takes X Wout)
    (hbd : ∀ (W : XW) (pn : List (Addr × Obj)) (xe : Value → Shared → Prop), Takes (X.tr pn xe) W → PassesOwn (model X.prog X.w) X.A X.env xe → PSs (X.tr pn xe) body (tb W))
    (hsx : ∀ (a : Addr) (pn : List (Addr × Obj)), PSs (X.suite a pn) (b₀ :: suite) (ts a)) :
    PS X (.Try body [.ExceptHandler (some (.Name x np)) (some n) (b₀ :: suite) pos'] [] [] pos) (fun D σ H => tb (wKeep X.K c i ts Wout D) D σ H) := by
  refine ⟨fun pins s σ H D I hw => ?_⟩
  have fr : X.A.frames = some (X.env :: X.outer) := by rw [I.ok.frames, hst]
  refine wpAny_Try_except (wpAny_mono ((hbd (wKeep X.K c i ts Wout D) (X.pn ++ pins) (fun ev t₁ => wpAny (model X.prog X.w) X.A (noteFrame ev X.env) (fun _ t₂ => wpAny (model X.prog X.w) X.A (setFlight ev none)
    (fun _ t₃ => wpAny (model X.prog X.w) X.A (handleBy ev X.env [.ExceptHandler (some (.Name x np)) (some n) (b₀ :: suite) pos']) (SP X pins D) X.xe t₃) X.xe t₂) X.xe t₁) (fun u t ht => ?_) PassesOwn.looking).run [] s σ H D (I.toTry _) hw) (fun fl t ht => ?_) fun _ _ z => z)
  · obtain ⟨a, B, tI, qn, τ, G, cl, dd, rfl, JT, hB, hU, hY, nG, eO, eG, yes, eY, hY1, hN1⟩ := ht
    have J0 : Inv X pins τ G tI := JT.ofTry I.ok
    rw [hst] at hB
    have hY' : Sky B (X.env :: X.outer) a (Zc cl dd) X.env.locals t.heap := hst ▸ hY
    show wpAny (model X.prog X.w) X.A (noteFrame (.ref a) X.env) _ _ _
    refine Sky.land Zc.steady fr hfm hY' fun g fg ug => ?_
    have hBs : ∀ b o, tI.heap.get? b = some o → b ∉ frs X.stack → B.get? b = some o := fun b o q1 q2 => hB b o q1 (hst ▸ q2)
    have J1 : Inv X pins τ G { t with heap := g } := J0.landed hBs fg.1 (hU.trans ug) eO eG
    obtain ⟨og, vg, eg, zg, dg⟩ := fg.there
    have nfr : a ∉ frs (X.env :: X.outer) := fun hm => by
      obtain ⟨_, o', e', hnf⟩ := fg.2.2.1.mem hm
      rw [eg] at e'
      cases e'
      exact hnf _ dg
    have nLoc : a ≠ X.env.locals := fun z => nfr (List.mem_filterMap.mpr ⟨X.env, List.mem_cons_self, by rw [hfm, z]⟩)
    have nFs : a ∉ X.fs := fun hm => by
      obtain ⟨v, hv, q⟩ := List.mem_filterMap.mp hm
      exact nfr (List.mem_filterMap.mpr ⟨v, List.mem_cons_of_mem _ hv, q⟩)
    -- it is new
    have newI : tI.heap.get? a = none := by
      cases q : tI.heap.get? a with
      | none => rfl
      | some o =>
        have := hB a o q nfr
        rw [fg.2.1] at this
        cases this
    have new0 : X.s_0.heap.get? a = none := by
      cases q : X.s_0.heap.get? a with
      | none => rfl
      | some o =>
        obtain ⟨o', q'⟩ := J0.base.there a o q (by rw [hex]; exact fun z => by cases z)
        rw [newI] at q'
        cases q'
    have npin : ∀ p ∈ X.pn ++ pins, p.1 ≠ a := fun p hp z => by
      have := (J0.pin p hp).1
      rw [z, newI] at this
      cases this
    refine wpAny_handleBy_cons (codeAny_handlers_test ?_) (by intro q; cases q)
    have lk : PySem.W.Looks (model X.prog X.w) g (typeOf (.ref a)) cl := fun _ _ _ _ k q => wpAny_typeOf_ref (k _ _ eg) (by rw [zg.1]; exact q)
    have look := PySem.W.exm_one (M := model X.prog X.w) J1.kIn lk eY
    have S1 := J1.suite eg dg nG nLoc nFs
    have ask : ∀ {Q : Value → Shared → Prop} {E : Value → Shared → Prop}, Q c { t with heap := g } → wpAny (model X.prog X.w) (X.A.mark (some (.ref a))) (eval (.Name x np) X.env) Q E { t with heap := g } := fun {Q E} q => by
      obtain ⟨g1, g2, g3 | ⟨g3, g4, g5⟩⟩ := hnm
      · exact ld_glob (X := X.suite a ((a, og) :: (X.pn ++ pins))) S1 g1 g3 q g2
      · exact ld_blt (X := X.suite a ((a, og) :: (X.pn ++ pins))) S1 g1 g3 g4 q g5 g2
    refine ask (look.here ?_)
    cases yes with
    | true =>
      refine codeAny_handlers_suite_as (HandSPX.lands_againZ fg fun g2 f2 u2 => ?_)
      have J2 : Inv X pins τ G { t with heap := g2 } := J0.landed hBs f2.1 ((hU.trans ug).trans u2) eO eG
      obtain ⟨o2, v2, e2, z2, d2⟩ := f2.there
      refine store_ok (X := X.suite a ((a, o2) :: (X.pn ++ pins))) (v := .ref a) (J2.suite e2 d2 nG nLoc nFs) hnd hix (.inl hkd) rfl (fun t3 S3 => ?_) (.inr hkd)
      refine wpAny_mono ((hsx a ((a, o2) :: (X.pn ++ pins))).run [] t3 _ G _ S3 (hY1 rfl a nG)) (fun fl t4 h4 => ?_) fun _ _ z => z.elim
      cases fl with
      | next =>
        obtain ⟨τ4, G4, S4, q4⟩ := h4
        obtain ⟨p1, p2, p3, p4, p5⟩ := S4.pin (a, o2) (List.mem_append_left _ List.mem_cons_self)
        have K4 : Inv X ((a, o2) :: pins) τ4 G4 t4 := ⟨I.ok, S4.os, S4.bare, S4.base, S4.loc, S4.cell, S4.free, S4.freeC, fun p hp => S4.pin p (by
          rcases List.mem_append.mp hp with z | z
          · exact List.mem_append_left _ (List.mem_cons_of_mem _ (List.mem_append_left _ z))
          · rcases List.mem_cons.mp z with z | z
            · rw [z]; exact List.mem_append_left _ List.mem_cons_self
            · exact List.mem_append_left _ (List.mem_cons_of_mem _ (List.mem_append_right _ z))), S4.hok, S4.len⟩
        refine gone_ok K4 hnd hix hkd fun t5 K5 => ?_
        obtain ⟨r1, r2, r3, r4, r5⟩ := K5.pin (a, o2) (List.mem_append_right _ List.mem_cons_self)
        have K6 : Inv X pins (τ4.set i none) G4 t5 := ⟨K5.ok, K5.os, K5.bare, K5.base, K5.loc, K5.cell, K5.free, K5.freeC, fun p hp => K5.pin p (by
          rcases List.mem_append.mp hp with z | z
          · exact List.mem_append_left _ z
          · exact List.mem_append_right _ (List.mem_cons_of_mem _ z)), K5.hok, K5.len⟩
        exact ⟨_, _, inv_track K6 r1 r2 r3 r5 new0 npin z2 d2, q4 p2⟩
      | brk => obtain ⟨_, _, _, z⟩ := h4; exact z.elim
      | cont => obtain ⟨_, _, _, z⟩ := h4; exact z.elim
      | ret u => obtain ⟨_, _, _, _, _, z⟩ := h4; exact z.elim
    | false =>
      show wpAny _ X.A (handleBy (.ref a) X.env []) _ _ _
      refine wpAny_handleBy_nil ?_
      obtain ⟨k1, k2, k3, oz, vz, T, oT, tz, w1, w2, w3, w4, w5⟩ := id fg
      unfold PySem.passOn
      refine wpAny_bind (wpAny_field w1 w3 w4 ?_)
      rw [if_neg (show ¬ ((Value.ref T == Value.none) = true) by simp)]
      have last : wpAny (model X.prog X.w) X.A (setFlight (.ref a) X.env.frame) (fun _ t6 => wpAny (model X.prog X.w) X.A (throw (.ref a) : Sem Flow) (SP X pins D) X.xe t6) X.xe { t with heap := g } := by
        rw [hfm]
        refine HandSPX.setFlight_upZ fg fun g6 f6 u6 => wpAny_throw (tko _ _ ?_)
        exact ⟨a, B, tI, pins, τ, G, cl, dd, rfl, J0, hBs, (hU.trans ug).trans u6, .inr (.inr (by rw [hst]; exact f6)), nG, eO, eG, hN1 rfl⟩
      first
        | exact wpAny_bind (wpAny_pure (wpAny_bind last))
        | exact wpAny_bind last
  · cases fl with
    | next => obtain ⟨τ, G, J, q⟩ := ht; exact wpAny_execs_nil ⟨τ, G, J.ofTry I.ok, q⟩
    | brk => obtain ⟨τ, G, J, q⟩ := ht; exact ⟨τ, G, J.ofTry I.ok, q⟩
    | cont => obtain ⟨τ, G, J, q⟩ := ht; exact ⟨τ, G, J.ofTry I.ok, q⟩
    | ret u => obtain ⟨v, τ, G, J, r, q⟩ := ht; exact ⟨v, τ, G, J.ofTry I.ok, r, q⟩
end
end Pk
end
section
set_option Elab.async false
set_option linter.all false
set_option maxRecDepth 100000
/-! The data layer, part 13: caught exceptions as things of one's own; is None; isinstance with own classes. -/
namespace Pk
open PySem PySem.Spec PyProof.Rows L2
/-! ### is None -/
def dIsN : R2 := fun x y H Q => y = .non ∧ Q (.bl (decide (x = .non))) H
def dNotN : R2 := fun x y H Q => y = .non ∧ Q (.bl (!decide (x = .non))) H
def isNo : PyData → Bool
  | .none => true
  | _ => false
theorem isNo_of {K : PySem.W.Frag} {F : Hp} {v : V} {d : PyData} (r : Rp K F v d) : decide (v = .non) = isNo d := by
  cases r <;> simp [isNo]
section
variable {K : PySem.W.Frag} {m : Bool} {Γ : List Sl} {Q : PyData → Prop} {QT : Bool → Prop} {te : TE}
theorem wd_isN (h : WD K false Γ te fun d => Q (.bool (isNo d))) : WD K m Γ (tOp dIsN te (tC .non)) Q := fun X hK F H σ E C k =>
  h X hK F H σ E _ fun v F1 H1 d l1 E1 r q => ⟨rfl, k _ F1 H1 _ l1 E1 (by rw [isNo_of r]; exact .bl _) q⟩
theorem wd_notN (h : WD K false Γ te fun d => Q (.bool (!isNo d))) : WD K m Γ (tOp dNotN te (tC .non)) Q := fun X hK F H σ E C k =>
  h X hK F H σ E _ fun v F1 H1 d l1 E1 r q => ⟨rfl, k _ F1 H1 _ l1 E1 (by rw [isNo_of r]; exact .bl _) q⟩
/-- .. of a thing of one's own -/
theorem wd_isNo {i : Nat} {a : Addr} {Φ : Own} (hi : Γ[i]? = some (.ex (.ref a) Φ)) (q : Q (.bool false)) : WD K m Γ (tOp dIsN (tVar i) (tC .non)) Q := fun X hK F H σ E C k =>
  ⟨_, E.ex hi, rfl, k _ F H _ Le.rfl' E (.bl false) q⟩
theorem wd_notNo {i : Nat} {a : Addr} {Φ : Own} (hi : Γ[i]? = some (.ex (.ref a) Φ)) (q : Q (.bool true)) : WD K m Γ (tOp dNotN (tVar i) (tC .non)) Q := fun X hK F H σ E C k =>
  ⟨_, E.ex hi, rfl, k _ F H _ Le.rfl' E (.bl true) q⟩
end
/-! ### a caught exception -/
def ExcO (K : PySem.W.Frag) (D : Addr) : Own where
  K := K
  p := fun _ H v S => ∃ a, v = .ref a ∧ H a = some (ExH (.ref D) none a) ∧ ∀ b, S b ↔ b = a
  vw := none
  keep := fun {F F' H H' v S} ⟨a, e, h, c⟩ _ k => ⟨a, e, (k a ((c a).mpr rfl)).trans h, c⟩
  keepT := fun _ {F F' H H' v S} ⟨a, e, h, c⟩ _ k => ⟨a, e, (k a ((c a).mpr rfl)).trans h, c⟩
  view := fun _ _ e => nomatch e
/-- try: .. except X as n: y = n -/
def tTryKeep (K : PySem.W.Frag) (c : Value) (i j : Nat) (tb : XW → TS) (Wout : XW) : TS := fun D σ H => tb (wKeep K c i (fun _ => tAsg (tVar i) (gName j)) Wout D) D σ H
section
variable {K : PySem.W.Frag} {m : Bool} {Γ : List Sl} {P : Po} {Q : PyData → Prop}
theorem sj_tryKeep {c : Value} {i j : Nat} {tb : XW → TS} (hij : i ≠ j)
    (h : ∀ W : XW, SJ K Γ (tb W) { P with W := W, ex := fun cls d Γ' => ∃ b, PySem.W.exmOne K cls c = some b ∧ (b = true → ∃ D, cls = .ref D ∧ d = none ∧ j < Γ'.length ∧ Γ'[i]? = some .no ∧ ∀ a, P.nx (Γ'.set j (.ex (.ref a) (ExcO K D)))) ∧ (b = false → P.ex cls d Γ') }) : SJ K Γ (tTryKeep K c i j tb P.W) P := fun X hK F H σ E D hD =>
  h _ X hK F H σ E D ⟨hD.nx, hD.rt, hD.bk, hD.ct, fun F' H' σ' Γ' cls d E' ⟨b, e, h1, h2⟩ => ⟨b, e, fun hb a na => by
    obtain ⟨C, rfl, rfl, hj, hi, q⟩ := h1 hb
    have hil : i < σ'.length := by rw [E'.len]; exact (List.getElem?_eq_some_iff.mp hi).1
    have push : En X F' (upd H' a (ExH (.ref C) none a)) (σ' ++ [some (.ref a)]) (Γ' ++ [.ex (.ref a) (ExcO K C)]) :=
      E'.pushG (T := fun b => b = a) Le.rfl' (E'.le.new (E'.le.nn na)) (fun b o q => by rw [upd_ne (ne_of_none q na)]; exact q) (fun _ _ _ => rfl)
        ⟨rfl, hK.symm, a, rfl, upd_same, fun _ => Iff.rfl⟩ (fun b e => by subst e; exact ⟨na, E'.le.nn na, by rw [upd_same]; simp⟩)
    have put := push.put j
    have back : En X F' (upd H' a (ExH (.ref C) none a)) ((σ'.set j (some (.ref a))).set i none) (Γ'.set j (.ex (.ref a) (ExcO K C))) := by
      have hset : Γ'.set j (.ex (.ref a) (ExcO K C)) = (Γ'.set j (.ex (.ref a) (ExcO K C))).set i .no := by
        apply List.ext_getElem?
        intro k
        by_cases hk : i = k
        · subst hk
          have hl : i < (Γ'.set j (.ex (.ref a) (ExcO K C))).length := by rw [List.length_set, ← E'.len]; exact hil
          rw [List.getElem?_set_self hl, List.getElem?_set_ne hij.symm, hi]
        · rw [List.getElem?_set_ne hk]
      rw [hset]
      have : En X F' (upd H' a (ExH (.ref C) none a)) (σ'.set j (some (.ref a)) ++ [none]) (Γ'.set j (.ex (.ref a) (ExcO K C)) ++ [.no]) :=
        put.pushG (T := fun _ => False) Le.rfl' put.le (fun _ _ q => q) (fun _ _ _ => rfl) (fun _ z => z) (fun _ z => z.elim)
      exact this.put i
    refine ⟨.ref a, by rw [List.getElem?_set_self hil], fun _ => ?_⟩
    have e2 : ((σ'.set i (some (V.ref a))).set j (some (V.ref a))).set i none = (σ'.set j (some (.ref a))).set i none := by
      rw [List.set_comm _ _ hij.symm, List.set_set, List.set_comm _ _ hij]
    show D.nx (((σ'.set i (some (V.ref a))).set j (some (V.ref a))).set i none) (upd H' a (ExH (.ref C) none a))
    rw [e2]
    exact hD.nx F' _ _ _ back (q a), fun hb => hD.xc F' H' σ' Γ' cls d E' (h2 hb)⟩⟩
end
/-! ### isinstance -/
def rIsX (K : PySem.W.Frag) : List V → Hp → VK → Prop := fun xs H Q => ∃ (a D : Addr) (c : V) (u : Value) (b : Bool), xs = [.ref a, c] ∧ H a = some (ExH (.ref D) none a) ∧ ExcC K D ∧ ClsV c u ∧ PySem.W.kitOne K (.ref D) u = some b ∧ Q (.bl b) H
def rIsXT (K : PySem.W.Frag) : List V → Hp → VK → Prop := fun xs H Q => ∃ (a D tp : Addr) (cs : List V) (us : List Value) (b : Bool), xs = [.ref a, .ref tp] ∧ H tp = some (.tup cs) ∧ H a = some (ExH (.ref D) none a) ∧ ExcC K D ∧ Paired ClsV cs us ∧ PySem.W.kitAny K (.ref D) us = some b ∧ Q (.bl b) H
theorem inst_of {X : Cx} {pins : List (Addr × Obj)} {σ : L2.St} {H : Hp} {s : Shared} {a D : Addr} (I : Inv X pins σ H s) (h : H a = some (ExH (.ref D) none a)) : ∃ oe, PySem.W.InstAt s.heap a oe D none := by
  obtain ⟨⟨⟨oc, od, oda, osl⟩, vs, e, ⟨z1, z2⟩, d⟩, _⟩ := (show ObjOk X.prog X.w H s.heap a (ExH (.ref D) none a) from I.hok a _ h)
  dsimp only at z1 z2 d
  subst z1 z2 d
  exact ⟨_, e, rfl, rfl, trivial⟩
theorem call_isX {X : Cx} : CallR X (.builtin "isinstance") (rIsX X.K) := by
  intro pins s σ H xs us Q I r h
  obtain ⟨a, D, c, u, b, rfl, ha, C, k, e, q⟩ := h
  obtain ⟨u1, u2, rfl, r1, r2⟩ := vals2 r
  cases (show u1 = Value.ref a from r1)
  cases k.eq r2
  obtain ⟨oe, J⟩ := inst_of I ha
  exact PySem.W.kia_one (PySem.W.handS_kitx_exc C.hg C.hk C.hs C.hd C.ha C.hn C.ht C.hm) I.kIn J e (fun z => nomatch z) fun tk => ⟨.bl b, H, I.tok tk, rfl, q⟩
theorem call_isXT {X : Cx} : CallR X (.builtin "isinstance") (rIsXT X.K) := by
  intro pins s σ H xs us Q I r h
  obtain ⟨a, D, tp, cs, ws, b, rfl, hT, ha, C, k, e, q⟩ := h
  obtain ⟨u1, u2, rfl, r1, r2⟩ := vals2 r
  cases (show u1 = Value.ref a from r1)
  cases (show u2 = Value.ref tp from r2)
  obtain ⟨oe, J⟩ := inst_of I ha
  obtain ⟨_, its, rv, ⟨oc, od, dt, sl⟩, h1, h2, n, h3⟩ := (show ObjOk X.prog X.w H s.heap tp (.tup cs) from I.hok tp _ hT)
  cases ClsV.all k rv
  simp only at h2 h3
  subst h2 h3
  exact PySem.W.kia_tup (PySem.W.handS_kitx_exc C.hg C.hk C.hs C.hd C.ha C.hn C.ht C.hm) I.kIn J h1 e (fun z => nomatch z) fun tk => ⟨.bl b, H, I.tok tk, rfl, q⟩
/-- .. of data or of an exception -/
def rIs (K : PySem.W.Frag) : List V → Hp → VK → Prop := fun xs H Q => rIsi K xs H Q ∨ rIsX K xs H Q
def rIsT (K : PySem.W.Frag) : List V → Hp → VK → Prop := fun xs H Q => rIsiT K xs H Q ∨ rIsXT K xs H Q
theorem call_is {X : Cx} : CallR X (.builtin "isinstance") (rIs X.K) := CallR.or call_isi call_isX
theorem call_isT {X : Cx} : CallR X (.builtin "isinstance") (rIsT X.K) := CallR.or call_isiT call_isXT
section
variable {K : PySem.W.Frag} {m : Bool} {Γ : List Sl} {Q : PyData → Prop}
theorem wd_isX {i : Nat} {v : V} {D : Addr} {c : V} {u : Value} {b : Bool} (hi : Γ[i]? = some (.ex v (ExcO K D))) (C : ExcC K D) (hc : ClsV c u) (hk : PySem.W.kitOne K (.ref D) u = some b) (q : Q (.bool b)) : WD K m Γ (tCB (rIs K) (tCons (tVar i) (tCons (tC c) tNil))) Q := fun X hK F H σ E X' k => by
  obtain ⟨S, hs, _, _⟩ := E.sl
  obtain ⟨_, _, a, e, h, _⟩ := hs i _ hi
  subst e
  exact ⟨_, E.ex hi, .inr ⟨a, D, c, u, b, rfl, h, C, hc, hk, k _ F H _ Le.rfl' E (.bl b) q⟩⟩
theorem wd_isXT {i : Nat} {v : V} {D : Addr} {cs : List V} {us : List Value} {b : Bool} {tr : TA} (hi : Γ[i]? = some (.ex v (ExcO K D))) (C : ExcC K D) (htr : ∀ σ H C, tr σ H C = C cs H) (hz : cs.length ≤ 100000) (hc : Paired ClsV cs us) (hk : PySem.W.kitAny K (.ref D) us = some b) (q : Q (.bool b)) : WD K m Γ (tCB (rIsT K) (tCons (tVar i) (tCons (tTup tr) tNil))) Q := fun X hK F H σ E X' k => by
  obtain ⟨S, hs, _, _⟩ := E.sl
  obtain ⟨_, _, a, e, h, _⟩ := hs i _ hi
  subst e
  refine ⟨_, E.ex hi, ?_⟩
  show tr σ H _
  rw [htr]
  refine ⟨sz_le hz, fun p hp => .inr ⟨a, D, p, cs, us, b, rfl, upd_same, by rw [upd_ne (ne_of_none h hp)]; exact h, C, hc, hk, k _ F _ _ Le.rfl' (E.free hp) (.bl b) q⟩⟩
end
/-! ### what the top says of an exception's class -/
structure ExcT (K : PySem.W.Frag) (mg : Str → Option Value) (x : Str) (C : Addr) : Prop where
  g : mg x = some (.ref C)
  q : PySem.W.excIn K C He.veBase "ValueError.__new__" = true
  k : PySem.W.keepIn K (.ref C) = true
  s : PySem.W.subIn K (.ref C) (.type "BaseException") = some true
  t : PySem.W.typeIn K (.ref C) = some (.type "type")
  c : ExcC K C
end Pk
namespace Pk
open PySem PySem.Spec PyProof.Rows L2
section
variable {X : Cx} {k : Nat} {x : Str} {ps : List Str} {sp : Sp} {W : XW} {p pos : Pos} {e : Expr} {es : List Expr} {t : TA}
/-- f(e, ..), where f may raise -/
theorem pe_cx (c : Cal X.prog X.w X.K X.mg X.base (L2.CX X.prog X.w) k x ps sp) (hr : Room k X.A) (hg : Gl X x) (tk : Takes X W) (ha : PA X (e :: es) t) (hdb : (x == ("__debug__" : Str)) = false := by decide) (he : starEach (e :: es) X.env = (false, eval e X.env) :: starEach es X.env := by rfl) (hpl : ((backTo pos (starEach es X.env)).any fun x => x.fst) = false := by rfl) : PE X (.Call (.Name x p) (e :: es) [] pos) (tCallS sp (WE W) t) := by
  obtain ⟨f, fd, a, b, d, F⟩ := c.ex
  exact pe_callS F hr hg a b d (fun σ => passAt tk σ) ha hdb he hpl
/-- raise C('..') -/
theorem ps_rs {C : Addr} {m : Str} {j : Nat} {p2 : Pos} {pos' : Pos} (hc : X.calm = true) (tk : Takes X W) (T : ExcT X.K X.mg x C) (hg : Gl X x) (hdb : (x == ("__debug__" : Str)) = false := by decide) : PS X (.Raise (some (.Call (.Name x p) [.Constant (.str m) j p2] [] pos)) none pos') (tRaiseW W C) :=
  ps_raise hc tk (pmk_own PySem.F.excBase_ValueError T.q T.g T.k (raises_own T.s T.t) hg hdb)
end
/-! ### the head with one more Bool -/
def obsB (n : Nat) (fa : List He.Fa) (fn : List He.DefD) (ex : PySem.W.Frag → Bool) (g : Addr → Option Obj) : He.AlD × Bool := (He.obsDG n fa fn g, ex (He.frG g (He.asD g n)))
def hookB (n : Nat) (fa : List He.Fa) (fn : List He.DefD) (ex : PySem.W.Frag → Bool) : PySem.W.Hook where
  α := He.AlD × Bool
  obs := fun s => obsB n fa fn ex s.heap.get?
  val := fun _ => (He.valD fn, true)
  says := fun _ h => ∃ K : PySem.W.Frag, K.In h ∧ He.SaysD fa fn K ∧ ex K = true
  of := fun _ s e => ⟨He.frG s.heap.get? (He.asD s.heap.get? n), He.frG_in, by have h := congrArg Prod.fst e; exact h, by have h := congrArg Prod.snd e; exact h⟩
  keeps := fun _ _ _ ⟨K, hK, c⟩ k => ⟨K, PySem.W.Frag.In.keeps hK k, c⟩
theorem obsB_eq {n : Nat} {fa : List He.Fa} {fn : List He.DefD} {ex : PySem.W.Frag → Bool} {g : Addr → Option Obj} {s : Shared} (h : ∀ a, g a = s.heap.get? a) : obsB n fa fn ex g = (hookB n fa fn ex).obs s := by
  have e : g = s.heap.get? := funext h
  rw [e]
  rfl
/-- an exception's class, as a Bool -/
def excB (K : PySem.W.Frag) (x : Str) : Bool := PySem.W.excIn K (He.ga K x) He.veBase "ValueError.__new__" && PySem.W.keepIn K (.ref (He.ga K x)) && decide (PySem.W.subIn K (.ref (He.ga K x)) (.type "BaseException") = some true) && decide (PySem.W.typeIn K (.ref (He.ga K x)) = some (.type "type")) &&
  He.eqO (PySem.W.findIn K (.ref (He.ga K x)) "__getattribute__") (some (some (.builtin "BaseException.__getattribute__"))) && He.eqO (PySem.W.findIn K (.ref (He.ga K x)) "__getattr__") (some none) && PySem.W.hasDictIn K (He.ga K x) && He.eqO (PySem.W.findIn K (.ref (He.ga K x)) "__class__") (some (some (.builtin "object.__class__"))) &&
  He.eqO (PySem.W.specialIn K (.builtin "object.__class__") "__get__") (some (some (.builtin "getset_descriptor.__get__"))) && decide (PySem.W.takesIn K (.builtin "object.__class__") = some true) && decide (PySem.W.mroIn K (He.ga K x) (.type "object") = some true)
theorem excB_ok {K : PySem.W.Frag} {mg : Str → Option Value} {x : Str} (h : excB K x = true) (g : mg x = some (.ref (He.ga K x))) : ExcT K mg x (He.ga K x) := by
  simp only [excB, Bool.and_eq_true, decide_eq_true_eq] at h
  obtain ⟨⟨⟨⟨⟨⟨⟨⟨⟨⟨h1, h2⟩, h3⟩, h4⟩, h5⟩, h6⟩, h7⟩, h8⟩, h9⟩, h10⟩, h11⟩ := h
  exact ⟨g, h1, h2, h3, h4, ⟨He.eqO_ok h5, He.eqO_ok h6, h3, h7, He.eqO_ok h8, He.eqO_ok h9, h10, h11⟩⟩
end Pk
end
section
set_option Elab.async false
set_option linter.all false
set_option maxRecDepth 100000
/-! The data layer, part 14: a pair of data and a list of one's own. -/
namespace Pk
open PySem PySem.Spec PyProof.Rows L2
def TupL (K : PySem.W.Frag) (d : PyData) (ds : List PyData) : Own where
  K := K
  p := fun F H v S => ∃ (t l : Addr) (w : V) (xs : List V), v = .ref t ∧ SqT K F t [w, .ref l] ∧ Rp K F w d ∧ H l = some (.lst xs) ∧ RpA K F xs ds ∧ ∀ a, S a ↔ a = l
  vw := some (.tuple [d, .list ds])
  keep := fun {F F' H H' v S} ⟨t, l, w, xs, e, h1, h2, h3, h4, h5⟩ le k => ⟨t, l, w, xs, e, sqT_le le h1, h2.mono le, (k l ((h5 l).mpr rfl)).trans h3, h4.mono le, h5⟩
  keepT := fun e => nomatch e
  view := fun {F H v S d'} le ⟨t, l, w, xs, e, h1, h2, h3, h4, h5⟩ ed => by
    cases ed
    subst e
    have ll : Le F (lay S H F) := fun a o q => by
      unfold lay
      by_cases h : S a
      · rw [if_pos h]; exact le a o q
      · rw [if_neg h]; exact q
    exact ⟨.tup (sqT_le ll h1) (.cons (h2.mono ll) (.cons (.lst (by rw [lay_at ((h5 l).mpr rfl)]; exact h3) (h4.mono ll)) .nil)), fun a sa => by rw [(h5 a).mp sa]; exact ⟨xs, h3⟩⟩
section
variable {X : Bs} {F H : Hp} {σ : L2.St} {Γ : List Sl}
/-- the last slot told otherwise -/
theorem En.swapLast {ov : Option V} {s : Sl} (E : En X F H (σ ++ [ov]) (Γ ++ [s])) : ∃ S : Addr → Prop, SlOk X F H ov S s ∧ ∀ ov' s', SlOk X F H ov' S s' → En X F H (σ ++ [ov']) (Γ ++ [s']) := by
  have hl : σ.length = Γ.length := by
    have := E.len
    simp at this
    exact this
  obtain ⟨S, hs, hdj, ho⟩ := id E.sl
  have q0 := hs Γ.length s (by simp)
  rw [← hl, getD_last] at q0
  refine ⟨S σ.length, q0, fun ov' s' h => ⟨E.le, by simp [hl], ⟨S, fun i u e => ?_, hdj, ho⟩, E.fr, E.f0, E.nn⟩⟩
  by_cases hi : i < Γ.length
  · rw [List.getElem?_append_left hi] at e
    have q := hs i u (by rw [List.getElem?_append_left hi]; exact e)
    rw [getD_app (by rw [hl]; exact hi)] at q ⊢
    exact q
  · have hi2 : i < (Γ ++ [s']).length := (List.getElem?_eq_some_iff.mp e).1
    simp at hi2
    have : i = Γ.length := by omega
    subst this
    simp at e
    subst e
    rw [← hl, getD_last]
    exact h
end
section
variable {K : PySem.W.Frag} {m : Bool} {Γ : List Sl} {P : Po} {Q : PyData → Prop} {te : TE}
/-- return (d, own list) -/
theorem sj_retTL {i : Nat} {l : Addr} {ds : List PyData} (hi : Γ[i]? = some (.ml m l ds)) (h : WD K false Γ te fun d => ∀ v, P.rt (.ex v (TupL K d ds)) (Γ.set i .no)) : SJ K Γ (tRet (tTup (tCons te (tCons (tVar i) tNil)))) P := fun X hK F H σ E D hD =>
  h X hK F H σ E _ fun v F1 H1 d l1 E1 r q => by
    subst hK
    obtain ⟨xs, e, hl, fl, rx⟩ := E1.ml hi
    refine ⟨.ref l, e, sz_le (n := 2) (by decide), fun p hp => ?_⟩
    have E2 := (E1.take hi).alloc (o := .tup [v, .ref l]) hp
    have lf : Le F1 (upd F1 p (.tup [v, .ref l])) := Le.up (E1.le.nn hp)
    obtain ⟨S, ⟨ys, e1, hS, hl2, r2, _⟩, sw⟩ := E2.swapLast
    exact hD.rt _ _ σ _ (.ref p) _ (sw (some (.ref p)) (.ex (.ref p) (TupL X.K d ds)) ⟨rfl, rfl, p, l, v, ys, rfl, .inl (.inl upd_same), r.mono lf, hl2, r2.mono (Bs.ff_le _ _ _), hS⟩) (q _)
/-- a, b = .. of such a pair -/
theorem sj_unTL {a b : Nat} (hab : a ≠ b) (h : WX K Γ te fun s => ∃ v d ds, s = .ex v (TupL K d ds) ∧ ∀ l, P.nx ((Γ.set a (.dat false d)).set b (.ml false l ds))) : SJ K Γ (tAsg te (gTup K 2 (gCons (gName a) (gCons (gName b) gNil)))) P := fun X hK F H σ E D hD =>
  h X hK F H σ E _ fun v F1 H1 s l1 E1 ⟨v', d, ds, es, q⟩ => by
    subst hK
    subst es
    obtain ⟨S, ⟨e0, _, t, l, w, xs, ev, h1, h2, h3, h4, h5⟩, sw⟩ := E1.swapLast
    cases e0
    subst ev
    refine ⟨t, [w, .ref l], rfl, sqT_le E1.le h1, rfl, w, [.ref l], rfl, .ref l, [], rfl, rfl, ?_⟩
    have E2 : En X F1 H1 (σ ++ [some (.ref l)]) (Γ ++ [.ml false l ds]) := sw _ _ ⟨xs, rfl, h5, h3, h4, fun z => nomatch z⟩
    have E3 := ((E2.put b).pushD (m := false) (d := d) h2).put a
    rw [List.set_comm _ _ hab.symm, List.set_comm _ _ hab.symm] at E3
    exact hD.nx F1 H1 _ _ E3 (q l)
theorem wd_lenM {i : Nat} {m' : Bool} {l : Addr} {ds : List PyData} (hi : Γ[i]? = some (.ml m' l ds)) (q : Q (.int ds.length)) : WD K m Γ (tCB (dLen K) (tCons (tVar i) tNil)) Q := fun X hK F H σ E C k => by
  subst hK
  obtain ⟨xs, e, hl, fl, rx⟩ := E.ml hi
  exact ⟨_, e, _, ds.length, rfl, .inl ⟨_, SqL.of hl, rx.length.symm⟩, k _ F H _ Le.rfl' E (.int _) q⟩
/-- f(own list just made), the list f's to change -/
theorem wx_callTmp {T : List Sl → (Sl → Prop) → Prop} {QX : Sl → Prop} {EE : XK} {PL : List Int → Prop} (h : WX K Γ te fun s => ∃ m l ns, s = .ml m l (ns.map PyData.int) ∧ PL ns ∧ T [.ex (.ref l) (OwnL K PL)] QX) : WX K Γ (tCall (spG K T) [] EE (tCons te tNil)) QX := fun X hK F H σ E C k =>
  h X hK F H σ E _ fun v F1 H1 s l1 E1 ⟨m, l, ns, es, hp, hT⟩ => by
    subst es
    obtain ⟨S, ⟨xs, e0, hS, hl, r, _⟩, sw⟩ := E1.swapLast
    cases e0
    rw [ints_of r] at hl
    have E2 := sw (some (.ref l)) (.ex (.ref l) (OwnL K PL)) ⟨rfl, hK.symm, l, ns, rfl, hS, hl, hp⟩
    have hlen : σ.length = Γ.length := by
      have := E1.len
      simp at this
      exact this
    have hi : (Γ ++ [Sl.ex (.ref l) (OwnL K PL)])[Γ.length]? = some (.ex (.ref l) (OwnL K PL)) := by simp
    have hv : (σ ++ [some (V.ref l)])[Γ.length]? = some (some (.ref l)) := by rw [← hlen]; simp
    obtain ⟨X1, a, b, c, d, e, f⟩ := call_sp hK E2 (vs := [.ref l]) (as := [.o Γ.length]) (.cons hv .nil) (agsGood_1 hi rfl)
    have hsl : ([Ag.o Γ.length].map (Ag.sl (Γ ++ [Sl.ex (.ref l) (OwnL K PL)]))) = [.ex (.ref l) (OwnL K PL)] := by rw [List.map_cons, ag_ex hi]; rfl
    rw [hsl] at e f
    refine ⟨X1, F1, _, QX, a, b, c, d, e, hT, fun F' H' u s lf E' q => ?_⟩
    have E3 := (f F' H' u s lf E').put Γ.length
    have e1 : (σ ++ [some (V.ref l)]).set Γ.length (some u) = σ ++ [some u] := by rw [← hlen]; simp
    have e2 : (Γ ++ [Sl.ex (.ref l) (OwnL K PL)]).set Γ.length s = Γ ++ [s] := by simp
    rw [e1, e2] at E3
    exact k u F' H' s (l1.tr lf) E3 q
end
end Pk
end
section
set_option Elab.async false
set_option linter.all false
set_option maxRecDepth 100000
/-! Webs of knots: data, and what is counted. -/
namespace Wb
open PySem PySem.Spec PyProof.Rows L2 Pk
inductive Wy where
  | nothing
  | gives (n : Nat)
  | knot (j : Nat)
  deriving DecidableEq
instance : Inhabited Wy := ⟨.nothing⟩
def Wy.d : Wy → PyData
  | .nothing => .tuple [.str "nothing"]
  | .gives n => .tuple [.str "gives", .int n]
  | .knot j => .tuple [.str "knot", .int j]
abbrev knotD (k : List Wy) : PyData := .list (k.map Wy.d)
abbrev webD (top : Wy) (ks : List (List Wy)) : PyData := .tuple [top.d, .list (ks.map knotD)]
/-- a way of the first so many -/
def WayOk (many : Nat) : Wy → Prop
  | .knot j => j < many
  | .gives n => n < 16
  | .nothing => True
def KnotsOk (ks : List (List Wy)) : Prop := ∀ (i : Nat) (k : List Wy), ks[i]? = some k → 0 < k.length ∧ k.length ≤ 5 ∧ ∀ w ∈ k, WayOk i w
structure Web where
  top : Wy
  ks : List (List Wy)
def Web.Ok (w : Web) : Prop := KnotsOk w.ks ∧ w.ks.length ≤ 300 ∧ WayOk w.ks.length w.top
def natsD (ns : List Nat) : List PyData := ns.map fun (n : Nat) => PyData.int (n : Int)
/-- choices taken at each knot -/
abbrev tkD (ts : List (List Nat)) : PyData := .list (ts.map fun t => .list (natsD t))
def TkOk (ks : List (List Wy)) (ts : List (List Nat)) : Prop := ts.length = ks.length ∧ ∀ (i : Nat) (t : List Nat) (k : List Wy), ts[i]? = some t → ks[i]? = some k → t.length ≤ k.length ∧ ∀ c ∈ t, c < k.length
/-! own store -/
def StP (ns : List Int) : Prop := ∃ g x n, ns = [g, x, n] ∧ 0 ≤ g
abbrev StoreO (K : PySem.W.Frag) : Own := OwnL K StP
/-! ### promises of the law's own defs -/
def T_cell (K : PySem.W.Frag) : List Sl → (Sl → Prop) → Prop := fun Γ Q => ∃ v ns k, Γ = [.ex v (ScriptO K ns), .dat false (.int k)] ∧ 0 ≤ k ∧ k < 1000 ∧ ∀ c, Q (.dat true (.int c))
def T_store (K : PySem.W.Frag) : List Sl → (Sl → Prop) → Prop := fun Γ Q => ∃ c, Γ = [.dat false (.int c)] ∧ ∀ l g x, 0 ≤ g → Q (.ml false l [.int g, .int x, .int 1])
def T_take (K : PySem.W.Frag) : List Sl → (Sl → Prop) → Prop := fun Γ Q => ∃ v many, Γ = [.ex v (StoreO K), .dat false (.int many)] ∧ 0 < many ∧ many < 1000000 ∧ ∀ r, 0 ≤ r → r < many → Q (.dat true (.int r))
def T_way (K : PySem.W.Frag) : List Sl → (Sl → Prop) → Prop := fun Γ Q => ∃ v, ∃ many : Nat, Γ = [.ex v (StoreO K), .dat false (.int many)] ∧ many < 100000 ∧ ∀ w, WayOk many w → Q (.dat true w.d)
def T_knots (K : PySem.W.Frag) : List Sl → (Sl → Prop) → Prop := fun Γ Q => ∃ v, Γ = [.ex v (StoreO K)] ∧ ∀ v' top ks, KnotsOk ks → ks.length ≤ 40 → WayOk ks.length top → Q (.ex v' (TupL K top.d (ks.map knotD)))
section
variable {K : PySem.W.Frag} {m : Bool} {v : V} {Q : PyData → Prop}
theorem use_take {n : Int} (h0 : 0 < n) (h1 : n < 1000000) (q : ∀ r, 0 ≤ r → r < n → Q (.int r)) : T_take K [.ex v (StoreO K), .dat false (.int n)] (asD m Q) := ⟨v, n, rfl, h0, h1, fun r a b => asD_new (q r a b)⟩
theorem use_way {n : Nat} (h1 : n < 100000) (q : ∀ w, WayOk n w → Q w.d) : T_way K [.ex v (StoreO K), .dat false (.int n)] (asD m Q) := ⟨v, n, rfl, h1, fun w a => asD_new (q w a)⟩
end
theorem Wy.lf (w : Wy) : lf w.d = true := by cases w <;> rfl
end Wb
end
section
set_option Elab.async false
set_option linter.all false
set_option maxRecDepth 100000
/-! Webs of knots: the mathematics, no program in sight. -/
namespace Wb
theorem fm_congr {α β : Type} {l : List α} {f g : α → List β} (h : ∀ x ∈ l, f x = g x) : l.flatMap f = l.flatMap g := by
  induction l with
  | nil => rfl
  | cons x l ih =>
    rw [List.flatMap_cons, List.flatMap_cons, h x List.mem_cons_self, ih fun y hy => h y (List.mem_cons_of_mem _ hy)]
def wcount (cs : List Int) : Wy → Int
  | .knot j => cs.getD j 0
  | _ => 1
def kget (k : List Wy) (c : Nat) : Wy := k.getD c .nothing
def stepC (acc : List Int) (k : List Wy) (t : List Nat) : Int := (t.map fun c => wcount acc (kget k c)).sum
def countsN (ks : List (List Wy)) (ts : List (List Nat)) : Nat → List Int
  | 0 => []
  | n + 1 => countsN ks ts n ++ [stepC (countsN ks ts n) (ks.getD n []) (ts.getD n [])]
def counts (ks : List (List Wy)) (ts : List (List Nat)) : List Int := countsN ks ts ks.length
theorem countsN_len (ks : List (List Wy)) (ts : List (List Nat)) : ∀ n, (countsN ks ts n).length = n
  | 0 => rfl
  | n + 1 => by simp [countsN, countsN_len ks ts n]
theorem countsN_get (ks : List (List Wy)) (ts : List (List Nat)) {j : Nat} : ∀ {n : Nat}, j < n → (countsN ks ts n)[j]? = some (stepC (countsN ks ts j) (ks.getD j []) (ts.getD j []))
  | 0, h => by omega
  | n + 1, h => by
    rw [countsN]
    by_cases hj : j < n
    · rw [List.getElem?_append_left (by rw [countsN_len]; exact hj)]
      exact countsN_get ks ts hj
    · have : j = n := by omega
      subst this
      have e := countsN_len ks ts j
      rw [List.getElem?_append_right (by omega), e]
      simp
abbrev Run := List Nat × Wy
def runsF (ks : List (List Wy)) (ts : List (List Nat)) : Nat → Wy → List Run
  | 0, .knot _ => []
  | n + 1, .knot j => (ts.getD j []).flatMap fun c => (runsF ks ts n (kget (ks.getD j []) c)).map fun r => (c :: r.1, r.2)
  | _, w => [([], w)]
def rk : Wy → Nat
  | .knot j => j + 1
  | _ => 0
def runs (ks : List (List Wy)) (ts : List (List Nat)) (w : Wy) : List Run := runsF ks ts (rk w) w
/-- what is taken is there, nowhere nothing, nothing twice -/
structure Tk (ks : List (List Wy)) (ts : List (List Nat)) : Prop where
  len : ts.length = ks.length
  ok : KnotsOk ks
  at_ : ∀ (i : Nat) (t : List Nat) (k : List Wy), ts[i]? = some t → ks[i]? = some k → 0 < t.length ∧ t.length ≤ k.length ∧ t.Nodup ∧ ∀ c ∈ t, c < k.length
section
variable {ks : List (List Wy)} {ts : List (List Nat)} (T : Tk ks ts)
include T
theorem Tk.get {j : Nat} (hj : j < ks.length) : ∃ t k, ts[j]? = some t ∧ ks[j]? = some k ∧ ts.getD j [] = t ∧ ks.getD j [] = k ∧ 0 < t.length ∧ t.length ≤ k.length ∧ t.Nodup ∧ k.length ≤ 5 ∧ ∀ c ∈ t, c < k.length ∧ WayOk j (kget k c) := by
  have h1 : j < ts.length := by rw [T.len]; exact hj
  have e1 : ts[j]? = some ts[j] := List.getElem?_eq_getElem h1
  have e2 : ks[j]? = some ks[j] := List.getElem?_eq_getElem hj
  obtain ⟨a, b, c, d⟩ := T.at_ j _ _ e1 e2
  obtain ⟨_, k5, kw⟩ := T.ok j _ e2
  refine ⟨ts[j], ks[j], e1, e2, by simp [List.getD_eq_getElem?_getD, e1], by simp [List.getD_eq_getElem?_getD, e2], a, b, c, k5, fun x hx => ⟨d x hx, ?_⟩⟩
  have hx' := d x hx
  unfold kget
  simp only [List.getD_eq_getElem?_getD, List.getElem?_eq_getElem hx', Option.getD_some]
  exact kw _ (List.getElem_mem hx')
theorem rk_le {j : Nat} {w : Wy} (h : WayOk j w) : rk w ≤ j := by
  cases w with
  | knot i => exact h
  | _ => exact Nat.zero_le _
theorem rk_lt {j : Nat} {w : Wy} (h : WayOk j w) : rk w < rk (.knot j) := Nat.lt_succ_of_le (rk_le T h)
theorem runsF_stable : ∀ (n : Nat) (w : Wy), WayOk ks.length w → rk w ≤ n → runsF ks ts n w = runs ks ts w
  | n, .nothing, _, _ => by cases n <;> rfl
  | n, .gives _, _, _ => by cases n <;> rfl
  | 0, .knot j, _, h => by simp [rk] at h
  | n + 1, .knot j, hw, h => by
    have hj : j < ks.length := hw
    have hjn : j ≤ n := by simpa [rk] using h
    obtain ⟨t, k, _, _, e1, e2, _, _, _, _, hc⟩ := T.get hj
    show (ts.getD j []).flatMap _ = (ts.getD j []).flatMap _
    rw [e1, e2]
    apply fm_congr
    intro c hcm
    obtain ⟨_, hwc⟩ := hc c hcm
    have hk : WayOk ks.length (kget k c) := by
      cases hq : kget k c with
      | knot i => rw [hq] at hwc; exact Nat.lt_trans hwc hj
      | gives g => rw [hq] at hwc; exact hwc
      | nothing => trivial
    rw [runsF_stable n _ hk (Nat.le_trans (rk_le T hwc) hjn), runsF_stable j _ hk (rk_le T hwc)]
theorem wayOk_up {j : Nat} {w : Wy} (hj : j ≤ ks.length) (h : WayOk j w) : WayOk ks.length w := by
  cases w with
  | knot i => exact Nat.lt_of_lt_of_le h hj
  | gives g => exact h
  | nothing => trivial
theorem runs_knot {j : Nat} (hj : j < ks.length) : runs ks ts (.knot j) = (ts.getD j []).flatMap fun c => (runs ks ts (kget (ks.getD j []) c)).map fun r => (c :: r.1, r.2) := by
  obtain ⟨t, k, _, _, e1, e2, _, _, _, _, hc⟩ := T.get hj
  show (ts.getD j []).flatMap _ = _
  rw [e1, e2]
  apply fm_congr
  intro c hcm
  obtain ⟨_, hwc⟩ := hc c hcm
  rw [runsF_stable T j _ (wayOk_up T (Nat.le_of_lt hj) hwc) (rk_le T hwc)]
end
theorem runs_end {ks : List (List Wy)} {ts : List (List Nat)} {w : Wy} (h : ∀ j, w ≠ .knot j) : runs ks ts w = [([], w)] := by
  cases w with
  | knot j => exact absurd rfl (h j)
  | nothing => rfl
  | gives n => rfl
/-- by the rank -/
theorem by_rank {P : Wy → Prop} (h : ∀ w, (∀ w', rk w' < rk w → P w') → P w) (w : Wy) : P w := by
  have : ∀ n w, rk w ≤ n → P w := by
    intro n
    induction n with
    | zero => intro w hw; exact h w fun w' hw' => by omega
    | succ n ih => intro w hw; exact h w fun w' hw' => ih w' (by omega)
  exact this (rk w) w (Nat.le_refl _)
section
variable {ks : List (List Wy)} {ts : List (List Nat)} (T : Tk ks ts)
include T
theorem runs_pos (w : Wy) : WayOk ks.length w → 0 < (runs ks ts w).length := by
  induction w using by_rank with
  | h w ih =>
    intro hw
    cases w with
    | nothing => simp [runs_end]
    | gives n => simp [runs_end]
    | knot j =>
      have hj : j < ks.length := hw
      obtain ⟨t, k, _, _, e1, e2, h0, _, _, _, hc⟩ := T.get hj
      rw [runs_knot T hj, e1, e2]
      cases t with
      | nil => simp at h0
      | cons c t =>
        obtain ⟨_, hwc⟩ := hc c List.mem_cons_self
        have := ih (kget k c) (rk_lt T hwc) (wayOk_up T (Nat.le_of_lt hj) hwc)
        simp only [List.flatMap_cons, List.length_append, List.length_map]
        omega
theorem count_runs (w : Wy) : ∀ m, m ≤ ks.length → WayOk m w → wcount (countsN ks ts m) w = (runs ks ts w).length := by
  induction w using by_rank with
  | h w ih =>
    intro m hm hw
    cases w with
    | nothing => simp [runs_end, wcount]
    | gives n => simp [runs_end, wcount]
    | knot j =>
      have hj : j < ks.length := Nat.lt_of_lt_of_le hw hm
      obtain ⟨t, k, _, _, e1, e2, h0, _, _, _, hc⟩ := T.get hj
      have e3 : wcount (countsN ks ts m) (.knot j) = stepC (countsN ks ts j) k t := by
        show (countsN ks ts m).getD j 0 = _
        rw [List.getD_eq_getElem?_getD, countsN_get ks ts hw, e1, e2]
        rfl
      rw [e3, runs_knot T hj, e1, e2]
      unfold stepC
      have key : ∀ t : List Nat, (∀ c ∈ t, c < k.length ∧ WayOk j (kget k c)) → (t.map fun c => wcount (countsN ks ts j) (kget k c)).sum = ((t.flatMap fun c => (runs ks ts (kget k c)).map fun r => (c :: r.1, r.2)).length : Int) := by
        intro t
        induction t with
        | nil => intro _; simp
        | cons c t iht =>
          intro hc
          obtain ⟨_, hwc⟩ := hc c List.mem_cons_self
          have h1 := ih (kget k c) (rk_lt T hwc) j (Nat.le_of_lt hj) hwc
          have h2 := iht fun c' hc' => hc c' (List.mem_cons_of_mem _ hc')
          simp only [List.map_cons, List.sum_cons, List.flatMap_cons, List.length_append, List.length_map]
          rw [h1, h2]
          omega
      exact key t hc
/-- each run: its end is one, its choices are few -/
theorem runs_ends (w : Wy) : WayOk ks.length w → ∀ r ∈ runs ks ts w, (∀ j, r.2 ≠ .knot j) ∧ WayOk ks.length r.2 ∧ r.1.length ≤ rk w := by
  induction w using by_rank with
  | h w ih =>
    intro hw r hr
    cases w with
    | nothing => rw [runs_end (by simp)] at hr; simp at hr; subst hr; exact ⟨by simp, trivial, by simp⟩
    | gives n => rw [runs_end (by simp)] at hr; simp at hr; subst hr; exact ⟨by simp, hw, by simp⟩
    | knot j =>
      have hj : j < ks.length := hw
      obtain ⟨t, k, _, _, e1, e2, h0, _, _, _, hc⟩ := T.get hj
      rw [runs_knot T hj, e1, e2] at hr
      obtain ⟨c, hcm, hr⟩ := List.mem_flatMap.mp hr
      obtain ⟨r0, hr0, rfl⟩ := List.mem_map.mp hr
      obtain ⟨_, hwc⟩ := hc c hcm
      have hlt : rk (kget k c) < rk (.knot j) := rk_lt T hwc
      obtain ⟨a, b, d⟩ := ih (kget k c) hlt (wayOk_up T (Nat.le_of_lt hj) hwc) r0 hr0
      exact ⟨a, b, by simp; omega⟩
theorem runs_nodup (w : Wy) : WayOk ks.length w → ((runs ks ts w).map Prod.fst).Nodup := by
  induction w using by_rank with
  | h w ih =>
    intro hw
    cases w with
    | nothing => simp [runs_end]
    | gives n => simp [runs_end]
    | knot j =>
      have hj : j < ks.length := hw
      obtain ⟨t, k, _, _, e1, e2, h0, _, nd, _, hc⟩ := T.get hj
      rw [runs_knot T hj, e1, e2]
      suffices key : ∀ t : List Nat, t.Nodup → (∀ c ∈ t, c < k.length ∧ WayOk j (kget k c)) → ((t.flatMap fun c => (runs ks ts (kget k c)).map fun r => (c :: r.1, r.2)).map Prod.fst).Nodup from key t nd hc
      clear hc nd h0 e1 e2
      intro t
      induction t with
      | nil => intro _ _; simp
      | cons c t iht =>
        intro nd hc
        obtain ⟨_, hwc⟩ := hc c List.mem_cons_self
        have hlt : rk (kget k c) < rk (.knot j) := rk_lt T hwc
        have h1 := ih (kget k c) hlt (wayOk_up T (Nat.le_of_lt hj) hwc)
        have h2 := iht (List.nodup_cons.mp nd).2 fun c' hc' => hc c' (List.mem_cons_of_mem _ hc')
        rw [List.flatMap_cons, List.map_append, List.map_map]
        refine List.nodup_append.mpr ⟨?_, h2, ?_⟩
        · have : ((runs ks ts (kget k c)).map (Prod.fst ∘ fun r => (c :: r.1, r.2))) = ((runs ks ts (kget k c)).map Prod.fst).map (c :: ·) := by
            rw [List.map_map]
            rfl
          rw [this]
          exact List.Pairwise.map _ (fun a b hab z => hab (List.cons.inj z).2) h1
        · intro a ha b hb e
          subst e
          obtain ⟨r, hr, e1⟩ := List.mem_map.mp ha
          obtain ⟨r', hr', e2⟩ := List.mem_map.mp hb
          obtain ⟨c', hc', hr'⟩ := List.mem_flatMap.mp hr'
          obtain ⟨r0, hr0, rfl⟩ := List.mem_map.mp hr'
          simp at e1 e2
          have : c = c' := by
            rw [← e1] at e2
            exact ((List.cons.inj e2).1).symm
          subst this
          exact (List.nodup_cons.mp nd).1 hc'
/-! ### a stack of what is still to be gone -/
def expand (ks : List (List Wy)) (ts : List (List Nat)) (st : List Run) : List Run := st.flatMap fun s => (runs ks ts s.2).map fun r => (s.1 ++ r.1, r.2)
def mu (ks : List (List Wy)) (ts : List (List Nat)) (st : List Run) : Nat := (st.map fun s => 1 + ((runs ks ts s.2).map fun r => 1 + r.1.length).sum).sum
theorem expand_end {ch : List Nat} {w : Wy} {st : List Run} (h : ∀ j, w ≠ .knot j) : expand ks ts ((ch, w) :: st) = (ch, w) :: expand ks ts st := by
  simp [expand, runs_end h]
def kids (ks : List (List Wy)) (ts : List (List Nat)) (ch : List Nat) (j : Nat) : List Run := (ts.getD j []).map fun c => (ch ++ [c], kget (ks.getD j []) c)
theorem expand_knot {ch : List Nat} {j : Nat} {st : List Run} (hj : j < ks.length) : expand ks ts ((ch, .knot j) :: st) = expand ks ts (kids ks ts ch j ++ st) := by
  unfold expand kids
  rw [List.flatMap_cons, List.flatMap_append, runs_knot T hj]
  congr 1
  simp only [List.map_flatMap, List.flatMap_map, List.map_map]
  apply fm_congr
  intro c _
  apply List.map_congr_left
  intro r _
  simp
theorem mu_end {ch : List Nat} {w : Wy} {st : List Run} : mu ks ts st < mu ks ts ((ch, w) :: st) := by
  simp only [mu, List.map_cons, List.sum_cons]
  omega
theorem mu_knot {ch : List Nat} {j : Nat} {st : List Run} (hj : j < ks.length) : mu ks ts (kids ks ts ch j ++ st) < mu ks ts ((ch, .knot j) :: st) := by
  obtain ⟨t, k, _, _, e1, e2, h0, _, _, _, hc⟩ := T.get hj
  unfold mu kids
  rw [List.map_append, List.sum_append, List.map_cons, List.sum_cons, runs_knot T hj, e1, e2]
  have key : (((t.map fun c => (ch ++ [c], kget k c)).map fun s => 1 + ((runs ks ts s.2).map fun r => 1 + r.1.length).sum).sum) ≤ ((t.flatMap fun c => (runs ks ts (kget k c)).map fun r => (c :: r.1, r.2)).map fun r => 1 + r.1.length).sum := by
    suffices key : ∀ t : List Nat, (∀ c ∈ t, c < k.length ∧ WayOk j (kget k c)) → (((t.map fun c => (ch ++ [c], kget k c)).map fun s => 1 + ((runs ks ts s.2).map fun r => 1 + r.1.length).sum).sum) ≤ ((t.flatMap fun c => (runs ks ts (kget k c)).map fun r => (c :: r.1, r.2)).map fun r => 1 + r.1.length).sum from key t hc
    clear hc h0 e1 e2
    intro t
    induction t with
    | nil => intro _; simp
    | cons c t iht =>
      intro hc
      obtain ⟨_, hwc⟩ := hc c List.mem_cons_self
      have hp := runs_pos T (kget k c) (wayOk_up T (Nat.le_of_lt hj) hwc)
      have h2 := iht fun c' hc' => hc c' (List.mem_cons_of_mem _ hc')
      simp only [List.map_cons, List.sum_cons, List.flatMap_cons, List.map_append, List.sum_append, List.map_map] at h2 ⊢
      have h3 : ∀ l : List Run, (l.map ((fun r : Run => 1 + r.1.length) ∘ fun r : Run => (c :: r.1, r.2))).sum = (l.map fun r : Run => 1 + r.1.length).sum + l.length := by
        intro l
        induction l with
        | nil => rfl
        | cons x l ih => simp only [List.map_cons, List.sum_cons, List.length_cons, Function.comp] at ih ⊢; omega
      rw [h3]
      omega
  refine Nat.add_lt_add_right (Nat.lt_of_le_of_lt key ?_) _
  show _ < 1 + _
  exact Nat.lt_of_lt_of_le (Nat.lt_succ_self _) (by rw [Nat.add_comm]; exact Nat.le_refl _)
/-- the stack's own word -/
def StOk (ks : List (List Wy)) (st : List Run) : Prop := ∀ s ∈ st, WayOk ks.length s.2 ∧ s.1.length + rk s.2 ≤ ks.length
theorem st_len {st : List Run} (h : StOk ks st) : st.length ≤ (expand ks ts st).length := by
  induction st with
  | nil => simp [expand]
  | cons s st ih =>
    have h1 := ih fun x hx => h x (List.mem_cons_of_mem _ hx)
    have h2 := runs_pos T s.2 (h s List.mem_cons_self).1
    simp only [expand, List.flatMap_cons, List.length_append, List.length_map, List.length_cons] at h1 ⊢
    omega
theorem stOk_kids {ch : List Nat} {j : Nat} {st : List Run} (h : StOk ks ((ch, .knot j) :: st)) : StOk ks (kids ks ts ch j ++ st) := by
  obtain ⟨hj, hl⟩ := h (ch, .knot j) List.mem_cons_self
  obtain ⟨t, k, _, _, e1, e2, h0, _, _, _, hc⟩ := T.get hj
  intro s hs
  rcases List.mem_append.mp hs with z | z
  · unfold kids at z
    rw [e1, e2] at z
    obtain ⟨c, hcm, rfl⟩ := List.mem_map.mp z
    obtain ⟨_, hwc⟩ := hc c hcm
    refine ⟨wayOk_up T (Nat.le_of_lt hj) hwc, ?_⟩
    have := rk_le T hwc
    simp only [rk] at hl
    simp
    omega
  · exact h s (List.mem_cons_of_mem _ z)
end
/-- all choices -/
def every (ks : List (List Wy)) : List (List Nat) := ks.map fun k => List.range k.length
theorem tk_every {ks : List (List Wy)} (h : KnotsOk ks) : Tk ks (every ks) where
  len := by simp [every]
  ok := h
  at_ := fun i t k e1 e2 => by
    unfold every at e1
    rw [List.getElem?_map, e2] at e1
    cases e1
    obtain ⟨a, _, _⟩ := h i k e2
    exact ⟨by simpa using a, by simp, List.nodup_range, fun c hc => List.mem_range.mp hc⟩
/-- the first choices that lead to each way -/
def isFirst (k : List Wy) (c : Nat) : Bool := !decide (kget k c ∈ k.take c)
def firstsK (k : List Wy) : List Nat := (List.range k.length).filter (isFirst k)
def firsts (ks : List (List Wy)) : List (List Nat) := ks.map firstsK
theorem tk_firsts {ks : List (List Wy)} (h : KnotsOk ks) : Tk ks (firsts ks) where
  len := by simp [firsts]
  ok := h
  at_ := fun i t k ht hk => by
    unfold firsts at ht
    rw [List.getElem?_map, hk] at ht
    cases ht
    obtain ⟨h0, _, _⟩ := h i k hk
    refine ⟨?_, ?_, ?_, fun c hc => ?_⟩
    · have : 0 ∈ firstsK k := List.mem_filter.mpr ⟨List.mem_range.mpr h0, by simp [isFirst]⟩
      exact List.length_pos_of_mem this
    · have := List.length_filter_le (isFirst k) (List.range k.length)
      rw [List.length_range] at this
      exact this
    · exact List.Pairwise.filter _ List.nodup_range
    · exact List.mem_range.mp (List.mem_filter.mp hc).1
/-- .. all or the first -/
def tks (b : Bool) : List (List Wy) → List (List Nat) := if b then firsts else every
theorem tk_tks {ks : List (List Wy)} (h : KnotsOk ks) (b : Bool) : Tk ks (tks b ks) := by
  cases b
  · exact tk_every h
  · exact tk_firsts h
end Wb
end
section
set_option Elab.async false
set_option linter.all false
set_option maxRecDepth 100000
namespace Sy
open PySem PySem.Spec PyProof.Rows L2 Pk
def topS (i : Nat) : Stmt := PySem.Challenge.pw_pickruns_k32_too_many_runs.main.body.getD i (.Pass ⟨0, 0, 0, 0⟩)
theorem room65 {k : Nat} {A : Around} (r : Room k A) : A.units + 65 < cLine := by have := r.un; omega
/-! all_choices -/
abbrev s_all_choices : Stmt := topS 12
theorem sc_all_choices : FnScope ["knot"] ["knot"] (defScope s_all_choices) := ⟨rfl, rfl, rfl, by decide +kernel, rfl, by decide +kernel, by decide +kernel⟩
def t_all_choices (K : PySem.W.Frag) : TS :=
  (tRet (tLstRg (tRg1 (tCB (dLen K) (tCons (tVar 0) tNil)))))
theorem wk_all_choices {P : Program} {w : World} {K : PySem.W.Frag} {mg : Str → Option Value} {base : Heap} {k : Nat} (m_list : mg "list" = none) (m_range : mg "range" = none) (m_len : mg "len" = none)
    (f : Addr) (cdv : Value) (A : Around) (outer : List Env) (s : Shared) (H : Hp) (E : XK) (hr : Room k (A.deeper (envOfC "all_choices" (defScope s_all_choices) s.heap.objs.size f cdv))) :
    PSs (cxOf CX0 P w K mg base ["knot"] "all_choices" (defScope s_all_choices) f cdv A outer s H E).nox (defBody s_all_choices) (t_all_choices K) := by
  have hu : (cxOf CX0 P w K mg base ["knot"] "all_choices" (defScope s_all_choices) f cdv A outer s H E).nox.A.units + 64 < cLine := hr.units
  have hu5 : (cxOf CX0 P w K mg base ["knot"] "all_choices" (defScope s_all_choices) f cdv A outer s H E).nox.A.units + 65 < cLine := room65 hr
  unfold t_all_choices
  exact (pss_one (ps_ret (pe_listRg rfl (by rfl) m_list (prg_1 (by rfl) m_range (pe_callB o_len (by rfl) m_len (by decide +kernel) (pa_cons (pv 0) pa_nil))))))
/-! first_choices -/
abbrev s_first_choices : Stmt := topS 13
theorem sc_first_choices : FnScope ["knot", "choice"] ["knot"] (defScope s_first_choices) := ⟨rfl, rfl, rfl, by decide +kernel, rfl, by decide +kernel, by decide +kernel⟩
def t_first_choices (K : PySem.W.Frag) : TS :=
  (tRet (tLc (iRng1 (tCons (tCB (dLen K) (tCons (tVar 0) tNil)) tNil)) (gName 1) (tTest (tOp (dNotIn K) (tOp (rIx K) (tVar 0) (tVar 1)) (tSl (rSlL K) (tVar 0) tNoPart (tPart (tVar 1))))) (tVar 1) [1]))
theorem wk_first_choices {P : Program} {w : World} {K : PySem.W.Frag} {mg : Str → Option Value} {base : Heap} {k : Nat} (m_range : mg "range" = none) (m_len : mg "len" = none)
    (f : Addr) (cdv : Value) (A : Around) (outer : List Env) (s : Shared) (H : Hp) (E : XK) (hr : Room k (A.deeper (envOfC "first_choices" (defScope s_first_choices) s.heap.objs.size f cdv))) :
    PSs (cxOf CX0 P w K mg base ["knot", "choice"] "first_choices" (defScope s_first_choices) f cdv A outer s H E).nox (defBody s_first_choices) (t_first_choices K) := by
  have hu : (cxOf CX0 P w K mg base ["knot", "choice"] "first_choices" (defScope s_first_choices) f cdv A outer s H E).nox.A.units + 64 < cLine := hr.units
  have hu5 : (cxOf CX0 P w K mg base ["knot", "choice"] "first_choices" (defScope s_first_choices) f cdv A outer s H E).nox.A.units + 65 < cLine := room65 hr
  unfold t_first_choices
  exact (pss_one (ps_ret (pe_lc (own := [("choice", 1)]) (g := (gName 1)) (tt := (tTest (tOp (dNotIn K) (tOp (rIx K) (tVar 0) (tVar 1)) (tSl (rSlL K) (tVar 0) tNoPart (tPart (tVar 1)))))) rfl sc_first_choices.nd (pi_range1 (by rfl) m_range (pa_cons (pe_callB o_len (by rfl) m_len (by decide +kernel) (pa_cons (pv 0) pa_nil)) pa_nil)) (blkOk_by (N := ["knot", "choice"]) (sc := defScope s_first_choices) (by decide +kernel)) (fun _ _ _ _ _ => (pg_name (i := 1) sc_first_choices.nd rfl (by first | exact Or.inl rfl | exact Or.inr rfl))) (fun _ _ _ _ _ => (pts_one (pt_cmpR (o_notIn hu5) (pe_ix ix_seq (pv 0) (pv 1) (fun _ _ => rfl)) (pe_slice sl_list (pv 0) po_none (po_some (pv 1))) (by rfl)))) (fun _ _ _ _ _ => (pv 1)))))
/-! choices_by_knot -/
abbrev s_choices_by_knot : Stmt := topS 14
theorem sc_choices_by_knot : FnScope ["web", "first", "knot"] ["web", "first"] (defScope s_choices_by_knot) := ⟨rfl, rfl, rfl, by decide +kernel, rfl, by decide +kernel, by decide +kernel⟩
def t_choices_by_knot (K : PySem.W.Frag) (sp_all_choices : Sp) (sp_first_choices : Sp) : TS :=
  (tSeq (tIfS (tB (tVar 1)) (tRet (tLc (iList K (tOp (rIx K) (tVar 0) (tC (.int 1)))) (gName 2) tYes (tCall sp_first_choices [] E0 (tCons (tVar 2) tNil)) [2])) tNext)
    (tRet (tLc (iList K (tOp (rIx K) (tVar 0) (tC (.int 1)))) (gName 2) tYes (tCall sp_all_choices [] E0 (tCons (tVar 2) tNil)) [2])))
theorem wk_choices_by_knot {P : Program} {w : World} {K : PySem.W.Frag} {mg : Str → Option Value} {base : Heap} {k : Nat} {sp_all_choices : Sp} {sp_first_choices : Sp}
    (c_all_choices : Cal P w K mg base CX0 k "all_choices" ["knot"] sp_all_choices)
    (c_first_choices : Cal P w K mg base CX0 k "first_choices" ["knot"] sp_first_choices)
    (f : Addr) (cdv : Value) (A : Around) (outer : List Env) (s : Shared) (H : Hp) (E : XK) (hr : Room k (A.deeper (envOfC "choices_by_knot" (defScope s_choices_by_knot) s.heap.objs.size f cdv))) :
    PSs (cxOf CX0 P w K mg base ["web", "first", "knot"] "choices_by_knot" (defScope s_choices_by_knot) f cdv A outer s H E).nox (defBody s_choices_by_knot) (t_choices_by_knot K sp_all_choices sp_first_choices) := by
  have hu : (cxOf CX0 P w K mg base ["web", "first", "knot"] "choices_by_knot" (defScope s_choices_by_knot) f cdv A outer s H E).nox.A.units + 64 < cLine := hr.units
  have hu5 : (cxOf CX0 P w K mg base ["web", "first", "knot"] "choices_by_knot" (defScope s_choices_by_knot) f cdv A outer s H E).nox.A.units + 65 < cLine := room65 hr
  unfold t_choices_by_knot
  exact (pss_cons (ps_if (pt_val (pv 1)) (pss_one (ps_ret (pe_lc (own := [("knot", 2)]) (g := (gName 2)) (tt := tYes) rfl sc_choices_by_knot.nd (pi_list (pe_ix ix_seq (pv 0) pe_int (fun _ _ => rfl))) (blkOk_by (N := ["web", "first", "knot"]) (sc := defScope s_choices_by_knot) (by decide +kernel)) (fun _ _ _ _ _ => (pg_name (i := 2) sc_choices_by_knot.nd rfl (by first | exact Or.inl rfl | exact Or.inr rfl))) (fun _ _ _ _ _ => pts_nil) (fun _ _ _ _ _ => (pe_c c_first_choices hr (by rfl) (pa_cons (pv 2) pa_nil)))))) pss_nil)
    (pss_one (ps_ret (pe_lc (own := [("knot", 2)]) (g := (gName 2)) (tt := tYes) rfl sc_choices_by_knot.nd (pi_list (pe_ix ix_seq (pv 0) pe_int (fun _ _ => rfl))) (blkOk_by (N := ["web", "first", "knot"]) (sc := defScope s_choices_by_knot) (by decide +kernel)) (fun _ _ _ _ _ => (pg_name (i := 2) sc_choices_by_knot.nd rfl (by first | exact Or.inl rfl | exact Or.inr rfl))) (fun _ _ _ _ _ => pts_nil) (fun _ _ _ _ _ => (pe_c c_all_choices hr (by rfl) (pa_cons (pv 2) pa_nil)))))))
/-! runs_behind -/
abbrev s_runs_behind : Stmt := topS 15
theorem sc_runs_behind : FnScope ["way", "counts"] ["way", "counts"] (defScope s_runs_behind) := ⟨rfl, rfl, rfl, by decide +kernel, rfl, by decide +kernel, by decide +kernel⟩
def t_runs_behind (K : PySem.W.Frag) : TS :=
  (tSeq (tIfS (tTest (tOp (dEq K) (tOp (rIx K) (tVar 0) (tC (.int 0))) (tC (.str "knot")))) (tRet (tOp (rIx K) (tVar 1) (tOp (rIx K) (tVar 0) (tC (.int 1))))) tNext)
    (tRet (tC (.int 1))))
theorem wk_runs_behind {P : Program} {w : World} {K : PySem.W.Frag} {mg : Str → Option Value} {base : Heap} {k : Nat}
    (f : Addr) (cdv : Value) (A : Around) (outer : List Env) (s : Shared) (H : Hp) (E : XK) (hr : Room k (A.deeper (envOfC "runs_behind" (defScope s_runs_behind) s.heap.objs.size f cdv))) :
    PSs (cxOf CX0 P w K mg base ["way", "counts"] "runs_behind" (defScope s_runs_behind) f cdv A outer s H E).nox (defBody s_runs_behind) (t_runs_behind K) := by
  have hu : (cxOf CX0 P w K mg base ["way", "counts"] "runs_behind" (defScope s_runs_behind) f cdv A outer s H E).nox.A.units + 64 < cLine := hr.units
  have hu5 : (cxOf CX0 P w K mg base ["way", "counts"] "runs_behind" (defScope s_runs_behind) f cdv A outer s H E).nox.A.units + 65 < cLine := room65 hr
  unfold t_runs_behind
  exact (pss_cons (ps_if (pt_cmpR (o_eq hu) (pe_ix ix_seq (pv 0) pe_int (fun _ _ => rfl)) pe_str (nomark _)) (pss_one (ps_ret (pe_ix ix_seq (pv 1) (pe_ix ix_seq (pv 0) pe_int (fun _ _ => rfl)) (fun _ _ => rfl)))) pss_nil)
    (pss_one (ps_ret pe_int)))
/-! run_counts -/
abbrev s_run_counts : Stmt := topS 16
theorem sc_run_counts : FnScope ["web", "taken", "counts", "knot", "choices", "choice"] ["web", "taken"] (defScope s_run_counts) := ⟨rfl, rfl, rfl, by decide +kernel, rfl, by decide +kernel, by decide +kernel⟩
def t_run_counts (K : PySem.W.Frag) (sp_runs_behind : Sp) : TS :=
  (tSeq (tAsg (tLst tNil) (gName 2))
    (tSeq (tFor (iZip K (tCons (tOp (rIx K) (tVar 0) (tC (.int 1))) (tCons (tVar 1) tNil))) (gTup K 2 (gCons (gName 3) (gCons (gName 4) gNil))) (tDrop (tBM K "list" rAppend (tVar 2) (tCons (tCB (dSum K) (tCons (tLc (iList K (tVar 4)) (gName 5) tYes (tCall sp_runs_behind [] E0 (tCons (tOp (rIx K) (tVar 3) (tVar 5)) (tCons (tVar 2) tNil))) [5]) tNil)) tNil))))
    (tRet (tVar 2))))
theorem wk_run_counts {P : Program} {w : World} {K : PySem.W.Frag} {mg : Str → Option Value} {base : Heap} {k : Nat} {sp_runs_behind : Sp}
    (c_runs_behind : Cal P w K mg base CX0 k "runs_behind" ["way", "counts"] sp_runs_behind) (m_zip : mg "zip" = none) (m_sum : mg "sum" = none)
    (f : Addr) (cdv : Value) (A : Around) (outer : List Env) (s : Shared) (H : Hp) (E : XK) (hr : Room k (A.deeper (envOfC "run_counts" (defScope s_run_counts) s.heap.objs.size f cdv))) :
    PSs (cxOf CX0 P w K mg base ["web", "taken", "counts", "knot", "choices", "choice"] "run_counts" (defScope s_run_counts) f cdv A outer s H E).nox (defBody s_run_counts) (t_run_counts K sp_runs_behind) := by
  have hu : (cxOf CX0 P w K mg base ["web", "taken", "counts", "knot", "choices", "choice"] "run_counts" (defScope s_run_counts) f cdv A outer s H E).nox.A.units + 64 < cLine := hr.units
  have hu5 : (cxOf CX0 P w K mg base ["web", "taken", "counts", "knot", "choices", "choice"] "run_counts" (defScope s_run_counts) f cdv A outer s H E).nox.A.units + 65 < cLine := room65 hr
  unfold t_run_counts
  exact (pss_cons (ps_set (i := 2) sc_run_counts.nd rfl (by first | exact Or.inl rfl | exact Or.inr rfl) (pe_lst pa_nil))
    (pss_cons (ps_for PassesOwn.never rfl (pi_zip (by rfl) m_zip (pa_cons (pe_ix ix_seq (pv 0) pe_int (fun _ _ => rfl)) (pa_cons (pv 1) pa_nil))) (pg_tup rfl (pgs_cons (pg_name (i := 3) sc_run_counts.nd rfl (by first | exact Or.inl rfl | exact Or.inr rfl)) (pgs_cons (pg_name (i := 4) sc_run_counts.nd rfl (by first | exact Or.inl rfl | exact Or.inr rfl)) pgs_nil))) (pss_one (ps_expr (pe_bm PySem.F.plainAttrs_list PySem.F.slot_list_append PySem.F.type_list_append mt_append (pv 2) (pa_cons (pe_callB (o_sum rfl) (by rfl) m_sum (by decide +kernel) (pa_cons (pe_lc (own := [("choice", 5)]) (g := (gName 5)) (tt := tYes) rfl sc_run_counts.nd (pi_list (pv 4)) (blkOk_by (N := ["web", "taken", "counts", "knot", "choices", "choice"]) (sc := defScope s_run_counts) (by decide +kernel)) (fun _ _ _ _ _ => (pg_name (i := 5) sc_run_counts.nd rfl (by first | exact Or.inl rfl | exact Or.inr rfl))) (fun _ _ _ _ _ => pts_nil) (fun _ _ _ _ _ => (pe_c c_runs_behind hr (by rfl) (pa_cons (pe_ix ix_seq (pv 3) (pv 5) (fun _ _ => rfl)) (pa_cons (pv 2) pa_nil))))) pa_nil)) pa_nil)))))
    (pss_one (ps_ret (pv 2)))))
/-! runs_told -/
abbrev s_runs_told : Stmt := topS 17
theorem sc_runs_told : FnScope ["web", "taken", "found", "waiting", "choices", "way", "some", "choice"] ["web", "taken"] (defScope s_runs_told) := ⟨rfl, rfl, rfl, by decide +kernel, rfl, by decide +kernel, by decide +kernel⟩
def t_runs_told (K : PySem.W.Frag) (sp_runs_behind : Sp) (sp_run_counts : Sp) (a_TooMany : Addr) (W : XW) : TS :=
  (tSeq (tIfS (tTest (tOp dGt (tCall sp_runs_behind [] E0 (tCons (tOp (rIx K) (tVar 0) (tC (.int 0))) (tCons (tCall sp_run_counts [] E0 (tCons (tVar 0) (tCons (tVar 1) tNil))) tNil))) (tC (.int 2000)))) (tRaiseW W a_TooMany) tNext)
    (tSeq (tAsg (tLst tNil) (gName 2))
    (tSeq (tAsg (tLst (tCons (tTup (tCons (tLst tNil) (tCons (tOp (rIx K) (tVar 0) (tC (.int 0))) tNil))) tNil)) (gName 3))
    (tSeq (tWhile (tTest (tOp (dNe K) (tVar 3) (tLst tNil))) (tSeq (tAsg (tBM0 K "list" rPop (tVar 3)) (gTup K 2 (gCons (gName 4) (gCons (gName 5) gNil))))
    (tIfS (tTest (tOp (dNe K) (tOp (rIx K) (tVar 5) (tC (.int 0))) (tC (.str "knot")))) (tDrop (tBM K "list" rAppend (tVar 2) (tCons (tTup (tCons (tVar 4) (tCons (tVar 5) tNil))) tNil))) (tSeq (tAsg (tLc (iList K (tOp (rIx K) (tVar 1) (tOp (rIx K) (tVar 5) (tC (.int 1))))) (gName 7) tYes (tTup (tCons (tOp (dAdd K) (tVar 4) (tLst (tCons (tVar 7) tNil))) (tCons (tOp (rIx K) (tOp (rIx K) (tOp (rIx K) (tVar 0) (tC (.int 1))) (tOp (rIx K) (tVar 5) (tC (.int 1)))) (tVar 7)) tNil))) [7]) (gName 6))
    (tDrop (tBM K "list" rExtend (tVar 3) (tCons (tRevL K (tVar 6)) tNil)))))))
    (tRet (tVar 2))))))
theorem wk_runs_told {P : Program} {w : World} {K : PySem.W.Frag} {mg : Str → Option Value} {base : Heap} {k : Nat} {sp_runs_behind : Sp} {sp_run_counts : Sp} {a_TooMany : Addr}
    (c_runs_behind : Cal P w K mg base CX0 k "runs_behind" ["way", "counts"] sp_runs_behind)
    (c_run_counts : Cal P w K mg base CX0 k "run_counts" ["web", "taken"] sp_run_counts) (g_MOST_RUNS : ∃ t, mg "MOST_RUNS" = some (.int 2000 t)) (e_TooMany : ExcT K mg "TooMany" a_TooMany)
    (f : Addr) (cdv : Value) (A : Around) (outer : List Env) (s : Shared) (H : Hp) (E : XK) (hr : Room k (A.deeper (envOfC "runs_told" (defScope s_runs_told) s.heap.objs.size f cdv))) :
    PSs (cxOf (L2.CX P w) P w K mg base ["web", "taken", "found", "waiting", "choices", "way", "some", "choice"] "runs_told" (defScope s_runs_told) f cdv A outer s H E) (defBody s_runs_told) (t_runs_told K sp_runs_behind sp_run_counts a_TooMany (fun c d _ H' => E c d H')) := by
  obtain ⟨tk_MOST_RUNS, g_MOST_RUNS⟩ := g_MOST_RUNS
  have hu : (cxOf (L2.CX P w) P w K mg base ["web", "taken", "found", "waiting", "choices", "way", "some", "choice"] "runs_told" (defScope s_runs_told) f cdv A outer s H E).A.units + 64 < cLine := hr.units
  have hu5 : (cxOf (L2.CX P w) P w K mg base ["web", "taken", "found", "waiting", "choices", "way", "some", "choice"] "runs_told" (defScope s_runs_told) f cdv A outer s H E).A.units + 65 < cLine := room65 hr
  unfold t_runs_told
  exact (pss_cons (ps_if (pt_cmpR o_gt (pe_c c_runs_behind hr (by rfl) (pa_cons (pe_ix ix_seq (pv 0) pe_int (fun _ _ => rfl)) (pa_cons (pe_c c_run_counts hr (by rfl) (pa_cons (pv 0) (pa_cons (pv 1) pa_nil))) pa_nil))) (pe_glob (by rfl) g_MOST_RUNS ⟨_, rfl⟩) (nomark _)) (pss_one (ps_rs rfl (takes_of rfl rfl rfl rfl) e_TooMany (by rfl))) pss_nil)
    (pss_cons (ps_set (i := 2) sc_runs_told.nd rfl (by first | exact Or.inl rfl | exact Or.inr rfl) (pe_lst pa_nil))
    (pss_cons (ps_set (i := 3) sc_runs_told.nd rfl (by first | exact Or.inl rfl | exact Or.inr rfl) (pe_lst (pa_cons (pe_tup (pa_cons (pe_lst pa_nil) (pa_cons (pe_ix ix_seq (pv 0) pe_int (fun _ _ => rfl)) pa_nil))) pa_nil)))
    (pss_cons (ps_while (passes_of rfl) (pt_cmpR (o_ne hu) (pv 3) (pe_lst pa_nil) (nomark _)) (pss_cons (ps_asg (pe_bm0 PySem.F.plainAttrs_list PySem.F.slot_list_pop PySem.F.type_list_pop mt_pop (pv 3)) (pg_tup rfl (pgs_cons (pg_name (i := 4) sc_runs_told.nd rfl (by first | exact Or.inl rfl | exact Or.inr rfl)) (pgs_cons (pg_name (i := 5) sc_runs_told.nd rfl (by first | exact Or.inl rfl | exact Or.inr rfl)) pgs_nil))))
    (pss_one (ps_if (pt_cmpR (o_ne hu) (pe_ix ix_seq (pv 5) pe_int (fun _ _ => rfl)) pe_str (nomark _)) (pss_one (ps_expr (pe_bm PySem.F.plainAttrs_list PySem.F.slot_list_append PySem.F.type_list_append mt_append (pv 2) (pa_cons (pe_tup (pa_cons (pv 4) (pa_cons (pv 5) pa_nil))) pa_nil)))) (pss_cons (ps_setLc (i := 6) (own := [("choice", 7)]) (g := (gName 7)) (tt := tYes) rfl sc_runs_told.nd rfl rfl (sw_true rfl rfl rfl (by decide +kernel)) (pi_list (pe_ix ix_seq (pv 1) (pe_ix ix_seq (pv 5) pe_int (fun _ _ => rfl)) (fun _ _ => rfl))) (blkOk_by (N := ["web", "taken", "found", "waiting", "choices", "way", "some", "choice"]) (sc := defScope s_runs_told) (by decide +kernel)) (fun _ _ _ _ _ => (pg_name (i := 7) sc_runs_told.nd rfl (by first | exact Or.inl rfl | exact Or.inr rfl))) (fun _ _ _ _ _ => pts_nil) (fun _ _ _ _ _ => (pe_tup (pa_cons (pe_op o_add (pv 4) (pe_lst (pa_cons (pv 7) pa_nil))) (pa_cons (pe_ix ix_seq (pe_ix ix_seq (pe_ix ix_seq (pv 0) pe_int (fun _ _ => rfl)) (pe_ix ix_seq (pv 5) pe_int (fun _ _ => rfl)) (fun _ _ => rfl)) (pv 7) (fun _ _ => rfl)) pa_nil)))))
    (pss_one (ps_expr (pe_bm PySem.F.plainAttrs_list PySem.F.slot_list_extend PySem.F.type_list_extend mt_extend (pv 3) (pa_cons (pe_revL (pv 6)) pa_nil)))))))))
    (pss_one (ps_ret (pv 2)))))))
/-! runs_of_web -/
abbrev s_runs_of_web : Stmt := topS 18
theorem sc_runs_of_web : FnScope ["web"] ["web"] (defScope s_runs_of_web) := ⟨rfl, rfl, rfl, by decide +kernel, rfl, by decide +kernel, by decide +kernel⟩
def t_runs_of_web (K : PySem.W.Frag) (sp_runs_told : Sp) (sp_choices_by_knot : Sp) (W : XW) : TS :=
  (tRet (tCallS sp_runs_told (WE W) (tCons (tVar 0) (tCons (tCall sp_choices_by_knot [] E0 (tCons (tVar 0) (tCons (tC (.bl false)) tNil))) tNil))))
theorem wk_runs_of_web {P : Program} {w : World} {K : PySem.W.Frag} {mg : Str → Option Value} {base : Heap} {k : Nat} {sp_runs_told : Sp} {sp_choices_by_knot : Sp}
    (c_runs_told : Cal P w K mg base (L2.CX P w) k "runs_told" ["web", "taken"] sp_runs_told)
    (c_choices_by_knot : Cal P w K mg base CX0 k "choices_by_knot" ["web", "first"] sp_choices_by_knot)
    (f : Addr) (cdv : Value) (A : Around) (outer : List Env) (s : Shared) (H : Hp) (E : XK) (hr : Room k (A.deeper (envOfC "runs_of_web" (defScope s_runs_of_web) s.heap.objs.size f cdv))) :
    PSs (cxOf (L2.CX P w) P w K mg base ["web"] "runs_of_web" (defScope s_runs_of_web) f cdv A outer s H E) (defBody s_runs_of_web) (t_runs_of_web K sp_runs_told sp_choices_by_knot (fun c d _ H' => E c d H')) := by
  have hu : (cxOf (L2.CX P w) P w K mg base ["web"] "runs_of_web" (defScope s_runs_of_web) f cdv A outer s H E).A.units + 64 < cLine := hr.units
  have hu5 : (cxOf (L2.CX P w) P w K mg base ["web"] "runs_of_web" (defScope s_runs_of_web) f cdv A outer s H E).A.units + 65 < cLine := room65 hr
  unfold t_runs_of_web
  exact (pss_one (ps_ret (pe_cx c_runs_told hr (by rfl) (takes_of rfl rfl rfl rfl) (pa_cons (pv 0) (pa_cons (pe_c c_choices_by_knot hr (by rfl) (pa_cons (pv 0) (pa_cons pe_bl pa_nil))) pa_nil)))))
/-! count_first -/
abbrev s_count_first : Stmt := topS 19
theorem sc_count_first : FnScope ["web"] ["web"] (defScope s_count_first) := ⟨rfl, rfl, rfl, by decide +kernel, rfl, by decide +kernel, by decide +kernel⟩
def t_count_first (K : PySem.W.Frag) (sp_runs_behind : Sp) (sp_run_counts : Sp) (sp_choices_by_knot : Sp) : TS :=
  (tRet (tCall sp_runs_behind [] E0 (tCons (tOp (rIx K) (tVar 0) (tC (.int 0))) (tCons (tCall sp_run_counts [] E0 (tCons (tVar 0) (tCons (tCall sp_choices_by_knot [] E0 (tCons (tVar 0) (tCons (tC (.bl true)) tNil))) tNil))) tNil))))
theorem wk_count_first {P : Program} {w : World} {K : PySem.W.Frag} {mg : Str → Option Value} {base : Heap} {k : Nat} {sp_runs_behind : Sp} {sp_run_counts : Sp} {sp_choices_by_knot : Sp}
    (c_runs_behind : Cal P w K mg base CX0 k "runs_behind" ["way", "counts"] sp_runs_behind)
    (c_run_counts : Cal P w K mg base CX0 k "run_counts" ["web", "taken"] sp_run_counts)
    (c_choices_by_knot : Cal P w K mg base CX0 k "choices_by_knot" ["web", "first"] sp_choices_by_knot)
    (f : Addr) (cdv : Value) (A : Around) (outer : List Env) (s : Shared) (H : Hp) (E : XK) (hr : Room k (A.deeper (envOfC "count_first" (defScope s_count_first) s.heap.objs.size f cdv))) :
    PSs (cxOf CX0 P w K mg base ["web"] "count_first" (defScope s_count_first) f cdv A outer s H E).nox (defBody s_count_first) (t_count_first K sp_runs_behind sp_run_counts sp_choices_by_knot) := by
  have hu : (cxOf CX0 P w K mg base ["web"] "count_first" (defScope s_count_first) f cdv A outer s H E).nox.A.units + 64 < cLine := hr.units
  have hu5 : (cxOf CX0 P w K mg base ["web"] "count_first" (defScope s_count_first) f cdv A outer s H E).nox.A.units + 65 < cLine := room65 hr
  unfold t_count_first
  exact (pss_one (ps_ret (pe_c c_runs_behind hr (by rfl) (pa_cons (pe_ix ix_seq (pv 0) pe_int (fun _ _ => rfl)) (pa_cons (pe_c c_run_counts hr (by rfl) (pa_cons (pv 0) (pa_cons (pe_c c_choices_by_knot hr (by rfl) (pa_cons (pv 0) (pa_cons pe_bl pa_nil))) pa_nil))) pa_nil)))))
/-! first_runs -/
abbrev s_first_runs : Stmt := topS 20
theorem sc_first_runs : FnScope ["web"] ["web"] (defScope s_first_runs) := ⟨rfl, rfl, rfl, by decide +kernel, rfl, by decide +kernel, by decide +kernel⟩
def t_first_runs (K : PySem.W.Frag) (sp_runs_told : Sp) (sp_choices_by_knot : Sp) (W : XW) : TS :=
  (tRet (tCallS sp_runs_told (WE W) (tCons (tVar 0) (tCons (tCall sp_choices_by_knot [] E0 (tCons (tVar 0) (tCons (tC (.bl true)) tNil))) tNil))))
theorem wk_first_runs {P : Program} {w : World} {K : PySem.W.Frag} {mg : Str → Option Value} {base : Heap} {k : Nat} {sp_runs_told : Sp} {sp_choices_by_knot : Sp}
    (c_runs_told : Cal P w K mg base (L2.CX P w) k "runs_told" ["web", "taken"] sp_runs_told)
    (c_choices_by_knot : Cal P w K mg base CX0 k "choices_by_knot" ["web", "first"] sp_choices_by_knot)
    (f : Addr) (cdv : Value) (A : Around) (outer : List Env) (s : Shared) (H : Hp) (E : XK) (hr : Room k (A.deeper (envOfC "first_runs" (defScope s_first_runs) s.heap.objs.size f cdv))) :
    PSs (cxOf (L2.CX P w) P w K mg base ["web"] "first_runs" (defScope s_first_runs) f cdv A outer s H E) (defBody s_first_runs) (t_first_runs K sp_runs_told sp_choices_by_knot (fun c d _ H' => E c d H')) := by
  have hu : (cxOf (L2.CX P w) P w K mg base ["web"] "first_runs" (defScope s_first_runs) f cdv A outer s H E).A.units + 64 < cLine := hr.units
  have hu5 : (cxOf (L2.CX P w) P w K mg base ["web"] "first_runs" (defScope s_first_runs) f cdv A outer s H E).A.units + 65 < cLine := room65 hr
  unfold t_first_runs
  exact (pss_one (ps_ret (pe_cx c_runs_told hr (by rfl) (takes_of rfl rfl rfl rfl) (pa_cons (pv 0) (pa_cons (pe_c c_choices_by_knot hr (by rfl) (pa_cons (pv 0) (pa_cons pe_bl pa_nil))) pa_nil)))))
/-! _law_cell -/
abbrev s_l_cell : Stmt := topS 22
theorem sc_l_cell : FnScope ["script", "k"] ["script", "k"] (defScope s_l_cell) := ⟨rfl, rfl, rfl, by decide +kernel, rfl, by decide +kernel, by decide +kernel⟩
def t_l_cell (K : PySem.W.Frag) : TS :=
  (tSeq (tIfS (tTest (tOp dLt (tVar 1) (tCB (dLen K) (tCons (tVar 0) tNil)))) (tRet (tOp (rIx K) (tVar 0) (tVar 1))) tNext)
    (tRet (tOp (dAdd K) (tOp (dAdd K) (tOp dMul (tOp dMul (tC (.int 7)) (tVar 1)) (tVar 1)) (tOp dMul (tC (.int 3)) (tVar 1))) (tC (.int 11)))))
theorem wk_l_cell {P : Program} {w : World} {K : PySem.W.Frag} {mg : Str → Option Value} {base : Heap} {k : Nat} (m_len : mg "len" = none)
    (f : Addr) (cdv : Value) (A : Around) (outer : List Env) (s : Shared) (H : Hp) (E : XK) (hr : Room k (A.deeper (envOfC "_law_cell" (defScope s_l_cell) s.heap.objs.size f cdv))) :
    PSs (cxOf CX0 P w K mg base ["script", "k"] "_law_cell" (defScope s_l_cell) f cdv A outer s H E).nox (defBody s_l_cell) (t_l_cell K) := by
  have hu : (cxOf CX0 P w K mg base ["script", "k"] "_law_cell" (defScope s_l_cell) f cdv A outer s H E).nox.A.units + 64 < cLine := hr.units
  have hu5 : (cxOf CX0 P w K mg base ["script", "k"] "_law_cell" (defScope s_l_cell) f cdv A outer s H E).nox.A.units + 65 < cLine := room65 hr
  unfold t_l_cell
  exact (pss_cons (ps_if (pt_cmpR o_lt (pv 1) (pe_callB o_len (by rfl) m_len (by decide +kernel) (pa_cons (pv 0) pa_nil)) (nomark _)) (pss_one (ps_ret (pe_ix ix_seq (pv 0) (pv 1) (fun _ _ => rfl)))) pss_nil)
    (pss_one (ps_ret (pe_op o_add (pe_op o_add (pe_op o_mul (pe_op o_mul pe_int (pv 1)) (pv 1)) (pe_op o_mul pe_int (pv 1))) pe_int))))
/-! _law_store -/
abbrev s_l_store : Stmt := topS 23
theorem sc_l_store : FnScope ["cell", "great"] ["cell"] (defScope s_l_store) := ⟨rfl, rfl, rfl, by decide +kernel, rfl, by decide +kernel, by decide +kernel⟩
def t_l_store (K : PySem.W.Frag) : TS :=
  (tSeq (tAsg (tC (.int 0)) (gName 1))
    (tSeq (tIfS (tTest (tOp dGe (tVar 0) (tOp dPow (tC (.int 10)) (tC (.int 18))))) (tAsg (tVar 0) (gName 1)) tNext)
    (tRet (tLst (tCons (tVar 1) (tCons (tOp dMod (tVar 0) (tC (.int 2147483629))) (tCons (tC (.int 1)) tNil)))))))
theorem wk_l_store {P : Program} {w : World} {K : PySem.W.Frag} {mg : Str → Option Value} {base : Heap} {k : Nat}
    (f : Addr) (cdv : Value) (A : Around) (outer : List Env) (s : Shared) (H : Hp) (E : XK) (hr : Room k (A.deeper (envOfC "_law_store" (defScope s_l_store) s.heap.objs.size f cdv))) :
    PSs (cxOf CX0 P w K mg base ["cell", "great"] "_law_store" (defScope s_l_store) f cdv A outer s H E).nox (defBody s_l_store) (t_l_store K) := by
  have hu : (cxOf CX0 P w K mg base ["cell", "great"] "_law_store" (defScope s_l_store) f cdv A outer s H E).nox.A.units + 64 < cLine := hr.units
  have hu5 : (cxOf CX0 P w K mg base ["cell", "great"] "_law_store" (defScope s_l_store) f cdv A outer s H E).nox.A.units + 65 < cLine := room65 hr
  unfold t_l_store
  exact (pss_cons (ps_set (i := 1) sc_l_store.nd rfl (by first | exact Or.inl rfl | exact Or.inr rfl) pe_int)
    (pss_cons (ps_if (pt_cmpR o_ge (pv 0) (pe_op o_pow pe_int pe_int) (nomark _)) (pss_one (ps_set (i := 1) sc_l_store.nd rfl (by first | exact Or.inl rfl | exact Or.inr rfl) (pv 0))) pss_nil)
    (pss_one (ps_ret (pe_lst (pa_cons (pv 1) (pa_cons (pe_op o_mod (pv 0) pe_int) (pa_cons pe_int pa_nil))))))))
/-! _law_take -/
abbrev s_l_take : Stmt := topS 24
theorem sc_l_take : FnScope ["store", "many", "told", "one"] ["store", "many"] (defScope s_l_take) := ⟨rfl, rfl, rfl, by decide +kernel, rfl, by decide +kernel, by decide +kernel⟩
def t_l_take (K : PySem.W.Frag) : TS :=
  (tSeq (tIfS (tTest (tOp dGt (tOp (rIx K) (tVar 0) (tC (.int 0))) (tC (.int 0)))) (tSeq (tAsg (tOp dMod (tOp (rIx K) (tVar 0) (tC (.int 0))) (tVar 1)) (gName 2))
    (tSeq (tAsg (tOp dDiv (tOp (rIx K) (tVar 0) (tC (.int 0))) (tVar 1)) (gSub (tVar 0) (tC (.int 0)) rSetL))
    (tRet (tVar 2)))) tNext)
    (tSeq (tAsg (tOp (dAdd K) (tOp (rIx K) (tVar 0) (tC (.int 2))) (tC (.int 1))) (gSub (tVar 0) (tC (.int 2)) rSetL))
    (tSeq (tAsg (tOp dMod (tOp dMul (tOp (dAdd K) (tOp (rIx K) (tVar 0) (tC (.int 1))) (tOp dMul (tC (.int 7919)) (tOp (rIx K) (tVar 0) (tC (.int 2))))) (tC (.int 48271))) (tC (.int 2147483647))) (gName 3))
    (tSeq (tAsg (tOp dMod (tOp dMul (tVar 3) (tVar 3)) (tC (.int 2147483629))) (gName 3))
    (tSeq (tAsg (tOp dMod (tOp dMul (tOp (dAdd K) (tVar 3) (tOp dMul (tC (.int 40692)) (tOp (rIx K) (tVar 0) (tC (.int 2))))) (tC (.int 69621))) (tC (.int 2147483587))) (gName 3))
    (tRet (tOp dMod (tOp dDiv (tVar 3) (tC (.int 8))) (tVar 1))))))))
theorem wk_l_take {P : Program} {w : World} {K : PySem.W.Frag} {mg : Str → Option Value} {base : Heap} {k : Nat}
    (f : Addr) (cdv : Value) (A : Around) (outer : List Env) (s : Shared) (H : Hp) (E : XK) (hr : Room k (A.deeper (envOfC "_law_take" (defScope s_l_take) s.heap.objs.size f cdv))) :
    PSs (cxOf CX0 P w K mg base ["store", "many", "told", "one"] "_law_take" (defScope s_l_take) f cdv A outer s H E).nox (defBody s_l_take) (t_l_take K) := by
  have hu : (cxOf CX0 P w K mg base ["store", "many", "told", "one"] "_law_take" (defScope s_l_take) f cdv A outer s H E).nox.A.units + 64 < cLine := hr.units
  have hu5 : (cxOf CX0 P w K mg base ["store", "many", "told", "one"] "_law_take" (defScope s_l_take) f cdv A outer s H E).nox.A.units + 65 < cLine := room65 hr
  unfold t_l_take
  exact (pss_cons (ps_if (pt_cmpR o_gt (pe_ix ix_seq (pv 0) pe_int (fun _ _ => rfl)) pe_int (nomark _)) (pss_cons (ps_set (i := 2) sc_l_take.nd rfl (by first | exact Or.inl rfl | exact Or.inr rfl) (pe_op o_mod (pe_ix ix_seq (pv 0) pe_int (fun _ _ => rfl)) (pv 1)))
    (pss_cons (ps_asg (pe_op o_div (pe_ix ix_seq (pv 0) pe_int (fun _ _ => rfl)) (pv 1)) (pg_sub (pv 0) pe_int set_list))
    (pss_one (ps_ret (pv 2))))) pss_nil)
    (pss_cons (ps_asg (pe_op o_add (pe_ix ix_seq (pv 0) pe_int (fun _ _ => rfl)) pe_int) (pg_sub (pv 0) pe_int set_list))
    (pss_cons (ps_set (i := 3) sc_l_take.nd rfl (by first | exact Or.inl rfl | exact Or.inr rfl) (pe_op o_mod (pe_op o_mul (pe_op o_add (pe_ix ix_seq (pv 0) pe_int (fun _ _ => rfl)) (pe_op o_mul pe_int (pe_ix ix_seq (pv 0) pe_int (fun _ _ => rfl)))) pe_int) pe_int))
    (pss_cons (ps_set (i := 3) sc_l_take.nd rfl (by first | exact Or.inl rfl | exact Or.inr rfl) (pe_op o_mod (pe_op o_mul (pv 3) (pv 3)) pe_int))
    (pss_cons (ps_set (i := 3) sc_l_take.nd rfl (by first | exact Or.inl rfl | exact Or.inr rfl) (pe_op o_mod (pe_op o_mul (pe_op o_add (pv 3) (pe_op o_mul pe_int (pe_ix ix_seq (pv 0) pe_int (fun _ _ => rfl)))) pe_int) pe_int))
    (pss_one (ps_ret (pe_op o_mod (pe_op o_div (pv 3) pe_int) (pv 1)))))))))
/-! _law_way -/
abbrev s_l_way : Stmt := topS 25
theorem sc_l_way : FnScope ["store", "many"] ["store", "many"] (defScope s_l_way) := ⟨rfl, rfl, rfl, by decide +kernel, rfl, by decide +kernel, by decide +kernel⟩
def t_l_way (K : PySem.W.Frag) (sp_l_take : Sp) : TS :=
  (tSeq (tIfS (tAnd (tTest (tOp dGt (tVar 1) (tC (.int 0)))) (tTest (tOp dGt (tCall sp_l_take [] E0 (tCons (tVar 0) (tCons (tC (.int 4)) tNil))) (tC (.int 0))))) (tRet (tTup (tCons (tC (.str "knot")) (tCons (tOp (rIx K) (tLst (tCons (tOp dSub (tVar 1) (tC (.int 1))) (tCons (tCall sp_l_take [] E0 (tCons (tVar 0) (tCons (tVar 1) tNil))) (tCons (tCall sp_l_take [] E0 (tCons (tVar 0) (tCons (tVar 1) tNil))) tNil)))) (tCall sp_l_take [] E0 (tCons (tVar 0) (tCons (tC (.int 3)) tNil)))) tNil)))) tNext)
    (tRet (tOp (rIx K) (tLst (tCons (tTup (tCons (tC (.str "nothing")) tNil)) (tCons (tTup (tCons (tC (.str "gives")) (tCons (tCall sp_l_take [] E0 (tCons (tVar 0) (tCons (tC (.int 3)) tNil))) tNil))) (tCons (tTup (tCons (tC (.str "gives")) (tCons (tCall sp_l_take [] E0 (tCons (tVar 0) (tCons (tC (.int 16)) tNil))) tNil))) tNil)))) (tCall sp_l_take [] E0 (tCons (tVar 0) (tCons (tC (.int 3)) tNil))))))
theorem wk_l_way {P : Program} {w : World} {K : PySem.W.Frag} {mg : Str → Option Value} {base : Heap} {k : Nat} {sp_l_take : Sp}
    (c_l_take : Cal P w K mg base CX0 k "_law_take" ["store", "many"] sp_l_take)
    (f : Addr) (cdv : Value) (A : Around) (outer : List Env) (s : Shared) (H : Hp) (E : XK) (hr : Room k (A.deeper (envOfC "_law_way" (defScope s_l_way) s.heap.objs.size f cdv))) :
    PSs (cxOf CX0 P w K mg base ["store", "many"] "_law_way" (defScope s_l_way) f cdv A outer s H E).nox (defBody s_l_way) (t_l_way K sp_l_take) := by
  have hu : (cxOf CX0 P w K mg base ["store", "many"] "_law_way" (defScope s_l_way) f cdv A outer s H E).nox.A.units + 64 < cLine := hr.units
  have hu5 : (cxOf CX0 P w K mg base ["store", "many"] "_law_way" (defScope s_l_way) f cdv A outer s H E).nox.A.units + 65 < cLine := room65 hr
  unfold t_l_way
  exact (pss_cons (ps_if (PW.pt (pw_and (pt_cmpR o_gt (pv 1) pe_int (nomark _)) (pw_and1 (pt_cmpR o_gt (pe_c c_l_take hr (by rfl) (pa_cons (pv 0) (pa_cons pe_int pa_nil))) pe_int (nomark _))))) (pss_one (ps_ret (pe_tup (pa_cons pe_str (pa_cons (pe_ix ix_seq (pe_lst (pa_cons (pe_op o_sub (pv 1) pe_int) (pa_cons (pe_c c_l_take hr (by rfl) (pa_cons (pv 0) (pa_cons (pv 1) pa_nil))) (pa_cons (pe_c c_l_take hr (by rfl) (pa_cons (pv 0) (pa_cons (pv 1) pa_nil))) pa_nil)))) (pe_c c_l_take hr (by rfl) (pa_cons (pv 0) (pa_cons pe_int pa_nil))) (fun _ _ => rfl)) pa_nil))))) pss_nil)
    (pss_one (ps_ret (pe_ix ix_seq (pe_lst (pa_cons (pe_tup (pa_cons pe_str pa_nil)) (pa_cons (pe_tup (pa_cons pe_str (pa_cons (pe_c c_l_take hr (by rfl) (pa_cons (pv 0) (pa_cons pe_int pa_nil))) pa_nil))) (pa_cons (pe_tup (pa_cons pe_str (pa_cons (pe_c c_l_take hr (by rfl) (pa_cons (pv 0) (pa_cons pe_int pa_nil))) pa_nil))) pa_nil)))) (pe_c c_l_take hr (by rfl) (pa_cons (pv 0) (pa_cons pe_int pa_nil))) (fun _ _ => rfl)))))
/-! _law_knots -/
abbrev s_l_knots : Stmt := topS 26
theorem sc_l_knots : FnScope ["store", "knots", "k", "some", "j", "knot", "top"] ["store"] (defScope s_l_knots) := ⟨rfl, rfl, rfl, by decide +kernel, rfl, by decide +kernel, by decide +kernel⟩
def t_l_knots (K : PySem.W.Frag) (sp_l_take : Sp) (sp_l_way : Sp) : TS :=
  (tSeq (tAsg (tLst tNil) (gName 1))
    (tSeq (tFor (iRng1 (tCons (tOp (rIx K) (tLst (tCons (tCall sp_l_take [] E0 (tCons (tVar 0) (tCons (tC (.int 5)) tNil))) (tCons (tCall sp_l_take [] E0 (tCons (tVar 0) (tCons (tC (.int 9)) tNil))) (tCons (tCall sp_l_take [] E0 (tCons (tVar 0) (tCons (tC (.int 41)) tNil))) tNil)))) (tCall sp_l_take [] E0 (tCons (tVar 0) (tCons (tC (.int 3)) tNil)))) tNil)) (gName 2) (tSeq (tAsg (tLc (iRng1 (tCons (tOp (dAdd K) (tC (.int 1)) (tCall sp_l_take [] E0 (tCons (tVar 0) (tCons (tC (.int 3)) tNil)))) tNil)) (gName 4) tYes (tCall sp_l_way [] E0 (tCons (tVar 0) (tCons (tVar 2) tNil))) [4]) (gName 3))
    (tSeq (tAsg (tLc (iRng1 (tCons (tOp (dAdd K) (tC (.int 1)) (tCall sp_l_take [] E0 (tCons (tVar 0) (tCons (tC (.int 5)) tNil)))) tNil)) (gName 4) tYes (tOp (rIx K) (tVar 3) (tCall sp_l_take [] E0 (tCons (tVar 0) (tCons (tCB (dLen K) (tCons (tVar 3) tNil)) tNil)))) [4]) (gName 5))
    (tSeq (tIfS (tTest (tOp (dEq K) (tCall sp_l_take [] E0 (tCons (tVar 0) (tCons (tC (.int 3)) tNil))) (tC (.int 0)))) (tAsg (tLc (iRng1 (tCons (tOp (dAdd K) (tC (.int 1)) (tCall sp_l_take [] E0 (tCons (tVar 0) (tCons (tC (.int 5)) tNil)))) tNil)) (gName 4) tYes (tCall sp_l_way [] E0 (tCons (tVar 0) (tCons (tVar 2) tNil))) [4]) (gName 5)) tNext)
    (tDrop (tBM K "list" rAppend (tVar 1) (tCons (tVar 5) tNil)))))))
    (tSeq (tAsg (tCall sp_l_way [] E0 (tCons (tVar 0) (tCons (tCB (dLen K) (tCons (tVar 1) tNil)) tNil))) (gName 6))
    (tSeq (tIfS (tAnd (tTest (tOp (dNe K) (tVar 1) (tLst tNil))) (tTest (tOp dGt (tCall sp_l_take [] E0 (tCons (tVar 0) (tCons (tC (.int 4)) tNil))) (tC (.int 0))))) (tAsg (tTup (tCons (tC (.str "knot")) (tCons (tOp dSub (tCB (dLen K) (tCons (tVar 1) tNil)) (tC (.int 1))) tNil))) (gName 6)) tNext)
    (tRet (tTup (tCons (tVar 6) (tCons (tVar 1) tNil))))))))
theorem wk_l_knots {P : Program} {w : World} {K : PySem.W.Frag} {mg : Str → Option Value} {base : Heap} {k : Nat} {sp_l_take : Sp} {sp_l_way : Sp}
    (c_l_take : Cal P w K mg base CX0 k "_law_take" ["store", "many"] sp_l_take)
    (c_l_way : Cal P w K mg base CX0 k "_law_way" ["store", "many"] sp_l_way) (m_len : mg "len" = none) (m_range : mg "range" = none)
    (f : Addr) (cdv : Value) (A : Around) (outer : List Env) (s : Shared) (H : Hp) (E : XK) (hr : Room k (A.deeper (envOfC "_law_knots" (defScope s_l_knots) s.heap.objs.size f cdv))) :
    PSs (cxOf CX0 P w K mg base ["store", "knots", "k", "some", "j", "knot", "top"] "_law_knots" (defScope s_l_knots) f cdv A outer s H E).nox (defBody s_l_knots) (t_l_knots K sp_l_take sp_l_way) := by
  have hu : (cxOf CX0 P w K mg base ["store", "knots", "k", "some", "j", "knot", "top"] "_law_knots" (defScope s_l_knots) f cdv A outer s H E).nox.A.units + 64 < cLine := hr.units
  have hu5 : (cxOf CX0 P w K mg base ["store", "knots", "k", "some", "j", "knot", "top"] "_law_knots" (defScope s_l_knots) f cdv A outer s H E).nox.A.units + 65 < cLine := room65 hr
  unfold t_l_knots
  exact (pss_cons (ps_set (i := 1) sc_l_knots.nd rfl (by first | exact Or.inl rfl | exact Or.inr rfl) (pe_lst pa_nil))
    (pss_cons (ps_for PassesOwn.never rfl (pi_range1 (by rfl) m_range (pa_cons (pe_ix ix_seq (pe_lst (pa_cons (pe_c c_l_take hr (by rfl) (pa_cons (pv 0) (pa_cons pe_int pa_nil))) (pa_cons (pe_c c_l_take hr (by rfl) (pa_cons (pv 0) (pa_cons pe_int pa_nil))) (pa_cons (pe_c c_l_take hr (by rfl) (pa_cons (pv 0) (pa_cons pe_int pa_nil))) pa_nil)))) (pe_c c_l_take hr (by rfl) (pa_cons (pv 0) (pa_cons pe_int pa_nil))) (fun _ _ => rfl)) pa_nil)) (pg_name (i := 2) sc_l_knots.nd rfl (by first | exact Or.inl rfl | exact Or.inr rfl)) (pss_cons (ps_set (i := 3) sc_l_knots.nd rfl (by first | exact Or.inl rfl | exact Or.inr rfl) (pe_lc (own := [("j", 4)]) (g := (gName 4)) (tt := tYes) rfl sc_l_knots.nd (pi_range1 (by rfl) m_range (pa_cons (pe_op o_add pe_int (pe_c c_l_take hr (by rfl) (pa_cons (pv 0) (pa_cons pe_int pa_nil)))) pa_nil)) (blkOk_by (N := ["store", "knots", "k", "some", "j", "knot", "top"]) (sc := defScope s_l_knots) (by decide +kernel)) (fun _ _ _ _ _ => (pg_name (i := 4) sc_l_knots.nd rfl (by first | exact Or.inl rfl | exact Or.inr rfl))) (fun _ _ _ _ _ => pts_nil) (fun _ _ _ _ _ => (pe_c c_l_way hr (by rfl) (pa_cons (pv 0) (pa_cons (pv 2) pa_nil))))))
    (pss_cons (ps_setLc (i := 5) (own := [("j", 4)]) (g := (gName 4)) (tt := tYes) rfl sc_l_knots.nd rfl rfl (sw_true rfl rfl rfl (by decide +kernel)) (pi_range1 (by rfl) m_range (pa_cons (pe_op o_add pe_int (pe_c c_l_take hr (by rfl) (pa_cons (pv 0) (pa_cons pe_int pa_nil)))) pa_nil)) (blkOk_by (N := ["store", "knots", "k", "some", "j", "knot", "top"]) (sc := defScope s_l_knots) (by decide +kernel)) (fun _ _ _ _ _ => (pg_name (i := 4) sc_l_knots.nd rfl (by first | exact Or.inl rfl | exact Or.inr rfl))) (fun _ _ _ _ _ => pts_nil) (fun _ _ _ _ _ => (pe_ix ix_seq (pv 3) (pe_c c_l_take hr (by rfl) (pa_cons (pv 0) (pa_cons (pe_callB o_len (by rfl) m_len (by decide +kernel) (pa_cons (pv 3) pa_nil)) pa_nil))) (fun _ _ => rfl))))
    (pss_cons (ps_if (pt_cmpR (o_eq hu) (pe_c c_l_take hr (by rfl) (pa_cons (pv 0) (pa_cons pe_int pa_nil))) pe_int (nomark _)) (pss_one (ps_setLc (i := 5) (own := [("j", 4)]) (g := (gName 4)) (tt := tYes) rfl sc_l_knots.nd rfl rfl (sw_true rfl rfl rfl (by decide +kernel)) (pi_range1 (by rfl) m_range (pa_cons (pe_op o_add pe_int (pe_c c_l_take hr (by rfl) (pa_cons (pv 0) (pa_cons pe_int pa_nil)))) pa_nil)) (blkOk_by (N := ["store", "knots", "k", "some", "j", "knot", "top"]) (sc := defScope s_l_knots) (by decide +kernel)) (fun _ _ _ _ _ => (pg_name (i := 4) sc_l_knots.nd rfl (by first | exact Or.inl rfl | exact Or.inr rfl))) (fun _ _ _ _ _ => pts_nil) (fun _ _ _ _ _ => (pe_c c_l_way hr (by rfl) (pa_cons (pv 0) (pa_cons (pv 2) pa_nil)))))) pss_nil)
    (pss_one (ps_expr (pe_bm PySem.F.plainAttrs_list PySem.F.slot_list_append PySem.F.type_list_append mt_append (pv 1) (pa_cons (pv 5) pa_nil))))))))
    (pss_cons (ps_set (i := 6) sc_l_knots.nd rfl (by first | exact Or.inl rfl | exact Or.inr rfl) (pe_c c_l_way hr (by rfl) (pa_cons (pv 0) (pa_cons (pe_callB o_len (by rfl) m_len (by decide +kernel) (pa_cons (pv 1) pa_nil)) pa_nil))))
    (pss_cons (ps_if (PW.pt (pw_and (pt_cmpR (o_ne hu) (pv 1) (pe_lst pa_nil) (nomark _)) (pw_and1 (pt_cmpR o_gt (pe_c c_l_take hr (by rfl) (pa_cons (pv 0) (pa_cons pe_int pa_nil))) pe_int (nomark _))))) (pss_one (ps_set (i := 6) sc_l_knots.nd rfl (by first | exact Or.inl rfl | exact Or.inr rfl) (pe_tup (pa_cons pe_str (pa_cons (pe_op o_sub (pe_callB o_len (by rfl) m_len (by decide +kernel) (pa_cons (pv 1) pa_nil)) pe_int) pa_nil))))) pss_nil)
    (pss_one (ps_ret (pe_tup (pa_cons (pv 6) (pa_cons (pv 1) pa_nil)))))))))
/-! _law_counted -/
abbrev s_l_counted : Stmt := topS 27
theorem sc_l_counted : FnScope ["web", "taken", "counts", "knot", "choices", "ways", "choice", "way"] ["web", "taken"] (defScope s_l_counted) := ⟨rfl, rfl, rfl, by decide +kernel, rfl, by decide +kernel, by decide +kernel⟩
def t_l_counted (K : PySem.W.Frag) : TS :=
  (tSeq (tAsg (tLst tNil) (gName 2))
    (tSeq (tFor (iZip K (tCons (tOp (rIx K) (tVar 0) (tC (.int 1))) (tCons (tVar 1) tNil))) (gTup K 2 (gCons (gName 3) (gCons (gName 4) gNil))) (tSeq (tAsg (tLc (iList K (tVar 4)) (gName 6) tYes (tOp (rIx K) (tVar 3) (tVar 6)) [6]) (gName 5))
    (tSeq (tDrop (tBM K "list" rAppend (tVar 2) (tCons (tCB (dSum K) (tCons (tLc (iList K (tVar 5)) (gName 7) (tTest (tOp (dEq K) (tOp (rIx K) (tVar 7) (tC (.int 0))) (tC (.str "knot")))) (tOp (rIx K) (tVar 2) (tOp (rIx K) (tVar 7) (tC (.int 1)))) [7]) tNil)) tNil)))
    (tAsg (tOp (dAdd K) (tOp (rIx K) (tVar 2) (tUn dNeg (tC (.int 1)))) (tCB (dLen K) (tCons (tLc (iList K (tVar 5)) (gName 7) (tTest (tOp (dNe K) (tOp (rIx K) (tVar 7) (tC (.int 0))) (tC (.str "knot")))) (tVar 7) [7]) tNil))) (gSub (tVar 2) (tUn dNeg (tC (.int 1))) rSetL)))))
    (tSeq (tIfS (tTest (tOp (dEq K) (tOp (rIx K) (tOp (rIx K) (tVar 0) (tC (.int 0))) (tC (.int 0))) (tC (.str "knot")))) (tRet (tOp (rIx K) (tVar 2) (tOp (rIx K) (tOp (rIx K) (tVar 0) (tC (.int 0))) (tC (.int 1))))) tNext)
    (tRet (tC (.int 1))))))
theorem wk_l_counted {P : Program} {w : World} {K : PySem.W.Frag} {mg : Str → Option Value} {base : Heap} {k : Nat} (m_zip : mg "zip" = none) (m_len : mg "len" = none) (m_sum : mg "sum" = none)
    (f : Addr) (cdv : Value) (A : Around) (outer : List Env) (s : Shared) (H : Hp) (E : XK) (hr : Room k (A.deeper (envOfC "_law_counted" (defScope s_l_counted) s.heap.objs.size f cdv))) :
    PSs (cxOf CX0 P w K mg base ["web", "taken", "counts", "knot", "choices", "ways", "choice", "way"] "_law_counted" (defScope s_l_counted) f cdv A outer s H E).nox (defBody s_l_counted) (t_l_counted K) := by
  have hu : (cxOf CX0 P w K mg base ["web", "taken", "counts", "knot", "choices", "ways", "choice", "way"] "_law_counted" (defScope s_l_counted) f cdv A outer s H E).nox.A.units + 64 < cLine := hr.units
  have hu5 : (cxOf CX0 P w K mg base ["web", "taken", "counts", "knot", "choices", "ways", "choice", "way"] "_law_counted" (defScope s_l_counted) f cdv A outer s H E).nox.A.units + 65 < cLine := room65 hr
  unfold t_l_counted
  exact (pss_cons (ps_set (i := 2) sc_l_counted.nd rfl (by first | exact Or.inl rfl | exact Or.inr rfl) (pe_lst pa_nil))
    (pss_cons (ps_for PassesOwn.never rfl (pi_zip (by rfl) m_zip (pa_cons (pe_ix ix_seq (pv 0) pe_int (fun _ _ => rfl)) (pa_cons (pv 1) pa_nil))) (pg_tup rfl (pgs_cons (pg_name (i := 3) sc_l_counted.nd rfl (by first | exact Or.inl rfl | exact Or.inr rfl)) (pgs_cons (pg_name (i := 4) sc_l_counted.nd rfl (by first | exact Or.inl rfl | exact Or.inr rfl)) pgs_nil))) (pss_cons (ps_setLc (i := 5) (own := [("choice", 6)]) (g := (gName 6)) (tt := tYes) rfl sc_l_counted.nd rfl rfl (sw_true rfl rfl rfl (by decide +kernel)) (pi_list (pv 4)) (blkOk_by (N := ["web", "taken", "counts", "knot", "choices", "ways", "choice", "way"]) (sc := defScope s_l_counted) (by decide +kernel)) (fun _ _ _ _ _ => (pg_name (i := 6) sc_l_counted.nd rfl (by first | exact Or.inl rfl | exact Or.inr rfl))) (fun _ _ _ _ _ => pts_nil) (fun _ _ _ _ _ => (pe_ix ix_seq (pv 3) (pv 6) (fun _ _ => rfl))))
    (pss_cons (ps_expr (pe_bm PySem.F.plainAttrs_list PySem.F.slot_list_append PySem.F.type_list_append mt_append (pv 2) (pa_cons (pe_callB (o_sum rfl) (by rfl) m_sum (by decide +kernel) (pa_cons (pe_lc (own := [("way", 7)]) (g := (gName 7)) (tt := (tTest (tOp (dEq K) (tOp (rIx K) (tVar 7) (tC (.int 0))) (tC (.str "knot"))))) rfl sc_l_counted.nd (pi_list (pv 5)) (blkOk_by (N := ["web", "taken", "counts", "knot", "choices", "ways", "choice", "way"]) (sc := defScope s_l_counted) (by decide +kernel)) (fun _ _ _ _ _ => (pg_name (i := 7) sc_l_counted.nd rfl (by first | exact Or.inl rfl | exact Or.inr rfl))) (fun _ _ _ _ _ => (pts_one (pt_cmpR (o_eq hu) (pe_ix ix_seq (pv 7) pe_int (fun _ _ => rfl)) pe_str (nomark _)))) (fun _ _ _ _ _ => (pe_ix ix_seq (pv 2) (pe_ix ix_seq (pv 7) pe_int (fun _ _ => rfl)) (fun _ _ => rfl)))) pa_nil)) pa_nil)))
    (pss_one (ps_asg (pe_op o_add (pe_ix ix_seq (pv 2) (pe_un o_neg pe_int) (fun _ _ => rfl)) (pe_callB o_len (by rfl) m_len (by decide +kernel) (pa_cons (pe_lc (own := [("way", 7)]) (g := (gName 7)) (tt := (tTest (tOp (dNe K) (tOp (rIx K) (tVar 7) (tC (.int 0))) (tC (.str "knot"))))) rfl sc_l_counted.nd (pi_list (pv 5)) (blkOk_by (N := ["web", "taken", "counts", "knot", "choices", "ways", "choice", "way"]) (sc := defScope s_l_counted) (by decide +kernel)) (fun _ _ _ _ _ => (pg_name (i := 7) sc_l_counted.nd rfl (by first | exact Or.inl rfl | exact Or.inr rfl))) (fun _ _ _ _ _ => (pts_one (pt_cmpR (o_ne hu) (pe_ix ix_seq (pv 7) pe_int (fun _ _ => rfl)) pe_str (nomark _)))) (fun _ _ _ _ _ => (pv 7))) pa_nil))) (pg_sub (pv 2) (pe_un o_neg pe_int) set_list))))))
    (pss_cons (ps_if (pt_cmpR (o_eq hu) (pe_ix ix_seq (pe_ix ix_seq (pv 0) pe_int (fun _ _ => rfl)) pe_int (fun _ _ => rfl)) pe_str (nomark _)) (pss_one (ps_ret (pe_ix ix_seq (pv 2) (pe_ix ix_seq (pe_ix ix_seq (pv 0) pe_int (fun _ _ => rfl)) pe_int (fun _ _ => rfl)) (fun _ _ => rfl)))) pss_nil)
    (pss_one (ps_ret pe_int)))))
/-! _law_some_runs -/
abbrev s_l_some_runs : Stmt := topS 28
theorem sc_l_some_runs : FnScope ["web", "taken", "way", "most", "found", "line", "choices", "here", "later", "k"] ["web", "taken", "way", "most"] (defScope s_l_some_runs) := ⟨rfl, rfl, rfl, by decide +kernel, rfl, by decide +kernel, by decide +kernel⟩
def t_l_some_runs (K : PySem.W.Frag) : TS :=
  (tSeq (tAsg (tLst tNil) (gName 4))
    (tSeq (tAsg (tLst (tCons (tTup (tCons (tLst tNil) (tCons (tVar 2) tNil))) tNil)) (gName 5))
    (tSeq (tWhile (tAnd (tTest (tOp (dNe K) (tVar 5) (tLst tNil))) (tTest (tOp dLe (tCB (dLen K) (tCons (tVar 4) tNil)) (tVar 3)))) (tSeq (tAsg (tBM0 K "list" rPop (tVar 5)) (gTup K 2 (gCons (gName 6) (gCons (gName 7) gNil))))
    (tIfS (tTest (tOp (dEq K) (tOp (rIx K) (tVar 7) (tC (.int 0))) (tC (.str "knot")))) (tSeq (tAsg (tLc (iList K (tOp (rIx K) (tVar 1) (tOp (rIx K) (tVar 7) (tC (.int 1))))) (gName 9) tYes (tTup (tCons (tOp (dAdd K) (tVar 6) (tLst (tCons (tVar 9) tNil))) (tCons (tOp (rIx K) (tOp (rIx K) (tOp (rIx K) (tVar 0) (tC (.int 1))) (tOp (rIx K) (tVar 7) (tC (.int 1)))) (tVar 9)) tNil))) [9]) (gName 8))
    (tAsg (tOp (dAdd K) (tVar 5) (tRevL K (tVar 8))) (gName 5))) (tDrop (tBM K "list" rAppend (tVar 4) (tCons (tTup (tCons (tVar 6) (tCons (tVar 7) tNil))) tNil))))))
    (tRet (tVar 4)))))
theorem wk_l_some_runs {P : Program} {w : World} {K : PySem.W.Frag} {mg : Str → Option Value} {base : Heap} {k : Nat} (m_len : mg "len" = none)
    (f : Addr) (cdv : Value) (A : Around) (outer : List Env) (s : Shared) (H : Hp) (E : XK) (hr : Room k (A.deeper (envOfC "_law_some_runs" (defScope s_l_some_runs) s.heap.objs.size f cdv))) :
    PSs (cxOf CX0 P w K mg base ["web", "taken", "way", "most", "found", "line", "choices", "here", "later", "k"] "_law_some_runs" (defScope s_l_some_runs) f cdv A outer s H E).nox (defBody s_l_some_runs) (t_l_some_runs K) := by
  have hu : (cxOf CX0 P w K mg base ["web", "taken", "way", "most", "found", "line", "choices", "here", "later", "k"] "_law_some_runs" (defScope s_l_some_runs) f cdv A outer s H E).nox.A.units + 64 < cLine := hr.units
  have hu5 : (cxOf CX0 P w K mg base ["web", "taken", "way", "most", "found", "line", "choices", "here", "later", "k"] "_law_some_runs" (defScope s_l_some_runs) f cdv A outer s H E).nox.A.units + 65 < cLine := room65 hr
  unfold t_l_some_runs
  exact (pss_cons (ps_set (i := 4) sc_l_some_runs.nd rfl (by first | exact Or.inl rfl | exact Or.inr rfl) (pe_lst pa_nil))
    (pss_cons (ps_set (i := 5) sc_l_some_runs.nd rfl (by first | exact Or.inl rfl | exact Or.inr rfl) (pe_lst (pa_cons (pe_tup (pa_cons (pe_lst pa_nil) (pa_cons (pv 2) pa_nil))) pa_nil)))
    (pss_cons (ps_while PassesOwn.never (PW.pt (pw_and (pt_cmpR (o_ne hu) (pv 5) (pe_lst pa_nil) (nomark _)) (pw_and1 (pt_cmpR o_le (pe_callB o_len (by rfl) m_len (by decide +kernel) (pa_cons (pv 4) pa_nil)) (pv 3) (nomark _))))) (pss_cons (ps_asg (pe_bm0 PySem.F.plainAttrs_list PySem.F.slot_list_pop PySem.F.type_list_pop mt_pop (pv 5)) (pg_tup rfl (pgs_cons (pg_name (i := 6) sc_l_some_runs.nd rfl (by first | exact Or.inl rfl | exact Or.inr rfl)) (pgs_cons (pg_name (i := 7) sc_l_some_runs.nd rfl (by first | exact Or.inl rfl | exact Or.inr rfl)) pgs_nil))))
    (pss_one (ps_if (pt_cmpR (o_eq hu) (pe_ix ix_seq (pv 7) pe_int (fun _ _ => rfl)) pe_str (nomark _)) (pss_cons (ps_setLc (i := 8) (own := [("k", 9)]) (g := (gName 9)) (tt := tYes) rfl sc_l_some_runs.nd rfl rfl (sw_true rfl rfl rfl (by decide +kernel)) (pi_list (pe_ix ix_seq (pv 1) (pe_ix ix_seq (pv 7) pe_int (fun _ _ => rfl)) (fun _ _ => rfl))) (blkOk_by (N := ["web", "taken", "way", "most", "found", "line", "choices", "here", "later", "k"]) (sc := defScope s_l_some_runs) (by decide +kernel)) (fun _ _ _ _ _ => (pg_name (i := 9) sc_l_some_runs.nd rfl (by first | exact Or.inl rfl | exact Or.inr rfl))) (fun _ _ _ _ _ => pts_nil) (fun _ _ _ _ _ => (pe_tup (pa_cons (pe_op o_add (pv 6) (pe_lst (pa_cons (pv 9) pa_nil))) (pa_cons (pe_ix ix_seq (pe_ix ix_seq (pe_ix ix_seq (pv 0) pe_int (fun _ _ => rfl)) (pe_ix ix_seq (pv 7) pe_int (fun _ _ => rfl)) (fun _ _ => rfl)) (pv 9) (fun _ _ => rfl)) pa_nil)))))
    (pss_one (ps_set (i := 5) sc_l_some_runs.nd rfl (by first | exact Or.inl rfl | exact Or.inr rfl) (pe_op o_add (pv 5) (pe_revL (pv 8)))))) (pss_one (ps_expr (pe_bm PySem.F.plainAttrs_list PySem.F.slot_list_append PySem.F.type_list_append mt_append (pv 4) (pa_cons (pe_tup (pa_cons (pv 6) (pa_cons (pv 7) pa_nil))) pa_nil))))))))
    (pss_one (ps_ret (pv 4))))))
/-! _law_word -/
abbrev s_l_word : Stmt := topS 29
theorem sc_l_word : FnScope ["way", "web", "caught", "found", "e"] ["way", "web"] (defScope s_l_word) := ⟨rfl, rfl, rfl, by decide +kernel, rfl, by decide +kernel, by decide +kernel⟩
def t_l_word (K : PySem.W.Frag) (sp_runs_of_web : Sp) (sp_first_runs : Sp) (a_TooMany : Addr) (a_NoText : Addr) (a_NoStore : Addr) (a_NoRow : Addr) (a_NoNumber : Addr) (a_NoName : Addr) (a_NoFit : Addr) (a_NoChoice : Addr) (a_RunError : Addr) : TS :=
  (tSeq (tAsg (tC .non) (gName 2))
    (tSeq (tAsg (tLst tNil) (gName 3))
    (tSeq (tTryKeep K (.ref a_RunError) 4 2 (fun W => (tIfS (tTest (tOp (dEq K) (tVar 0) (tC (.int 0)))) (tAsg (tCallS sp_runs_of_web (WE W) (tCons (tVar 1) tNil)) (gName 3)) (tAsg (tCallS sp_first_runs (WE W) (tCons (tVar 1) tNil)) (gName 3)))) (fun _ _ _ _ => False))
    (tSeq (tIfS (tTest (tOp dIsN (tVar 2) (tC .non))) (tRet (tCB (dLen K) (tCons (tVar 3) tNil))) tNext)
    (tSeq (tIfS (tB (tCB (rIsT K) (tCons (tVar 2) (tCons (tTup (tCons (tC (.ref a_NoChoice)) (tCons (tC (.ref a_NoFit)) (tCons (tC (.ref a_NoName)) (tCons (tC (.ref a_NoNumber)) (tCons (tC (.ref a_NoRow)) (tCons (tC (.ref a_NoStore)) (tCons (tC (.ref a_NoText)) tNil)))))))) tNil)))) (tRet (tC (.str "other"))) tNext)
    (tRet (tOp (rIx K) (tLst (tCons (tC (.str "other")) (tCons (tC (.str "many")) tNil))) (tCB dInt (tCons (tAndV (tCB (rIs K) (tCons (tVar 2) (tCons (tC (.ref a_TooMany)) tNil))) (tCB (rIs K) (tCons (tVar 2) (tCons (tC (.ty "ValueError")) tNil)))) tNil)))))))))
theorem wk_l_word {P : Program} {w : World} {K : PySem.W.Frag} {mg : Str → Option Value} {base : Heap} {k : Nat} {sp_runs_of_web : Sp} {sp_first_runs : Sp} {a_TooMany : Addr} {a_NoText : Addr} {a_NoStore : Addr} {a_NoRow : Addr} {a_NoNumber : Addr} {a_NoName : Addr} {a_NoFit : Addr} {a_NoChoice : Addr} {a_RunError : Addr}
    (c_runs_of_web : Cal P w K mg base (L2.CX P w) k "runs_of_web" ["web"] sp_runs_of_web)
    (c_first_runs : Cal P w K mg base (L2.CX P w) k "first_runs" ["web"] sp_first_runs) (m_int : mg "int" = none) (m_isinstance : mg "isinstance" = none) (m_ValueError : mg "ValueError" = none) (m_len : mg "len" = none) (g_TooMany : mg "TooMany" = some (.ref a_TooMany)) (g_NoText : mg "NoText" = some (.ref a_NoText)) (g_NoStore : mg "NoStore" = some (.ref a_NoStore)) (g_NoRow : mg "NoRow" = some (.ref a_NoRow)) (g_NoNumber : mg "NoNumber" = some (.ref a_NoNumber)) (g_NoName : mg "NoName" = some (.ref a_NoName)) (g_NoFit : mg "NoFit" = some (.ref a_NoFit)) (g_NoChoice : mg "NoChoice" = some (.ref a_NoChoice)) (g_RunError : mg "RunError" = some (.ref a_RunError))
    (f : Addr) (cdv : Value) (A : Around) (outer : List Env) (s : Shared) (H : Hp) (E : XK) (hr : Room k (A.deeper (envOfC "_law_word" (defScope s_l_word) s.heap.objs.size f cdv))) :
    PSs (cxOf CX0 P w K mg base ["way", "web", "caught", "found", "e"] "_law_word" (defScope s_l_word) f cdv A outer s H E).nox (defBody s_l_word) (t_l_word K sp_runs_of_web sp_first_runs a_TooMany a_NoText a_NoStore a_NoRow a_NoNumber a_NoName a_NoFit a_NoChoice a_RunError) := by
  have hu : (cxOf CX0 P w K mg base ["way", "web", "caught", "found", "e"] "_law_word" (defScope s_l_word) f cdv A outer s H E).nox.A.units + 64 < cLine := hr.units
  have hu5 : (cxOf CX0 P w K mg base ["way", "web", "caught", "found", "e"] "_law_word" (defScope s_l_word) f cdv A outer s H E).nox.A.units + 65 < cLine := room65 hr
  unfold t_l_word
  exact (pss_cons (ps_set (i := 2) sc_l_word.nd rfl (by first | exact Or.inl rfl | exact Or.inr rfl) pe_non)
    (pss_cons (ps_set (i := 3) sc_l_word.nd rfl (by first | exact Or.inl rfl | exact Or.inr rfl) (pe_lst pa_nil))
    (pss_cons (ps_try_kept (i := 4) (tb := fun W => (tIfS (tTest (tOp (dEq K) (tVar 0) (tC (.int 0)))) (tAsg (tCallS sp_runs_of_web (WE W) (tCons (tVar 1) tNil)) (gName 3)) (tAsg (tCallS sp_first_runs (WE W) (tCons (tVar 1) tNil)) (gName 3)))) (Wout := fun _ _ _ _ => False) rfl rfl rfl sc_l_word.nd rfl rfl ⟨rfl, by decide, Or.inl g_RunError⟩ takes0 (fun W pn xe tk _ => (pss_one (ps_if (pt_cmpR (o_eq hu) (pv 0) pe_int (nomark _)) (pss_one (ps_set (i := 3) sc_l_word.nd rfl (by first | exact Or.inl rfl | exact Or.inr rfl) (pe_cx c_runs_of_web hr (by rfl) tk (pa_cons (pv 1) pa_nil)))) (pss_one (ps_set (i := 3) sc_l_word.nd rfl (by first | exact Or.inl rfl | exact Or.inr rfl) (pe_cx c_first_runs hr (by rfl) tk (pa_cons (pv 1) pa_nil))))))) (fun a pn => (pss_one (ps_set (i := 2) sc_l_word.nd rfl (by first | exact Or.inl rfl | exact Or.inr rfl) (pv 4)))))
    (pss_cons (ps_if (pt_cmpR op_isN (pv 2) pe_non (nomark _)) (pss_one (ps_ret (pe_callB o_len (by rfl) m_len (by decide +kernel) (pa_cons (pv 3) pa_nil)))) pss_nil)
    (pss_cons (ps_if (pt_val (pe_callB call_isT (by rfl) m_isinstance (by decide +kernel) (pa_cons (pv 2) (pa_cons (pe_tup (pa_cons (pe_glob (by rfl) g_NoChoice rfl) (pa_cons (pe_glob (by rfl) g_NoFit rfl) (pa_cons (pe_glob (by rfl) g_NoName rfl) (pa_cons (pe_glob (by rfl) g_NoNumber rfl) (pa_cons (pe_glob (by rfl) g_NoRow rfl) (pa_cons (pe_glob (by rfl) g_NoStore rfl) (pa_cons (pe_glob (by rfl) g_NoText rfl) pa_nil)))))))) pa_nil)))) (pss_one (ps_ret pe_str)) pss_nil)
    (pss_one (ps_ret (pe_ix ix_seq (pe_lst (pa_cons pe_str (pa_cons pe_str pa_nil))) (pe_callTy o_int (by rfl) m_int (by decide +kernel) (pa_cons (pe_and (pe_callB call_is (by rfl) m_isinstance (by decide +kernel) (pa_cons (pv 2) (pa_cons (pe_glob (by rfl) g_TooMany rfl) pa_nil))) (pe_one (pe_callB call_is (by rfl) m_isinstance (by decide +kernel) (pa_cons (pv 2) (pa_cons (pe_bltn (by rfl) m_ValueError (by decide +kernel) rfl) pa_nil))))) pa_nil)) (fun _ _ => rfl)))))))))
/-! _law_firsts -/
abbrev s_l_firsts : Stmt := topS 30
theorem sc_l_firsts : FnScope ["knot", "k"] ["knot"] (defScope s_l_firsts) := ⟨rfl, rfl, rfl, by decide +kernel, rfl, by decide +kernel, by decide +kernel⟩
def t_l_firsts (K : PySem.W.Frag) : TS :=
  (tRet (tLc (iRng1 (tCons (tCB (dLen K) (tCons (tVar 0) tNil)) tNil)) (gName 1) (tTest (tOp (dNotIn K) (tOp (rIx K) (tVar 0) (tVar 1)) (tSl (rSlL K) (tVar 0) tNoPart (tPart (tVar 1))))) (tVar 1) [1]))
theorem wk_l_firsts {P : Program} {w : World} {K : PySem.W.Frag} {mg : Str → Option Value} {base : Heap} {k : Nat} (m_range : mg "range" = none) (m_len : mg "len" = none)
    (f : Addr) (cdv : Value) (A : Around) (outer : List Env) (s : Shared) (H : Hp) (E : XK) (hr : Room k (A.deeper (envOfC "_law_firsts" (defScope s_l_firsts) s.heap.objs.size f cdv))) :
    PSs (cxOf CX0 P w K mg base ["knot", "k"] "_law_firsts" (defScope s_l_firsts) f cdv A outer s H E).nox (defBody s_l_firsts) (t_l_firsts K) := by
  have hu : (cxOf CX0 P w K mg base ["knot", "k"] "_law_firsts" (defScope s_l_firsts) f cdv A outer s H E).nox.A.units + 64 < cLine := hr.units
  have hu5 : (cxOf CX0 P w K mg base ["knot", "k"] "_law_firsts" (defScope s_l_firsts) f cdv A outer s H E).nox.A.units + 65 < cLine := room65 hr
  unfold t_l_firsts
  exact (pss_one (ps_ret (pe_lc (own := [("k", 1)]) (g := (gName 1)) (tt := (tTest (tOp (dNotIn K) (tOp (rIx K) (tVar 0) (tVar 1)) (tSl (rSlL K) (tVar 0) tNoPart (tPart (tVar 1)))))) rfl sc_l_firsts.nd (pi_range1 (by rfl) m_range (pa_cons (pe_callB o_len (by rfl) m_len (by decide +kernel) (pa_cons (pv 0) pa_nil)) pa_nil)) (blkOk_by (N := ["knot", "k"]) (sc := defScope s_l_firsts) (by decide +kernel)) (fun _ _ _ _ _ => (pg_name (i := 1) sc_l_firsts.nd rfl (by first | exact Or.inl rfl | exact Or.inr rfl))) (fun _ _ _ _ _ => (pts_one (pt_cmpR (o_notIn hu5) (pe_ix ix_seq (pv 0) (pv 1) (fun _ _ => rfl)) (pe_slice sl_list (pv 0) po_none (po_some (pv 1))) (by rfl)))) (fun _ _ _ _ _ => (pv 1)))))
/-! _law_tall -/
abbrev s_l_tall : Stmt := topS 31
theorem sc_l_tall : FnScope ["store", "top", "knots", "k", "ways"] ["store"] (defScope s_l_tall) := ⟨rfl, rfl, rfl, by decide +kernel, rfl, by decide +kernel, by decide +kernel⟩
def t_l_tall (K : PySem.W.Frag) (sp_l_take : Sp) (sp_l_way : Sp) (sp_l_knots : Sp) : TS :=
  (tSeq (tAsg (tCall sp_l_knots [] E0 (tCons (tVar 0) tNil)) (gTup K 2 (gCons (gName 1) (gCons (gName 2) gNil))))
    (tSeq (tIfS (tTest (tOp (dEq K) (tVar 2) (tLst tNil))) (tAsg (tLst (tCons (tLst (tCons (tTup (tCons (tC (.str "nothing")) tNil)) (tCons (tTup (tCons (tC (.str "gives")) (tCons (tC (.int 1)) tNil))) (tCons (tTup (tCons (tC (.str "gives")) (tCons (tC (.int 2)) tNil))) tNil)))) tNil)) (gName 2)) tNext)
    (tSeq (tFor (iRng1 (tCons (tOp (dAdd K) (tC (.int 3)) (tCall sp_l_take [] E0 (tCons (tVar 0) (tCons (tOp (rIx K) (tLst (tCons (tC (.int 6)) (tCons (tC (.int 40)) (tCons (tC (.int 6)) (tCons (tC (.int 40)) (tCons (tC (.int 200)) tNil)))))) (tCall sp_l_take [] E0 (tCons (tVar 0) (tCons (tC (.int 5)) tNil)))) tNil)))) tNil)) (gName 3) (tSeq (tAsg (tOp (dAdd K) (tOp dMul (tLst (tCons (tTup (tCons (tC (.str "knot")) (tCons (tOp dSub (tCB (dLen K) (tCons (tVar 2) tNil)) (tC (.int 1))) tNil))) tNil)) (tOp (dAdd K) (tC (.int 1)) (tCall sp_l_take [] E0 (tCons (tVar 0) (tCons (tC (.int 4)) tNil))))) (tLst (tCons (tCall sp_l_way [] E0 (tCons (tVar 0) (tCons (tCB (dLen K) (tCons (tVar 2) tNil)) tNil))) tNil))) (gName 4))
    (tSeq (tIfS (tTest (tOp (dEq K) (tCall sp_l_take [] E0 (tCons (tVar 0) (tCons (tC (.int 2)) tNil))) (tC (.int 0)))) (tDrop (tBM K "list" rAppend (tVar 4) (tCons (tTup (tCons (tC (.str "knot")) (tCons (tCall sp_l_take [] E0 (tCons (tVar 0) (tCons (tCB (dLen K) (tCons (tVar 2) tNil)) tNil))) tNil))) tNil))) tNext)
    (tDrop (tBM K "list" rAppend (tVar 2) (tCons (tSl (rSlL K) (tVar 4) tNoPart (tPart (tC (.int 5)))) tNil))))))
    (tRet (tTup (tCons (tTup (tCons (tC (.str "knot")) (tCons (tOp dSub (tCB (dLen K) (tCons (tVar 2) tNil)) (tC (.int 1))) tNil))) (tCons (tVar 2) tNil)))))))
theorem wk_l_tall {P : Program} {w : World} {K : PySem.W.Frag} {mg : Str → Option Value} {base : Heap} {k : Nat} {sp_l_take : Sp} {sp_l_way : Sp} {sp_l_knots : Sp}
    (c_l_take : Cal P w K mg base CX0 k "_law_take" ["store", "many"] sp_l_take)
    (c_l_way : Cal P w K mg base CX0 k "_law_way" ["store", "many"] sp_l_way)
    (c_l_knots : Cal P w K mg base CX0 k "_law_knots" ["store"] sp_l_knots) (m_len : mg "len" = none) (m_range : mg "range" = none)
    (f : Addr) (cdv : Value) (A : Around) (outer : List Env) (s : Shared) (H : Hp) (E : XK) (hr : Room k (A.deeper (envOfC "_law_tall" (defScope s_l_tall) s.heap.objs.size f cdv))) :
    PSs (cxOf CX0 P w K mg base ["store", "top", "knots", "k", "ways"] "_law_tall" (defScope s_l_tall) f cdv A outer s H E).nox (defBody s_l_tall) (t_l_tall K sp_l_take sp_l_way sp_l_knots) := by
  have hu : (cxOf CX0 P w K mg base ["store", "top", "knots", "k", "ways"] "_law_tall" (defScope s_l_tall) f cdv A outer s H E).nox.A.units + 64 < cLine := hr.units
  have hu5 : (cxOf CX0 P w K mg base ["store", "top", "knots", "k", "ways"] "_law_tall" (defScope s_l_tall) f cdv A outer s H E).nox.A.units + 65 < cLine := room65 hr
  unfold t_l_tall
  exact (pss_cons (ps_asg (pe_c c_l_knots hr (by rfl) (pa_cons (pv 0) pa_nil)) (pg_tup rfl (pgs_cons (pg_name (i := 1) sc_l_tall.nd rfl (by first | exact Or.inl rfl | exact Or.inr rfl)) (pgs_cons (pg_name (i := 2) sc_l_tall.nd rfl (by first | exact Or.inl rfl | exact Or.inr rfl)) pgs_nil))))
    (pss_cons (ps_if (pt_cmpR (o_eq hu) (pv 2) (pe_lst pa_nil) (nomark _)) (pss_one (ps_set (i := 2) sc_l_tall.nd rfl (by first | exact Or.inl rfl | exact Or.inr rfl) (pe_lst (pa_cons (pe_lst (pa_cons (pe_tup (pa_cons pe_str pa_nil)) (pa_cons (pe_tup (pa_cons pe_str (pa_cons pe_int pa_nil))) (pa_cons (pe_tup (pa_cons pe_str (pa_cons pe_int pa_nil))) pa_nil)))) pa_nil)))) pss_nil)
    (pss_cons (ps_for PassesOwn.never rfl (pi_range1 (by rfl) m_range (pa_cons (pe_op o_add pe_int (pe_c c_l_take hr (by rfl) (pa_cons (pv 0) (pa_cons (pe_ix ix_seq (pe_lst (pa_cons pe_int (pa_cons pe_int (pa_cons pe_int (pa_cons pe_int (pa_cons pe_int pa_nil)))))) (pe_c c_l_take hr (by rfl) (pa_cons (pv 0) (pa_cons pe_int pa_nil))) (fun _ _ => rfl)) pa_nil)))) pa_nil)) (pg_name (i := 3) sc_l_tall.nd rfl (by first | exact Or.inl rfl | exact Or.inr rfl)) (pss_cons (ps_set (i := 4) sc_l_tall.nd rfl (by first | exact Or.inl rfl | exact Or.inr rfl) (pe_op o_add (pe_op o_mul (pe_lst (pa_cons (pe_tup (pa_cons pe_str (pa_cons (pe_op o_sub (pe_callB o_len (by rfl) m_len (by decide +kernel) (pa_cons (pv 2) pa_nil)) pe_int) pa_nil))) pa_nil)) (pe_op o_add pe_int (pe_c c_l_take hr (by rfl) (pa_cons (pv 0) (pa_cons pe_int pa_nil))))) (pe_lst (pa_cons (pe_c c_l_way hr (by rfl) (pa_cons (pv 0) (pa_cons (pe_callB o_len (by rfl) m_len (by decide +kernel) (pa_cons (pv 2) pa_nil)) pa_nil))) pa_nil))))
    (pss_cons (ps_if (pt_cmpR (o_eq hu) (pe_c c_l_take hr (by rfl) (pa_cons (pv 0) (pa_cons pe_int pa_nil))) pe_int (nomark _)) (pss_one (ps_expr (pe_bm PySem.F.plainAttrs_list PySem.F.slot_list_append PySem.F.type_list_append mt_append (pv 4) (pa_cons (pe_tup (pa_cons pe_str (pa_cons (pe_c c_l_take hr (by rfl) (pa_cons (pv 0) (pa_cons (pe_callB o_len (by rfl) m_len (by decide +kernel) (pa_cons (pv 2) pa_nil)) pa_nil))) pa_nil))) pa_nil)))) pss_nil)
    (pss_one (ps_expr (pe_bm PySem.F.plainAttrs_list PySem.F.slot_list_append PySem.F.type_list_append mt_append (pv 2) (pa_cons (pe_slice sl_list (pv 4) po_none (po_some pe_int)) pa_nil)))))))
    (pss_one (ps_ret (pe_tup (pa_cons (pe_tup (pa_cons pe_str (pa_cons (pe_op o_sub (pe_callB o_len (by rfl) m_len (by decide +kernel) (pa_cons (pv 2) pa_nil)) pe_int) pa_nil))) (pa_cons (pv 2) pa_nil))))))))
/-! _law_full -/
abbrev s_l_full : Stmt := topS 32
theorem sc_l_full : FnScope ["knots", "j", "k", "below", "ways", "many"] [] (defScope s_l_full) := ⟨rfl, rfl, rfl, by decide +kernel, rfl, by decide +kernel, by decide +kernel⟩
def t_l_full (K : PySem.W.Frag) : TS :=
  (tSeq (tAsg (tLst tNil) (gName 0))
    (tSeq (tFor (iRng1 (tCons (tC (.int 5)) tNil)) (gName 1) (tDrop (tBM K "list" rAppend (tVar 0) (tCons (tLc (iRng1 (tCons (tC (.int 5)) tNil)) (gName 2) tYes (tTup (tCons (tC (.str "gives")) (tCons (tVar 2) tNil))) [2]) tNil))))
    (tSeq (tFor (iList K (tLst (tCons (tTup (tCons (tC (.int 0)) (tCons (tC (.int 5)) (tCons (tC (.int 5)) tNil)))) (tCons (tTup (tCons (tC (.int 5)) (tCons (tC (.int 5)) (tCons (tC (.int 5)) tNil)))) (tCons (tTup (tCons (tC (.int 10)) (tCons (tC (.int 4)) (tCons (tC (.int 4)) tNil)))) (tCons (tTup (tCons (tC (.int 15)) (tCons (tC (.int 4)) (tCons (tC (.int 1)) tNil)))) tNil)))))) (gTup K 3 (gCons (gName 3) (gCons (gName 4) (gCons (gName 5) gNil)))) (tFor (iRng1 (tCons (tVar 5) tNil)) (gName 1) (tDrop (tBM K "list" rAppend (tVar 0) (tCons (tLc (iRng1 (tCons (tVar 4) tNil)) (gName 2) tYes (tTup (tCons (tC (.str "knot")) (tCons (tOp (dAdd K) (tVar 3) (tVar 2)) tNil))) [2]) tNil)))))
    (tRet (tOp (dAdd K) (tVar 0) (tLst (tCons (tLst (tCons (tTup (tCons (tC (.str "knot")) (tCons (tC (.int 19)) tNil))) (tCons (tTup (tCons (tC (.str "nothing")) tNil)) tNil))) tNil)))))))
theorem wk_l_full {P : Program} {w : World} {K : PySem.W.Frag} {mg : Str → Option Value} {base : Heap} {k : Nat} (m_range : mg "range" = none)
    (f : Addr) (cdv : Value) (A : Around) (outer : List Env) (s : Shared) (H : Hp) (E : XK) (hr : Room k (A.deeper (envOfC "_law_full" (defScope s_l_full) s.heap.objs.size f cdv))) :
    PSs (cxOf CX0 P w K mg base ["knots", "j", "k", "below", "ways", "many"] "_law_full" (defScope s_l_full) f cdv A outer s H E).nox (defBody s_l_full) (t_l_full K) := by
  have hu : (cxOf CX0 P w K mg base ["knots", "j", "k", "below", "ways", "many"] "_law_full" (defScope s_l_full) f cdv A outer s H E).nox.A.units + 64 < cLine := hr.units
  have hu5 : (cxOf CX0 P w K mg base ["knots", "j", "k", "below", "ways", "many"] "_law_full" (defScope s_l_full) f cdv A outer s H E).nox.A.units + 65 < cLine := room65 hr
  unfold t_l_full
  exact (pss_cons (ps_set (i := 0) sc_l_full.nd rfl (by first | exact Or.inl rfl | exact Or.inr rfl) (pe_lst pa_nil))
    (pss_cons (ps_for PassesOwn.never rfl (pi_range1 (by rfl) m_range (pa_cons pe_int pa_nil)) (pg_name (i := 1) sc_l_full.nd rfl (by first | exact Or.inl rfl | exact Or.inr rfl)) (pss_one (ps_expr (pe_bm PySem.F.plainAttrs_list PySem.F.slot_list_append PySem.F.type_list_append mt_append (pv 0) (pa_cons (pe_lc (own := [("k", 2)]) (g := (gName 2)) (tt := tYes) rfl sc_l_full.nd (pi_range1 (by rfl) m_range (pa_cons pe_int pa_nil)) (blkOk_by (N := ["knots", "j", "k", "below", "ways", "many"]) (sc := defScope s_l_full) (by decide +kernel)) (fun _ _ _ _ _ => (pg_name (i := 2) sc_l_full.nd rfl (by first | exact Or.inl rfl | exact Or.inr rfl))) (fun _ _ _ _ _ => pts_nil) (fun _ _ _ _ _ => (pe_tup (pa_cons pe_str (pa_cons (pv 2) pa_nil))))) pa_nil)))))
    (pss_cons (ps_for PassesOwn.never rfl (pi_list (pe_lst (pa_cons (pe_tup (pa_cons pe_int (pa_cons pe_int (pa_cons pe_int pa_nil)))) (pa_cons (pe_tup (pa_cons pe_int (pa_cons pe_int (pa_cons pe_int pa_nil)))) (pa_cons (pe_tup (pa_cons pe_int (pa_cons pe_int (pa_cons pe_int pa_nil)))) (pa_cons (pe_tup (pa_cons pe_int (pa_cons pe_int (pa_cons pe_int pa_nil)))) pa_nil)))))) (pg_tup rfl (pgs_cons (pg_name (i := 3) sc_l_full.nd rfl (by first | exact Or.inl rfl | exact Or.inr rfl)) (pgs_cons (pg_name (i := 4) sc_l_full.nd rfl (by first | exact Or.inl rfl | exact Or.inr rfl)) (pgs_cons (pg_name (i := 5) sc_l_full.nd rfl (by first | exact Or.inl rfl | exact Or.inr rfl)) pgs_nil)))) (pss_one (ps_for PassesOwn.never rfl (pi_range1 (by rfl) m_range (pa_cons (pv 5) pa_nil)) (pg_name (i := 1) sc_l_full.nd rfl (by first | exact Or.inl rfl | exact Or.inr rfl)) (pss_one (ps_expr (pe_bm PySem.F.plainAttrs_list PySem.F.slot_list_append PySem.F.type_list_append mt_append (pv 0) (pa_cons (pe_lc (own := [("k", 2)]) (g := (gName 2)) (tt := tYes) rfl sc_l_full.nd (pi_range1 (by rfl) m_range (pa_cons (pv 4) pa_nil)) (blkOk_by (N := ["knots", "j", "k", "below", "ways", "many"]) (sc := defScope s_l_full) (by decide +kernel)) (fun _ _ _ _ _ => (pg_name (i := 2) sc_l_full.nd rfl (by first | exact Or.inl rfl | exact Or.inr rfl))) (fun _ _ _ _ _ => pts_nil) (fun _ _ _ _ _ => (pe_tup (pa_cons pe_str (pa_cons (pe_op o_add (pv 3) (pv 2)) pa_nil))))) pa_nil)))))))
    (pss_one (ps_ret (pe_op o_add (pv 0) (pe_lst (pa_cons (pe_lst (pa_cons (pe_tup (pa_cons pe_str (pa_cons pe_int pa_nil))) (pa_cons (pe_tup (pa_cons pe_str pa_nil)) pa_nil))) pa_nil))))))))
/-! _law_chain -/
abbrev s_l_chain : Stmt := topS 33
theorem sc_l_chain : FnScope ["store", "knots", "k", "end", "ways", "turn"] ["store"] (defScope s_l_chain) := ⟨rfl, rfl, rfl, by decide +kernel, rfl, by decide +kernel, by decide +kernel⟩
def t_l_chain (K : PySem.W.Frag) (sp_l_take : Sp) : TS :=
  (tSeq (tAsg (tLst (tCons (tLst (tCons (tTup (tCons (tC (.str "gives")) (tCons (tCall sp_l_take [] E0 (tCons (tVar 0) (tCons (tC (.int 16)) tNil))) tNil))) tNil)) tNil)) (gName 1))
    (tSeq (tFor (iRng1 (tCons (tOp (dAdd K) (tC (.int 94)) (tCall sp_l_take [] E0 (tCons (tVar 0) (tCons (tC (.int 151)) tNil)))) tNil)) (gName 2) (tSeq (tAsg (tTup (tCons (tC (.str "nothing")) tNil)) (gName 3))
    (tSeq (tIfS (tTest (tOp (dEq K) (tCall sp_l_take [] E0 (tCons (tVar 0) (tCons (tC (.int 2)) tNil))) (tC (.int 0)))) (tAsg (tTup (tCons (tC (.str "gives")) (tCons (tCall sp_l_take [] E0 (tCons (tVar 0) (tCons (tC (.int 16)) tNil))) tNil))) (gName 3)) tNext)
    (tSeq (tAsg (tSl (rSlL K) (tLst (tCons (tTup (tCons (tC (.str "knot")) (tCons (tVar 2) tNil))) (tCons (tVar 3) (tCons (tVar 3) tNil)))) tNoPart (tPart (tOp (dAdd K) (tC (.int 2)) (tCB dInt (tCons (tOp (dEq K) (tCall sp_l_take [] E0 (tCons (tVar 0) (tCons (tC (.int 3)) tNil))) (tC (.int 0))) tNil))))) (gName 4))
    (tSeq (tAsg (tCall sp_l_take [] E0 (tCons (tVar 0) (tCons (tCB (dLen K) (tCons (tVar 4) tNil)) tNil))) (gName 5))
    (tDrop (tBM K "list" rAppend (tVar 1) (tCons (tOp (dAdd K) (tSl (rSlL K) (tVar 4) (tPart (tVar 5)) tNoPart) (tSl (rSlL K) (tVar 4) tNoPart (tPart (tVar 5)))) tNil))))))))
    (tRet (tTup (tCons (tTup (tCons (tC (.str "knot")) (tCons (tOp dSub (tCB (dLen K) (tCons (tVar 1) tNil)) (tC (.int 1))) tNil))) (tCons (tVar 1) tNil))))))
theorem wk_l_chain {P : Program} {w : World} {K : PySem.W.Frag} {mg : Str → Option Value} {base : Heap} {k : Nat} {sp_l_take : Sp}
    (c_l_take : Cal P w K mg base CX0 k "_law_take" ["store", "many"] sp_l_take) (m_len : mg "len" = none) (m_range : mg "range" = none) (m_int : mg "int" = none)
    (f : Addr) (cdv : Value) (A : Around) (outer : List Env) (s : Shared) (H : Hp) (E : XK) (hr : Room k (A.deeper (envOfC "_law_chain" (defScope s_l_chain) s.heap.objs.size f cdv))) :
    PSs (cxOf CX0 P w K mg base ["store", "knots", "k", "end", "ways", "turn"] "_law_chain" (defScope s_l_chain) f cdv A outer s H E).nox (defBody s_l_chain) (t_l_chain K sp_l_take) := by
  have hu : (cxOf CX0 P w K mg base ["store", "knots", "k", "end", "ways", "turn"] "_law_chain" (defScope s_l_chain) f cdv A outer s H E).nox.A.units + 64 < cLine := hr.units
  have hu5 : (cxOf CX0 P w K mg base ["store", "knots", "k", "end", "ways", "turn"] "_law_chain" (defScope s_l_chain) f cdv A outer s H E).nox.A.units + 65 < cLine := room65 hr
  unfold t_l_chain
  exact (pss_cons (ps_set (i := 1) sc_l_chain.nd rfl (by first | exact Or.inl rfl | exact Or.inr rfl) (pe_lst (pa_cons (pe_lst (pa_cons (pe_tup (pa_cons pe_str (pa_cons (pe_c c_l_take hr (by rfl) (pa_cons (pv 0) (pa_cons pe_int pa_nil))) pa_nil))) pa_nil)) pa_nil)))
    (pss_cons (ps_for PassesOwn.never rfl (pi_range1 (by rfl) m_range (pa_cons (pe_op o_add pe_int (pe_c c_l_take hr (by rfl) (pa_cons (pv 0) (pa_cons pe_int pa_nil)))) pa_nil)) (pg_name (i := 2) sc_l_chain.nd rfl (by first | exact Or.inl rfl | exact Or.inr rfl)) (pss_cons (ps_set (i := 3) sc_l_chain.nd rfl (by first | exact Or.inl rfl | exact Or.inr rfl) (pe_tup (pa_cons pe_str pa_nil)))
    (pss_cons (ps_if (pt_cmpR (o_eq hu) (pe_c c_l_take hr (by rfl) (pa_cons (pv 0) (pa_cons pe_int pa_nil))) pe_int (nomark _)) (pss_one (ps_set (i := 3) sc_l_chain.nd rfl (by first | exact Or.inl rfl | exact Or.inr rfl) (pe_tup (pa_cons pe_str (pa_cons (pe_c c_l_take hr (by rfl) (pa_cons (pv 0) (pa_cons pe_int pa_nil))) pa_nil))))) pss_nil)
    (pss_cons (ps_set (i := 4) sc_l_chain.nd rfl (by first | exact Or.inl rfl | exact Or.inr rfl) (pe_slice sl_list (pe_lst (pa_cons (pe_tup (pa_cons pe_str (pa_cons (pv 2) pa_nil))) (pa_cons (pv 3) (pa_cons (pv 3) pa_nil)))) po_none (po_some (pe_op o_add pe_int (pe_callTy o_int (by rfl) m_int (by decide +kernel) (pa_cons (pe_cmpR (o_eq hu) (pe_c c_l_take hr (by rfl) (pa_cons (pv 0) (pa_cons pe_int pa_nil))) pe_int (nomark _)) pa_nil))))))
    (pss_cons (ps_set (i := 5) sc_l_chain.nd rfl (by first | exact Or.inl rfl | exact Or.inr rfl) (pe_c c_l_take hr (by rfl) (pa_cons (pv 0) (pa_cons (pe_callB o_len (by rfl) m_len (by decide +kernel) (pa_cons (pv 4) pa_nil)) pa_nil))))
    (pss_one (ps_expr (pe_bm PySem.F.plainAttrs_list PySem.F.slot_list_append PySem.F.type_list_append mt_append (pv 1) (pa_cons (pe_op o_add (pe_slice sl_list (pv 4) (po_some (pv 5)) po_none) (pe_slice sl_list (pv 4) po_none (po_some (pv 5)))) pa_nil)))))))))
    (pss_one (ps_ret (pe_tup (pa_cons (pe_tup (pa_cons pe_str (pa_cons (pe_op o_sub (pe_callB o_len (by rfl) m_len (by decide +kernel) (pa_cons (pv 1) pa_nil)) pe_int) pa_nil))) (pa_cons (pv 1) pa_nil)))))))
/-! _law_long_right -/
abbrev s_l_long_right : Stmt := topS 34
theorem sc_l_long_right : FnScope ["store", "web", "kept", "knot", "every", "firsts"] ["store"] (defScope s_l_long_right) := ⟨rfl, rfl, rfl, by decide +kernel, rfl, by decide +kernel, by decide +kernel⟩
def t_l_long_right (K : PySem.W.Frag) (sp_first_runs : Sp) (sp_runs_of_web : Sp) (sp_l_some_runs : Sp) (sp_l_firsts : Sp) (sp_l_chain : Sp) : TS :=
  (tSeq (tAsg (tCall sp_l_chain [] E0 (tCons (tVar 0) tNil)) (gName 1))
    (tSeq (tAsg (tTup (tCons (tOp (rIx K) (tVar 1) (tC (.int 0))) (tCons (tLc (iList K (tOp (rIx K) (tVar 1) (tC (.int 1)))) (gName 3) tYes (tCB (dList K) (tCons (tVar 3) tNil)) [3]) tNil))) (gName 2))
    (tSeq (tAsg (tCall sp_l_some_runs [] E0 (tCons (tVar 1) (tCons (tLc (iList K (tOp (rIx K) (tVar 1) (tC (.int 1)))) (gName 3) tYes (tLstRg (tRg1 (tCB (dLen K) (tCons (tVar 3) tNil)))) [3]) (tCons (tOp (rIx K) (tVar 1) (tC (.int 0))) (tCons (tC (.int 2000)) tNil))))) (gName 4))
    (tSeq (tAsg (tCall sp_l_some_runs [] E0 (tCons (tVar 1) (tCons (tLc (iList K (tOp (rIx K) (tVar 1) (tC (.int 1)))) (gName 3) tYes (tCall sp_l_firsts [] E0 (tCons (tVar 3) tNil)) [3]) (tCons (tOp (rIx K) (tVar 1) (tC (.int 0))) (tCons (tC (.int 2000)) tNil))))) (gName 5))
    (tRet (tAndV (tOp (dEq K) (tCall sp_runs_of_web [] E0 (tCons (tVar 1) tNil)) (tVar 4)) (tAndV (tOp (dEq K) (tCall sp_first_runs [] E0 (tCons (tVar 1) tNil)) (tVar 5)) (tOp (dEq K) (tVar 1) (tVar 2)))))))))
theorem wk_l_long_right {P : Program} {w : World} {K : PySem.W.Frag} {mg : Str → Option Value} {base : Heap} {k : Nat} {sp_first_runs : Sp} {sp_runs_of_web : Sp} {sp_l_some_runs : Sp} {sp_l_firsts : Sp} {sp_l_chain : Sp}
    (c_first_runs : Cal P w K mg base CX0 k "first_runs" ["web"] sp_first_runs)
    (c_runs_of_web : Cal P w K mg base CX0 k "runs_of_web" ["web"] sp_runs_of_web)
    (c_l_some_runs : Cal P w K mg base CX0 k "_law_some_runs" ["web", "taken", "way", "most"] sp_l_some_runs)
    (c_l_firsts : Cal P w K mg base CX0 k "_law_firsts" ["knot"] sp_l_firsts)
    (c_l_chain : Cal P w K mg base CX0 k "_law_chain" ["store"] sp_l_chain) (m_list : mg "list" = none) (m_range : mg "range" = none) (m_len : mg "len" = none)
    (f : Addr) (cdv : Value) (A : Around) (outer : List Env) (s : Shared) (H : Hp) (E : XK) (hr : Room k (A.deeper (envOfC "_law_long_right" (defScope s_l_long_right) s.heap.objs.size f cdv))) :
    PSs (cxOf CX0 P w K mg base ["store", "web", "kept", "knot", "every", "firsts"] "_law_long_right" (defScope s_l_long_right) f cdv A outer s H E).nox (defBody s_l_long_right) (t_l_long_right K sp_first_runs sp_runs_of_web sp_l_some_runs sp_l_firsts sp_l_chain) := by
  have hu : (cxOf CX0 P w K mg base ["store", "web", "kept", "knot", "every", "firsts"] "_law_long_right" (defScope s_l_long_right) f cdv A outer s H E).nox.A.units + 64 < cLine := hr.units
  have hu5 : (cxOf CX0 P w K mg base ["store", "web", "kept", "knot", "every", "firsts"] "_law_long_right" (defScope s_l_long_right) f cdv A outer s H E).nox.A.units + 65 < cLine := room65 hr
  unfold t_l_long_right
  exact (pss_cons (ps_set (i := 1) sc_l_long_right.nd rfl (by first | exact Or.inl rfl | exact Or.inr rfl) (pe_c c_l_chain hr (by rfl) (pa_cons (pv 0) pa_nil)))
    (pss_cons (ps_set (i := 2) sc_l_long_right.nd rfl (by first | exact Or.inl rfl | exact Or.inr rfl) (pe_tup (pa_cons (pe_ix ix_seq (pv 1) pe_int (fun _ _ => rfl)) (pa_cons (pe_lc (own := [("knot", 3)]) (g := (gName 3)) (tt := tYes) rfl sc_l_long_right.nd (pi_list (pe_ix ix_seq (pv 1) pe_int (fun _ _ => rfl))) (blkOk_by (N := ["store", "web", "kept", "knot", "every", "firsts"]) (sc := defScope s_l_long_right) (by decide +kernel)) (fun _ _ _ _ _ => (pg_name (i := 3) sc_l_long_right.nd rfl (by first | exact Or.inl rfl | exact Or.inr rfl))) (fun _ _ _ _ _ => pts_nil) (fun _ _ _ _ _ => (pe_callTy o_list (by rfl) m_list (by decide +kernel) (pa_cons (pv 3) pa_nil)))) pa_nil))))
    (pss_cons (ps_set (i := 4) sc_l_long_right.nd rfl (by first | exact Or.inl rfl | exact Or.inr rfl) (pe_c c_l_some_runs hr (by rfl) (pa_cons (pv 1) (pa_cons (pe_lc (own := [("knot", 3)]) (g := (gName 3)) (tt := tYes) rfl sc_l_long_right.nd (pi_list (pe_ix ix_seq (pv 1) pe_int (fun _ _ => rfl))) (blkOk_by (N := ["store", "web", "kept", "knot", "every", "firsts"]) (sc := defScope s_l_long_right) (by decide +kernel)) (fun _ _ _ _ _ => (pg_name (i := 3) sc_l_long_right.nd rfl (by first | exact Or.inl rfl | exact Or.inr rfl))) (fun _ _ _ _ _ => pts_nil) (fun _ _ _ _ _ => (pe_listRg rfl (by rfl) m_list (prg_1 (by rfl) m_range (pe_callB o_len (by rfl) m_len (by decide +kernel) (pa_cons (pv 3) pa_nil)))))) (pa_cons (pe_ix ix_seq (pv 1) pe_int (fun _ _ => rfl)) (pa_cons pe_int pa_nil))))))
    (pss_cons (ps_set (i := 5) sc_l_long_right.nd rfl (by first | exact Or.inl rfl | exact Or.inr rfl) (pe_c c_l_some_runs hr (by rfl) (pa_cons (pv 1) (pa_cons (pe_lc (own := [("knot", 3)]) (g := (gName 3)) (tt := tYes) rfl sc_l_long_right.nd (pi_list (pe_ix ix_seq (pv 1) pe_int (fun _ _ => rfl))) (blkOk_by (N := ["store", "web", "kept", "knot", "every", "firsts"]) (sc := defScope s_l_long_right) (by decide +kernel)) (fun _ _ _ _ _ => (pg_name (i := 3) sc_l_long_right.nd rfl (by first | exact Or.inl rfl | exact Or.inr rfl))) (fun _ _ _ _ _ => pts_nil) (fun _ _ _ _ _ => (pe_c c_l_firsts hr (by rfl) (pa_cons (pv 3) pa_nil)))) (pa_cons (pe_ix ix_seq (pv 1) pe_int (fun _ _ => rfl)) (pa_cons pe_int pa_nil))))))
    (pss_one (ps_ret (pe_and (pe_cmpR (o_eq hu) (pe_c c_runs_of_web hr (by rfl) (pa_cons (pv 1) pa_nil)) (pv 4) (nomark _)) (pe_and (pe_cmpR (o_eq hu) (pe_c c_first_runs hr (by rfl) (pa_cons (pv 1) pa_nil)) (pv 5) (nomark _)) (pe_one (pe_cmpR (o_eq hu) (pv 1) (pv 2) (nomark _)))))))))))
/-! law -/
abbrev s_law : Stmt := topS 35
theorem sc_law : FnScope ["script", "at", "store", "web", "kept", "knot", "many", "firsts", "knots", "way"] ["script"] (defScope s_law) := ⟨rfl, rfl, rfl, by decide +kernel, rfl, by decide +kernel, by decide +kernel⟩
def t_law (K : PySem.W.Frag) (sp_count_first : Sp) (sp_l_word : Sp) (sp_l_full : Sp) (sp_l_counted : Sp) (sp_l_firsts : Sp) (sp_l_tall : Sp) (sp_l_store : Sp) (sp_l_cell : Sp) (sp_l_long_right : Sp) : TS :=
  (tSeq (tIfS (tNot (tB (tCall sp_l_long_right [] E0 (tCons (tCall sp_l_store [] E0 (tCons (tCall sp_l_cell [] E0 (tCons (tVar 0) (tCons (tC (.int 0)) tNil))) tNil)) tNil)))) (tRet (tC (.bl false))) tNext)
    (tSeq (tFor (iRng1 (tCons (tCB (dMin K) (tCons (tCB (dMax K) (tCons (tCB (dLen K) (tCons (tVar 0) tNil)) (tCons (tC (.int 3)) tNil))) (tCons (tC (.int 10)) tNil))) tNil)) (gName 1) (tSeq (tAsg (tCall sp_l_store [] E0 (tCons (tCall sp_l_cell [] E0 (tCons (tVar 0) (tCons (tVar 1) tNil))) tNil)) (gName 2))
    (tSeq (tAsg (tCall sp_l_tall [] E0 (tCons (tVar 2) tNil)) (gName 3))
    (tSeq (tAsg (tTup (tCons (tOp (rIx K) (tVar 3) (tC (.int 0))) (tCons (tLc (iList K (tOp (rIx K) (tVar 3) (tC (.int 1)))) (gName 5) tYes (tCB (dList K) (tCons (tVar 5) tNil)) [5]) tNil))) (gName 4))
    (tSeq (tAsg (tCall sp_l_counted [] E0 (tCons (tVar 3) (tCons (tLc (iList K (tOp (rIx K) (tVar 3) (tC (.int 1)))) (gName 5) tYes (tLstRg (tRg1 (tCB (dLen K) (tCons (tVar 5) tNil)))) [5]) tNil))) (gName 6))
    (tSeq (tAsg (tCall sp_l_counted [] E0 (tCons (tVar 3) (tCons (tLc (iList K (tOp (rIx K) (tVar 3) (tC (.int 1)))) (gName 5) tYes (tCall sp_l_firsts [] E0 (tCons (tVar 5) tNil)) [5]) tNil))) (gName 7))
    (tSeq (tIfS (tTest (tOp (dNe K) (tCall sp_l_word [] E0 (tCons (tC (.int 0)) (tCons (tVar 3) tNil))) (tOp (rIx K) (tLst (tCons (tVar 6) (tCons (tC (.str "many")) tNil))) (tCB dInt (tCons (tOp dGt (tVar 6) (tC (.int 2000))) tNil))))) (tRet (tC (.bl false))) tNext)
    (tIfS (tOr (tTest (tOp (dNe K) (tCall sp_l_word [] E0 (tCons (tC (.int 1)) (tCons (tVar 3) tNil))) (tOp (rIx K) (tLst (tCons (tVar 7) (tCons (tC (.str "many")) tNil))) (tCB dInt (tCons (tOp dGt (tVar 7) (tC (.int 2000))) tNil))))) (tOr (tTest (tOp (dNe K) (tCall sp_count_first [] E0 (tCons (tVar 3) tNil)) (tVar 7))) (tTest (tOp (dNe K) (tVar 3) (tVar 4))))) (tRet (tC (.bl false))) tNext))))))))
    (tSeq (tAsg (tLst (tCons (tOp dMul (tLst (tCons (tTup (tCons (tC (.str "gives")) (tCons (tC (.int 1)) tNil))) tNil)) (tC (.int 5))) (tCons (tOp dMul (tLst (tCons (tTup (tCons (tC (.str "knot")) (tCons (tC (.int 0)) tNil))) tNil)) (tC (.int 5))) (tCons (tOp dMul (tLst (tCons (tTup (tCons (tC (.str "knot")) (tCons (tC (.int 1)) tNil))) tNil)) (tC (.int 5))) (tCons (tOp dMul (tLst (tCons (tTup (tCons (tC (.str "knot")) (tCons (tC (.int 2)) tNil))) tNil)) (tC (.int 4))) (tCons (tOp dMul (tLst (tCons (tTup (tCons (tC (.str "knot")) (tCons (tC (.int 3)) tNil))) tNil)) (tC (.int 4))) tNil)))))) (gName 8))
    (tSeq (tAsg (tOp (dAdd K) (tVar 8) (tLst (tCons (tLst (tCons (tTup (tCons (tC (.str "knot")) (tCons (tC (.int 4)) tNil))) (tCons (tTup (tCons (tC (.str "nothing")) tNil)) tNil))) tNil))) (gName 8))
    (tSeq (tIfS (tOr (tTest (tOp (dNe K) (tCall sp_l_word [] E0 (tCons (tC (.int 0)) (tCons (tTup (tCons (tTup (tCons (tC (.str "knot")) (tCons (tC (.int 5)) tNil))) (tCons (tVar 8) tNil))) tNil))) (tC (.str "many")))) (tTest (tOp (dNe K) (tCall sp_l_word [] E0 (tCons (tC (.int 1)) (tCons (tTup (tCons (tTup (tCons (tC (.str "knot")) (tCons (tC (.int 5)) tNil))) (tCons (tVar 8) tNil))) tNil))) (tC (.int 2))))) (tRet (tC (.bl false))) tNext)
    (tSeq (tAsg (tCall sp_l_full [] E0 tNil) (gName 8))
    (tSeq (tFor (iRng1 (tCons (tC (.int 2)) tNil)) (gName 9) (tIfS (tOr (tTest (tOp (dNe K) (tCall sp_l_word [] E0 (tCons (tVar 9) (tCons (tTup (tCons (tTup (tCons (tC (.str "knot")) (tCons (tC (.int 19)) tNil))) (tCons (tVar 8) tNil))) tNil))) (tC (.int 2000)))) (tTest (tOp (dNe K) (tCall sp_l_word [] E0 (tCons (tVar 9) (tCons (tTup (tCons (tTup (tCons (tC (.str "knot")) (tCons (tC (.int 20)) tNil))) (tCons (tVar 8) tNil))) tNil))) (tC (.str "many"))))) (tRet (tC (.bl false))) tNext))
    (tRet (tOp (dEq K) (tCall sp_count_first [] E0 (tCons (tTup (tCons (tTup (tCons (tC (.str "knot")) (tCons (tC (.int 20)) tNil))) (tCons (tVar 8) tNil))) tNil)) (tC (.int 2001)))))))))))
theorem wk_law {P : Program} {w : World} {K : PySem.W.Frag} {mg : Str → Option Value} {base : Heap} {k : Nat} {sp_count_first : Sp} {sp_l_word : Sp} {sp_l_full : Sp} {sp_l_counted : Sp} {sp_l_firsts : Sp} {sp_l_tall : Sp} {sp_l_store : Sp} {sp_l_cell : Sp} {sp_l_long_right : Sp}
    (c_count_first : Cal P w K mg base CX0 k "count_first" ["web"] sp_count_first)
    (c_l_word : Cal P w K mg base CX0 k "_law_word" ["way", "web"] sp_l_word)
    (c_l_full : Cal P w K mg base CX0 k "_law_full" [] sp_l_full)
    (c_l_counted : Cal P w K mg base CX0 k "_law_counted" ["web", "taken"] sp_l_counted)
    (c_l_firsts : Cal P w K mg base CX0 k "_law_firsts" ["knot"] sp_l_firsts)
    (c_l_tall : Cal P w K mg base CX0 k "_law_tall" ["store"] sp_l_tall)
    (c_l_store : Cal P w K mg base CX0 k "_law_store" ["cell"] sp_l_store)
    (c_l_cell : Cal P w K mg base CX0 k "_law_cell" ["script", "k"] sp_l_cell)
    (c_l_long_right : Cal P w K mg base CX0 k "_law_long_right" ["store"] sp_l_long_right) (m_range : mg "range" = none) (m_min : mg "min" = none) (m_max : mg "max" = none) (m_len : mg "len" = none) (m_int : mg "int" = none) (m_list : mg "list" = none)
    (f : Addr) (cdv : Value) (A : Around) (outer : List Env) (s : Shared) (H : Hp) (E : XK) (hr : Room k (A.deeper (envOfC "law" (defScope s_law) s.heap.objs.size f cdv))) :
    PSs (cxOf CX0 P w K mg base ["script", "at", "store", "web", "kept", "knot", "many", "firsts", "knots", "way"] "law" (defScope s_law) f cdv A outer s H E).nox (defBody s_law) (t_law K sp_count_first sp_l_word sp_l_full sp_l_counted sp_l_firsts sp_l_tall sp_l_store sp_l_cell sp_l_long_right) := by
  have hu : (cxOf CX0 P w K mg base ["script", "at", "store", "web", "kept", "knot", "many", "firsts", "knots", "way"] "law" (defScope s_law) f cdv A outer s H E).nox.A.units + 64 < cLine := hr.units
  have hu5 : (cxOf CX0 P w K mg base ["script", "at", "store", "web", "kept", "knot", "many", "firsts", "knots", "way"] "law" (defScope s_law) f cdv A outer s H E).nox.A.units + 65 < cLine := room65 hr
  unfold t_law
  exact (pss_cons (ps_if (pt_not (pt_val (pe_c c_l_long_right hr (by rfl) (pa_cons (pe_c c_l_store hr (by rfl) (pa_cons (pe_c c_l_cell hr (by rfl) (pa_cons (pv 0) (pa_cons pe_int pa_nil))) pa_nil)) pa_nil)))) (pss_one (ps_ret pe_bl)) pss_nil)
    (pss_cons (ps_for PassesOwn.never rfl (pi_range1 (by rfl) m_range (pa_cons (pe_callB (o_min rfl) (by rfl) m_min (by decide +kernel) (pa_cons (pe_callB (o_max rfl) (by rfl) m_max (by decide +kernel) (pa_cons (pe_callB o_len (by rfl) m_len (by decide +kernel) (pa_cons (pv 0) pa_nil)) (pa_cons pe_int pa_nil))) (pa_cons pe_int pa_nil))) pa_nil)) (pg_name (i := 1) sc_law.nd rfl (by first | exact Or.inl rfl | exact Or.inr rfl)) (pss_cons (ps_set (i := 2) sc_law.nd rfl (by first | exact Or.inl rfl | exact Or.inr rfl) (pe_c c_l_store hr (by rfl) (pa_cons (pe_c c_l_cell hr (by rfl) (pa_cons (pv 0) (pa_cons (pv 1) pa_nil))) pa_nil)))
    (pss_cons (ps_set (i := 3) sc_law.nd rfl (by first | exact Or.inl rfl | exact Or.inr rfl) (pe_c c_l_tall hr (by rfl) (pa_cons (pv 2) pa_nil)))
    (pss_cons (ps_set (i := 4) sc_law.nd rfl (by first | exact Or.inl rfl | exact Or.inr rfl) (pe_tup (pa_cons (pe_ix ix_seq (pv 3) pe_int (fun _ _ => rfl)) (pa_cons (pe_lc (own := [("knot", 5)]) (g := (gName 5)) (tt := tYes) rfl sc_law.nd (pi_list (pe_ix ix_seq (pv 3) pe_int (fun _ _ => rfl))) (blkOk_by (N := ["script", "at", "store", "web", "kept", "knot", "many", "firsts", "knots", "way"]) (sc := defScope s_law) (by decide +kernel)) (fun _ _ _ _ _ => (pg_name (i := 5) sc_law.nd rfl (by first | exact Or.inl rfl | exact Or.inr rfl))) (fun _ _ _ _ _ => pts_nil) (fun _ _ _ _ _ => (pe_callTy o_list (by rfl) m_list (by decide +kernel) (pa_cons (pv 5) pa_nil)))) pa_nil))))
    (pss_cons (ps_set (i := 6) sc_law.nd rfl (by first | exact Or.inl rfl | exact Or.inr rfl) (pe_c c_l_counted hr (by rfl) (pa_cons (pv 3) (pa_cons (pe_lc (own := [("knot", 5)]) (g := (gName 5)) (tt := tYes) rfl sc_law.nd (pi_list (pe_ix ix_seq (pv 3) pe_int (fun _ _ => rfl))) (blkOk_by (N := ["script", "at", "store", "web", "kept", "knot", "many", "firsts", "knots", "way"]) (sc := defScope s_law) (by decide +kernel)) (fun _ _ _ _ _ => (pg_name (i := 5) sc_law.nd rfl (by first | exact Or.inl rfl | exact Or.inr rfl))) (fun _ _ _ _ _ => pts_nil) (fun _ _ _ _ _ => (pe_listRg rfl (by rfl) m_list (prg_1 (by rfl) m_range (pe_callB o_len (by rfl) m_len (by decide +kernel) (pa_cons (pv 5) pa_nil)))))) pa_nil))))
    (pss_cons (ps_set (i := 7) sc_law.nd rfl (by first | exact Or.inl rfl | exact Or.inr rfl) (pe_c c_l_counted hr (by rfl) (pa_cons (pv 3) (pa_cons (pe_lc (own := [("knot", 5)]) (g := (gName 5)) (tt := tYes) rfl sc_law.nd (pi_list (pe_ix ix_seq (pv 3) pe_int (fun _ _ => rfl))) (blkOk_by (N := ["script", "at", "store", "web", "kept", "knot", "many", "firsts", "knots", "way"]) (sc := defScope s_law) (by decide +kernel)) (fun _ _ _ _ _ => (pg_name (i := 5) sc_law.nd rfl (by first | exact Or.inl rfl | exact Or.inr rfl))) (fun _ _ _ _ _ => pts_nil) (fun _ _ _ _ _ => (pe_c c_l_firsts hr (by rfl) (pa_cons (pv 5) pa_nil)))) pa_nil))))
    (pss_cons (ps_if (pt_cmpR (o_ne hu) (pe_c c_l_word hr (by rfl) (pa_cons pe_int (pa_cons (pv 3) pa_nil))) (pe_ix ix_seq (pe_lst (pa_cons (pv 6) (pa_cons pe_str pa_nil))) (pe_callTy o_int (by rfl) m_int (by decide +kernel) (pa_cons (pe_cmpR o_gt (pv 6) pe_int (nomark _)) pa_nil)) (fun _ _ => rfl)) (nomark _)) (pss_one (ps_ret pe_bl)) pss_nil)
    (pss_one (ps_if (PW.pt (pw_or (pt_cmpR (o_ne hu) (pe_c c_l_word hr (by rfl) (pa_cons pe_int (pa_cons (pv 3) pa_nil))) (pe_ix ix_seq (pe_lst (pa_cons (pv 7) (pa_cons pe_str pa_nil))) (pe_callTy o_int (by rfl) m_int (by decide +kernel) (pa_cons (pe_cmpR o_gt (pv 7) pe_int (nomark _)) pa_nil)) (fun _ _ => rfl)) (nomark _)) (pw_or (pt_cmpR (o_ne hu) (pe_c c_count_first hr (by rfl) (pa_cons (pv 3) pa_nil)) (pv 7) (nomark _)) (pw_or1 (pt_cmpR (o_ne hu) (pv 3) (pv 4) (nomark _)))))) (pss_one (ps_ret pe_bl)) pss_nil)))))))))
    (pss_cons (ps_set (i := 8) sc_law.nd rfl (by first | exact Or.inl rfl | exact Or.inr rfl) (pe_lst (pa_cons (pe_op o_mul (pe_lst (pa_cons (pe_tup (pa_cons pe_str (pa_cons pe_int pa_nil))) pa_nil)) pe_int) (pa_cons (pe_op o_mul (pe_lst (pa_cons (pe_tup (pa_cons pe_str (pa_cons pe_int pa_nil))) pa_nil)) pe_int) (pa_cons (pe_op o_mul (pe_lst (pa_cons (pe_tup (pa_cons pe_str (pa_cons pe_int pa_nil))) pa_nil)) pe_int) (pa_cons (pe_op o_mul (pe_lst (pa_cons (pe_tup (pa_cons pe_str (pa_cons pe_int pa_nil))) pa_nil)) pe_int) (pa_cons (pe_op o_mul (pe_lst (pa_cons (pe_tup (pa_cons pe_str (pa_cons pe_int pa_nil))) pa_nil)) pe_int) pa_nil)))))))
    (pss_cons (ps_set (i := 8) sc_law.nd rfl (by first | exact Or.inl rfl | exact Or.inr rfl) (pe_op o_add (pv 8) (pe_lst (pa_cons (pe_lst (pa_cons (pe_tup (pa_cons pe_str (pa_cons pe_int pa_nil))) (pa_cons (pe_tup (pa_cons pe_str pa_nil)) pa_nil))) pa_nil))))
    (pss_cons (ps_if (PW.pt (pw_or (pt_cmpR (o_ne hu) (pe_c c_l_word hr (by rfl) (pa_cons pe_int (pa_cons (pe_tup (pa_cons (pe_tup (pa_cons pe_str (pa_cons pe_int pa_nil))) (pa_cons (pv 8) pa_nil))) pa_nil))) pe_str (nomark _)) (pw_or1 (pt_cmpR (o_ne hu) (pe_c c_l_word hr (by rfl) (pa_cons pe_int (pa_cons (pe_tup (pa_cons (pe_tup (pa_cons pe_str (pa_cons pe_int pa_nil))) (pa_cons (pv 8) pa_nil))) pa_nil))) pe_int (nomark _))))) (pss_one (ps_ret pe_bl)) pss_nil)
    (pss_cons (ps_set (i := 8) sc_law.nd rfl (by first | exact Or.inl rfl | exact Or.inr rfl) (pe_c0 c_l_full hr (by rfl)))
    (pss_cons (ps_for PassesOwn.never rfl (pi_range1 (by rfl) m_range (pa_cons pe_int pa_nil)) (pg_name (i := 9) sc_law.nd rfl (by first | exact Or.inl rfl | exact Or.inr rfl)) (pss_one (ps_if (PW.pt (pw_or (pt_cmpR (o_ne hu) (pe_c c_l_word hr (by rfl) (pa_cons (pv 9) (pa_cons (pe_tup (pa_cons (pe_tup (pa_cons pe_str (pa_cons pe_int pa_nil))) (pa_cons (pv 8) pa_nil))) pa_nil))) pe_int (nomark _)) (pw_or1 (pt_cmpR (o_ne hu) (pe_c c_l_word hr (by rfl) (pa_cons (pv 9) (pa_cons (pe_tup (pa_cons (pe_tup (pa_cons pe_str (pa_cons pe_int pa_nil))) (pa_cons (pv 8) pa_nil))) pa_nil))) pe_str (nomark _))))) (pss_one (ps_ret pe_bl)) pss_nil)))
    (pss_one (ps_ret (pe_cmpR (o_eq hu) (pe_c c_count_first hr (by rfl) (pa_cons (pe_tup (pa_cons (pe_tup (pa_cons pe_str (pa_cons pe_int pa_nil))) (pa_cons (pv 8) pa_nil))) pa_nil)) pe_int (nomark _)))))))))))
end Sy
end
section
set_option Elab.async false
set_option linter.all false
set_option maxRecDepth 100000
/-! Webs of knots: the law's own draws. -/
open PySem L2 Pk
local macro_rules | `(tactic| walk_at "sh") => `(tactic| first | exact sh_int | exact sh_bool | exact sh_non | exact sh_nil | exact sh_str (by decide +kernel) | assumption)
local macro_rules | `(tactic| walk_at "v1") => `(tactic| first
  | (with_reducible refine wd_int ?_) | (with_reducible refine wd_str ?_) | (with_reducible refine wd_bl ?_) | (with_reducible refine wd_non ?_)
  | ((with_reducible apply wd_var); exact rfl) | ((with_reducible apply wd_varN); exact rfl)
  | ((with_reducible apply wd_ixm); exact rfl)
  | ((with_reducible apply wd_lenM); exact rfl) | ((with_reducible apply wd_lenScript); exact rfl) | ((with_reducible apply wd_ixScript); exact rfl)
  | (with_reducible refine wd_op ?_) | (with_reducible refine wd_un ?_)
  | (with_reducible refine rd_add ?_) | (with_reducible refine rd_sub ?_) | (with_reducible refine rd_lt ?_) | (with_reducible refine rd_le ?_) | (with_reducible refine rd_gt ?_) | (with_reducible refine rd_ge ?_) | (with_reducible refine ru_neg ?_)
  | ((with_reducible refine rd_eq ?ev_h ?ev_k ?_); (case ev_h => walk_at "sh"); (case ev_k => walk_at "sh")) | ((with_reducible refine rd_ne ?ev_h ?ev_k ?_); (case ev_h => walk_at "sh"); (case ev_k => walk_at "sh"))
  | ((with_reducible refine rd_mod ?ev_h ?_); case ev_h => first | decide | assumption | omega) | ((with_reducible refine rd_div ?ev_h ?ev_k ?_); (case ev_h => first | decide | assumption | omega); (case ev_k => first | decide | assumption | omega))
  | ((with_reducible refine rd_pow ?ev_h ?_); case ev_h => exact ⟨by decide, by decide, by decide⟩)
  | ((with_reducible refine rd_mul ?ev_h ?_); case ev_h => first | exact .inr ⟨by decide, by decide⟩ | exact .inl ⟨by decide, by decide⟩ | exact .inl ⟨by omega, by omega⟩ | exact .inr ⟨by omega, by omega⟩)
  | (with_reducible refine rc_lenL ?_) | (with_reducible refine rc_lenT ?_) | (with_reducible refine rc_max2 ?_) | (with_reducible refine rc_min2 ?_) | (with_reducible refine rc_intB ?_) | (with_reducible refine rc_intI ?_) | (with_reducible refine rc_listL ?_) | (with_reducible refine rc_listT ?_) | (with_reducible refine rc_tupleL ?_)
  | ((with_reducible apply rd_ixT); exact rfl)
  | ((with_reducible apply rd_ixL); exact rfl)
  | ((with_reducible refine wd_isi ?ev_h ?_); case ev_h => decide) | ((with_reducible refine wd_isi2 ?ev_h ?ev_k ?_); (case ev_h => decide); (case ev_k => decide))
  | (with_reducible refine wd_tup2 ?_) | (with_reducible refine wd_tup1 ?_) | (with_reducible refine wd_tup3 ?_) | (with_reducible refine wd_tup0 ?_)
  | (with_reducible refine wd_lst0 ?_) | (with_reducible refine wd_lst1 ?_) | (with_reducible refine wd_lst2 ?_) | (with_reducible refine wd_lst3 ?_) | (with_reducible refine wd_lst4 ?_) | (with_reducible refine wd_lst5 ?_) | (with_reducible refine wd_lst6 ?_)
  | ((with_reducible apply wd_callO0); exact rfl) | ((with_reducible apply wd_callO1); exact rfl) | ((with_reducible apply wd_callO2); exact rfl) | ((with_reducible apply wd_callO3); exact rfl)
  | (with_reducible refine wd_call1 ?_) | (with_reducible refine wd_call2 ?_) | (with_reducible refine wd_call3 ?_) | (with_reducible refine wd_call4 ?_) | (with_reducible refine wd_call0 ?_)
  | (with_reducible refine wd_cb1 ?_) | (with_reducible refine wd_cb2 ?_)
  | (with_reducible refine wd_rev ?_) | (with_reducible refine wd_lrg1 ?_) | (with_reducible refine wd_sl ?_) | (with_reducible refine wo_no ?_) | (with_reducible refine wo_some ?_)
  | (with_reducible refine wd_andV ?_) | (with_reducible refine wd_orV ?_) | (with_reducible refine wd_notV ?_) | (with_reducible refine wd_if ?_) | (with_reducible refine wd_chain ?_)
  | (with_reducible refine wt_test ?_) | (with_reducible refine wt_B ?_) | (with_reducible refine wt_not ?_) | (with_reducible refine wt_and ?_) | (with_reducible refine wt_or ?_) | (with_reducible refine wt_yes ?_)
  | (with_reducible refine gj_name ?_) | (with_reducible refine gj_tup rfl ?_) | (with_reducible refine gjs_cons ?_) | (with_reducible refine gjs_nil ?_))
local macro_rules | `(tactic| walk_at "v") => `(tactic| repeat walk_at "v1")
local macro_rules | `(tactic| walk_at "x") => `(tactic| refine ⟨_, rfl, ?_⟩)
local macro_rules | `(tactic| walk_at "vx") => `(tactic| repeat (first | walk_at "v1" | (with_reducible refine ⟨_, rfl, ?_⟩)))
namespace Wb
open PySem PySem.Spec PyProof.Rows L2 Pk Sy
section
variable {P : Program} {w : World} {K : PySem.W.Frag} {mg : Str → Option Value} {base : Heap} {k : Nat}
theorem ok_cell (D : Def K mg "_law_cell" s_l_cell ["script", "k"]) (m_len : mg "len" = none) : Cal P w K mg base CX0 (k + 1) "_law_cell" ["script", "k"] (spG K (T_cell K)) := by
  refine cal_g D sc_l_cell (fun Γ Qr ⟨v, ns, k, e, _⟩ => by subst e; exact ⟨rfl, noMl_ex (noMl_dat noMl_nil)⟩) fun f cdv A outer s H E hr => ⟨_, wk_l_cell m_len f cdv A outer s H E hr, ?_⟩
  rintro Γ Qr ⟨v, ns, k, rfl, h0, h1, q⟩
  show SJ K [.ex v (ScriptO K ns), .dat false (.int k)] (t_l_cell K) _
  unfold t_l_cell
  refine sj_seq (sj_if ?_)
  walk_at "v"
  walk_at "x"
  refine iteD (fun hlt => ?_) (fun hge => ?_)
  · refine sj_retD true (wd_lf ?_)
    walk_at "v"
    have hk : k.toNat < ns.length := by omega
    refine ⟨k, ns[k.toNat], rfl, atI_of (n := k.toNat) (by omega) (by simp [hk]), rfl, keep_ex (keep_dat keep_nil), q _⟩
  · refine sj_next ?_
    refine sj_retD true (wd_lf ?_)
    walk_at "v"
    exact ⟨rfl, keep_ex (keep_dat keep_nil), q _⟩
theorem ok_store (D : Def K mg "_law_store" s_l_store ["cell"]) : Cal P w K mg base CX0 (k + 1) "_law_store" ["cell"] (spG K (T_store K)) := by
  refine cal_g D sc_l_store (fun Γ Qr ⟨c, e, _⟩ => by subst e; exact ⟨rfl, noMl_dat noMl_nil⟩) fun f cdv A outer s H E hr => ⟨_, wk_l_store f cdv A outer s H E hr, ?_⟩
  rintro Γ Qr ⟨c, rfl, q⟩
  show SJ K [.dat false (.int c), .no] (t_l_store K) _
  unfold t_l_store
  refine sj_seq (sj_set false ?_)
  walk_at "v"
  show SJ K [.dat false (.int c), .dat false (.int 0)] _ _
  refine sj_cut (fun Γ' => ∃ g, 0 ≤ g ∧ Γ' = [.dat false (.int c), .dat false (.int g)]) (sj_if ?_) ?_
  · walk_at "v"
    walk_at "x"
    refine iteD (fun h => ?_) (fun h => ?_)
    · refine sj_set false ?_
      walk_at "v"
      exact ⟨c, Int.le_trans (by decide) h, rfl⟩
    · exact sj_next ⟨0, by decide, rfl⟩
  · rintro _ ⟨g, hg, rfl⟩
    refine sj_ret (wx_lst3 false ?_)
    walk_at "v"
    exact fun l => ⟨keep_dat keep_nil, q l g _ hg⟩
theorem ok_take (D : Def K mg "_law_take" s_l_take ["store", "many"]) : Cal P w K mg base CX0 (k + 1) "_law_take" ["store", "many"] (spG K (T_take K)) := by
  refine cal_g D sc_l_take (fun Γ Qr ⟨v, many, e, _⟩ => by subst e; exact ⟨rfl, noMl_ex (noMl_dat noMl_nil)⟩) fun f cdv A outer s H E hr => ⟨_, wk_l_take f cdv A outer s H E hr, ?_⟩
  rintro Γ Qr ⟨v, many, rfl, h0, h1, q⟩
  have h2 : many < 1073741824 := by omega
  show SJ K [.ex v (StoreO K), .dat false (.int many), .no, .no] (t_l_take K) _
  unfold t_l_take
  refine sj_open 0 rfl fun l ns e => ?_
  subst e
  rintro ⟨g, x, n, rfl, hg⟩
  show SJ K [.ml false l [.int g, .int x, .int n], .dat false (.int many), .no, .no] _ _
  refine sj_seq (sj_if ?_)
  walk_at "v"
  refine ⟨0, .int g, rfl, rfl, ?_⟩
  walk_at "v"
  walk_at "x"
  refine iteD (fun hpos => ?_) (fun hz => ?_)
  · refine sj_seq (sj_set false ?_)
    walk_at "v"
    refine ⟨0, .int g, rfl, rfl, ?_⟩
    walk_at "v"
    show SJ K [.ml false l [.int g, .int x, .int n], .dat false (.int many), .dat false (.int (g % many)), .no] _ _
    refine sj_seq (sj_setI rfl ?_)
    walk_at "v"
    refine ⟨0, .int g, rfl, rfl, ?_⟩
    walk_at "v"
    refine ⟨0, 0, rfl, rfl, ?_⟩
    show SJ K [.ml false l [.int (g / many), .int x, .int n], .dat false (.int many), .dat false (.int (g % many)), .no] _ _
    refine sj_close 0 (ns := [g / many, x, n]) StP rfl ⟨_, _, _, rfl, Int.ediv_nonneg hg (by omega)⟩ ?_
    refine sj_retD true (wd_lf ?_)
    walk_at "v"
    exact ⟨rfl, keep_ex (keep_dat keep_nil), q _ (Int.emod_nonneg _ (by omega)) (Int.emod_lt_of_pos _ h0)⟩
  · refine sj_next ?_
    refine sj_seq (sj_setI rfl ?_)
    walk_at "v"
    refine ⟨2, .int n, rfl, rfl, ?_⟩
    walk_at "v"
    refine ⟨2, 2, rfl, rfl, ?_⟩
    show SJ K [.ml false l [.int g, .int x, .int (n + 1)], .dat false (.int many), .no, .no] _ _
    refine sj_seq (sj_set false ?_)
    walk_at "v"
    refine ⟨1, .int x, rfl, rfl, ?_⟩
    walk_at "v"
    refine ⟨2, .int (n + 1), rfl, rfl, ?_⟩
    walk_at "v"
    generalize hy : (x + 7919 * (n + 1)) * 48271 % 2147483647 = y
    have hy0 : 0 ≤ y := by omega
    have hy1 : y < 2147483647 := by omega
    show SJ K [.ml false l [.int g, .int x, .int (n + 1)], .dat false (.int many), .no, .dat false (.int y)] _ _
    refine sj_seq (sj_set false ?_)
    walk_at "v"
    generalize hz : y * y % 2147483629 = z
    show SJ K [.ml false l [.int g, .int x, .int (n + 1)], .dat false (.int many), .no, .dat false (.int z)] _ _
    refine sj_seq (sj_set false ?_)
    walk_at "v"
    refine ⟨2, .int (n + 1), rfl, rfl, ?_⟩
    walk_at "v"
    generalize (z + 40692 * (n + 1)) * 69621 % 2147483587 = u
    show SJ K [.ml false l [.int g, .int x, .int (n + 1)], .dat false (.int many), .no, .dat false (.int u)] _ _
    refine sj_close 0 (ns := [g, x, n + 1]) StP rfl ⟨_, _, _, rfl, hg⟩ ?_
    refine sj_retD true (wd_lf ?_)
    walk_at "v"
    exact ⟨rfl, keep_ex (keep_dat keep_nil), q _ (Int.emod_nonneg _ (by omega)) (Int.emod_lt_of_pos _ h0)⟩
theorem ok_way (D : Def K mg "_law_way" s_l_way ["store", "many"]) (c_take : Cal P w K mg base CX0 k "_law_take" ["store", "many"] (spG K (T_take K))) : Cal P w K mg base CX0 (k + 1) "_law_way" ["store", "many"] (spG K (T_way K)) := by
  refine cal_g D sc_l_way (fun Γ Qr ⟨v, many, e, _⟩ => by subst e; exact ⟨rfl, noMl_ex (noMl_dat noMl_nil)⟩) fun f cdv A outer s H E hr => ⟨_, wk_l_way c_take f cdv A outer s H E hr, ?_⟩
  rintro Γ Qr ⟨v, many, rfl, h1, q⟩
  show SJ K [.ex v (StoreO K), .dat false (.int many)] (t_l_way K _) _
  unfold t_l_way
  have rest : SJ K [.ex v (StoreO K), .dat false (.int many)] (tRet (tOp (rIx K) (tLst (tCons (tTup (tCons (tC (.str "nothing")) tNil)) (tCons (tTup (tCons (tC (.str "gives")) (tCons (tCall (spG K (T_take K)) [] E0 (tCons (tVar 0) (tCons (tC (.int 3)) tNil))) tNil))) (tCons (tTup (tCons (tC (.str "gives")) (tCons (tCall (spG K (T_take K)) [] E0 (tCons (tVar 0) (tCons (tC (.int 16)) tNil))) tNil))) tNil)))) (tCall (spG K (T_take K)) [] E0 (tCons (tVar 0) (tCons (tC (.int 3)) tNil))))) (retP [.ex v (StoreO K), .dat false (.int many)] Qr) := by
    refine sj_retD true (wd_lf ?_)
    walk_at "v"
    refine use_take (by decide) (by decide) fun r2 a0 a1 => ?_
    walk_at "v"
    refine use_take (by decide) (by decide) fun r3 b0 b1 => ?_
    walk_at "v"
    refine use_take (by decide) (by decide) fun r4 c0 c1 => ?_
    refine rd_sel c0 c1 fun d hd => ?_
    have key : ∃ w, WayOk many w ∧ d = w.d := by
      simp at hd
      rcases hd with z | z | z
      · exact ⟨.nothing, trivial, z⟩
      · exact ⟨.gives r2.toNat, show r2.toNat < 16 by omega, by rw [z, Wy.d, Int.toNat_of_nonneg a0]⟩
      · exact ⟨.gives r3.toNat, show r3.toNat < 16 by omega, by rw [z, Wy.d, Int.toNat_of_nonneg b0]⟩
    obtain ⟨w, hw, rfl⟩ := key
    exact ⟨w.lf, keep_ex (keep_dat keep_nil), q w hw⟩
  refine sj_seq (sj_if ?_)
  walk_at "v"
  walk_at "x"
  refine iteD (fun hpos => ?_) (fun hz => ?_)
  · walk_at "v"
    refine use_take (by decide) (by decide) fun r h2 h3 => ?_
    walk_at "v"
    walk_at "x"
    refine iteD (fun hr0 => ?_) (fun hr1 => ?_)
    · refine sj_retD true (wd_lf ?_)
      walk_at "v"
      refine use_take (by omega) (by omega) fun r2 a0 a1 => ?_
      walk_at "v"
      refine use_take (by omega) (by omega) fun r3 b0 b1 => ?_
      walk_at "v"
      refine use_take (by decide) (by decide) fun r4 c0 c1 => ?_
      refine rd_sel c0 c1 fun d hd => ?_
      have key : ∃ j : Nat, j < many ∧ d = .int j := by
        simp at hd
        rcases hd with z | z | z
        · exact ⟨many - 1, by omega, by rw [z]; congr 1; omega⟩
        · exact ⟨r2.toNat, by omega, by rw [z, Int.toNat_of_nonneg a0]⟩
        · exact ⟨r3.toNat, by omega, by rw [z, Int.toNat_of_nonneg b0]⟩
      obtain ⟨j, hj, rfl⟩ := key
      exact ⟨rfl, keep_ex (keep_dat keep_nil), q (.knot j) hj⟩
    · exact sj_next rest
  · exact sj_next rest
end
end Wb
end
section
set_option Elab.async false
set_option linter.all false
set_option maxRecDepth 100000
/-! Webs of knots: drawn webs, counts. -/
open PySem L2 Pk
local macro_rules | `(tactic| walk_at "sh") => `(tactic| first | exact sh_int | exact sh_bool | exact sh_non | exact sh_nil | exact sh_str (by decide +kernel) | assumption)
local macro_rules | `(tactic| walk_at "v1") => `(tactic| first
  | (with_reducible refine wd_int ?_) | (with_reducible refine wd_str ?_) | (with_reducible refine wd_bl ?_) | (with_reducible refine wd_non ?_)
  | ((with_reducible apply wd_var); exact rfl) | ((with_reducible apply wd_varN); exact rfl)
  | ((with_reducible apply wd_ixm); exact rfl)
  | ((with_reducible apply wd_lenM); exact rfl) | ((with_reducible apply wd_lenScript); exact rfl) | ((with_reducible apply wd_ixScript); exact rfl)
  | (with_reducible refine wd_op ?_) | (with_reducible refine wd_un ?_)
  | (with_reducible refine rd_add ?_) | (with_reducible refine rd_sub ?_) | (with_reducible refine rd_lt ?_) | (with_reducible refine rd_le ?_) | (with_reducible refine rd_gt ?_) | (with_reducible refine rd_ge ?_) | (with_reducible refine ru_neg ?_)
  | ((with_reducible refine rd_eq ?ev_h ?ev_k ?_); (case ev_h => walk_at "sh"); (case ev_k => walk_at "sh")) | ((with_reducible refine rd_ne ?ev_h ?ev_k ?_); (case ev_h => walk_at "sh"); (case ev_k => walk_at "sh"))
  | ((with_reducible refine rd_mod ?ev_h ?_); case ev_h => first | decide | assumption | omega) | ((with_reducible refine rd_div ?ev_h ?ev_k ?_); (case ev_h => first | decide | assumption | omega); (case ev_k => first | decide | assumption | omega))
  | ((with_reducible refine rd_pow ?ev_h ?_); case ev_h => exact ⟨by decide, by decide, by decide⟩)
  | ((with_reducible refine rd_mul ?ev_h ?_); case ev_h => first | exact .inr ⟨by decide, by decide⟩ | exact .inl ⟨by decide, by decide⟩ | exact .inl ⟨by omega, by omega⟩ | exact .inr ⟨by omega, by omega⟩)
  | (with_reducible refine rc_lenL ?_) | (with_reducible refine rc_lenT ?_) | (with_reducible refine rc_max2 ?_) | (with_reducible refine rc_min2 ?_) | (with_reducible refine rc_intB ?_) | (with_reducible refine rc_intI ?_) | (with_reducible refine rc_listL ?_) | (with_reducible refine rc_listT ?_) | (with_reducible refine rc_tupleL ?_)
  | ((with_reducible apply rd_ixT); exact rfl)
  | ((with_reducible apply rd_ixL); exact rfl)
  | ((with_reducible refine wd_isi ?ev_h ?_); case ev_h => decide) | ((with_reducible refine wd_isi2 ?ev_h ?ev_k ?_); (case ev_h => decide); (case ev_k => decide))
  | (with_reducible refine wd_tup2 ?_) | (with_reducible refine wd_tup1 ?_) | (with_reducible refine wd_tup3 ?_) | (with_reducible refine wd_tup0 ?_)
  | (with_reducible refine wd_lst0 ?_) | (with_reducible refine wd_lst1 ?_) | (with_reducible refine wd_lst2 ?_) | (with_reducible refine wd_lst3 ?_) | (with_reducible refine wd_lst4 ?_) | (with_reducible refine wd_lst5 ?_) | (with_reducible refine wd_lst6 ?_)
  | ((with_reducible apply wd_callO0); exact rfl) | ((with_reducible apply wd_callO1); exact rfl) | ((with_reducible apply wd_callO2); exact rfl) | ((with_reducible apply wd_callO3); exact rfl)
  | (with_reducible refine wd_call1 ?_) | (with_reducible refine wd_call2 ?_) | (with_reducible refine wd_call3 ?_) | (with_reducible refine wd_call4 ?_) | (with_reducible refine wd_call0 ?_)
  | (with_reducible refine wd_cb1 ?_) | (with_reducible refine wd_cb2 ?_)
  | (with_reducible refine wd_rev ?_) | (with_reducible refine wd_lrg1 ?_) | (with_reducible refine wd_sl ?_) | (with_reducible refine wo_no ?_) | (with_reducible refine wo_some ?_)
  | (with_reducible refine wd_andV ?_) | (with_reducible refine wd_orV ?_) | (with_reducible refine wd_notV ?_) | (with_reducible refine wd_if ?_) | (with_reducible refine wd_chain ?_)
  | (with_reducible refine wt_test ?_) | (with_reducible refine wt_B ?_) | (with_reducible refine wt_not ?_) | (with_reducible refine wt_and ?_) | (with_reducible refine wt_or ?_) | (with_reducible refine wt_yes ?_)
  | (with_reducible refine gj_name ?_) | (with_reducible refine gj_tup rfl ?_) | (with_reducible refine gjs_cons ?_) | (with_reducible refine gjs_nil ?_))
local macro_rules | `(tactic| walk_at "v") => `(tactic| repeat walk_at "v1")
local macro_rules | `(tactic| walk_at "x") => `(tactic| refine ⟨_, rfl, ?_⟩)
local macro_rules | `(tactic| walk_at "vx") => `(tactic| repeat (first | walk_at "v1" | (with_reducible refine ⟨_, rfl, ?_⟩)))
namespace Wb
open PySem PySem.Spec PyProof.Rows L2 Pk Sy
/-! ### promises -/
def T_all_choices (K : PySem.W.Frag) : List Sl → (Sl → Prop) → Prop := fun Γ Q => ∃ k : List Wy, Γ = [.dat false (knotD k)] ∧ k.length ≤ 5 ∧ ∀ l, Q (.ml true l (natsD (List.range k.length)))
abbrev Tkf := List (List Wy) → List (List Nat)
def T_tks (f : Tkf) (K : PySem.W.Frag) : List Sl → (Sl → Prop) → Prop := fun Γ Q => ∃ top ks, Γ = [.dat false (webD top ks)] ∧ KnotsOk ks ∧ ks.length ≤ 300 ∧ Q (.dat false (tkD (f ks)))
def T_cbk (fs : Bool → Tkf) (K : PySem.W.Frag) : List Sl → (Sl → Prop) → Prop := fun Γ Q => ∃ top ks b, Γ = [.dat false (webD top ks), .dat false (.bool b)] ∧ KnotsOk ks ∧ ks.length ≤ 300 ∧ Q (.dat false (tkD (fs b ks)))
abbrev intsD (cs : List Int) : PyData := .list (cs.map PyData.int)
def T_behind (K : PySem.W.Frag) : List Sl → (Sl → Prop) → Prop := fun Γ Q => ∃ w cs, Γ = [.dat false (Wy.d w), .dat false (intsD cs)] ∧ WayOk cs.length w ∧ Q (.dat true (.int (wcount cs w)))
def T_rcounts (K : PySem.W.Frag) : List Sl → (Sl → Prop) → Prop := fun Γ Q => ∃ top ks ts, Γ = [.dat false (webD top ks), .dat false (tkD ts)] ∧ Tk ks ts ∧ ks.length ≤ 300 ∧ Q (.dat false (intsD (counts ks ts)))
def T_counted (K : PySem.W.Frag) : List Sl → (Sl → Prop) → Prop := fun Γ Q => ∃ top ks ts, Γ = [.dat false (webD top ks), .dat false (tkD ts)] ∧ Tk ks ts ∧ ks.length ≤ 300 ∧ WayOk ks.length top ∧ Q (.dat true (.int (wcount (counts ks ts) top)))
def prs (rs : List Run) : Prs := rs.map fun r => (natsD r.1, r.2.d)
def runsD (rs : List Run) : List PyData := rs.map fun r => .tuple [.list (natsD r.1), r.2.d]
theorem pairsD_prs (rs : List Run) : pairsD (prs rs) = runsD rs := by simp [pairsD, prs, runsD]
def T_some (K : PySem.W.Frag) : List Sl → (Sl → Prop) → Prop := fun Γ Q => ∃ top ks ts w, Γ = [.dat false (webD top ks), .dat false (tkD ts), .dat false (Wy.d w), .dat false (.int 2000)] ∧ Tk ks ts ∧ ks.length ≤ 300 ∧ WayOk ks.length w ∧ (runs ks ts w).length ≤ 2000 ∧ Q (.dat false (.list (runsD (runs ks ts w))))
def T_told (K : PySem.W.Frag) : List Sl → (Sl → Prop) → Prop := fun Γ Q => ∃ top ks ts, Γ = [.dat false (webD top ks), .dat false (tkD ts)] ∧ Tk ks ts ∧ ks.length ≤ 300 ∧ WayOk ks.length top ∧ (runs ks ts top).length ≤ 2000 ∧ ∀ l, Q (.ex (.ref l) (PairsO K (prs (runs ks ts top))))
def T_ofweb (f : Tkf) (K : PySem.W.Frag) : List Sl → (Sl → Prop) → Prop := fun Γ Q => ∃ top ks, Γ = [.dat false (webD top ks)] ∧ KnotsOk ks ∧ ks.length ≤ 300 ∧ WayOk ks.length top ∧ (runs ks (f ks) top).length ≤ 2000 ∧ ∀ l, Q (.ex (.ref l) (PairsO K (prs (runs ks (f ks) top))))
/-! ### lookups -/
theorem rangeD_nats (n : Nat) : rangeD 0 n = natsD (List.range n) := by
  unfold rangeD natsD
  apply List.map_congr_left
  intro i _
  rw [Int.zero_add]
theorem kget_at {k : List Wy} {c : Nat} (h : c < k.length) : (k.map Wy.d)[c]? = some (kget k c).d := by
  simp [kget, List.getD_eq_getElem?_getD, h]
theorem zip_items {α β : Type} {f : α → PyData} {g : β → PyData} {xs : List α} {ys : List β} {i : Nat} {d : PyData} (h : (List.zipWith pairD (xs.map f) (ys.map g))[i]? = some d) : ∃ x y, xs[i]? = some x ∧ ys[i]? = some y ∧ d = .tuple [f x, g y] := by
  have hi := (List.getElem?_eq_some_iff.mp h).1
  obtain ⟨a, b, h1, h2, h3⟩ := zip_get hi
  rw [List.getElem?_map] at h1 h2
  cases hx : xs[i]? with
  | none => rw [hx] at h1; cases h1
  | some x =>
    cases hy : ys[i]? with
    | none => rw [hy] at h2; cases h2
    | some y =>
      rw [hx] at h1
      rw [hy] at h2
      cases h1
      cases h2
      rw [h3] at h
      cases h
      exact ⟨x, y, rfl, rfl, rfl⟩
theorem strNK : ("nothing" : Str) ≠ "knot" := by decide +kernel
theorem strGK : ("gives" : Str) ≠ "knot" := by decide +kernel
/-- the first of a way -/
def Wy.word : Wy → Str
  | .nothing => "nothing"
  | .gives _ => "gives"
  | .knot _ => "knot"
theorem ok_sn : PyData.strOk "nothing" = true := by decide +kernel
theorem ok_sg : PyData.strOk "gives" = true := by decide +kernel
theorem ok_sk : PyData.strOk "knot" = true := by decide +kernel
theorem Wy.word_ok (w : Wy) : PyData.strOk w.word = true := by
  cases w with
  | nothing => exact ok_sn
  | gives n => exact ok_sg
  | knot j => exact ok_sk
def Wy.isK : Wy → Bool
  | .knot _ => true
  | _ => false
theorem Wy.eqK (w : Wy) : PyData.eqv (.str w.word) (.str "knot") = w.isK := by
  rw [eqv_str]
  cases w with
  | nothing => exact decide_eq_false strNK
  | gives n => exact decide_eq_false strGK
  | knot j => exact decide_eq_true rfl
section
variable {K : PySem.W.Frag} {m : Bool} {Γ : List Sl} {Q : PyData → Prop}
theorem rd_way0 {w : Wy} (q : Q (.str w.word)) : RD K m Γ (rIx K) w.d (.int 0) Q := by cases w <;> exact rd_ixT rfl q
theorem rd_way1 {j : Nat} (q : Q (.int j)) : RD K m Γ (rIx K) (Wy.knot j).d (.int 1) Q := rd_ixT rfl q
theorem rd_webT {top : Wy} {ks : List (List Wy)} (q : Q top.d) : RD K m Γ (rIx K) (webD top ks) (.int 0) Q := rd_ixT rfl q
theorem rd_webK {top : Wy} {ks : List (List Wy)} (q : Q (.list (ks.map knotD))) : RD K m Γ (rIx K) (webD top ks) (.int 1) Q := rd_ixT rfl q
theorem rd_ks {ks : List (List Wy)} {j : Nat} {k : List Wy} (h : ks[j]? = some k) (q : Q (knotD k)) : RD K m Γ (rIx K) (.list (ks.map knotD)) (.int j) Q := rd_selN j rfl (by rw [List.getElem?_map, h]; rfl) q
theorem rd_tk {ts : List (List Nat)} {j : Nat} {t : List Nat} (h : ts[j]? = some t) (q : Q (.list (natsD t))) : RD K m Γ (rIx K) (tkD ts) (.int j) Q := rd_selN j rfl (by rw [List.getElem?_map, h]; rfl) q
theorem rd_knot {k : List Wy} {c : Nat} (h : c < k.length) (q : Q (kget k c).d) : RD K m Γ (rIx K) (knotD k) (.int c) Q := rd_selN c rfl (kget_at h) q
theorem rd_cs {cs : List Int} {j : Nat} {x : Int} (h : cs[j]? = some x) (q : Q (.int x)) : RD K m Γ (rIx K) (intsD cs) (.int j) Q := rd_selN j rfl (by rw [List.getElem?_map, h]; rfl) q
end
section
variable {P : Program} {w : World} {K : PySem.W.Frag} {mg : Str → Option Value} {base : Heap} {k : Nat}
theorem ways_of {ds : List PyData} {i : Nat} (h : ∀ (j : Nat) (d : PyData), ds[j]? = some d → ∃ w, WayOk i w ∧ d = Wy.d w) : ∃ ws : List Wy, ds = ws.map Wy.d ∧ ∀ w ∈ ws, WayOk i w := by
  induction ds with
  | nil => exact ⟨[], rfl, fun _ z => by cases z⟩
  | cons d ds ih =>
    obtain ⟨w, hw, e⟩ := h 0 d rfl
    obtain ⟨ws, e2, h2⟩ := ih fun j d' hj => h (j + 1) d' hj
    refine ⟨w :: ws, by rw [List.map_cons, e, e2], fun x hx => ?_⟩
    rcases List.mem_cons.mp hx with z | z
    · rw [z]; exact hw
    · exact h2 x z
theorem knotsOk_app {ks : List (List Wy)} {k : List Wy} (h : KnotsOk ks) (h0 : 0 < k.length) (h5 : k.length ≤ 5) (hw : ∀ w ∈ k, WayOk ks.length w) : KnotsOk (ks ++ [k]) := fun i k' e => by
  by_cases hi : i < ks.length
  · rw [List.getElem?_append_left hi] at e
    exact h i k' e
  · have hl := (List.getElem?_eq_some_iff.mp e).1
    simp at hl
    have : i = ks.length := by omega
    subst this
    simp at e
    subst e
    exact ⟨h0, h5, hw⟩
theorem ok_knots (D : Def K mg "_law_knots" s_l_knots ["store"]) (c_take : Cal P w K mg base CX0 k "_law_take" ["store", "many"] (spG K (T_take K))) (c_way : Cal P w K mg base CX0 k "_law_way" ["store", "many"] (spG K (T_way K))) (m_range : mg "range" = none) (m_len : mg "len" = none) : Cal P w K mg base CX0 (k + 1) "_law_knots" ["store"] (spG K (T_knots K)) := by
  refine cal_g D sc_l_knots (fun Γ Qr ⟨v, e, _⟩ => by subst e; exact ⟨rfl, noMl_ex noMl_nil⟩) fun f cdv A outer s H E hr => ⟨_, wk_l_knots c_take c_way (m_range := m_range) (m_len := m_len) f cdv A outer s H E hr, ?_⟩
  rintro Γ Qr ⟨v, rfl, q⟩
  show SJ K [.ex v (StoreO K), .no, .no, .no, .no, .no, .no] (t_l_knots K _ _) _
  unfold t_l_knots
  refine sj_seq (sj_setX (wx_lst0 false fun l => ?_))
  show SJ K [.ex v (StoreO K), .ml false l [], .no, .no, .no, .no, .no] _ _
  refine sj_cut (fun Γ' => ∃ ks s2 s3 s5, KnotsOk ks ∧ ks.length ≤ 40 ∧ Γ' = [.ex v (StoreO K), .ml false l (ks.map knotD), s2, s3, .no, s5, .no]) ?_ ?_
  · refine sj_for false (wi_rng ?_)
    walk_at "v"
    refine use_take (by decide) (by decide) fun r1 a0 a1 => ?_
    walk_at "v"
    refine use_take (by decide) (by decide) fun r2 b0 b1 => ?_
    walk_at "v"
    refine use_take (by decide) (by decide) fun r3 c0 c1 => ?_
    walk_at "v"
    refine use_take (by decide) (by decide) fun r4 d0 d1 => ?_
    refine rd_sel d0 d1 fun d hd => ?_
    have key : ∃ n : Nat, n ≤ 40 ∧ d = .int n := by
      simp at hd
      rcases hd with z | z | z
      · exact ⟨r1.toNat, by omega, by rw [z, Int.toNat_of_nonneg a0]⟩
      · exact ⟨r2.toNat, by omega, by rw [z, Int.toNat_of_nonneg b0]⟩
      · exact ⟨r3.toNat, by omega, by rw [z, Int.toNat_of_nonneg c0]⟩
    obtain ⟨n, hn, rfl⟩ := key
    refine ⟨n, rfl, ⟨by omega, by omega⟩, fun i Γ' => ∃ ks s2 s3 s5, KnotsOk ks ∧ ks.length = i ∧ Γ' = [.ex v (StoreO K), .ml false l (ks.map knotD), s2, s3, .no, s5, .no], ⟨[], .no, .no, .no, fun i k e => by simp at e, rfl, rfl⟩, ?_, ?_⟩
    · rintro i d Γ' hd ⟨ks, s2, s3, s5, hk, hl, rfl⟩
      obtain ⟨hin, rfl⟩ := rangeD_of hd
      rw [Int.zero_add]
      subst hl
      have hlt : ks.length < 40 := by simp at hin; omega
      refine gj_name ?_
      show SJ K [.ex v (StoreO K), .ml false l (ks.map knotD), .dat false (.int ks.length), s3, .no, s5, .no] _ _
      -- some
      refine sj_seq (sj_set false (wd_lcF (mi := false) (fun _ _ y => ∃ w, WayOk ks.length w ∧ y = Wy.d w) (wipeOk_no rfl wipeOk_nil) gwn (wi_rng ?_)))
      walk_at "v"
      refine use_take (by decide) (by decide) fun r e0 e1 => ?_
      walk_at "v"
      refine ⟨_, rfl, ⟨by omega, by omega⟩, by rw [rangeD_len]; omega, fun j d hj => ?_, fun some hsl hsw => ?_⟩
      · refine gj_name ⟨rfl, ?_⟩
        walk_at "v"
        exact use_way (by omega) fun w hw => ⟨w, hw, rfl⟩
      rw [rangeD_len] at hsl
      obtain ⟨sw, rfl, hsw'⟩ := ways_of (i := ks.length) fun j d hj => hsw j (.int j) d (by
        have : j < some.length := (List.getElem?_eq_some_iff.mp hj).1
        rw [rangeD_get (by omega), Int.zero_add]) hj
      rw [List.length_map] at hsl
      have hs0 : 0 < sw.length := by omega
      have hs3 : sw.length ≤ 3 := by omega
      show SJ K [.ex v (StoreO K), .ml false l (ks.map knotD), .dat false (.int ks.length), .dat false (.list (sw.map Wy.d)), .no, s5, .no] _ _
      -- knot
      refine sj_seq (sj_set false (wd_lcF (mi := false) (fun _ _ y => ∃ w, WayOk ks.length w ∧ y = Wy.d w) (wipeOk_no rfl wipeOk_nil) gwn (wi_rng ?_)))
      walk_at "v"
      refine use_take (by decide) (by decide) fun r f0 f1 => ?_
      walk_at "v"
      refine ⟨_, rfl, ⟨by omega, by omega⟩, by rw [rangeD_len]; omega, fun j d hj => ?_, fun knot hkl hkw => ?_⟩
      · refine gj_name ⟨rfl, ?_⟩
        walk_at "v"
        rw [List.length_map]
        refine use_take (by omega) (by omega) fun r g0 g1 => ?_
        refine rd_sel g0 (by rw [List.length_map]; omega) fun d hd => ?_
        obtain ⟨w, hw, rfl⟩ := List.mem_map.mp hd
        exact ⟨w, hsw' w hw, rfl⟩
      rw [rangeD_len] at hkl
      obtain ⟨kw, rfl, hkw'⟩ := ways_of (i := ks.length) fun j d hj => hkw j (.int j) d (by
        have : j < knot.length := (List.getElem?_eq_some_iff.mp hj).1
        rw [rangeD_get (by omega), Int.zero_add]) hj
      rw [List.length_map] at hkl
      have hk0 : 0 < kw.length := by omega
      have hk5 : kw.length ≤ 5 := by omega
      show SJ K [.ex v (StoreO K), .ml false l (ks.map knotD), .dat false (.int ks.length), .dat false (.list (sw.map Wy.d)), .no, .dat false (knotD kw), .no] _ _
      refine sj_cut (fun Γ' => ∃ kw, 0 < kw.length ∧ kw.length ≤ 5 ∧ (∀ w ∈ kw, WayOk ks.length w) ∧ Γ' = [.ex v (StoreO K), .ml false l (ks.map knotD), .dat false (.int ks.length), .dat false (.list (sw.map Wy.d)), .no, .dat false (knotD kw), .no]) (sj_if ?_) ?_
      · walk_at "v"
        refine use_take (by decide) (by decide) fun r f0 f1 => ?_
        walk_at "v"
        walk_at "x"
        rw [eqv_int]
        refine iteD (fun hr => ?_) (fun hr => sj_next ⟨kw, hk0, hk5, hkw', rfl⟩)
        refine sj_set false (wd_lcF (mi := false) (fun _ _ y => ∃ w, WayOk ks.length w ∧ y = Wy.d w) (wipeOk_no rfl wipeOk_nil) gwn (wi_rng ?_))
        walk_at "v"
        refine use_take (by decide) (by decide) fun r e0 e1 => ?_
        walk_at "v"
        refine ⟨_, rfl, ⟨by omega, by omega⟩, by rw [rangeD_len]; omega, fun j d hj => ?_, fun knot hkl hkw => ?_⟩
        · refine gj_name ⟨rfl, ?_⟩
          walk_at "v"
          exact use_way (by omega) fun w hw => ⟨w, hw, rfl⟩
        rw [rangeD_len] at hkl
        obtain ⟨kw, rfl, hkw'⟩ := ways_of (i := ks.length) fun j d hj => hkw j (.int j) d (by
          have : j < knot.length := (List.getElem?_eq_some_iff.mp hj).1
          rw [rangeD_get (by omega), Int.zero_add]) hj
        rw [List.length_map] at hkl
        exact ⟨kw, by omega, by omega, hkw', rfl⟩
      · rintro _ ⟨kw, hk0, hk5, hkw, rfl⟩
        refine sj_app rfl (by rw [List.length_map]; omega) ?_
        walk_at "v"
        exact ⟨ks ++ [kw], _, _, _, knotsOk_app hk hk0 hk5 hkw, by simp, by rw [List.map_append]; rfl⟩
    · rintro Γ' ⟨ks, s2, s3, s5, hk, hl, rfl⟩
      rw [rangeD_len] at hl
      exact ⟨ks, s2, s3, s5, hk, by simp at hl; omega, rfl⟩
  · rintro _ ⟨ks, s2, s3, s5, hk, hl, rfl⟩
    show SJ K [.ex v (StoreO K), .ml false l (ks.map knotD), s2, s3, .no, s5, .no] _ _
    refine sj_seq (sj_set false ?_)
    walk_at "v"
    rw [List.length_map]
    refine use_way (by omega) fun top htop => ?_
    show SJ K [.ex v (StoreO K), .ml false l (ks.map knotD), s2, s3, .no, s5, .dat false top.d] _ _
    refine sj_cut (fun Γ' => ∃ top, WayOk ks.length top ∧ Γ' = [.ex v (StoreO K), .ml false l (ks.map knotD), s2, s3, .no, s5, .dat false top.d]) (sj_if ?_) ?_
    · refine wt_and (wt_thaw ?_)
      show WT K [.ex v (StoreO K), .dat false (.list (ks.map knotD)), s2.frz, s3.frz, .no, s5.frz, .dat false top.d] _ _
      walk_at "v"
      refine rd_ne ?_ sh_nil ?_
      · refine dep_shaped (n := 3) ?_ (by decide)
        intro x hx
        obtain ⟨k, _, rfl⟩ := List.mem_map.mp hx
        intro y hy
        obtain ⟨w, _, rfl⟩ := List.mem_map.mp hy
        cases w <;> (intro z hz; simp at hz; try rcases hz with z | z) <;> subst_vars <;> first | trivial | exact (by decide +kernel : PyData.strOk "nothing" = true) | exact (by decide +kernel : PyData.strOk "gives" = true) | exact (by decide +kernel : PyData.strOk "knot" = true)
      walk_at "x"
      rw [eqv_nil]
      refine iteB (fun hne => ?_) (fun he => sj_next ⟨top, htop, rfl⟩)
      have hpos : 0 < ks.length := by
        cases ks with
        | nil => simp at hne
        | cons _ _ => simp
      walk_at "v"
      refine use_take (by decide) (by decide) fun r e0 e1 => ?_
      walk_at "v"
      walk_at "x"
      refine iteD (fun hr => ?_) (fun hr => sj_next ⟨top, htop, rfl⟩)
      refine sj_set false ?_
      walk_at "v"
      refine ⟨.knot (ks.length - 1), show ks.length - 1 < ks.length by omega, ?_⟩
      have e : ((ks.map knotD).length : Int) - 1 = ((ks.length - 1 : Nat) : Int) := by
        rw [List.length_map]; omega
      rw [e]
      rfl
    · rintro _ ⟨top, htop, rfl⟩
      exact sj_retTL rfl (wd_var rfl fun v' => ⟨keep_ex keep_nil, q v' top ks hk hl htop⟩)
end
end Wb
end
section
set_option Elab.async false
set_option linter.all false
set_option maxRecDepth 100000
/-! Webs of knots: choices, counts, runs gone by both. -/
open PySem L2 Pk
local macro_rules | `(tactic| walk_at "sh") => `(tactic| first | exact sh_int | exact sh_bool | exact sh_non | exact sh_nil | exact sh_str (by decide +kernel) | assumption)
local macro_rules | `(tactic| walk_at "v1") => `(tactic| first
  | (with_reducible refine wd_int ?_) | (with_reducible refine wd_str ?_) | (with_reducible refine wd_bl ?_) | (with_reducible refine wd_non ?_)
  | ((with_reducible apply wd_var); exact rfl) | ((with_reducible apply wd_varN); exact rfl)
  | ((with_reducible apply wd_ixm); exact rfl)
  | ((with_reducible apply wd_lenM); exact rfl) | ((with_reducible apply wd_lenScript); exact rfl) | ((with_reducible apply wd_ixScript); exact rfl)
  | (with_reducible refine wd_op ?_) | (with_reducible refine wd_un ?_)
  | (with_reducible refine rd_add ?_) | (with_reducible refine rd_sub ?_) | (with_reducible refine rd_lt ?_) | (with_reducible refine rd_le ?_) | (with_reducible refine rd_gt ?_) | (with_reducible refine rd_ge ?_) | (with_reducible refine ru_neg ?_)
  | ((with_reducible refine rd_eq ?ev_h ?ev_k ?_); (case ev_h => walk_at "sh"); (case ev_k => walk_at "sh")) | ((with_reducible refine rd_ne ?ev_h ?ev_k ?_); (case ev_h => walk_at "sh"); (case ev_k => walk_at "sh"))
  | ((with_reducible refine rd_mod ?ev_h ?_); case ev_h => first | decide | assumption | omega) | ((with_reducible refine rd_div ?ev_h ?ev_k ?_); (case ev_h => first | decide | assumption | omega); (case ev_k => first | decide | assumption | omega))
  | ((with_reducible refine rd_pow ?ev_h ?_); case ev_h => exact ⟨by decide, by decide, by decide⟩)
  | ((with_reducible refine rd_mul ?ev_h ?_); case ev_h => first | exact .inr ⟨by decide, by decide⟩ | exact .inl ⟨by decide, by decide⟩ | exact .inl ⟨by omega, by omega⟩ | exact .inr ⟨by omega, by omega⟩)
  | (with_reducible refine rc_lenL ?_) | (with_reducible refine rc_lenT ?_) | (with_reducible refine rc_max2 ?_) | (with_reducible refine rc_min2 ?_) | (with_reducible refine rc_intB ?_) | (with_reducible refine rc_intI ?_) | (with_reducible refine rc_listL ?_) | (with_reducible refine rc_listT ?_) | (with_reducible refine rc_tupleL ?_)
  | ((with_reducible apply rd_ixT); exact rfl)
  | ((with_reducible apply rd_ixL); exact rfl)
  | ((with_reducible refine wd_isi ?ev_h ?_); case ev_h => decide) | ((with_reducible refine wd_isi2 ?ev_h ?ev_k ?_); (case ev_h => decide); (case ev_k => decide))
  | (with_reducible refine wd_tup2 ?_) | (with_reducible refine wd_tup1 ?_) | (with_reducible refine wd_tup3 ?_) | (with_reducible refine wd_tup0 ?_)
  | (with_reducible refine wd_lst0 ?_) | (with_reducible refine wd_lst1 ?_) | (with_reducible refine wd_lst2 ?_) | (with_reducible refine wd_lst3 ?_) | (with_reducible refine wd_lst4 ?_) | (with_reducible refine wd_lst5 ?_) | (with_reducible refine wd_lst6 ?_)
  | ((with_reducible apply wd_callO0); exact rfl) | ((with_reducible apply wd_callO1); exact rfl) | ((with_reducible apply wd_callO2); exact rfl) | ((with_reducible apply wd_callO3); exact rfl)
  | (with_reducible refine wd_call1 ?_) | (with_reducible refine wd_call2 ?_) | (with_reducible refine wd_call3 ?_) | (with_reducible refine wd_call4 ?_) | (with_reducible refine wd_call0 ?_)
  | (with_reducible refine wd_cb1 ?_) | (with_reducible refine wd_cb2 ?_)
  | (with_reducible refine wd_rev ?_) | (with_reducible refine wd_lrg1 ?_) | (with_reducible refine wd_sl ?_) | (with_reducible refine wo_no ?_) | (with_reducible refine wo_some ?_)
  | (with_reducible refine wd_andV ?_) | (with_reducible refine wd_orV ?_) | (with_reducible refine wd_notV ?_) | (with_reducible refine wd_if ?_) | (with_reducible refine wd_chain ?_)
  | (with_reducible refine wt_test ?_) | (with_reducible refine wt_B ?_) | (with_reducible refine wt_not ?_) | (with_reducible refine wt_and ?_) | (with_reducible refine wt_or ?_) | (with_reducible refine wt_yes ?_)
  | (with_reducible refine gj_name ?_) | (with_reducible refine gj_tup rfl ?_) | (with_reducible refine gjs_cons ?_) | (with_reducible refine gjs_nil ?_))
local macro_rules | `(tactic| walk_at "v") => `(tactic| repeat walk_at "v1")
local macro_rules | `(tactic| walk_at "x") => `(tactic| refine ⟨_, rfl, ?_⟩)
local macro_rules | `(tactic| walk_at "vx") => `(tactic| repeat (first | walk_at "v1" | (with_reducible refine ⟨_, rfl, ?_⟩)))
namespace Wb
open PySem PySem.Spec PyProof.Rows L2 Pk Sy
/-! ### shapes -/
theorem Wy.dep (w : Wy) : dep 1 w.d := by
  cases w with
  | nothing => intro x hx; simp at hx; subst hx; exact ok_sn
  | gives n => intro x hx; simp at hx; rcases hx with rfl | rfl; exact ok_sg; trivial
  | knot n => intro x hx; simp at hx; rcases hx with rfl | rfl; exact ok_sk; trivial
theorem Wy.nb (w : Wy) : NB w.d := by
  cases w with
  | nothing => exact .tup fun x hx => by simp at hx; subst hx; exact .str _
  | gives n => exact .tup fun x hx => by simp at hx; rcases hx with rfl | rfl; exact .str _; exact .int _
  | knot n => exact .tup fun x hx => by simp at hx; rcases hx with rfl | rfl; exact .str _; exact .int _
theorem dep_up : ∀ {n : Nat} {d : PyData}, dep n d → dep (n + 1) d
  | 0, .none, h => trivial
  | 0, .bool _, h => trivial
  | 0, .int _, h => trivial
  | 0, .str _, h => h
  | 0, .list _, h => h.elim
  | 0, .tuple _, h => h.elim
  | 0, .dict _, h => h.elim
  | n + 1, .none, h => trivial
  | n + 1, .bool _, h => trivial
  | n + 1, .int _, h => trivial
  | n + 1, .str _, h => h
  | n + 1, .list xs, h => fun x hx => dep_up (h x hx)
  | n + 1, .tuple xs, h => fun x hx => dep_up (h x hx)
  | n + 1, .dict _, h => h.elim
theorem knotD_dep (k : List Wy) : dep 2 (knotD k) := fun x hx => by
  obtain ⟨w, _, rfl⟩ := List.mem_map.mp hx
  exact w.dep
theorem webD_dep (top : Wy) (ks : List (List Wy)) : dep 4 (webD top ks) := fun x hx => by
  simp at hx
  rcases hx with rfl | rfl
  · exact dep_up (dep_up top.dep)
  · intro y hy
    obtain ⟨k, _, rfl⟩ := List.mem_map.mp hy
    exact knotD_dep k
theorem knotD_nb (k : List Wy) : NB (knotD k) := .lst fun x hx => by
  obtain ⟨w, _, rfl⟩ := List.mem_map.mp hx
  exact w.nb
theorem webD_nb (top : Wy) (ks : List (List Wy)) : NB (webD top ks) := .tup fun x hx => by
  simp at hx
  rcases hx with rfl | rfl
  · exact top.nb
  · exact .lst fun y hy => by
      obtain ⟨k, _, rfl⟩ := List.mem_map.mp hy
      exact knotD_nb k
def runD (r : Run) : PyData := .tuple [.list (natsD r.1), r.2.d]
theorem runsD_eq (rs : List Run) : runsD rs = rs.map runD := rfl
theorem natsD_dep (ns : List Nat) : dep 1 (.list (natsD ns)) := fun x hx => by
  obtain ⟨n, _, rfl⟩ := List.mem_map.mp hx
  trivial
theorem natsD_nb (ns : List Nat) : NB (.list (natsD ns)) := .lst fun x hx => by
  obtain ⟨n, _, rfl⟩ := List.mem_map.mp hx
  exact .int _
theorem runsD_dep (rs : List Run) : dep 3 (.list (runsD rs)) := fun x hx => by
  obtain ⟨r, _, rfl⟩ := List.mem_map.mp hx
  intro y hy
  simp at hy
  rcases hy with rfl | rfl
  · exact natsD_dep _
  · exact r.2.dep
theorem runsD_nb (rs : List Run) : NB (.list (runsD rs)) := .lst fun x hx => by
  obtain ⟨r, _, rfl⟩ := List.mem_map.mp hx
  exact .tup fun y hy => by
    simp at hy
    rcases hy with rfl | rfl
    · exact natsD_nb _
    · exact r.2.nb
theorem runsD_sh (rs : List Run) : SeqAt.shaped (.list (runsD rs)) = true := dep_shaped (runsD_dep rs) (by decide)
theorem webD_sh (top : Wy) (ks : List (List Wy)) : SeqAt.shaped (webD top ks) = true := dep_shaped (webD_dep top ks) (by decide)
theorem runsD_len (rs : List Run) : (runsD rs).length = rs.length := by simp [runsD]
theorem runsD_snoc (rs : List Run) (r : Run) : runsD (rs ++ [r]) = runsD rs ++ [.tuple [.list (natsD r.1), r.2.d]] := by simp [runsD]
theorem runsD_nil (rs : List Run) : (runsD rs).isEmpty = rs.isEmpty := by cases rs <;> rfl
section
variable {P : Program} {w : World} {K : PySem.W.Frag} {mg : Str → Option Value} {base : Heap} {k : Nat}
theorem ok_all_choices (D : Def K mg "all_choices" s_all_choices ["knot"]) (m_len : mg "len" = none) (m_range : mg "range" = none) (m_list : mg "list" = none) : Cal P w K mg base CX0 (k + 1) "all_choices" ["knot"] (spG K (T_all_choices K)) := by
  refine cal_g D sc_all_choices (fun Γ Qr ⟨v, e, _⟩ => by subst e; exact ⟨rfl, noMl_dat noMl_nil⟩) fun f cdv A outer s H E hr => ⟨_, wk_all_choices (m_len := m_len) (m_range := m_range) (m_list := m_list) f cdv A outer s H E hr, ?_⟩
  rintro Γ Qr ⟨ws, rfl, h5, q⟩
  show SJ K [.dat false (knotD ws)] (t_all_choices K) _
  unfold t_all_choices
  refine sj_ret (wx_lrg1 true ?_)
  walk_at "v"
  refine ⟨_, rfl, ⟨by simp, by simp; omega⟩, fun l => ⟨keep_dat keep_nil, ?_⟩⟩
  have e : ((ws.map Wy.d).length : Int).toNat = ws.length := by simp
  rw [e, rangeD_nats]
  exact q l
theorem gk_ne {n m : Nat} (h : (Wy.gives n).d = (Wy.knot m).d) : False := by
  have := PyData.str.inj (List.cons.inj (PyData.tuple.inj h)).1
  exact absurd this strGK
theorem Wy.d_inj : ∀ {a b : Wy}, a.d = b.d → a = b
  | .nothing, .nothing, _ => rfl
  | .nothing, .gives _, h => nomatch (List.cons.inj (PyData.tuple.inj h)).2
  | .nothing, .knot _, h => nomatch (List.cons.inj (PyData.tuple.inj h)).2
  | .gives _, .nothing, h => nomatch (List.cons.inj (PyData.tuple.inj h)).2
  | .knot _, .nothing, h => nomatch (List.cons.inj (PyData.tuple.inj h)).2
  | .gives n, .gives m, h => by
    have := PyData.int.inj (List.cons.inj (List.cons.inj (PyData.tuple.inj h)).2).1
    rw [Int.ofNat.inj this]
  | .knot n, .knot m, h => by
    have := PyData.int.inj (List.cons.inj (List.cons.inj (PyData.tuple.inj h)).2).1
    rw [Int.ofNat.inj this]
  | .gives n, .knot m, h => (gk_ne h).elim
  | .knot m, .gives n, h => (gk_ne h.symm).elim
theorem any_take {kn : List Wy} {c : Nat} {d : PyData} {x : Wy} (e : d = x.d) : ((kn.take c).map Wy.d).any (fun z => PyData.eqv z d) = decide (x ∈ kn.take c) := by
  subst e
  generalize kn.take c = ws
  induction ws with
  | nil => rfl
  | cons w ws ih =>
    rw [List.map_cons, List.any_cons, ih]
    by_cases hw : x = w
    · subst hw
      rw [eqv_self x.nb]
      simp
    · rw [eqv_no w.nb x.nb fun z => hw (Wy.d_inj z).symm]
      simp [hw]
theorem cutD_take {α : Type} {xs : List α} {n : Nat} : Pk.cutD xs none (some (n : Int)) = xs.take n := by
  unfold Pk.cutD
  rw [HT.sIx_nat, HT.sIx_none, Nat.sub_zero, List.drop_zero, Nat.min_comm]
  rw [List.take_eq_take_iff]
  omega
def T_fc (K : PySem.W.Frag) : List Sl → (Sl → Prop) → Prop := fun Γ Q => ∃ k : List Wy, Γ = [.dat false (knotD k)] ∧ k.length ≤ 5 ∧ ∀ l, Q (.ml true l (natsD (firstsK k)))
/-- one choice is a first -/
theorem rd_first {Γ : List Sl} {Q : PyData → Prop} {kn : List Wy} {c : Nat} {m : Bool} (q : Q (.bool (isFirst kn c))) : RD K m Γ (dNotIn K) (kget kn c).d (.list (Pk.cutD (kn.map Wy.d) none (some (c : Int)))) Q := by
  rw [cutD_take, ← List.map_take]
  refine rd_notIn (dep_shaped (kget kn c).dep (by decide)) (dep_shaped (knotD_dep (kn.take c)) (by decide)) ?_
  rw [any_take rfl]
  exact q
theorem ok_fc (D : Def K mg "first_choices" s_first_choices ["knot"]) (m_len : mg "len" = none) (m_range : mg "range" = none) : Cal P w K mg base CX0 (k + 1) "first_choices" ["knot"] (spG K (T_fc K)) := by
  refine cal_g D sc_first_choices (fun Γ Qr ⟨v, e, _⟩ => by subst e; exact ⟨rfl, noMl_dat noMl_nil⟩) fun f cdv A outer s H E hr => ⟨_, wk_first_choices (m_len := m_len) (m_range := m_range) f cdv A outer s H E hr, ?_⟩
  rintro Γ Qr ⟨kn, rfl, h5, q⟩
  show SJ K [.dat false (knotD kn), .no] (t_first_choices K) _
  unfold t_first_choices
  refine sj_ret (wx_lcPa (mi := false) true (fun (n : Nat) => PyData.int n) (isFirst kn) (fun n => PyData.int n) (wipeOk_no rfl wipeOk_nil) gwn (wi_rng ?_))
  walk_at "v"
  refine ⟨_, rfl, ⟨by simp, by simp; omega⟩, List.range kn.length, ?_, by simp; omega, fun i c hc => gj_name ⟨rfl, ?_⟩, fun l => ⟨keep_dat keep_nil, q l⟩⟩
  · have e : ((kn.map Wy.d).length : Int).toNat = kn.length := by simp
    rw [e]
    exact rangeD_nats _
  · have hci : c < kn.length := List.mem_range.mp (List.mem_of_getElem? hc)
    walk_at "v"
    refine rd_knot hci ?_
    walk_at "v"
    refine ⟨_, rfl, ?_⟩
    walk_at "v"
    refine ⟨_, rfl, ?_⟩
    refine rd_first ⟨_, rfl, rfl, fun _ => wd_lf ?_⟩
    walk_at "v"
    exact ⟨rfl, rfl⟩
theorem ok_cbk (D : Def K mg "choices_by_knot" s_choices_by_knot ["web", "first"]) (c_first : Cal P w K mg base CX0 k "first_choices" ["knot"] (spG K (T_fc K))) (c_all : Cal P w K mg base CX0 k "all_choices" ["knot"] (spG K (T_all_choices K))) : Cal P w K mg base CX0 (k + 1) "choices_by_knot" ["web", "first"] (spG K (T_cbk tks K)) := by
  refine cal_g D sc_choices_by_knot (fun Γ Qr ⟨top, ks, b, e, _⟩ => by subst e; exact ⟨rfl, noMl_dat (noMl_dat noMl_nil)⟩) fun f cdv A outer s H E hr => ⟨_, wk_choices_by_knot (c_first_choices := c_first) (c_all_choices := c_all) f cdv A outer s H E hr, ?_⟩
  rintro Γ Qr ⟨top, ks, b, rfl, hk, hl, q⟩
  show SJ K [.dat false (webD top ks), .dat false (.bool b), .no] (t_choices_by_knot K _ _) _
  unfold t_choices_by_knot
  refine sj_seq (sj_if ?_)
  walk_at "v"
  walk_at "x"
  cases b with
  | true =>
    refine iteT' rfl ?_
    refine sj_retD false (wd_lcMa (mi := false) knotD (fun k => .list (natsD (firstsK k))) (wipeOk_no rfl wipeOk_nil) gwn (wi_list ?_))
    walk_at "v"
    refine ⟨_, rfl, ks, rfl, by omega, fun i kn hkn => gj_name ⟨rfl, ?_⟩, keep_dat (keep_dat keep_nil), ?_⟩
    · walk_at "v"
      obtain ⟨_, h5, _⟩ := hk i kn hkn
      exact ⟨kn, rfl, h5, fun l => asD_mln rfl⟩
    · have e : (ks.map fun k => PyData.list (natsD (firstsK k))) = (firsts ks).map fun t => PyData.list (natsD t) := by simp [firsts]
      rw [e]
      exact q
  | false =>
    refine iteF' rfl (sj_next ?_)
    refine sj_retD false (wd_lcMa (mi := false) knotD (fun k => .list (natsD (List.range k.length))) (wipeOk_no rfl wipeOk_nil) gwn (wi_list ?_))
    walk_at "v"
    refine ⟨_, rfl, ks, rfl, by omega, fun i kn hkn => gj_name ⟨rfl, ?_⟩, keep_dat (keep_dat keep_nil), ?_⟩
    · walk_at "v"
      obtain ⟨_, h5, _⟩ := hk i kn hkn
      exact ⟨kn, rfl, h5, fun l => asD_mln rfl⟩
    · have e : (ks.map fun k => PyData.list (natsD (List.range k.length))) = (every ks).map fun t => PyData.list (natsD t) := by simp [every]
      rw [e]
      exact q
theorem wcount_at {cs : List Int} {j : Nat} (h : j < cs.length) : cs[j]? = some (wcount cs (.knot j)) := by
  simp [wcount, List.getD_eq_getElem?_getD, h]
theorem ok_behind (D : Def K mg "runs_behind" s_runs_behind ["way", "counts"]) : Cal P w K mg base CX0 (k + 1) "runs_behind" ["way", "counts"] (spG K (T_behind K)) := by
  refine cal_g D sc_runs_behind (fun Γ Qr ⟨v, cs, e, _⟩ => by subst e; exact ⟨rfl, noMl_dat (noMl_dat noMl_nil)⟩) fun f cdv A outer s H E hr => ⟨_, wk_runs_behind f cdv A outer s H E hr, ?_⟩
  rintro Γ Qr ⟨wy, cs, rfl, hw, q⟩
  show SJ K [.dat false wy.d, .dat false (intsD cs)] (t_runs_behind K) _
  unfold t_runs_behind
  refine sj_seq (sj_if ?_)
  walk_at "v"
  refine rd_way0 ?_
  walk_at "v"
  refine rd_eq (sh_str wy.word_ok) (sh_str ok_sk) ?_
  walk_at "x"
  rw [wy.eqK]
  cases wy with
  | knot j =>
    refine iteT' rfl ?_
    refine sj_retD true (wd_lf ?_)
    walk_at "v"
    refine rd_way1 ?_
    refine rd_cs (wcount_at hw) ?_
    exact ⟨rfl, keep_dat (keep_dat keep_nil), q⟩
  | nothing =>
    refine iteF' rfl (sj_next ?_)
    refine sj_retD true ?_
    walk_at "v"
    exact ⟨keep_dat (keep_dat keep_nil), q⟩
  | gives n =>
    refine iteF' rfl (sj_next ?_)
    refine sj_retD true ?_
    walk_at "v"
    exact ⟨keep_dat (keep_dat keep_nil), q⟩
theorem countsN_succ (ks : List (List Wy)) (ts : List (List Nat)) {i : Nat} {kn : List Wy} {t : List Nat} (h1 : ks[i]? = some kn) (h2 : ts[i]? = some t) : countsN ks ts (i + 1) = countsN ks ts i ++ [stepC (countsN ks ts i) kn t] := by
  rw [countsN]
  simp [List.getD_eq_getElem?_getD, h1, h2]
theorem ok_rcounts (D : Def K mg "run_counts" s_run_counts ["web", "taken"]) (c_behind : Cal P w K mg base CX0 k "runs_behind" ["way", "counts"] (spG K (T_behind K))) (m_zip : mg "zip" = none) (m_sum : mg "sum" = none) : Cal P w K mg base CX0 (k + 1) "run_counts" ["web", "taken"] (spG K (T_rcounts K)) := by
  refine cal_g D sc_run_counts (fun Γ Qr ⟨top, ks, ts, e, _⟩ => by subst e; exact ⟨rfl, noMl_dat (noMl_dat noMl_nil)⟩) fun f cdv A outer s H E hr => ⟨_, wk_run_counts (c_runs_behind := c_behind) (m_zip := m_zip) (m_sum := m_sum) f cdv A outer s H E hr, ?_⟩
  rintro Γ Qr ⟨top, ks, ts, rfl, T, hl, q⟩
  show SJ K [.dat false (webD top ks), .dat false (tkD ts), .no, .no, .no, .no] (t_run_counts K _) _
  unfold t_run_counts
  refine sj_seq (sj_setX (wx_lst0 false fun l => ?_))
  show SJ K [.dat false (webD top ks), .dat false (tkD ts), .ml false l [], .no, .no, .no] _ _
  refine sj_seq (sj_for false (wi_zip (wa_d ?_)))
  walk_at "v"
  refine wa_d ?_
  walk_at "v"
  refine wa_nil ⟨_, _, rfl, ?_⟩
  refine ⟨fun i Γ' => ∃ s3 s4, Γ' = [.dat false (webD top ks), .dat false (tkD ts), .ml false l ((countsN ks ts i).map PyData.int), s3, s4, .no], ⟨.no, .no, rfl⟩, ?_, ?_⟩
  · rintro i d Γ' hd ⟨s3, s4, rfl⟩
    obtain ⟨kn, t, hk, ht, rfl⟩ := zip_items hd
    have hi : i < ks.length := (List.getElem?_eq_some_iff.mp hk).1
    obtain ⟨t', k', e1, e2, _, _, _, ht5, _, h5, hc⟩ := T.get hi
    rw [ht] at e1
    rw [hk] at e2
    cases e1
    cases e2
    walk_at "v"
    show SJ K [.dat false (webD top ks), .dat false (tkD ts), .ml false l ((countsN ks ts i).map PyData.int), .dat false (knotD kn), .dat false (.list (natsD t)), .no] _ _
    refine sj_app rfl (by rw [List.length_map, countsN_len]; omega) (wd_thaw ?_)
    show WD K false [.dat false (webD top ks), .dat false (tkD ts), .dat false (intsD (countsN ks ts i)), .dat false (knotD kn), .dat false (.list (natsD t)), .no] _ _
    walk_at "v"
    refine wd_lcMa (mi := false) (fun (n : Nat) => PyData.int n) (fun c => .int (wcount (countsN ks ts i) (kget kn c))) (wipeOk_no rfl wipeOk_nil) gwn (wi_list ?_)
    walk_at "v"
    refine ⟨_, rfl, t, rfl, by omega, fun j c hcj => gj_name ⟨rfl, ?_⟩, ?_⟩
    · obtain ⟨hlt, hwc⟩ := hc c (List.mem_of_getElem? hcj)
      walk_at "v"
      refine rd_knot hlt ?_
      walk_at "v"
      exact ⟨_, _, rfl, by rw [countsN_len]; exact hwc, asD_new rfl⟩
    · have e : (t.map fun c => PyData.int (wcount (countsN ks ts i) (kget kn c))) = (t.map fun c => wcount (countsN ks ts i) (kget kn c)).map PyData.int := by simp
      rw [e]
      refine rc_sum ⟨rfl, ?_⟩
      refine ⟨.dat false (knotD kn), .dat false (.list (natsD t)), ?_⟩
      rw [countsN_succ ks ts hk ht, List.map_append]
      rfl
  · rintro Γ' ⟨s3, s4, rfl⟩
    refine sj_frz 2 rfl ?_
    refine sj_retD false (wd_var rfl ⟨keep_dat (keep_dat keep_nil), ?_⟩)
    have e : (List.zipWith pairD (ks.map knotD) (ts.map fun t => PyData.list (natsD t))).length = ks.length := by simp [T.len]
    rw [e]
    exact q
theorem counts_len {ks : List (List Wy)} {ts : List (List Nat)} : (counts ks ts).length = ks.length := countsN_len ks ts _
theorem counted_step (cs : List Int) (ws : List Wy) : (ws.map (wcount cs)).sum = ((ws.filter Wy.isK).map (wcount cs)).sum + ((ws.filter fun w => !w.isK).length : Int) := by
  induction ws with
  | nil => rfl
  | cons w ws ih =>
    cases hw : w.isK with
    | true => simp only [List.map_cons, List.sum_cons, List.filter_cons, hw]; simp; omega
    | false =>
      have : wcount cs w = 1 := by
        cases w with
        | knot j => cases hw
        | _ => rfl
      simp only [List.map_cons, List.sum_cons, List.filter_cons, hw, this]
      simp
      omega
theorem ok_counted (D : Def K mg "_law_counted" s_l_counted ["web", "taken"]) (m_zip : mg "zip" = none) (m_sum : mg "sum" = none) (m_len : mg "len" = none) : Cal P w K mg base CX0 (k + 1) "_law_counted" ["web", "taken"] (spG K (T_counted K)) := by
  refine cal_g D sc_l_counted (fun Γ Qr ⟨top, ks, ts, e, _⟩ => by subst e; exact ⟨rfl, noMl_dat (noMl_dat noMl_nil)⟩) fun f cdv A outer s H E hr => ⟨_, wk_l_counted (m_zip := m_zip) (m_sum := m_sum) (m_len := m_len) f cdv A outer s H E hr, ?_⟩
  rintro Γ Qr ⟨top, ks, ts, rfl, T, hl, hw, q⟩
  show SJ K [.dat false (webD top ks), .dat false (tkD ts), .no, .no, .no, .no, .no, .no] (t_l_counted K) _
  unfold t_l_counted
  refine sj_seq (sj_setX (wx_lst0 false fun l => ?_))
  show SJ K [.dat false (webD top ks), .dat false (tkD ts), .ml false l [], .no, .no, .no, .no, .no] _ _
  refine sj_seq (sj_for false (wi_zip (wa_d ?_)))
  walk_at "v"
  refine wa_d ?_
  walk_at "v"
  refine wa_nil ⟨_, _, rfl, ?_⟩
  refine ⟨fun i Γ' => ∃ s3 s4 s5, Γ' = [.dat false (webD top ks), .dat false (tkD ts), .ml false l ((countsN ks ts i).map PyData.int), s3, s4, s5, .no, .no], ⟨.no, .no, .no, rfl⟩, ?_, ?_⟩
  · rintro i d Γ' hd ⟨s3, s4, s5, rfl⟩
    obtain ⟨kn, t, hk, ht, rfl⟩ := zip_items hd
    have hi : i < ks.length := (List.getElem?_eq_some_iff.mp hk).1
    obtain ⟨t', k', e1, e2, _, _, _, ht5, _, h5, hc⟩ := T.get hi
    rw [ht] at e1
    rw [hk] at e2
    cases e1
    cases e2
    walk_at "v"
    show SJ K [.dat false (webD top ks), .dat false (tkD ts), .ml false l ((countsN ks ts i).map PyData.int), .dat false (knotD kn), .dat false (.list (natsD t)), s5, .no, .no] _ _
    -- ways
    refine sj_seq (sj_set false (wd_lcMa (mi := false) (fun (n : Nat) => PyData.int n) (fun c => (kget kn c).d) (wipeOk_no rfl wipeOk_nil) gwn (wi_list ?_)))
    walk_at "v"
    refine ⟨_, rfl, t, rfl, by omega, fun j c hcj => gj_name ⟨rfl, ?_⟩, ?_⟩
    · obtain ⟨hlt, hwc⟩ := hc c (List.mem_of_getElem? hcj)
      walk_at "v"
      exact rd_knot hlt rfl
    obtain ⟨ws, hws⟩ : ∃ ws, ws = t.map fun c => kget kn c := ⟨_, rfl⟩
    have e : (t.map fun c => (kget kn c).d) = ws.map Wy.d := by rw [hws]; simp
    have hwsl : ws.length ≤ 5 := by rw [hws, List.length_map]; omega
    have hwok : ∀ x ∈ ws, WayOk i x := fun x hx => by
      rw [hws] at hx
      obtain ⟨c, hcm, rfl⟩ := List.mem_map.mp hx
      exact (hc c hcm).2
    rw [e]
    show SJ K [.dat false (webD top ks), .dat false (tkD ts), .ml false l ((countsN ks ts i).map PyData.int), .dat false (knotD kn), .dat false (.list (natsD t)), .dat false (.list (ws.map Wy.d)), .no, .no] _ _
    refine sj_seq (sj_app rfl (by rw [List.length_map, countsN_len]; omega) (wd_thaw ?_))
    show WD K false [.dat false (webD top ks), .dat false (tkD ts), .dat false (intsD (countsN ks ts i)), .dat false (knotD kn), .dat false (.list (natsD t)), .dat false (.list (ws.map Wy.d)), .no, .no] _ _
    walk_at "v"
    refine wd_lcPa (mi := false) Wy.d Wy.isK (fun w => .int (wcount (countsN ks ts i) w)) (wipeOk_no rfl wipeOk_nil) gwn (wi_list ?_)
    walk_at "v"
    refine ⟨_, rfl, ws, rfl, by omega, fun j x hx => gj_name ⟨rfl, ?_⟩, ?_⟩
    · have hxo := hwok x (List.mem_of_getElem? hx)
      walk_at "v"
      refine rd_way0 ?_
      walk_at "v"
      refine rd_eq (sh_str x.word_ok) (sh_str ok_sk) ⟨_, rfl, x.eqK, fun hb => ?_⟩
      rw [x.eqK] at hb
      cases x with
      | knot n =>
        walk_at "v"
        refine rd_way1 ?_
        exact rd_cs (wcount_at (by rw [countsN_len ks ts]; exact hxo)) rfl
      | nothing => cases hb
      | gives n => cases hb
    have e2 : ((ws.filter Wy.isK).map fun w => PyData.int (wcount (countsN ks ts i) w)) = ((ws.filter Wy.isK).map (wcount (countsN ks ts i))).map PyData.int := by simp
    rw [e2]
    refine rc_sum ⟨rfl, ?_⟩
    show SJ K [.dat false (webD top ks), .dat false (tkD ts), .ml false l ((countsN ks ts i).map PyData.int ++ [.int ((ws.filter Wy.isK).map (wcount (countsN ks ts i))).sum]), .dat false (knotD kn), .dat false (.list (natsD t)), .dat false (.list (ws.map Wy.d)), .no, .no] _ _
    refine sj_setI rfl ?_
    walk_at "v"
    refine ⟨_, _, rfl, atI_lastD, ?_⟩
    walk_at "v"
    refine wd_lcPa (mi := false) Wy.d (fun w => !w.isK) Wy.d (wipeOk_no rfl wipeOk_nil) gwn (wi_list ?_)
    walk_at "v"
    refine ⟨_, rfl, ws, rfl, by omega, fun j x hx => gj_name ⟨rfl, ?_⟩, ?_⟩
    · walk_at "v"
      refine rd_way0 ?_
      walk_at "v"
      refine rd_ne (sh_str x.word_ok) (sh_str ok_sk) ⟨_, rfl, by rw [x.eqK], fun hb => ?_⟩
      walk_at "v"
      rfl
    walk_at "v"
    refine ⟨-1, (countsN ks ts i).length, rfl, ?_, ?_⟩
    · unfold ixN
      simp
      omega
    · refine ⟨.dat false (knotD kn), .dat false (.list (natsD t)), .dat false (.list (ws.map Wy.d)), ?_⟩
      rw [countsN_succ ks ts hk ht, List.map_append]
      have e3 : stepC (countsN ks ts i) kn t = ((ws.filter Wy.isK).map (wcount (countsN ks ts i))).sum + ((ws.filter fun w => !w.isK).length : Int) := by
        rw [← counted_step, hws, List.map_map]
        rfl
      rw [e3]
      have e4 : ∀ (xs : List PyData) (a b : PyData) (n : Nat), n = xs.length → (xs ++ [a]).set n b = xs ++ [b] := fun xs a b n hn => by subst hn; simp
      rw [e4 _ _ _ _ (by simp)]
      simp
  · rintro Γ' ⟨s3, s4, s5, rfl⟩
    have e : (List.zipWith pairD (ks.map knotD) (ts.map fun t => PyData.list (natsD t))).length = ks.length := by simp [T.len]
    rw [e]
    refine sj_frz 2 rfl ?_
    show SJ K [.dat false (webD top ks), .dat false (tkD ts), .dat false (intsD (counts ks ts)), s3, s4, s5, .no, .no] _ _
    refine sj_seq (sj_if ?_)
    walk_at "v"
    refine rd_way0 ?_
    walk_at "v"
    refine rd_eq (sh_str top.word_ok) (sh_str ok_sk) ?_
    walk_at "x"
    rw [top.eqK]
    cases top with
    | knot j =>
      refine iteT' rfl ?_
      refine sj_retD true (wd_lf ?_)
      walk_at "v"
      refine rd_way1 ?_
      refine rd_cs (wcount_at (by rw [counts_len]; exact hw)) ?_
      exact ⟨rfl, keep_dat (keep_dat keep_nil), q⟩
    | nothing =>
      refine iteF' rfl (sj_next ?_)
      refine sj_retD true ?_
      walk_at "v"
      exact ⟨keep_dat (keep_dat keep_nil), q⟩
    | gives n =>
      refine iteF' rfl (sj_next ?_)
      refine sj_retD true ?_
      walk_at "v"
      exact ⟨keep_dat (keep_dat keep_nil), q⟩
end
end Wb
end
section
set_option Elab.async false
set_option linter.all false
set_option maxRecDepth 100000
/-! Webs of knots: runs told, runs gone by the law. -/
open PySem L2 Pk
local macro_rules | `(tactic| walk_at "sh") => `(tactic| first | exact sh_int | exact sh_bool | exact sh_non | exact sh_nil | exact sh_str (by decide +kernel) | assumption)
local macro_rules | `(tactic| walk_at "v1") => `(tactic| first
  | (with_reducible refine wd_int ?_) | (with_reducible refine wd_str ?_) | (with_reducible refine wd_bl ?_) | (with_reducible refine wd_non ?_)
  | ((with_reducible apply wd_var); exact rfl) | ((with_reducible apply wd_varN); exact rfl)
  | ((with_reducible apply wd_ixm); exact rfl)
  | ((with_reducible apply wd_lenM); exact rfl) | ((with_reducible apply wd_lenScript); exact rfl) | ((with_reducible apply wd_ixScript); exact rfl)
  | (with_reducible refine wd_op ?_) | (with_reducible refine wd_un ?_)
  | (with_reducible refine rd_add ?_) | (with_reducible refine rd_sub ?_) | (with_reducible refine rd_lt ?_) | (with_reducible refine rd_le ?_) | (with_reducible refine rd_gt ?_) | (with_reducible refine rd_ge ?_) | (with_reducible refine ru_neg ?_)
  | ((with_reducible refine rd_eq ?ev_h ?ev_k ?_); (case ev_h => walk_at "sh"); (case ev_k => walk_at "sh")) | ((with_reducible refine rd_ne ?ev_h ?ev_k ?_); (case ev_h => walk_at "sh"); (case ev_k => walk_at "sh"))
  | ((with_reducible refine rd_mod ?ev_h ?_); case ev_h => first | decide | assumption | omega) | ((with_reducible refine rd_div ?ev_h ?ev_k ?_); (case ev_h => first | decide | assumption | omega); (case ev_k => first | decide | assumption | omega))
  | ((with_reducible refine rd_pow ?ev_h ?_); case ev_h => exact ⟨by decide, by decide, by decide⟩)
  | ((with_reducible refine rd_mul ?ev_h ?_); case ev_h => first | exact .inr ⟨by decide, by decide⟩ | exact .inl ⟨by decide, by decide⟩ | exact .inl ⟨by omega, by omega⟩ | exact .inr ⟨by omega, by omega⟩)
  | (with_reducible refine rc_lenL ?_) | (with_reducible refine rc_lenT ?_) | (with_reducible refine rc_max2 ?_) | (with_reducible refine rc_min2 ?_) | (with_reducible refine rc_intB ?_) | (with_reducible refine rc_intI ?_) | (with_reducible refine rc_listL ?_) | (with_reducible refine rc_listT ?_) | (with_reducible refine rc_tupleL ?_)
  | ((with_reducible apply rd_ixT); exact rfl)
  | ((with_reducible apply rd_ixL); exact rfl)
  | ((with_reducible refine wd_isi ?ev_h ?_); case ev_h => decide) | ((with_reducible refine wd_isi2 ?ev_h ?ev_k ?_); (case ev_h => decide); (case ev_k => decide))
  | (with_reducible refine wd_tup2 ?_) | (with_reducible refine wd_tup1 ?_) | (with_reducible refine wd_tup3 ?_) | (with_reducible refine wd_tup0 ?_)
  | (with_reducible refine wd_lst0 ?_) | (with_reducible refine wd_lst1 ?_) | (with_reducible refine wd_lst2 ?_) | (with_reducible refine wd_lst3 ?_) | (with_reducible refine wd_lst4 ?_) | (with_reducible refine wd_lst5 ?_) | (with_reducible refine wd_lst6 ?_)
  | ((with_reducible apply wd_callO0); exact rfl) | ((with_reducible apply wd_callO1); exact rfl) | ((with_reducible apply wd_callO2); exact rfl) | ((with_reducible apply wd_callO3); exact rfl)
  | (with_reducible refine wd_call1 ?_) | (with_reducible refine wd_call2 ?_) | (with_reducible refine wd_call3 ?_) | (with_reducible refine wd_call4 ?_) | (with_reducible refine wd_call0 ?_)
  | (with_reducible refine wd_cb1 ?_) | (with_reducible refine wd_cb2 ?_)
  | (with_reducible refine wd_rev ?_) | (with_reducible refine wd_lrg1 ?_) | (with_reducible refine wd_sl ?_) | (with_reducible refine wo_no ?_) | (with_reducible refine wo_some ?_)
  | (with_reducible refine wd_andV ?_) | (with_reducible refine wd_orV ?_) | (with_reducible refine wd_notV ?_) | (with_reducible refine wd_if ?_) | (with_reducible refine wd_chain ?_)
  | (with_reducible refine wt_test ?_) | (with_reducible refine wt_B ?_) | (with_reducible refine wt_not ?_) | (with_reducible refine wt_and ?_) | (with_reducible refine wt_or ?_) | (with_reducible refine wt_yes ?_)
  | (with_reducible refine gj_name ?_) | (with_reducible refine gj_tup rfl ?_) | (with_reducible refine gjs_cons ?_) | (with_reducible refine gjs_nil ?_))
local macro_rules | `(tactic| walk_at "v") => `(tactic| repeat walk_at "v1")
local macro_rules | `(tactic| walk_at "x") => `(tactic| refine ⟨_, rfl, ?_⟩)
local macro_rules | `(tactic| walk_at "vx") => `(tactic| repeat (first | walk_at "v1" | (with_reducible refine ⟨_, rfl, ?_⟩)))
namespace Wb
open PySem PySem.Spec PyProof.Rows L2 Pk Sy
section
variable {K : PySem.W.Frag} {m : Bool} {Γ : List Sl} {Q : PyData → Prop}
theorem rd_neSelf {d : PyData} (hs : SeqAt.shaped d = true) (nb : NB d) (q : Q (.bool false)) : RD K m Γ (dNe K) d d Q := rd_ne hs hs (by rw [eqv_self nb]; exact q)
theorem rd_eqSelf {d : PyData} (hs : SeqAt.shaped d = true) (nb : NB d) (q : Q (.bool true)) : RD K m Γ (dEq K) d d Q := rd_eq hs hs (by rw [eqv_self nb]; exact q)
end
section
variable {P : Program} {w : World} {K : PySem.W.Frag} {mg : Str → Option Value} {base : Heap} {k : Nat}
theorem natsD_app (ch : List Nat) (c : Nat) : natsD ch ++ [PyData.int c] = natsD (ch ++ [c]) := by simp [natsD]
theorem natsD_len (ch : List Nat) : (natsD ch).length = ch.length := by simp [natsD]
theorem kids_rev {ks : List (List Wy)} {ts : List (List Nat)} {ch : List Nat} {j : Nat} {t : List Nat} {kn : List Wy} (h1 : ts.getD j [] = t) (h2 : ks.getD j [] = kn) : (t.map fun c => PyData.tuple [.list (natsD (ch ++ [c])), (kget kn c).d]) = runsD (kids ks ts ch j) := by
  unfold kids
  rw [h1, h2]
  simp [runsD]
theorem ok_some (D : Def K mg "_law_some_runs" s_l_some_runs ["web", "taken", "way", "most"]) (m_len : mg "len" = none) : Cal P w K mg base CX0 (k + 1) "_law_some_runs" ["web", "taken", "way", "most"] (spG K (T_some K)) := by
  refine cal_g D sc_l_some_runs (fun Γ Qr ⟨top, ks, ts, wy, e, _⟩ => by subst e; exact ⟨rfl, noMl_dat (noMl_dat (noMl_dat (noMl_dat noMl_nil)))⟩) fun f cdv A outer s H E hr => ⟨_, wk_l_some_runs (m_len := m_len) f cdv A outer s H E hr, ?_⟩
  rintro Γ Qr ⟨top, ks, ts, wy, rfl, T, hl, hw, h2000, q⟩
  show SJ K [.dat false (webD top ks), .dat false (tkD ts), .dat false wy.d, .dat false (.int 2000), .no, .no, .no, .no, .no, .no] (t_l_some_runs K) _
  unfold t_l_some_runs
  refine sj_seq (sj_setX (wx_lst0 false fun lf => ?_))
  refine sj_seq (sj_setX (wx_lst1 false ?_))
  walk_at "v"
  intro ll
  show SJ K [.dat false (webD top ks), .dat false (tkD ts), .dat false wy.d, .dat false (.int 2000), .ml false lf (runsD []), .ml false ll (runsD [([], wy)]), .no, .no, .no, .no] _ _
  refine sj_seq (sj_while (fun n Γ' => ∃ ll fnd st s6 s7 s8, fnd ++ expand ks ts st = runs ks ts wy ∧ StOk ks st ∧ n = mu ks ts st ∧ Γ' = [.dat false (webD top ks), .dat false (tkD ts), .dat false wy.d, .dat false (.int 2000), .ml false lf (runsD fnd), .ml false ll (runsD st.reverse), s6, s7, s8, .no]) (mu ks ts [([], wy)]) ⟨ll, [], [([], wy)], .no, .no, .no, by simp [expand], fun s hs => ?_, rfl, rfl⟩ ?_)
  · simp at hs
    subst hs
    exact ⟨hw, by simpa using rk_le T hw⟩
  rintro n Γ' ⟨ll, fnd, st, s6, s7, s8, hex, hst, rfl, rfl⟩
  have htot : fnd.length + (expand ks ts st).length ≤ 2000 := by
    have := congrArg List.length hex
    rw [List.length_append] at this
    omega
  have hsl := st_len T hst
  refine wt_thaw ?_
  show WT K [.dat false (webD top ks), .dat false (tkD ts), .dat false wy.d, .dat false (.int 2000), .dat false (.list (runsD fnd)), .dat false (.list (runsD st.reverse)), s6.frz, s7.frz, s8.frz, .no] _ _
  walk_at "v"
  refine rd_ne (runsD_sh _) sh_nil ?_
  walk_at "x"
  rw [eqv_nil, runsD_nil]
  cases st with
  | nil =>
    refine iteF' (by rfl) ?_
    refine iteF' rfl ?_
    refine sj_frz 4 rfl ?_
    refine sj_retD false (wd_var rfl ⟨keep_dat (keep_dat (keep_dat (keep_dat keep_nil))), ?_⟩)
    simp [expand] at hex
    rw [hex]
    exact q
  | cons s st =>
    obtain ⟨ch, wy'⟩ := s
    refine iteT' (by simp) ?_
    walk_at "v"
    walk_at "x"
    rw [runsD_len]
    refine iteD (fun _ => ?_) (fun hno => absurd (by omega : (fnd.length : Int) ≤ 2000) hno)
    have hrev : runsD ((ch, wy') :: st).reverse = runsD st.reverse ++ [runD (ch, wy')] := by simp [runsD, runD]
    obtain ⟨hwok, hchl⟩ := hst (ch, wy') List.mem_cons_self
    have hch : ch.length ≤ ks.length := Nat.le_trans (Nat.le_add_right _ _) hchl
    refine sj_seq (sj_pop (ds := runsD st.reverse) (d := runD (ch, wy')) (m := false) (l := ll) (by rw [hrev]; rfl) ?_)
    refine gj_tup rfl ?_
    walk_at "v"
    show SJ K [.dat false (webD top ks), .dat false (tkD ts), .dat false wy.d, .dat false (.int 2000), .ml false lf (runsD fnd), .ml false ll (runsD st.reverse), .dat false (.list (natsD ch)), .dat false wy'.d, s8, .no] _ _
    refine sj_if ?_
    walk_at "v"
    refine rd_way0 ?_
    walk_at "v"
    refine rd_eq (sh_str wy'.word_ok) (sh_str ok_sk) ?_
    walk_at "x"
    rw [wy'.eqK]
    cases hq : wy' with
    | knot j =>
      rw [hq] at hex hst hwok hchl
      have hj : j < ks.length := hwok
      obtain ⟨t, kn, et, ek, gt, gk, _, ht5, _, h5, hc⟩ := T.get hj
      refine iteT' rfl ?_
      refine sj_seq (sj_set false (wd_lcMa (mi := false) (fun (n : Nat) => PyData.int n) (fun c => .tuple [.list (natsD (ch ++ [c])), (kget kn c).d]) (wipeOk_no rfl wipeOk_nil) gwn (wi_list ?_)))
      walk_at "v"
      refine rd_way1 ?_
      refine rd_tk et ?_
      refine ⟨_, rfl, t, rfl, by omega, fun i c hcj => gj_name ⟨rfl, ?_⟩, ?_⟩
      · obtain ⟨hlt, hwc⟩ := hc c (List.mem_of_getElem? hcj)
        walk_at "v"
        refine rd_cat (by rw [natsD_len]; simp; omega) ?_
        walk_at "v"
        refine rd_way1 ?_
        refine rd_ks ek ?_
        walk_at "v"
        refine rd_knot hlt ?_
        rw [natsD_app]
      rw [kids_rev (ks := ks) (ts := ts) (j := j) gt gk]
      show SJ K [.dat false (webD top ks), .dat false (tkD ts), .dat false wy.d, .dat false (.int 2000), .ml false lf (runsD fnd), .ml false ll (runsD st.reverse), .dat false (.list (natsD ch)), .dat false (Wy.knot j).d, .dat false (.list (runsD (kids ks ts ch j))), .no] _ _
      refine sj_frz 5 rfl ?_
      refine sj_setX (wx_op false ?_)
      walk_at "v"
      refine ⟨_, rfl, ?_⟩
      have hk1 : (kids ks ts ch j).length ≤ 5 := by unfold kids; rw [gt, List.length_map]; omega
      refine rx_cat (by rw [List.length_reverse, runsD_len, runsD_len]; simp at hsl ⊢; omega) fun l2 => ?_
      refine ⟨mu ks ts (kids ks ts ch j ++ st), mu_knot T hj, l2, fnd, kids ks ts ch j ++ st, .dat false (.list (natsD ch)), .dat false (Wy.knot j).d, .dat false (.list (runsD (kids ks ts ch j))), ?_, stOk_kids T hst, rfl, ?_⟩
      · rw [← hex, expand_knot T hj]
      · have : runsD st.reverse ++ (runsD (kids ks ts ch j)).reverse = runsD (kids ks ts ch j ++ st).reverse := by simp [runsD]
        rw [this]
        rfl
    | nothing =>
      rw [hq] at hex hst
      refine iteF' rfl ?_
      refine sj_app rfl (by rw [runsD_len]; omega) ?_
      walk_at "v"
      refine ⟨mu ks ts st, mu_end T, ll, fnd ++ [(ch, .nothing)], st, .dat false (.list (natsD ch)), .dat false Wy.nothing.d, s8, ?_, fun x hx => hst x (List.mem_cons_of_mem _ hx), rfl, by rw [runsD_snoc]; rfl⟩
      rw [← hex, expand_end T (by intro j z; cases z)]
      simp
    | gives g =>
      rw [hq] at hex hst
      refine iteF' rfl ?_
      refine sj_app rfl (by rw [runsD_len]; omega) ?_
      walk_at "v"
      refine ⟨mu ks ts st, mu_end T, ll, fnd ++ [(ch, .gives g)], st, .dat false (.list (natsD ch)), .dat false (Wy.gives g).d, s8, ?_, fun x hx => hst x (List.mem_cons_of_mem _ hx), rfl, by rw [runsD_snoc]; rfl⟩
      rw [← hex, expand_end T (by intro j z; cases z)]
      simp
/-! ### the same as data -/
/-- plain data: numbers, texts, lists, tuples, so deep -/
def pl : Nat → PyData → Prop
  | _, .int _ => True
  | _, .str x => PyData.strOk x = true
  | n + 1, .list xs => xs.length ≤ 100000 ∧ ∀ x ∈ xs, pl n x
  | n + 1, .tuple xs => xs.length ≤ 100000 ∧ ∀ x ∈ xs, pl n x
  | _, _ => False
def T_same (n : Nat) (K : PySem.W.Frag) : List Sl → (Sl → Prop) → Prop := fun Γ Q => ∃ d, Γ = [.dat false d, .dat false d] ∧ pl n d ∧ Q (.dat true (.bool true))
end
end Wb
end
section
set_option Elab.async false
set_option linter.all false
set_option maxRecDepth 100000
/-! Webs of knots: the cut web, the program's runs. -/
open PySem L2 Pk
local macro_rules | `(tactic| walk_at "sh") => `(tactic| first | exact sh_int | exact sh_bool | exact sh_non | exact sh_nil | exact sh_str (by decide +kernel) | assumption)
local macro_rules | `(tactic| walk_at "v1") => `(tactic| first
  | (with_reducible refine wd_int ?_) | (with_reducible refine wd_str ?_) | (with_reducible refine wd_bl ?_) | (with_reducible refine wd_non ?_)
  | ((with_reducible apply wd_var); exact rfl) | ((with_reducible apply wd_varN); exact rfl)
  | ((with_reducible apply wd_ixm); exact rfl)
  | ((with_reducible apply wd_lenM); exact rfl) | ((with_reducible apply wd_lenScript); exact rfl) | ((with_reducible apply wd_ixScript); exact rfl)
  | (with_reducible refine wd_op ?_) | (with_reducible refine wd_un ?_)
  | (with_reducible refine rd_add ?_) | (with_reducible refine rd_sub ?_) | (with_reducible refine rd_lt ?_) | (with_reducible refine rd_le ?_) | (with_reducible refine rd_gt ?_) | (with_reducible refine rd_ge ?_) | (with_reducible refine ru_neg ?_)
  | ((with_reducible refine rd_eq ?ev_h ?ev_k ?_); (case ev_h => walk_at "sh"); (case ev_k => walk_at "sh")) | ((with_reducible refine rd_ne ?ev_h ?ev_k ?_); (case ev_h => walk_at "sh"); (case ev_k => walk_at "sh"))
  | ((with_reducible refine rd_mod ?ev_h ?_); case ev_h => first | decide | assumption | omega) | ((with_reducible refine rd_div ?ev_h ?ev_k ?_); (case ev_h => first | decide | assumption | omega); (case ev_k => first | decide | assumption | omega))
  | ((with_reducible refine rd_pow ?ev_h ?_); case ev_h => exact ⟨by decide, by decide, by decide⟩)
  | ((with_reducible refine rd_mul ?ev_h ?_); case ev_h => first | exact .inr ⟨by decide, by decide⟩ | exact .inl ⟨by decide, by decide⟩ | exact .inl ⟨by omega, by omega⟩ | exact .inr ⟨by omega, by omega⟩)
  | (with_reducible refine rc_lenL ?_) | (with_reducible refine rc_lenT ?_) | (with_reducible refine rc_max2 ?_) | (with_reducible refine rc_min2 ?_) | (with_reducible refine rc_intB ?_) | (with_reducible refine rc_intI ?_) | (with_reducible refine rc_listL ?_) | (with_reducible refine rc_listT ?_) | (with_reducible refine rc_tupleL ?_)
  | ((with_reducible apply rd_ixT); exact rfl)
  | ((with_reducible apply rd_ixL); exact rfl)
  | ((with_reducible refine wd_isi ?ev_h ?_); case ev_h => decide) | ((with_reducible refine wd_isi2 ?ev_h ?ev_k ?_); (case ev_h => decide); (case ev_k => decide))
  | (with_reducible refine wd_tup2 ?_) | (with_reducible refine wd_tup1 ?_) | (with_reducible refine wd_tup3 ?_) | (with_reducible refine wd_tup0 ?_)
  | (with_reducible refine wd_lst0 ?_) | (with_reducible refine wd_lst1 ?_) | (with_reducible refine wd_lst2 ?_) | (with_reducible refine wd_lst3 ?_) | (with_reducible refine wd_lst4 ?_) | (with_reducible refine wd_lst5 ?_) | (with_reducible refine wd_lst6 ?_)
  | ((with_reducible apply wd_callO0); exact rfl) | ((with_reducible apply wd_callO1); exact rfl) | ((with_reducible apply wd_callO2); exact rfl) | ((with_reducible apply wd_callO3); exact rfl)
  | (with_reducible refine wd_call1 ?_) | (with_reducible refine wd_call2 ?_) | (with_reducible refine wd_call3 ?_) | (with_reducible refine wd_call4 ?_) | (with_reducible refine wd_call0 ?_)
  | (with_reducible refine wd_cb1 ?_) | (with_reducible refine wd_cb2 ?_)
  | (with_reducible refine wd_rev ?_) | (with_reducible refine wd_lrg1 ?_) | (with_reducible refine wd_sl ?_) | (with_reducible refine wo_no ?_) | (with_reducible refine wo_some ?_)
  | (with_reducible refine wd_andV ?_) | (with_reducible refine wd_orV ?_) | (with_reducible refine wd_notV ?_) | (with_reducible refine wd_if ?_) | (with_reducible refine wd_chain ?_)
  | (with_reducible refine wt_test ?_) | (with_reducible refine wt_B ?_) | (with_reducible refine wt_not ?_) | (with_reducible refine wt_and ?_) | (with_reducible refine wt_or ?_) | (with_reducible refine wt_yes ?_)
  | (with_reducible refine gj_name ?_) | (with_reducible refine gj_tup rfl ?_) | (with_reducible refine gjs_cons ?_) | (with_reducible refine gjs_nil ?_))
local macro_rules | `(tactic| walk_at "v") => `(tactic| repeat walk_at "v1")
local macro_rules | `(tactic| walk_at "x") => `(tactic| refine ⟨_, rfl, ?_⟩)
local macro_rules | `(tactic| walk_at "vx") => `(tactic| repeat (first | walk_at "v1" | (with_reducible refine ⟨_, rfl, ?_⟩)))
namespace Wb
open PySem PySem.Spec PyProof.Rows L2 Pk Sy
theorem runs_first {ks : List (List Wy)} {ts : List (List Nat)} (T : Tk ks ts) (h : 0 < ks.length) : (runs ks ts (.knot 0)).length ≤ 5 := by
  obtain ⟨t, kn, et, ek, gt, gk, _, ht5, _, h5, hc⟩ := T.get h
  rw [runs_knot T h, gt, gk]
  have key : ∀ l : List Nat, (∀ c ∈ l, WayOk 0 (kget kn c)) → (l.flatMap fun c => (runs ks ts (kget kn c)).map fun r => (c :: r.1, r.2)).length ≤ l.length := by
    intro l hl
    induction l with
    | nil => simp
    | cons c l ih =>
      rw [List.flatMap_cons, List.length_append, List.length_map]
      have h1 := hl c List.mem_cons_self
      have : (runs ks ts (kget kn c)).length = 1 := by
        rw [runs_end (by intro j z; rw [z] at h1; exact absurd h1 (Nat.not_lt_zero _))]
        rfl
      have h2 := ih fun x hx => hl x (List.mem_cons_of_mem _ hx)
      rw [this, List.length_cons]
      omega
  exact Nat.le_trans (key t fun c hcm => (hc c hcm).2) (by omega)
def T_cut (f : Tkf) (K : PySem.W.Frag) : List Sl → (Sl → Prop) → Prop := fun Γ Q => ∃ v top ks, Γ = [.ex v (StoreO K), .dat false (webD top ks)] ∧ KnotsOk ks ∧ ks.length ≤ 300 ∧ WayOk ks.length top ∧ ∀ top', WayOk ks.length top' → (runs ks (f ks) top').length ≤ 2000 → Q (.dat false (webD top' ks))
section
variable {P : Program} {w : World} {K : PySem.W.Frag} {mg : Str → Option Value} {base : Heap} {k : Nat}
theorem lfP_prs (rs : List Run) : LfP (prs rs) := fun r hr => by
  obtain ⟨x, _, rfl⟩ := List.mem_map.mp hr
  refine ⟨?_, x.2.lf⟩
  show lfA (natsD x.1) = true
  generalize x.1 = ns
  induction ns with
  | nil => rfl
  | cons n ns ih => simpa [natsD, lfA, lf] using ih
theorem ints_prs (rs : List Run) : ∀ r ∈ prs rs, ∃ ns : List Int, r.1 = ns.map PyData.int := fun r hr => by
  obtain ⟨x, _, rfl⟩ := List.mem_map.mp hr
  exact ⟨x.1.map fun (n : Nat) => (n : Int), by simp [natsD]⟩
theorem natsD_inj {a b : List Nat} (h : natsD a = natsD b) : a = b := by
  unfold natsD at h
  exact (List.map_inj_right (fun x y z => Int.ofNat.inj (PyData.int.inj z))).mp h
theorem nd_prs {rs : List Run} (h : (rs.map Prod.fst).Nodup) : ((prs rs).map Prod.fst).Nodup := by
  have e : (prs rs).map Prod.fst = (rs.map Prod.fst).map natsD := by simp [prs]
  rw [e]
  exact List.Pairwise.map natsD (fun a b hab hh => hab (natsD_inj hh)) h
def T_toldX (C : Addr) (K : PySem.W.Frag) : List Sl → (Sl → Prop) → XQ → Prop := fun Γ Q Qe => ∃ top ks ts, Γ = [.dat false (webD top ks), .dat false (tkD ts)] ∧ Tk ks ts ∧ ks.length ≤ 300 ∧ WayOk ks.length top ∧ ((runs ks ts top).length ≤ 2000 → ∀ l, Q (.ex (.ref l) (PairsO K (prs (runs ks ts top))))) ∧ (2000 < (runs ks ts top).length → Qe (.ref C) none)
def T_ofwebX (f : Tkf) (C : Addr) (K : PySem.W.Frag) : List Sl → (Sl → Prop) → XQ → Prop := fun Γ Q Qe => ∃ top ks, Γ = [.dat false (webD top ks)] ∧ KnotsOk ks ∧ ks.length ≤ 300 ∧ WayOk ks.length top ∧ ((runs ks (f ks) top).length ≤ 2000 → ∀ l, Q (.ex (.ref l) (PairsO K (prs (runs ks (f ks) top))))) ∧ (2000 < (runs ks (f ks) top).length → Qe (.ref C) none)
theorem ok_told {C : Addr} (D : Def K mg "runs_told" s_runs_told ["web", "taken"]) (c_behind : Cal P w K mg base CX0 k "runs_behind" ["way", "counts"] (spG K (T_behind K))) (c_rc : Cal P w K mg base CX0 k "run_counts" ["web", "taken"] (spG K (T_rcounts K))) (g_MOST_RUNS : ∃ t, mg "MOST_RUNS" = some (.int 2000 t)) (e_TooMany : ExcT K mg "TooMany" C) : Cal P w K mg base (L2.CX P w) (k + 1) "runs_told" ["web", "taken"] (spX K (T_toldX C K)) := by
  refine cal_x D sc_runs_told (fun Γ Qr Qe ⟨top, ks, ts, e, _⟩ => by subst e; exact ⟨rfl, noMl_dat (noMl_dat noMl_nil)⟩) fun f cdv A outer s H E hr => ⟨_, wk_runs_told (c_runs_behind := c_behind) (c_run_counts := c_rc) (g_MOST_RUNS := g_MOST_RUNS) (e_TooMany := e_TooMany) f cdv A outer s H E hr, ?_⟩
  rintro Γ Qr Qe ⟨top, ks, ts, rfl, T, hl, hw, q0, qx⟩
  show SJt K [.dat false (webD top ks), .dat false (tkD ts), .no, .no, .no, .no, .no, .no] (t_runs_told K _ _ _ _) _
  unfold t_runs_told
  refine sjt_seq (SJ.t (sj_if ?_))
  walk_at "v"
  refine ⟨top, ks, ts, rfl, T, hl, asD_dat ?_⟩
  refine ⟨top, counts ks ts, rfl, by rw [show (counts ks ts).length = ks.length from countsN_len ks ts _]; exact hw, asD_new ?_⟩
  have hcnt : wcount (counts ks ts) top = (runs ks ts top).length := count_runs T top ks.length (Nat.le_refl _) hw
  rw [hcnt]
  walk_at "v"
  walk_at "x"
  refine iteD (fun hgt => sj_raise ⟨keep_dat (keep_dat keep_nil), qx (by omega)⟩) (fun hle => sj_next ?_)
  have h2000 : (runs ks ts top).length ≤ 2000 := by omega
  have q := q0 h2000
  refine sjt_seq (SJ.t (sj_setX (wx_lst0 true fun lf => ?_)))
  refine sjt_seq (SJ.t (sj_setX (wx_lst1 true (wd_tup2 (wd_lst0 (wd_lf ?_))))))
  walk_at "v"
  refine ⟨top.lf, fun ll => ?_⟩
  show SJt K [.dat false (webD top ks), .dat false (tkD ts), .ml true lf (runsD []), .ml true ll (runsD [([], top)]), .no, .no, .no, .no] _ _
  refine sjt_seq (SJ.t (sj_while (fun n Γ' => ∃ fnd st s4 s5 s6, fnd ++ expand ks ts st = runs ks ts top ∧ StOk ks st ∧ n = mu ks ts st ∧ Γ' = [.dat false (webD top ks), .dat false (tkD ts), .ml true lf (runsD fnd), .ml true ll (runsD st.reverse), s4, s5, s6, .no]) (mu ks ts [([], top)]) ⟨[], [([], top)], .no, .no, .no, by simp [expand], fun s hs => ?_, rfl, rfl⟩ ?_))
  · simp at hs
    subst hs
    exact ⟨hw, by simpa using rk_le T hw⟩
  rintro n Γ' ⟨fnd, st, s4, s5, s6, hex, hst, rfl, rfl⟩
  have htot : fnd.length + (expand ks ts st).length ≤ 2000 := by
    have := congrArg List.length hex
    rw [List.length_append] at this
    omega
  have hsl := st_len T hst
  refine wt_thaw ?_
  show WT K [.dat false (webD top ks), .dat false (tkD ts), .dat false (.list (runsD fnd)), .dat false (.list (runsD st.reverse)), s4.frz, s5.frz, s6.frz, .no] _ _
  walk_at "v"
  refine rd_ne (runsD_sh _) sh_nil ?_
  walk_at "x"
  rw [eqv_nil, runsD_nil]
  cases st with
  | nil =>
    refine iteF' (by rfl) ?_
    simp [expand] at hex
    rw [hex]
    refine sjt_retPairs (i := 2) (l := lf) (rs := prs (runs ks ts top)) (by rw [pairsD_prs]; rfl) (lfP_prs _) (ints_prs _) (nd_prs (runs_nodup T top hw)) ⟨keep_dat (keep_dat keep_nil), q lf⟩
  | cons s st =>
    obtain ⟨ch, wy'⟩ := s
    refine iteT' (by simp) ?_
    have hrev : runsD ((ch, wy') :: st).reverse = runsD st.reverse ++ [runD (ch, wy')] := by simp [runsD, runD]
    obtain ⟨hwok, hchl⟩ := hst (ch, wy') List.mem_cons_self
    have hch : ch.length ≤ ks.length := Nat.le_trans (Nat.le_add_right _ _) hchl
    refine sj_seq (sj_pop (ds := runsD st.reverse) (d := runD (ch, wy')) (m := true) (l := ll) (by rw [hrev]; rfl) ?_)
    refine gj_tup rfl ?_
    walk_at "v"
    show SJ K [.dat false (webD top ks), .dat false (tkD ts), .ml true lf (runsD fnd), .ml true ll (runsD st.reverse), .dat true (.list (natsD ch)), .dat true wy'.d, s6, .no] _ _
    refine sj_if ?_
    walk_at "v"
    refine rd_way0 ?_
    walk_at "v"
    refine rd_ne (sh_str wy'.word_ok) (sh_str ok_sk) ?_
    walk_at "x"
    rw [wy'.eqK]
    cases hq : wy' with
    | knot j =>
      rw [hq] at hex hst hwok hchl
      have hj : j < ks.length := hwok
      obtain ⟨t, kn, et, ek, gt, gk, _, ht5, _, h5, hc⟩ := T.get hj
      refine iteF' rfl ?_
      refine sj_seq (sj_set true (wd_lcMa (mi := false) (fun (n : Nat) => PyData.int n) (fun c => .tuple [.list (natsD (ch ++ [c])), (kget kn c).d]) (wipeOk_no rfl wipeOk_nil) gwn (wi_list ?_)))
      walk_at "v"
      refine rd_way1 ?_
      refine rd_tk et ?_
      refine ⟨_, rfl, t, rfl, by omega, fun i c hcj => gj_name ⟨rfl, ?_⟩, ?_⟩
      · obtain ⟨hlt, hwc⟩ := hc c (List.mem_of_getElem? hcj)
        refine wd_tup2 (wd_op (wd_var rfl (wd_lst1 (wd_lf (wd_var rfl ⟨rfl, ?_⟩)))))
        refine rd_cat (by rw [natsD_len]; simp; omega) ?_
        refine wd_lf ?_
        walk_at "v"
        refine rd_way1 ?_
        refine rd_ks ek ?_
        walk_at "v"
        refine rd_knot hlt ?_
        rw [natsD_app]
        exact ⟨(kget kn c).lf, rfl⟩
      rw [kids_rev (ks := ks) (ts := ts) (j := j) gt gk]
      show SJ K [.dat false (webD top ks), .dat false (tkD ts), .ml true lf (runsD fnd), .ml true ll (runsD st.reverse), .dat true (.list (natsD ch)), .dat true (Wy.knot j).d, .dat true (.list (runsD (kids ks ts ch j))), .no] _ _
      have hk1 : (kids ks ts ch j).length ≤ 5 := by unfold kids; rw [gt, List.length_map]; omega
      refine sj_ext rfl (wd_rev (wd_var rfl ⟨_, rfl, _, rfl, ?_, ?_⟩))
      · rw [List.length_reverse, runsD_len, runsD_len]; simp at hsl ⊢; omega
      refine ⟨mu ks ts (kids ks ts ch j ++ st), mu_knot T hj, fnd, kids ks ts ch j ++ st, .dat true (.list (natsD ch)), .dat true (Wy.knot j).d, .dat true (.list (runsD (kids ks ts ch j))), ?_, stOk_kids T hst, rfl, ?_⟩
      · rw [← hex, expand_knot T hj]
      · have : runsD st.reverse ++ (runsD (kids ks ts ch j)).reverse = runsD (kids ks ts ch j ++ st).reverse := by simp [runsD]
        rw [this]
        rfl
    | nothing =>
      rw [hq] at hex hst
      refine iteT' rfl ?_
      refine sj_app rfl (by rw [runsD_len]; omega) ?_
      walk_at "v"
      refine ⟨mu ks ts st, mu_end T, fnd ++ [(ch, .nothing)], st, .dat true (.list (natsD ch)), .dat true Wy.nothing.d, s6, ?_, fun x hx => hst x (List.mem_cons_of_mem _ hx), rfl, by rw [runsD_snoc]; rfl⟩
      rw [← hex, expand_end T (by intro j z; cases z)]
      simp
    | gives g =>
      rw [hq] at hex hst
      refine iteT' rfl ?_
      refine sj_app rfl (by rw [runsD_len]; omega) ?_
      walk_at "v"
      refine ⟨mu ks ts st, mu_end T, fnd ++ [(ch, .gives g)], st, .dat true (.list (natsD ch)), .dat true (Wy.gives g).d, s6, ?_, fun x hx => hst x (List.mem_cons_of_mem _ hx), rfl, by rw [runsD_snoc]; rfl⟩
      rw [← hex, expand_end T (by intro j z; cases z)]
      simp
theorem ok_ofweb {C : Addr} (D : Def K mg "runs_of_web" s_runs_of_web ["web"]) (c_told : Cal P w K mg base (L2.CX P w) k "runs_told" ["web", "taken"] (spX K (T_toldX C K))) (c_cbk : Cal P w K mg base CX0 k "choices_by_knot" ["web", "first"] (spG K (T_cbk tks K))) : Cal P w K mg base (L2.CX P w) (k + 1) "runs_of_web" ["web"] (spX K (T_ofwebX every C K)) := by
  refine cal_x D sc_runs_of_web (fun Γ Qr Qe ⟨top, ks, e, _⟩ => by subst e; exact ⟨rfl, noMl_dat noMl_nil⟩) fun f cdv A outer s H E hr => ⟨_, wk_runs_of_web c_told c_cbk f cdv A outer s H E hr, ?_⟩
  rintro Γ Qr Qe ⟨top, ks, rfl, hk, hl, hw, q, qx⟩
  show SJt K [.dat false (webD top ks)] (t_runs_of_web K _ _ _) _
  unfold t_runs_of_web
  refine SJ.t (sj_retW (wxw_call2 (wd_var rfl (wd_call2 (wd_var rfl (wd_bl ?_))))))
  refine ⟨top, ks, false, rfl, hk, hl, asD_dat ?_⟩
  exact ⟨top, ks, every ks, rfl, tk_every hk, hl, hw, fun h l => ⟨keep_dat keep_nil, q h l⟩, fun h => ⟨keep_dat keep_nil, qx h⟩⟩
theorem ok_firstruns {C : Addr} (D : Def K mg "first_runs" s_first_runs ["web"]) (c_told : Cal P w K mg base (L2.CX P w) k "runs_told" ["web", "taken"] (spX K (T_toldX C K))) (c_cbk : Cal P w K mg base CX0 k "choices_by_knot" ["web", "first"] (spG K (T_cbk tks K))) : Cal P w K mg base (L2.CX P w) (k + 1) "first_runs" ["web"] (spX K (T_ofwebX firsts C K)) := by
  refine cal_x D sc_first_runs (fun Γ Qr Qe ⟨top, ks, e, _⟩ => by subst e; exact ⟨rfl, noMl_dat noMl_nil⟩) fun f cdv A outer s H E hr => ⟨_, wk_first_runs c_told c_cbk f cdv A outer s H E hr, ?_⟩
  rintro Γ Qr Qe ⟨top, ks, rfl, hk, hl, hw, q, qx⟩
  show SJt K [.dat false (webD top ks)] (t_first_runs K _ _ _) _
  unfold t_first_runs
  refine SJ.t (sj_retW (wxw_call2 (wd_var rfl (wd_call2 (wd_var rfl (wd_bl ?_))))))
  refine ⟨top, ks, true, rfl, hk, hl, asD_dat ?_⟩
  exact ⟨top, ks, firsts ks, rfl, tk_firsts hk, hl, hw, fun h l => ⟨keep_dat keep_nil, q h l⟩, fun h => ⟨keep_dat keep_nil, qx h⟩⟩
def T_cfirst (K : PySem.W.Frag) : List Sl → (Sl → Prop) → Prop := fun Γ Q => ∃ top ks, Γ = [.dat false (webD top ks)] ∧ KnotsOk ks ∧ ks.length ≤ 300 ∧ WayOk ks.length top ∧ Q (.dat true (.int (runs ks (firsts ks) top).length))
theorem ok_cfirst (D : Def K mg "count_first" s_count_first ["web"]) (c_behind : Cal P w K mg base CX0 k "runs_behind" ["way", "counts"] (spG K (T_behind K))) (c_rc : Cal P w K mg base CX0 k "run_counts" ["web", "taken"] (spG K (T_rcounts K))) (c_cbk : Cal P w K mg base CX0 k "choices_by_knot" ["web", "first"] (spG K (T_cbk tks K))) : Cal P w K mg base CX0 (k + 1) "count_first" ["web"] (spG K (T_cfirst K)) := by
  refine cal_g D sc_count_first (fun Γ Qr ⟨top, ks, e, _⟩ => by subst e; exact ⟨rfl, noMl_dat noMl_nil⟩) fun f cdv A outer s H E hr => ⟨_, wk_count_first c_behind c_rc c_cbk f cdv A outer s H E hr, ?_⟩
  rintro Γ Qr ⟨top, ks, rfl, hk, hl, hw, q⟩
  show SJ K [.dat false (webD top ks)] (t_count_first K _ _ _) _
  unfold t_count_first
  refine sj_ret (wx_call2 ?_)
  walk_at "v"
  refine ⟨top, ks, true, rfl, hk, hl, asD_dat ?_⟩
  refine ⟨top, ks, firsts ks, rfl, tk_firsts hk, hl, asD_dat ?_⟩
  refine ⟨top, counts ks (firsts ks), rfl, by rw [show (counts ks (firsts ks)).length = ks.length from countsN_len ks _ _]; exact hw, ?_⟩
  have hcnt : wcount (counts ks (firsts ks)) top = (runs ks (firsts ks) top).length := count_runs (tk_firsts hk) top ks.length (Nat.le_refl _) hw
  rw [hcnt]
  exact ⟨keep_dat keep_nil, q⟩
end
end Wb
end
section
set_option Elab.async false
set_option linter.all false
set_option maxRecDepth 100000
/-! Webs of knots: the firsts of a law, the full web. -/
open PySem L2 Pk
local macro_rules | `(tactic| walk_at "sh") => `(tactic| first | exact sh_int | exact sh_bool | exact sh_non | exact sh_nil | exact sh_str (by decide +kernel) | assumption)
local macro_rules | `(tactic| walk_at "v1") => `(tactic| first
  | (with_reducible refine wd_int ?_) | (with_reducible refine wd_str ?_) | (with_reducible refine wd_bl ?_) | (with_reducible refine wd_non ?_)
  | ((with_reducible apply wd_var); exact rfl) | ((with_reducible apply wd_varN); exact rfl)
  | ((with_reducible apply wd_ixm); exact rfl)
  | ((with_reducible apply wd_lenM); exact rfl) | ((with_reducible apply wd_lenScript); exact rfl) | ((with_reducible apply wd_ixScript); exact rfl)
  | (with_reducible refine wd_op ?_) | (with_reducible refine wd_un ?_)
  | (with_reducible refine rd_add ?_) | (with_reducible refine rd_sub ?_) | (with_reducible refine rd_lt ?_) | (with_reducible refine rd_le ?_) | (with_reducible refine rd_gt ?_) | (with_reducible refine rd_ge ?_) | (with_reducible refine ru_neg ?_)
  | ((with_reducible refine rd_eq ?ev_h ?ev_k ?_); (case ev_h => walk_at "sh"); (case ev_k => walk_at "sh")) | ((with_reducible refine rd_ne ?ev_h ?ev_k ?_); (case ev_h => walk_at "sh"); (case ev_k => walk_at "sh"))
  | ((with_reducible refine rd_mod ?ev_h ?_); case ev_h => first | decide | assumption | omega) | ((with_reducible refine rd_div ?ev_h ?ev_k ?_); (case ev_h => first | decide | assumption | omega); (case ev_k => first | decide | assumption | omega))
  | ((with_reducible refine rd_pow ?ev_h ?_); case ev_h => exact ⟨by decide, by decide, by decide⟩)
  | ((with_reducible refine rd_mul ?ev_h ?_); case ev_h => first | exact .inr ⟨by decide, by decide⟩ | exact .inl ⟨by decide, by decide⟩ | exact .inl ⟨by omega, by omega⟩ | exact .inr ⟨by omega, by omega⟩)
  | (with_reducible refine rc_lenL ?_) | (with_reducible refine rc_lenT ?_) | (with_reducible refine rc_max2 ?_) | (with_reducible refine rc_min2 ?_) | (with_reducible refine rc_intB ?_) | (with_reducible refine rc_intI ?_) | (with_reducible refine rc_listL ?_) | (with_reducible refine rc_listT ?_) | (with_reducible refine rc_tupleL ?_)
  | ((with_reducible apply rd_ixT); exact rfl)
  | ((with_reducible apply rd_ixL); exact rfl)
  | ((with_reducible refine wd_isi ?ev_h ?_); case ev_h => decide) | ((with_reducible refine wd_isi2 ?ev_h ?ev_k ?_); (case ev_h => decide); (case ev_k => decide))
  | (with_reducible refine wd_tup2 ?_) | (with_reducible refine wd_tup1 ?_) | (with_reducible refine wd_tup3 ?_) | (with_reducible refine wd_tup0 ?_)
  | (with_reducible refine wd_lst0 ?_) | (with_reducible refine wd_lst1 ?_) | (with_reducible refine wd_lst2 ?_) | (with_reducible refine wd_lst3 ?_) | (with_reducible refine wd_lst4 ?_) | (with_reducible refine wd_lst5 ?_) | (with_reducible refine wd_lst6 ?_)
  | ((with_reducible apply wd_callO0); exact rfl) | ((with_reducible apply wd_callO1); exact rfl) | ((with_reducible apply wd_callO2); exact rfl) | ((with_reducible apply wd_callO3); exact rfl)
  | (with_reducible refine wd_call1 ?_) | (with_reducible refine wd_call2 ?_) | (with_reducible refine wd_call3 ?_) | (with_reducible refine wd_call4 ?_) | (with_reducible refine wd_call0 ?_)
  | (with_reducible refine wd_cb1 ?_) | (with_reducible refine wd_cb2 ?_)
  | (with_reducible refine wd_rev ?_) | (with_reducible refine wd_lrg1 ?_) | (with_reducible refine wd_sl ?_) | (with_reducible refine wo_no ?_) | (with_reducible refine wo_some ?_)
  | (with_reducible refine wd_andV ?_) | (with_reducible refine wd_orV ?_) | (with_reducible refine wd_notV ?_) | (with_reducible refine wd_if ?_) | (with_reducible refine wd_chain ?_)
  | (with_reducible refine wt_test ?_) | (with_reducible refine wt_B ?_) | (with_reducible refine wt_not ?_) | (with_reducible refine wt_and ?_) | (with_reducible refine wt_or ?_) | (with_reducible refine wt_yes ?_)
  | (with_reducible refine gj_name ?_) | (with_reducible refine gj_tup rfl ?_) | (with_reducible refine gjs_cons ?_) | (with_reducible refine gjs_nil ?_))
local macro_rules | `(tactic| walk_at "v") => `(tactic| repeat walk_at "v1")
local macro_rules | `(tactic| walk_at "x") => `(tactic| refine ⟨_, rfl, ?_⟩)
local macro_rules | `(tactic| walk_at "vx") => `(tactic| repeat (first | walk_at "v1" | (with_reducible refine ⟨_, rfl, ?_⟩)))
namespace Wb
open PySem PySem.Spec PyProof.Rows L2 Pk Sy
theorem pl_runs {rs : List Run} (h : rs.length ≤ 2000) (hc : ∀ r ∈ rs, r.1.length ≤ 300) : pl 3 (.list (runsD rs)) := by
  refine ⟨by rw [runsD_len]; omega, fun x hx => ?_⟩
  obtain ⟨r, hr, rfl⟩ := List.mem_map.mp hx
  refine ⟨by simp, fun y hy => ?_⟩
  simp at hy
  rcases hy with rfl | rfl
  · refine ⟨by rw [natsD_len]; have := hc r hr; omega, fun z hz => ?_⟩
    obtain ⟨n, _, rfl⟩ := List.mem_map.mp hz
    trivial
  · cases r.2 with
    | nothing => exact ⟨by simp, fun z hz => by simp at hz; subst hz; exact ok_sn⟩
    | gives n => exact ⟨by simp, fun z hz => by simp at hz; rcases hz with rfl | rfl; exact ok_sg; trivial⟩
    | knot n => exact ⟨by simp, fun z hz => by simp at hz; rcases hz with rfl | rfl; exact ok_sk; trivial⟩
/-- each run with one more choice -/
def run9 (r : Run) : Run := (r.1 ++ [9], r.2)
theorem app9 (rs : List Run) : pairsD (appP 9 (prs rs)) = runsD (rs.map run9) := by simp [pairsD, appP, prs, runsD, run9, natsD]
/-! ### webs that are written out -/
def wayB (many : Nat) : Wy → Bool
  | .knot j => decide (j < many)
  | .gives n => decide (n < 16)
  | .nothing => true
theorem wayB_ok {many : Nat} {w : Wy} (h : wayB many w = true) : WayOk many w := by
  cases w with
  | nothing => trivial
  | gives n => exact (of_decide_eq_true h : n < 16)
  | knot j => exact (of_decide_eq_true h : j < many)
def knotsB : Nat → List (List Wy) → Bool
  | _, [] => true
  | i, k :: ks => decide (0 < k.length) && decide (k.length ≤ 5) && k.all (wayB i) && knotsB (i + 1) ks
theorem knotsB_at : ∀ {ks : List (List Wy)} {i j : Nat} {k : List Wy}, knotsB i ks = true → ks[j]? = some k → 0 < k.length ∧ k.length ≤ 5 ∧ ∀ w ∈ k, WayOk (i + j) w
  | [], i, j, k, _, e => by simp at e
  | k0 :: ks, i, 0, k, h, e => by
    simp only [knotsB, Bool.and_eq_true, decide_eq_true_eq, List.all_eq_true] at h
    simp at e
    subst e
    exact ⟨h.1.1.1, h.1.1.2, fun w hw => wayB_ok (h.1.2 w hw)⟩
  | k0 :: ks, i, j + 1, k, h, e => by
    simp only [knotsB, Bool.and_eq_true] at h
    simp at e
    have := knotsB_at (i := i + 1) h.2 e
    rw [show i + 1 + j = i + (j + 1) by omega] at this
    exact this
theorem knotsB_ok {ks : List (List Wy)} (h : knotsB 0 ks = true) : KnotsOk ks := fun i k e => by
  have := knotsB_at h e
  rwa [Nat.zero_add] at this
/-! ### the full web -/
def fullG : List Wy := (List.range 5).map Wy.gives
def fullR (b w : Nat) : List Wy := (List.range w).map fun k => .knot (b + k)
def fullIt : List (Nat × Nat × Nat) := [(0, 5, 5), (5, 5, 5), (10, 4, 4), (15, 4, 1)]
def itD (t : Nat × Nat × Nat) : PyData := .tuple [.int t.1, .int t.2.1, .int t.2.2]
def fullB (t : Nat × Nat × Nat) : List (List Wy) := List.replicate t.2.2 (fullR t.1 t.2.1)
def fullN (i : Nat) : List (List Wy) := List.replicate 5 fullG ++ (fullIt.take i).flatMap fullB
def fullK : List (List Wy) := fullN 4 ++ [[.knot 19, .nothing]]
theorem full_ok : KnotsOk fullK := knotsB_ok (by decide +kernel)
theorem full_len : fullK.length = 21 := by decide +kernel
theorem full_every : (runs fullK (every fullK) (.knot 19)).length = 2000 := by
  have h := count_runs (tk_every full_ok) (.knot 19) fullK.length (Nat.le_refl _) (by rw [full_len]; show 19 < 21; decide)
  have e : wcount (countsN fullK (every fullK) fullK.length) (.knot 19) = 2000 := by decide +kernel
  omega
theorem full_more (b : Bool) : (runs fullK (tks b fullK) (.knot 20)).length = 2001 := by
  have h := count_runs (tk_tks full_ok b) (.knot 20) fullK.length (Nat.le_refl _) (by rw [full_len]; show 20 < 21; decide)
  have e : wcount (countsN fullK (tks b fullK) fullK.length) (.knot 20) = 2001 := by cases b <;> decide +kernel
  omega
theorem full_firsts : (runs fullK (firsts fullK) (.knot 19)).length = 2000 := by
  have h := count_runs (tk_firsts full_ok) (.knot 19) fullK.length (Nat.le_refl _) (by rw [full_len]; show 19 < 21; decide)
  have e : wcount (countsN fullK (firsts fullK) fullK.length) (.knot 19) = 2000 := by decide +kernel
  omega
theorem fullN_succ {i : Nat} {t : Nat × Nat × Nat} (h : fullIt[i]? = some t) : fullN (i + 1) = fullN i ++ fullB t := by
  unfold fullN
  rw [List.take_add_one, h]
  simp
theorem gives_ds (n : Nat) : ((List.range n).map fun k => PyData.tuple [.str "gives", .int (k : Nat)]) = ((List.range n).map Wy.gives).map Wy.d := by simp [Wy.d]
def T_full (K : PySem.W.Frag) : List Sl → (Sl → Prop) → Prop := fun Γ Q => Γ = [] ∧ Q (.dat false (.list (fullK.map knotD)))
section
variable {P : Program} {w : World} {K : PySem.W.Frag} {mg : Str → Option Value} {base : Heap} {k : Nat}
theorem ok_kfirsts (D : Def K mg "_law_firsts" s_l_firsts ["knot"]) (m_len : mg "len" = none) (m_range : mg "range" = none) : Cal P w K mg base CX0 (k + 1) "_law_firsts" ["knot"] (spG K (T_fc K)) := by
  refine cal_g D sc_l_firsts (fun Γ Qr ⟨v, e, _⟩ => by subst e; exact ⟨rfl, noMl_dat noMl_nil⟩) fun f cdv A outer s H E hr => ⟨_, wk_l_firsts (m_len := m_len) (m_range := m_range) f cdv A outer s H E hr, ?_⟩
  rintro Γ Qr ⟨kn, rfl, h5, q⟩
  show SJ K [.dat false (knotD kn), .no] (t_l_firsts K) _
  unfold t_l_firsts
  refine sj_ret (wx_lcPa (mi := false) true (fun (n : Nat) => PyData.int n) (isFirst kn) (fun n => PyData.int n) (wipeOk_no rfl wipeOk_nil) gwn (wi_rng ?_))
  walk_at "v"
  refine ⟨_, rfl, ⟨by simp, by simp; omega⟩, List.range kn.length, ?_, by simp; omega, fun i c hc => gj_name ⟨rfl, ?_⟩, fun l => ⟨keep_dat keep_nil, q l⟩⟩
  · have e : ((kn.map Wy.d).length : Int).toNat = kn.length := by simp
    rw [e]
    exact rangeD_nats _
  · have hci : c < kn.length := List.mem_range.mp (List.mem_of_getElem? hc)
    walk_at "v"
    refine rd_knot hci ?_
    walk_at "v"
    refine ⟨_, rfl, ?_⟩
    walk_at "v"
    refine ⟨_, rfl, ?_⟩
    refine rd_first ⟨_, rfl, rfl, fun _ => wd_lf ?_⟩
    walk_at "v"
    exact ⟨rfl, rfl⟩
theorem ok_full (D : Def K mg "_law_full" s_l_full []) (m_range : mg "range" = none) : Cal P w K mg base CX0 (k + 1) "_law_full" [] (spG K (T_full K)) := by
  refine cal_g D sc_l_full (fun Γ Qr ⟨e, _⟩ => by subst e; exact ⟨rfl, noMl_nil⟩) fun f cdv A outer s H E hr => ⟨_, wk_l_full (m_range := m_range) f cdv A outer s H E hr, ?_⟩
  rintro Γ Qr ⟨rfl, q⟩
  show SJ K [.no, .no, .no, .no, .no, .no] (t_l_full K) _
  unfold t_l_full
  refine sj_seq (sj_setX (wx_lst0 false fun l => ?_))
  show SJ K [.ml false l [], .no, .no, .no, .no, .no] _ _
  refine sj_seq (sj_for false (wi_rng (wd_int ⟨_, rfl, ⟨by decide, by decide⟩, ?_⟩)))
  refine ⟨fun i Γ' => ∃ s1, Γ' = [.ml false l ((List.replicate i fullG).map knotD), s1, .no, .no, .no, .no], ⟨.no, rfl⟩, ?_, ?_⟩
  · rintro i d Γ' hd ⟨s1, rfl⟩
    obtain ⟨hin, rfl⟩ := rangeD_of hd
    have hin5 : i < 5 := hin
    refine gj_name ?_
    refine sj_app rfl (by simp; omega) (wd_lcMa (mi := false) (fun (n : Nat) => PyData.int n) (fun n => .tuple [.str "gives", .int (n : Nat)]) (wipeOk_no rfl wipeOk_nil) gwn (wi_rng (wd_int ⟨_, rfl, ⟨by decide, by decide⟩, List.range 5, rangeD_nats 5, by decide, fun j c hc => gj_name ⟨rfl, ?_⟩, ?_⟩)))
    · walk_at "v"
      rfl
    · rw [gives_ds]
      refine ⟨.dat false (.int (0 + i)), ?_⟩
      rw [List.replicate_succ', List.map_append]
      rfl
  rintro Γ' ⟨s1, rfl⟩
  refine sj_seq (sj_for false (wi_list ?_))
  walk_at "v"
  refine ⟨_, rfl, fun i Γ' => ∃ s1 s3 s4 s5, Γ' = [.ml false l ((fullN i).map knotD), s1, .no, s3, s4, s5], ⟨s1, .no, .no, .no, rfl⟩, ?_, ?_⟩
  · rintro i d Γ' hd ⟨s1, s3, s4, s5, rfl⟩
    have hd' : (fullIt.map itD)[i]? = some d := hd
    rw [List.getElem?_map] at hd'
    cases ht : fullIt[i]? with
    | none => rw [ht] at hd'; cases hd'
    | some t =>
      rw [ht] at hd'
      cases hd'
      have hi4 : i < 4 := (List.getElem?_eq_some_iff.mp ht).1
      have hlen : (fullN i).length ≤ 30 := by
        rcases i with _ | _ | _ | _ | i
        · decide +kernel
        · decide +kernel
        · decide +kernel
        · decide +kernel
        · omega
      have hmem : t ∈ fullIt := List.mem_of_getElem? ht
      have hb : t.1 ≤ 15 ∧ t.2.1 ≤ 5 ∧ t.2.2 ≤ 5 := by
        have : ∀ t ∈ fullIt, t.1 ≤ 15 ∧ t.2.1 ≤ 5 ∧ t.2.2 ≤ 5 := by decide +kernel
        exact this t hmem
      obtain ⟨b, wn, mn⟩ := t
      refine gj_tup rfl ?_
      walk_at "v"
      show SJ K [.ml false l ((fullN i).map knotD), s1, .no, .dat false (.int b), .dat false (.int wn), .dat false (.int mn)] _ _
      simp only at hb
      refine sj_for false (wi_rng (wd_var rfl ⟨_, rfl, ⟨by omega, by omega⟩, ?_⟩))
      refine ⟨fun j Γ' => ∃ s1, Γ' = [.ml false l ((fullN i ++ List.replicate j (fullR b wn)).map knotD), s1, .no, .dat false (.int b), .dat false (.int wn), .dat false (.int mn)], ⟨s1, by simp⟩, ?_, ?_⟩
      · rintro j d Γ' hd ⟨s1, rfl⟩
        obtain ⟨hjn, rfl⟩ := rangeD_of hd
        have hj5 : j < 5 := by simp at hjn; omega
        refine gj_name ?_
        refine sj_app rfl (by simp; omega) (wd_lcMa (mi := false) (fun (n : Nat) => PyData.int n) (fun n => (Wy.knot (b + n)).d) (wipeOk_no rfl wipeOk_nil) gwn (wi_rng (wd_var rfl ⟨_, rfl, ⟨by omega, by omega⟩, List.range wn, by rw [Int.toNat_natCast]; exact rangeD_nats wn, by simp; omega, fun j c hc => gj_name ⟨rfl, ?_⟩, ?_⟩)))
        · walk_at "v"
          show PyData.tuple [.str "knot", .int ((b : Int) + c)] = (Wy.knot (b + c)).d
          rfl
        · refine ⟨.dat false (.int (0 + j)), ?_⟩
          have e : ((List.range wn).map fun n => (Wy.knot (b + n)).d) = (fullR b wn).map Wy.d := by simp [fullR]
          have e2 : (fullN i ++ List.replicate (j + 1) (fullR b wn)).map knotD = (fullN i ++ List.replicate j (fullR b wn)).map knotD ++ [knotD (fullR b wn)] := by
            rw [List.replicate_succ', ← List.append_assoc, List.map_append]
            rfl
          rw [e, e2]
          rfl
      · rintro Γ' ⟨s1, rfl⟩
        rw [rangeD_len, Int.toNat_natCast]
        refine ⟨s1, .dat false (.int b), .dat false (.int wn), .dat false (.int mn), ?_⟩
        rw [fullN_succ ht]
        rfl
  rintro Γ' ⟨s1, s3, s4, s5, rfl⟩
  refine sj_frz 0 rfl ?_
  show SJ K [.dat false (.list ((fullN 4).map knotD)), s1, .no, s3, s4, s5] _ _
  refine sj_retD false ?_
  walk_at "v"
  refine rd_cat (by decide +kernel) ⟨keep_nil, ?_⟩
  have e : (fullN 4).map knotD ++ [PyData.list [.tuple [.str "knot", .int 19], .tuple [.str "nothing"]]] = fullK.map knotD := by
    unfold fullK
    rw [List.map_append]
    rfl
  rw [e]
  exact q
end
end Wb
end
section
set_option Elab.async false
set_option linter.all false
set_option maxRecDepth 100000
/-! Law k32: its own defs. -/
open PySem L2 Pk
local macro_rules | `(tactic| walk_at "sh") => `(tactic| first | exact sh_int | exact sh_bool | exact sh_non | exact sh_nil | exact sh_str (by decide +kernel) | assumption)
local macro_rules | `(tactic| walk_at "v1") => `(tactic| first
  | (with_reducible refine wd_int ?_) | (with_reducible refine wd_str ?_) | (with_reducible refine wd_bl ?_) | (with_reducible refine wd_non ?_)
  | ((with_reducible apply wd_var); exact rfl) | ((with_reducible apply wd_varN); exact rfl)
  | ((with_reducible apply wd_ixm); exact rfl)
  | ((with_reducible apply wd_lenM); exact rfl) | ((with_reducible apply wd_lenScript); exact rfl) | ((with_reducible apply wd_ixScript); exact rfl)
  | (with_reducible refine wd_op ?_) | (with_reducible refine wd_un ?_)
  | (with_reducible refine rd_add ?_) | (with_reducible refine rd_sub ?_) | (with_reducible refine rd_lt ?_) | (with_reducible refine rd_le ?_) | (with_reducible refine rd_gt ?_) | (with_reducible refine rd_ge ?_) | (with_reducible refine ru_neg ?_)
  | ((with_reducible refine rd_eq ?ev_h ?ev_k ?_); (case ev_h => walk_at "sh"); (case ev_k => walk_at "sh")) | ((with_reducible refine rd_ne ?ev_h ?ev_k ?_); (case ev_h => walk_at "sh"); (case ev_k => walk_at "sh"))
  | ((with_reducible refine rd_mod ?ev_h ?_); case ev_h => first | decide | assumption | omega) | ((with_reducible refine rd_div ?ev_h ?ev_k ?_); (case ev_h => first | decide | assumption | omega); (case ev_k => first | decide | assumption | omega))
  | ((with_reducible refine rd_pow ?ev_h ?_); case ev_h => exact ⟨by decide, by decide, by decide⟩)
  | ((with_reducible refine rd_mul ?ev_h ?_); case ev_h => first | exact .inr ⟨by decide, by decide⟩ | exact .inl ⟨by decide, by decide⟩ | exact .inl ⟨by omega, by omega⟩ | exact .inr ⟨by omega, by omega⟩)
  | (with_reducible refine rc_lenL ?_) | (with_reducible refine rc_lenT ?_) | (with_reducible refine rc_max2 ?_) | (with_reducible refine rc_min2 ?_) | (with_reducible refine rc_intB ?_) | (with_reducible refine rc_intI ?_) | (with_reducible refine rc_listL ?_) | (with_reducible refine rc_listT ?_) | (with_reducible refine rc_tupleL ?_)
  | ((with_reducible apply rd_ixT); exact rfl)
  | ((with_reducible apply rd_ixL); exact rfl)
  | ((with_reducible refine wd_isi ?ev_h ?_); case ev_h => decide) | ((with_reducible refine wd_isi2 ?ev_h ?ev_k ?_); (case ev_h => decide); (case ev_k => decide))
  | (with_reducible refine wd_tup2 ?_) | (with_reducible refine wd_tup1 ?_) | (with_reducible refine wd_tup3 ?_) | (with_reducible refine wd_tup0 ?_)
  | (with_reducible refine wd_lst0 ?_) | (with_reducible refine wd_lst1 ?_) | (with_reducible refine wd_lst2 ?_) | (with_reducible refine wd_lst3 ?_) | (with_reducible refine wd_lst4 ?_) | (with_reducible refine wd_lst5 ?_) | (with_reducible refine wd_lst6 ?_)
  | ((with_reducible apply wd_callO0); exact rfl) | ((with_reducible apply wd_callO1); exact rfl) | ((with_reducible apply wd_callO2); exact rfl) | ((with_reducible apply wd_callO3); exact rfl)
  | (with_reducible refine wd_call1 ?_) | (with_reducible refine wd_call2 ?_) | (with_reducible refine wd_call3 ?_) | (with_reducible refine wd_call4 ?_) | (with_reducible refine wd_call0 ?_)
  | (with_reducible refine wd_cb1 ?_) | (with_reducible refine wd_cb2 ?_)
  | (with_reducible refine wd_rev ?_) | (with_reducible refine wd_lrg1 ?_) | (with_reducible refine wd_sl ?_) | (with_reducible refine wo_no ?_) | (with_reducible refine wo_some ?_)
  | (with_reducible refine wd_andV ?_) | (with_reducible refine wd_orV ?_) | (with_reducible refine wd_notV ?_) | (with_reducible refine wd_if ?_) | (with_reducible refine wd_chain ?_)
  | (with_reducible refine wt_test ?_) | (with_reducible refine wt_B ?_) | (with_reducible refine wt_not ?_) | (with_reducible refine wt_and ?_) | (with_reducible refine wt_or ?_) | (with_reducible refine wt_yes ?_)
  | (with_reducible refine gj_name ?_) | (with_reducible refine gj_tup rfl ?_) | (with_reducible refine gjs_cons ?_) | (with_reducible refine gjs_nil ?_))
local macro_rules | `(tactic| walk_at "v") => `(tactic| repeat walk_at "v1")
local macro_rules | `(tactic| walk_at "x") => `(tactic| refine ⟨_, rfl, ?_⟩)
local macro_rules | `(tactic| walk_at "vx") => `(tactic| repeat (first | walk_at "v1" | (with_reducible refine ⟨_, rfl, ?_⟩)))
namespace Wb
open PySem PySem.Spec PyProof.Rows L2 Pk Sy
/-! ### the word for a web -/
def wordD (n : Nat) : PyData := if n ≤ 2000 then .int n else .str "many"
def wayI (b : Bool) : Int := if b then 1 else 0
def T_word (K : PySem.W.Frag) : List Sl → (Sl → Prop) → Prop := fun Γ Q => ∃ b top ks, Γ = [.dat false (.int (wayI b)), .dat false (webD top ks)] ∧ KnotsOk ks ∧ ks.length ≤ 300 ∧ WayOk ks.length top ∧ Q (.dat true (wordD (runs ks (tks b ks) top).length))
/-- what is asked of the classes -/
structure ClsF (K : PySem.W.Frag) (C R : Addr) (os : List Addr) : Prop where
  c : ExcC K C
  exm : PySem.W.exmOne K (.ref C) (.ref R) = some true
  no : ∀ o ∈ os, PySem.W.kitOne K (.ref C) (.ref o) = some false
  own : PySem.W.kitOne K (.ref C) (.ref C) = some true
  ve : PySem.W.kitOne K (.ref C) (.type "ValueError") = some true
theorem kitAny_no {K : PySem.W.Frag} {t : Value} : ∀ {os : List Addr}, (∀ o ∈ os, PySem.W.kitOne K t (.ref o) = some false) → PySem.W.kitAny K t (os.map Value.ref) = some false
  | [], _ => kitAny_nil
  | o :: os, h => kitAny_cons (h o List.mem_cons_self) (fun _ => kitAny_no fun x hx => h x (List.mem_cons_of_mem _ hx)) (fun z => nomatch z)
theorem paired_own : ∀ os : List Addr, Paired ClsV (os.map V.ref) (os.map Value.ref)
  | [] => .nil
  | o :: os => .cons (.own o) (paired_own os)
section
variable {P : Program} {w : World} {K : PySem.W.Frag} {mg : Str → Option Value} {base : Heap} {k : Nat}
theorem ok_word {C R o1 o2 o3 o4 o5 o6 o7 : Addr} (D : Def K mg "_law_word" s_l_word ["way", "web"]) (F : ClsF K C R [o1, o2, o3, o4, o5, o6, o7]) (c_ofweb : Cal P w K mg base (L2.CX P w) k "runs_of_web" ["web"] (spX K (T_ofwebX every C K))) (c_first : Cal P w K mg base (L2.CX P w) k "first_runs" ["web"] (spX K (T_ofwebX firsts C K)))
    (m_int : mg "int" = none) (m_isinstance : mg "isinstance" = none) (m_ValueError : mg "ValueError" = none) (m_len : mg "len" = none)
    (g_TooMany : mg "TooMany" = some (.ref C)) (g_RunError : mg "RunError" = some (.ref R)) (g1 : mg "NoChoice" = some (.ref o1)) (g2 : mg "NoFit" = some (.ref o2)) (g3 : mg "NoName" = some (.ref o3)) (g4 : mg "NoNumber" = some (.ref o4)) (g5 : mg "NoRow" = some (.ref o5)) (g6 : mg "NoStore" = some (.ref o6)) (g7 : mg "NoText" = some (.ref o7)) : Cal P w K mg base CX0 (k + 1) "_law_word" ["way", "web"] (spG K (T_word K)) := by
  refine cal_g D sc_l_word (fun Γ Qr ⟨b, top, ks, e, _⟩ => by subst e; exact ⟨rfl, noMl_dat (noMl_dat noMl_nil)⟩) fun f cdv A outer s H E hr => ⟨_, wk_l_word (c_runs_of_web := c_ofweb) (c_first_runs := c_first) (m_int := m_int) (m_isinstance := m_isinstance) (m_ValueError := m_ValueError) (m_len := m_len) (g_TooMany := g_TooMany) (g_RunError := g_RunError) (g_NoChoice := g1) (g_NoFit := g2) (g_NoName := g3) (g_NoNumber := g4) (g_NoRow := g5) (g_NoStore := g6) (g_NoText := g7) f cdv A outer s H E hr, ?_⟩
  rintro Γ Qr ⟨b, top, ks, rfl, hk, hl, hw, q⟩
  show SJ K [.dat false (.int (wayI b)), .dat false (webD top ks), .no, .no, .no] (t_l_word K _ _ _ _ _ _ _ _ _ _ _) _
  unfold t_l_word
  refine sj_seq (sj_set false (wd_non ?_))
  refine sj_seq (sj_setX (wx_lst0 false fun lf => ?_))
  show SJ K [.dat false (.int (wayI b)), .dat false (webD top ks), .dat false .none, .ml false lf [], .no] _ _
  refine sj_cut (fun Γ' => (∃ l, (runs ks (tks b ks) top).length ≤ 2000 ∧ Γ' = [.dat false (.int (wayI b)), .dat false (webD top ks), .dat false .none, .ex (.ref l) (PairsO K (prs (runs ks (tks b ks) top))), .no]) ∨ ∃ a, 2000 < (runs ks (tks b ks) top).length ∧ Γ' = [.dat false (.int (wayI b)), .dat false (webD top ks), .ex (.ref a) (ExcO K C), .ml false lf [], .no]) ?_ ?_
  · refine sj_tryKeep (i := 4) (j := 2) (by decide) fun W => sj_if ?_
    walk_at "v"
    walk_at "x"
    rw [eqv_int]
    cases b with
    | false =>
      refine iteD (fun _ => sj_setW (wxw_call1 (wd_var rfl ⟨top, ks, rfl, hk, hl, hw, fun h l => .inl ⟨l, h, rfl⟩, fun h => ⟨true, F.exm, fun _ => ⟨C, rfl, rfl, by simp, rfl, fun a => .inr ⟨a, h, rfl⟩⟩, fun z => nomatch z⟩⟩))) (fun h => absurd rfl h)
    | true =>
      refine iteD (fun h => absurd h (by decide)) (fun _ => sj_setW (wxw_call1 (wd_var rfl ⟨top, ks, rfl, hk, hl, hw, fun h l => .inl ⟨l, h, rfl⟩, fun h => ⟨true, F.exm, fun _ => ⟨C, rfl, rfl, by simp, rfl, fun a => .inr ⟨a, h, rfl⟩⟩, fun z => nomatch z⟩⟩)))
  rintro _ (⟨l, h, rfl⟩ | ⟨a, h, rfl⟩)
  · refine sj_seq (sj_if (wt_test (wd_isN (wd_var rfl ⟨_, rfl, iteT' rfl ?_⟩))))
    refine sj_retD true (wd_thaw ?_)
    show WD K false [.dat false (.int (wayI b)), .dat false (webD top ks), .dat false .none, .dat false (.list (pairsD (prs (runs ks (tks b ks) top)))), .no] _ _
    rw [pairsD_prs]
    walk_at "v"
    rw [runsD_len]
    unfold wordD at q
    rw [if_pos h] at q
    exact ⟨rfl, keep_dat (keep_dat keep_nil), q⟩
  · refine sj_seq (sj_if (wt_test (wd_isNo rfl ⟨_, rfl, iteF' rfl (sj_next ?_)⟩)))
    refine sj_seq (sj_if (wt_B (wd_isXT (cs := [o1, o2, o3, o4, o5, o6, o7].map V.ref) (us := [o1, o2, o3, o4, o5, o6, o7].map Value.ref) (b := false) rfl F.c (fun _ _ _ => rfl) (by simp) (paired_own _) (kitAny_no F.no) ⟨_, rfl, iteF' rfl (sj_next ?_)⟩)))
    refine sj_retD true (wd_lf (wd_op (wd_lst2 (wd_str (wd_str (wd_cb1 (wd_andV (wd_isX rfl F.c (.own C) F.own ⟨_, rfl, iteT' rfl (wd_isX rfl F.c (.ty "ValueError") F.ve ?_)⟩))))))))
    walk_at "v"
    unfold wordD at q
    rw [if_neg (by omega)] at q
    exact ⟨rfl, keep_dat (keep_dat keep_nil), q⟩
end
end Wb
end
section
set_option Elab.async false
set_option linter.all false
set_option maxRecDepth 100000
/-! Law k32: tall webs, chains. -/
open PySem L2 Pk
local macro_rules | `(tactic| walk_at "sh") => `(tactic| first | exact sh_int | exact sh_bool | exact sh_non | exact sh_nil | exact sh_str (by decide +kernel) | assumption)
local macro_rules | `(tactic| walk_at "v1") => `(tactic| first
  | (with_reducible refine wd_int ?_) | (with_reducible refine wd_str ?_) | (with_reducible refine wd_bl ?_) | (with_reducible refine wd_non ?_)
  | ((with_reducible apply wd_var); exact rfl) | ((with_reducible apply wd_varN); exact rfl)
  | ((with_reducible apply wd_ixm); exact rfl)
  | ((with_reducible apply wd_lenM); exact rfl) | ((with_reducible apply wd_lenScript); exact rfl) | ((with_reducible apply wd_ixScript); exact rfl)
  | (with_reducible refine wd_op ?_) | (with_reducible refine wd_un ?_)
  | (with_reducible refine rd_add ?_) | (with_reducible refine rd_sub ?_) | (with_reducible refine rd_lt ?_) | (with_reducible refine rd_le ?_) | (with_reducible refine rd_gt ?_) | (with_reducible refine rd_ge ?_) | (with_reducible refine ru_neg ?_)
  | ((with_reducible refine rd_eq ?ev_h ?ev_k ?_); (case ev_h => walk_at "sh"); (case ev_k => walk_at "sh")) | ((with_reducible refine rd_ne ?ev_h ?ev_k ?_); (case ev_h => walk_at "sh"); (case ev_k => walk_at "sh"))
  | ((with_reducible refine rd_mod ?ev_h ?_); case ev_h => first | decide | assumption | omega) | ((with_reducible refine rd_div ?ev_h ?ev_k ?_); (case ev_h => first | decide | assumption | omega); (case ev_k => first | decide | assumption | omega))
  | ((with_reducible refine rd_pow ?ev_h ?_); case ev_h => exact ⟨by decide, by decide, by decide⟩)
  | ((with_reducible refine rd_mul ?ev_h ?_); case ev_h => first | exact .inr ⟨by decide, by decide⟩ | exact .inl ⟨by decide, by decide⟩ | exact .inl ⟨by omega, by omega⟩ | exact .inr ⟨by omega, by omega⟩)
  | (with_reducible refine rc_lenL ?_) | (with_reducible refine rc_lenT ?_) | (with_reducible refine rc_max2 ?_) | (with_reducible refine rc_min2 ?_) | (with_reducible refine rc_intB ?_) | (with_reducible refine rc_intI ?_) | (with_reducible refine rc_listL ?_) | (with_reducible refine rc_listT ?_) | (with_reducible refine rc_tupleL ?_)
  | ((with_reducible apply rd_ixT); exact rfl)
  | ((with_reducible apply rd_ixL); exact rfl)
  | ((with_reducible refine wd_isi ?ev_h ?_); case ev_h => decide) | ((with_reducible refine wd_isi2 ?ev_h ?ev_k ?_); (case ev_h => decide); (case ev_k => decide))
  | (with_reducible refine wd_tup2 ?_) | (with_reducible refine wd_tup1 ?_) | (with_reducible refine wd_tup3 ?_) | (with_reducible refine wd_tup0 ?_)
  | (with_reducible refine wd_lst0 ?_) | (with_reducible refine wd_lst1 ?_) | (with_reducible refine wd_lst2 ?_) | (with_reducible refine wd_lst3 ?_) | (with_reducible refine wd_lst4 ?_) | (with_reducible refine wd_lst5 ?_) | (with_reducible refine wd_lst6 ?_)
  | ((with_reducible apply wd_callO0); exact rfl) | ((with_reducible apply wd_callO1); exact rfl) | ((with_reducible apply wd_callO2); exact rfl) | ((with_reducible apply wd_callO3); exact rfl)
  | (with_reducible refine wd_call1 ?_) | (with_reducible refine wd_call2 ?_) | (with_reducible refine wd_call3 ?_) | (with_reducible refine wd_call4 ?_) | (with_reducible refine wd_call0 ?_)
  | (with_reducible refine wd_cb1 ?_) | (with_reducible refine wd_cb2 ?_)
  | (with_reducible refine wd_rev ?_) | (with_reducible refine wd_lrg1 ?_) | (with_reducible refine wd_sl ?_) | (with_reducible refine wo_no ?_) | (with_reducible refine wo_some ?_)
  | (with_reducible refine wd_andV ?_) | (with_reducible refine wd_orV ?_) | (with_reducible refine wd_notV ?_) | (with_reducible refine wd_if ?_) | (with_reducible refine wd_chain ?_)
  | (with_reducible refine wt_test ?_) | (with_reducible refine wt_B ?_) | (with_reducible refine wt_not ?_) | (with_reducible refine wt_and ?_) | (with_reducible refine wt_or ?_) | (with_reducible refine wt_yes ?_)
  | (with_reducible refine gj_name ?_) | (with_reducible refine gj_tup rfl ?_) | (with_reducible refine gjs_cons ?_) | (with_reducible refine gjs_nil ?_))
local macro_rules | `(tactic| walk_at "v") => `(tactic| repeat walk_at "v1")
local macro_rules | `(tactic| walk_at "x") => `(tactic| refine ⟨_, rfl, ?_⟩)
local macro_rules | `(tactic| walk_at "vx") => `(tactic| repeat (first | walk_at "v1" | (with_reducible refine ⟨_, rfl, ?_⟩)))
namespace Wb
open PySem PySem.Spec PyProof.Rows L2 Pk Sy
theorem rep_flat {α : Type} (n : Nat) (x : α) : (List.replicate n [x]).flatten = List.replicate n x := by
  induction n with
  | zero => rfl
  | succ n ih => rw [List.replicate_succ, List.flatten_cons, ih]; rfl
theorem knotsD_sh (ks : List (List Wy)) : SeqAt.shaped (.list (ks.map knotD)) = true := by
  refine dep_shaped (n := 3) ?_ (by decide)
  intro x hx
  obtain ⟨k, _, rfl⟩ := List.mem_map.mp hx
  exact knotD_dep k
def T_tall (K : PySem.W.Frag) : List Sl → (Sl → Prop) → Prop := fun Γ Q => ∃ v, Γ = [.ex v (StoreO K)] ∧ ∀ ks, KnotsOk ks → ks.length ≤ 300 → ∀ j, j < ks.length → Q (.dat false (webD (.knot j) ks))
section
variable {P : Program} {w : World} {K : PySem.W.Frag} {mg : Str → Option Value} {base : Heap} {k : Nat}
theorem ok_tall (D : Def K mg "_law_tall" s_l_tall ["store"]) (c_take : Cal P w K mg base CX0 k "_law_take" ["store", "many"] (spG K (T_take K))) (c_way : Cal P w K mg base CX0 k "_law_way" ["store", "many"] (spG K (T_way K))) (c_knots : Cal P w K mg base CX0 k "_law_knots" ["store"] (spG K (T_knots K))) (m_range : mg "range" = none) (m_len : mg "len" = none) : Cal P w K mg base CX0 (k + 1) "_law_tall" ["store"] (spG K (T_tall K)) := by
  refine cal_g D sc_l_tall (fun Γ Qr ⟨v, e, _⟩ => by subst e; exact ⟨rfl, noMl_ex noMl_nil⟩) fun f cdv A outer s H E hr => ⟨_, wk_l_tall (c_l_take := c_take) (c_l_way := c_way) (c_l_knots := c_knots) (m_range := m_range) (m_len := m_len) f cdv A outer s H E hr, ?_⟩
  rintro Γ Qr ⟨v, rfl, q⟩
  show SJ K [.ex v (StoreO K), .no, .no, .no, .no] (t_l_tall K _ _ _) _
  unfold t_l_tall
  refine sj_seq (sj_unTL (by decide) (wx_callO0 rfl ⟨v, rfl, fun v' top ks0 hk0 hl0 hw0 => ⟨v', _, _, rfl, fun l0 => ?_⟩⟩))
  show SJ K [.ex v (StoreO K), .dat false top.d, .ml false l0 (ks0.map knotD), .no, .no] _ _
  refine sj_cut (fun Γ' => ∃ l ks, KnotsOk ks ∧ 0 < ks.length ∧ ks.length ≤ 40 ∧ Γ' = [.ex v (StoreO K), .dat false top.d, .ml false l (ks.map knotD), .no, .no]) (sj_if (wt_thaw ?_)) ?_
  · show WT K [.ex v (StoreO K), .dat false top.d, .dat false (.list (ks0.map knotD)), .no, .no] _ _
    walk_at "v"
    refine rd_eq (knotsD_sh _) sh_nil ⟨_, rfl, ?_⟩
    rw [eqv_nil]
    cases ks0 with
    | nil =>
      refine iteT' rfl ?_
      refine sj_setX (wx_lst1 false ?_)
      walk_at "v"
      exact fun l => ⟨l, [[.nothing, .gives 1, .gives 2]], knotsB_ok (by decide +kernel), by decide, by decide, rfl⟩
    | cons k0 ks0 => exact iteF' rfl (sj_next ⟨l0, k0 :: ks0, hk0, by simp, hl0, rfl⟩)
  rintro _ ⟨l, ks, hk, hpos, hl40, rfl⟩
  refine sj_cut (fun Γ' => ∃ ks s3 s4, KnotsOk ks ∧ 0 < ks.length ∧ ks.length ≤ 300 ∧ Γ' = [.ex v (StoreO K), .dat false top.d, .ml false l (ks.map knotD), s3, s4]) (sj_for false (wi_rng ?_)) ?_
  · walk_at "v"
    refine use_take (by decide) (by decide) fun r1 a0 a1 => ?_
    refine rd_sel a0 a1 fun d hd => ?_
    have key : ∃ n : Int, 0 < n ∧ n ≤ 200 ∧ d = .int n := by
      simp at hd
      rcases hd with z | z | z | z | z
      · exact ⟨6, by decide, by decide, z⟩
      · exact ⟨40, by decide, by decide, z⟩
      · exact ⟨6, by decide, by decide, z⟩
      · exact ⟨40, by decide, by decide, z⟩
      · exact ⟨200, by decide, by decide, z⟩
    obtain ⟨n, n0, n1, rfl⟩ := key
    refine use_take n0 (by omega) fun r2 b0 b1 => ?_
    walk_at "v"
    refine ⟨_, rfl, ⟨by omega, by omega⟩, fun i Γ' => ∃ ks s3 s4, KnotsOk ks ∧ 0 < ks.length ∧ ks.length ≤ 40 + i ∧ Γ' = [.ex v (StoreO K), .dat false top.d, .ml false l (ks.map knotD), s3, s4], ⟨ks, .no, .no, hk, hpos, by omega, rfl⟩, ?_, ?_⟩
    · rintro i d Γ' hd ⟨ks, s3, s4, hk, hpos, hln, rfl⟩
      obtain ⟨hin, rfl⟩ := rangeD_of hd
      have hi : i < 203 := by omega
      refine gj_name ?_
      show SJ K [.ex v (StoreO K), .dat false top.d, .ml false l (ks.map knotD), .dat false (.int (0 + i)), s4] _ _
      refine sj_seq (sj_setX (wx_op false (wd_op ?_)))
      walk_at "v"
      refine use_take (by decide) (by decide) fun r3 c0 c1 => ?_
      walk_at "v"
      refine rd_rep (by omega) (by omega) (by simp; omega) ?_
      walk_at "v"
      rw [List.length_map]
      refine use_way (by omega) fun wy hwy => ?_
      have hr3 : ((1 : Int) + r3).toNat = 1 + r3.toNat := by omega
      rw [rep_flat, hr3]
      refine rx_cat (by simp; omega) fun lw => ?_
      have ex : ((ks.length : Nat) : Int) - 1 = ((ks.length - 1 : Nat) : Int) := by omega
      have e : List.replicate (1 + r3.toNat) (PyData.tuple [.str "knot", .int ((ks.length : Nat) - 1 : Int)]) ++ [wy.d] = (List.replicate (1 + r3.toNat) (Wy.knot (ks.length - 1)) ++ [wy]).map Wy.d := by
        rw [ex, List.map_append, List.map_replicate]
        rfl
      rw [e]
      refine sj_cut (fun Γ' => ∃ ws : List Wy, 2 ≤ ws.length ∧ ws.length ≤ 6 ∧ (∀ x ∈ ws, WayOk ks.length x) ∧ Γ' = [.ex v (StoreO K), .dat false top.d, .ml false l (ks.map knotD), .dat false (.int (0 + i)), .ml false lw (ws.map Wy.d)]) (sj_if ?_) ?_
      · have h1 : ∀ x ∈ List.replicate (1 + r3.toNat) (Wy.knot (ks.length - 1)) ++ [wy], WayOk ks.length x := fun x hx => by
          rcases List.mem_append.mp hx with z | z
          · obtain ⟨_, rfl⟩ := List.mem_replicate.mp z
            show ks.length - 1 < ks.length
            omega
          · simp at z
            subst z
            exact hwy
        have h2 : 2 ≤ (List.replicate (1 + r3.toNat) (Wy.knot (ks.length - 1)) ++ [wy]).length ∧ (List.replicate (1 + r3.toNat) (Wy.knot (ks.length - 1)) ++ [wy]).length ≤ 5 := by simp; omega
        generalize List.replicate (1 + r3.toNat) (Wy.knot (ks.length - 1)) ++ [wy] = ws at h1 h2
        show WT K [.ex v (StoreO K), .dat false top.d, .ml false l (ks.map knotD), .dat false (.int (0 + i)), .ml false lw (ws.map Wy.d)] _ _
        walk_at "v"
        refine use_take (by decide) (by decide) fun r4 d0 d1 => ?_
        walk_at "v"
        walk_at "x"
        rw [eqv_int]
        refine iteD (fun _ => ?_) (fun _ => sj_next ⟨ws, h2.1, by omega, h1, rfl⟩)
        refine sj_app rfl (by rw [List.length_map]; omega) ?_
        walk_at "v"
        rw [List.length_map]
        refine use_take (by omega) (by omega) fun r5 e0 e1 => ?_
        have hr5 : r5 = ((r5.toNat : Nat) : Int) := by omega
        refine ⟨ws ++ [.knot r5.toNat], by simp; omega, by simp; omega, fun x hx => ?_, ?_⟩
        · rcases List.mem_append.mp hx with z | z
          · exact h1 x z
          · simp at z
            subst z
            show r5.toNat < ks.length
            omega
        · rw [hr5, List.map_append]
          rfl
      rintro _ ⟨ws, hw2, hw6, hws, rfl⟩
      refine sj_frz 4 rfl ?_
      show SJ K [.ex v (StoreO K), .dat false top.d, .ml false l (ks.map knotD), .dat false (.int (0 + i)), .dat false (.list (ws.map Wy.d))] _ _
      refine sj_app rfl (by rw [List.length_map]; omega) ?_
      walk_at "v"
      refine ⟨_, rfl, ?_⟩
      walk_at "v"
      refine ⟨_, rfl, ?_⟩
      have e5 : Pk.cutD (ws.map Wy.d) none (some (5 : Int)) = (ws.take 5).map Wy.d := by
        rw [show (5 : Int) = ((5 : Nat) : Int) from rfl, cutD_take, List.map_take]
      rw [e5]
      refine ⟨ks ++ [ws.take 5], .dat false (.int (0 + i)), .dat false (.list (ws.map Wy.d)), knotsOk_app hk (by simp; omega) (by simp; omega) (fun x hx => hws x (List.mem_of_mem_take hx)), by simp, by simp; omega, ?_⟩
      rw [List.map_append]
      rfl
    · rintro Γ' ⟨ks, s3, s4, hk, hpos, hln, rfl⟩
      rw [rangeD_len] at hln
      exact ⟨ks, s3, s4, hk, hpos, by omega, rfl⟩
  rintro _ ⟨ks, s3, s4, hk, hpos, hl, rfl⟩
  refine sj_frz 2 rfl ?_
  show SJ K [.ex v (StoreO K), .dat false top.d, .dat false (.list (ks.map knotD)), s3, s4] _ _
  refine sj_retD false ?_
  walk_at "v"
  rw [List.length_map]
  refine ⟨keep_ex keep_nil, ?_⟩
  have ex : ((ks.length : Nat) : Int) - 1 = ((ks.length - 1 : Nat) : Int) := by omega
  rw [ex]
  exact q ks hk hl (ks.length - 1) (by omega)
end
end Wb
end
section
set_option Elab.async false
set_option linter.all false
set_option maxRecDepth 100000
/-! Law k32: chains. -/
open PySem L2 Pk
local macro_rules | `(tactic| walk_at "sh") => `(tactic| first | exact sh_int | exact sh_bool | exact sh_non | exact sh_nil | exact sh_str (by decide +kernel) | assumption)
local macro_rules | `(tactic| walk_at "v1") => `(tactic| first
  | (with_reducible refine wd_int ?_) | (with_reducible refine wd_str ?_) | (with_reducible refine wd_bl ?_) | (with_reducible refine wd_non ?_)
  | ((with_reducible apply wd_var); exact rfl) | ((with_reducible apply wd_varN); exact rfl)
  | ((with_reducible apply wd_ixm); exact rfl)
  | ((with_reducible apply wd_lenM); exact rfl) | ((with_reducible apply wd_lenScript); exact rfl) | ((with_reducible apply wd_ixScript); exact rfl)
  | (with_reducible refine wd_op ?_) | (with_reducible refine wd_un ?_)
  | (with_reducible refine rd_add ?_) | (with_reducible refine rd_sub ?_) | (with_reducible refine rd_lt ?_) | (with_reducible refine rd_le ?_) | (with_reducible refine rd_gt ?_) | (with_reducible refine rd_ge ?_) | (with_reducible refine ru_neg ?_)
  | ((with_reducible refine rd_eq ?ev_h ?ev_k ?_); (case ev_h => walk_at "sh"); (case ev_k => walk_at "sh")) | ((with_reducible refine rd_ne ?ev_h ?ev_k ?_); (case ev_h => walk_at "sh"); (case ev_k => walk_at "sh"))
  | ((with_reducible refine rd_mod ?ev_h ?_); case ev_h => first | decide | assumption | omega) | ((with_reducible refine rd_div ?ev_h ?ev_k ?_); (case ev_h => first | decide | assumption | omega); (case ev_k => first | decide | assumption | omega))
  | ((with_reducible refine rd_pow ?ev_h ?_); case ev_h => exact ⟨by decide, by decide, by decide⟩)
  | ((with_reducible refine rd_mul ?ev_h ?_); case ev_h => first | exact .inr ⟨by decide, by decide⟩ | exact .inl ⟨by decide, by decide⟩ | exact .inl ⟨by omega, by omega⟩ | exact .inr ⟨by omega, by omega⟩)
  | (with_reducible refine rc_lenL ?_) | (with_reducible refine rc_lenT ?_) | (with_reducible refine rc_max2 ?_) | (with_reducible refine rc_min2 ?_) | (with_reducible refine rc_intB ?_) | (with_reducible refine rc_intI ?_) | (with_reducible refine rc_listL ?_) | (with_reducible refine rc_listT ?_) | (with_reducible refine rc_tupleL ?_)
  | ((with_reducible apply rd_ixT); exact rfl)
  | ((with_reducible apply rd_ixL); exact rfl)
  | ((with_reducible refine wd_isi ?ev_h ?_); case ev_h => decide) | ((with_reducible refine wd_isi2 ?ev_h ?ev_k ?_); (case ev_h => decide); (case ev_k => decide))
  | (with_reducible refine wd_tup2 ?_) | (with_reducible refine wd_tup1 ?_) | (with_reducible refine wd_tup3 ?_) | (with_reducible refine wd_tup0 ?_)
  | (with_reducible refine wd_lst0 ?_) | (with_reducible refine wd_lst1 ?_) | (with_reducible refine wd_lst2 ?_) | (with_reducible refine wd_lst3 ?_) | (with_reducible refine wd_lst4 ?_) | (with_reducible refine wd_lst5 ?_) | (with_reducible refine wd_lst6 ?_)
  | ((with_reducible apply wd_callO0); exact rfl) | ((with_reducible apply wd_callO1); exact rfl) | ((with_reducible apply wd_callO2); exact rfl) | ((with_reducible apply wd_callO3); exact rfl)
  | (with_reducible refine wd_call1 ?_) | (with_reducible refine wd_call2 ?_) | (with_reducible refine wd_call3 ?_) | (with_reducible refine wd_call4 ?_) | (with_reducible refine wd_call0 ?_)
  | (with_reducible refine wd_cb1 ?_) | (with_reducible refine wd_cb2 ?_)
  | (with_reducible refine wd_rev ?_) | (with_reducible refine wd_lrg1 ?_) | (with_reducible refine wd_sl ?_) | (with_reducible refine wo_no ?_) | (with_reducible refine wo_some ?_)
  | (with_reducible refine wd_andV ?_) | (with_reducible refine wd_orV ?_) | (with_reducible refine wd_notV ?_) | (with_reducible refine wd_if ?_) | (with_reducible refine wd_chain ?_)
  | (with_reducible refine wt_test ?_) | (with_reducible refine wt_B ?_) | (with_reducible refine wt_not ?_) | (with_reducible refine wt_and ?_) | (with_reducible refine wt_or ?_) | (with_reducible refine wt_yes ?_)
  | (with_reducible refine gj_name ?_) | (with_reducible refine gj_tup rfl ?_) | (with_reducible refine gjs_cons ?_) | (with_reducible refine gjs_nil ?_))
local macro_rules | `(tactic| walk_at "v") => `(tactic| repeat walk_at "v1")
local macro_rules | `(tactic| walk_at "x") => `(tactic| refine ⟨_, rfl, ?_⟩)
local macro_rules | `(tactic| walk_at "vx") => `(tactic| repeat (first | walk_at "v1" | (with_reducible refine ⟨_, rfl, ?_⟩)))
namespace Wb
open PySem PySem.Spec PyProof.Rows L2 Pk Sy
/-! ### chains: few runs -/
def ChainOk (ks : List (List Wy)) : Prop := ∀ (i : Nat) (kn : List Wy), ks[i]? = some kn → ∀ f : Wy → Nat, (∀ x, (∀ j, x ≠ .knot j) → f x = 1) → (kn.map f).sum ≤ if i = 0 then 1 else f (.knot (i - 1)) + 2
theorem len_flat {α β γ : Type} (g : α → List β) (h : α → β → γ) (l : List α) : (l.flatMap fun c => (g c).map (h c)).length = (l.map fun c => (g c).length).sum := by
  induction l with
  | nil => rfl
  | cons x l ih => rw [List.flatMap_cons, List.length_append, List.length_map, ih, List.map_cons, List.sum_cons]
theorem sum_filter {α : Type} (p : α → Bool) (g : α → Nat) (l : List α) : ((l.filter p).map g).sum ≤ (l.map g).sum := by
  induction l with
  | nil => exact Nat.le_refl _
  | cons x l ih =>
    by_cases h : p x = true
    · rw [List.filter_cons_of_pos h, List.map_cons, List.sum_cons, List.map_cons, List.sum_cons]
      omega
    · rw [List.filter_cons_of_neg h, List.map_cons, List.sum_cons]
      omega
theorem range_kget (kn : List Wy) (f : Wy → Nat) : ((List.range kn.length).map fun c => f (kget kn c)) = kn.map f := by
  apply List.ext_getElem?
  intro i
  by_cases hi : i < kn.length
  · simp [hi, kget, List.getD_eq_getElem?_getD]
  · rw [List.getElem?_eq_none (by simp; omega), List.getElem?_eq_none (by simp; omega)]
theorem tks_sum {ks : List (List Wy)} {i : Nat} {kn : List Wy} (h : ks[i]? = some kn) (b : Bool) (f : Wy → Nat) : (((tks b ks).getD i []).map fun c => f (kget kn c)).sum ≤ (kn.map f).sum := by
  rw [← range_kget kn f]
  cases b with
  | false =>
    have e : (tks false ks).getD i [] = List.range kn.length := by simp [tks, every, List.getD_eq_getElem?_getD, h]
    rw [e]
    exact Nat.le_refl _
  | true =>
    have e : (tks true ks).getD i [] = (List.range kn.length).filter (isFirst kn) := by simp [tks, firsts, firstsK, List.getD_eq_getElem?_getD, h]
    rw [e]
    exact sum_filter _ _ _
theorem chain_le {ks : List (List Wy)} (hk : KnotsOk ks) (hc : ChainOk ks) (b : Bool) : ∀ i, i < ks.length → (runs ks (tks b ks) (.knot i)).length ≤ 1 + 2 * i := by
  have T := tk_tks hk b
  intro i
  induction i with
  | zero =>
    intro hi
    have h0 : ks[0]? = some ks[0] := List.getElem?_eq_getElem hi
    have hg : ks.getD 0 [] = ks[0] := by simp [List.getD_eq_getElem?_getD, hi]
    rw [runs_knot T hi, hg, len_flat]
    refine Nat.le_trans (tks_sum h0 b fun x => (runs ks (tks b ks) x).length) ?_
    have := hc 0 _ h0 (fun x => (runs ks (tks b ks) x).length) (fun x hx => by rw [runs_end hx]; rfl)
    simpa using this
  | succ i ih =>
    intro hi
    have h0 : ks[i + 1]? = some ks[i + 1] := List.getElem?_eq_getElem hi
    have hg : ks.getD (i + 1) [] = ks[i + 1] := by simp [List.getD_eq_getElem?_getD, hi]
    rw [runs_knot T hi, hg, len_flat]
    refine Nat.le_trans (tks_sum h0 b fun x => (runs ks (tks b ks) x).length) ?_
    have h1 := hc (i + 1) _ h0 (fun x => (runs ks (tks b ks) x).length) (fun x hx => by rw [runs_end hx]; rfl)
    have h2 := ih (by omega)
    rw [if_neg (by omega)] at h1
    simp only [Nat.add_sub_cancel] at h1
    omega
theorem chain_app {ks : List (List Wy)} {kn : List Wy} (h : ChainOk ks) (hp : 0 < ks.length) (hn : ∀ f : Wy → Nat, (∀ x, (∀ j, x ≠ .knot j) → f x = 1) → (kn.map f).sum ≤ f (.knot (ks.length - 1)) + 2) : ChainOk (ks ++ [kn]) := fun i k' e f hf => by
  by_cases hi : i < ks.length
  · rw [List.getElem?_append_left hi] at e
    exact h i k' e f hf
  · have hl := (List.getElem?_eq_some_iff.mp e).1
    simp at hl
    have : i = ks.length := by omega
    subst this
    simp at e
    subst e
    rw [if_neg (by omega)]
    exact hn f hf
theorem cutD_drop {α : Type} {xs : List α} {n : Nat} : Pk.cutD xs (some (n : Int)) none = xs.drop n := by
  unfold Pk.cutD
  rw [HT.sIx_nat, HT.sIx_none]
  by_cases h : n ≤ xs.length
  · rw [Nat.min_eq_left h]
    exact List.take_of_length_le (by rw [List.length_drop]; omega)
  · rw [Nat.min_eq_right (by omega), List.drop_of_length_le (Nat.le_refl _), List.drop_of_length_le (by omega), List.take_nil]
def T_chain (K : PySem.W.Frag) : List Sl → (Sl → Prop) → Prop := fun Γ Q => ∃ v, Γ = [.ex v (StoreO K)] ∧ ∀ ks, KnotsOk ks → ks.length ≤ 300 → ∀ j, j < ks.length → (∀ b, (runs ks (tks b ks) (.knot j)).length ≤ 2000) → Q (.dat false (webD (.knot j) ks))
def T_lr (K : PySem.W.Frag) : List Sl → (Sl → Prop) → Prop := fun Γ Q => ∃ v, Γ = [.ex v (StoreO K)] ∧ Q (.dat true (.bool true))
section
variable {P : Program} {w : World} {K : PySem.W.Frag} {mg : Str → Option Value} {base : Heap} {k : Nat}
theorem ok_chain (D : Def K mg "_law_chain" s_l_chain ["store"]) (c_take : Cal P w K mg base CX0 k "_law_take" ["store", "many"] (spG K (T_take K))) (m_range : mg "range" = none) (m_len : mg "len" = none) (m_int : mg "int" = none) : Cal P w K mg base CX0 (k + 1) "_law_chain" ["store"] (spG K (T_chain K)) := by
  refine cal_g D sc_l_chain (fun Γ Qr ⟨v, e, _⟩ => by subst e; exact ⟨rfl, noMl_ex noMl_nil⟩) fun f cdv A outer s H E hr => ⟨_, wk_l_chain (c_l_take := c_take) (m_range := m_range) (m_len := m_len) (m_int := m_int) f cdv A outer s H E hr, ?_⟩
  rintro Γ Qr ⟨v, rfl, q⟩
  show SJ K [.ex v (StoreO K), .no, .no, .no, .no, .no] (t_l_chain K _) _
  unfold t_l_chain
  refine sj_seq (sj_setX (wx_lst1 false ?_))
  walk_at "v"
  refine use_take (by decide) (by decide) fun r a0 a1 => ?_
  intro l
  have hr : r = ((r.toNat : Nat) : Int) := by omega
  rw [hr]
  show SJ K [.ex v (StoreO K), .ml false l ([[Wy.gives r.toNat]].map knotD), .no, .no, .no, .no] _ _
  have hk0 : KnotsOk [[Wy.gives r.toNat]] := fun i kn e => by
    rcases i with _ | i
    · cases e
      exact ⟨by simp, by simp, fun x hx => by simp at hx; subst hx; show r.toNat < 16; omega⟩
    · simp at e
  have hc0 : ChainOk [[Wy.gives r.toNat]] := fun i kn e f hf => by
    rcases i with _ | i
    · cases e
      have := hf (.gives r.toNat) (fun j z => nomatch z)
      simp [this]
    · simp at e
  refine sj_cut (fun Γ' => ∃ ks s2 s3 s4 s5, KnotsOk ks ∧ ChainOk ks ∧ 0 < ks.length ∧ ks.length ≤ 300 ∧ Γ' = [.ex v (StoreO K), .ml false l (ks.map knotD), s2, s3, s4, s5]) (sj_for false (wi_rng ?_)) ?_
  · walk_at "v"
    refine use_take (by decide) (by decide) fun r1 b0 b1 => ?_
    walk_at "v"
    refine ⟨_, rfl, ⟨by omega, by omega⟩, fun i Γ' => ∃ ks s2 s3 s4 s5, KnotsOk ks ∧ ChainOk ks ∧ ks.length = i + 1 ∧ Γ' = [.ex v (StoreO K), .ml false l (ks.map knotD), s2, s3, s4, s5], ⟨[[.gives r.toNat]], .no, .no, .no, .no, hk0, hc0, rfl, rfl⟩, ?_, ?_⟩
    · rintro i d Γ' hd ⟨ks, s2, s3, s4, s5, hk, hc, hln, rfl⟩
      obtain ⟨hin, rfl⟩ := rangeD_of hd
      have hi : i < 245 := by omega
      rw [Int.zero_add]
      refine gj_name ?_
      show SJ K [.ex v (StoreO K), .ml false l (ks.map knotD), .dat false (.int i), s3, s4, s5] _ _
      refine sj_seq (sj_set false (wd_tup1 (wd_str ?_)))
      refine sj_cut (fun Γ' => ∃ e : Wy, (∀ j, e ≠ .knot j) ∧ WayOk 0 e ∧ Γ' = [.ex v (StoreO K), .ml false l (ks.map knotD), .dat false (.int i), .dat false e.d, s4, s5]) (sj_if ?_) ?_
      · show WT K [.ex v (StoreO K), .ml false l (ks.map knotD), .dat false (.int i), .dat false Wy.nothing.d, s4, s5] _ _
        walk_at "v"
        refine use_take (by decide) (by decide) fun r2 c0 c1 => ?_
        walk_at "v"
        walk_at "x"
        rw [eqv_int]
        refine iteD (fun _ => sj_set false ?_) (fun _ => sj_next ⟨.nothing, (fun j z => by cases z), trivial, rfl⟩)
        walk_at "v"
        refine use_take (by decide) (by decide) fun r3 d0 d1 => ?_
        have hr3 : r3 = ((r3.toNat : Nat) : Int) := by omega
        rw [hr3]
        exact ⟨.gives r3.toNat, (fun j z => by cases z), (show r3.toNat < 16 by omega), rfl⟩
      rintro _ ⟨e, he, hwe, rfl⟩
      have hwe' : WayOk ks.length e := by
        cases e with
        | nothing => trivial
        | gives n => exact hwe
        | knot j => exact absurd rfl (he j)
      refine sj_seq (sj_set false ?_)
      walk_at "v"
      refine ⟨_, rfl, ?_⟩
      walk_at "v"
      refine use_take (by decide) (by decide) fun r4 e0 e1 => ?_
      walk_at "v"
      rw [eqv_int]
      walk_at "v"
      refine ⟨_, rfl, ?_⟩
      obtain ⟨n, hn, en⟩ : ∃ n : Nat, (n = 2 ∨ n = 3) ∧ (2 + (if decide (r4 = 0) = true then (1 : Int) else 0)) = (n : Int) := by
        by_cases z : r4 = 0
        · exact ⟨3, .inr rfl, by simp [z]⟩
        · exact ⟨2, .inl rfl, by simp [z]⟩
      rw [en, cutD_take]
      have ew : [PyData.tuple [.str "knot", .int (i : Int)], e.d, e.d].take n = ([Wy.knot i, e, e].take n).map Wy.d := by
        rw [List.map_take]
        rfl
      rw [ew]
      obtain ⟨ws, hws⟩ : ∃ ws, ws = [Wy.knot i, e, e].take n := ⟨_, rfl⟩
      rw [← hws]
      have hwl : ws.length = n := by rw [hws]; simp; omega
      have hwo : ∀ x ∈ ws, WayOk ks.length x := fun x hx => by
        rw [hws] at hx
        have := List.mem_of_mem_take hx
        simp at this
        rcases this with z | z
        · subst z; show i < ks.length; omega
        · subst z; exact hwe'
      have hsum : ∀ f : Wy → Nat, (∀ x, (∀ j, x ≠ .knot j) → f x = 1) → (ws.map f).sum ≤ f (.knot i) + 2 := fun f hf => by
        have h1 := hf e he
        rw [hws]
        rcases hn with z | z <;> subst z <;> simp [h1]
      show SJ K [.ex v (StoreO K), .ml false l (ks.map knotD), .dat false (.int i), .dat false e.d, .dat false (.list (ws.map Wy.d)), s5] _ _
      refine sj_seq (sj_set false ?_)
      walk_at "v"
      rw [List.length_map, hwl]
      refine use_take (by omega) (by omega) fun r5 f0 f1 => ?_
      have hr5 : r5 = ((r5.toNat : Nat) : Int) := by omega
      rw [hr5]
      show SJ K [.ex v (StoreO K), .ml false l (ks.map knotD), .dat false (.int i), .dat false e.d, .dat false (.list (ws.map Wy.d)), .dat false (.int r5.toNat)] _ _
      refine sj_app rfl (by rw [List.length_map]; omega) ?_
      walk_at "v"
      refine ⟨_, rfl, ?_⟩
      walk_at "v"
      refine ⟨_, rfl, ?_⟩
      walk_at "v"
      refine ⟨_, rfl, ?_⟩
      walk_at "v"
      refine ⟨_, rfl, ?_⟩
      rw [cutD_drop, cutD_take]
      refine rd_cat (by simp; omega) ?_
      have el : (ws.map Wy.d).drop r5.toNat ++ (ws.map Wy.d).take r5.toNat = (ws.drop r5.toNat ++ ws.take r5.toNat).map Wy.d := by
        rw [List.map_append, List.map_drop, List.map_take]
      rw [el]
      have hlen : (ws.drop r5.toNat ++ ws.take r5.toNat).length = n := by simp; omega
      refine ⟨ks ++ [ws.drop r5.toNat ++ ws.take r5.toNat], .dat false (.int i), .dat false e.d, .dat false (.list (ws.map Wy.d)), .dat false (.int r5.toNat), knotsOk_app hk (by omega) (by omega) (fun x hx => ?_), chain_app hc (by omega) (fun f hf => ?_), by simp; omega, ?_⟩
      · rcases List.mem_append.mp hx with z | z
        · exact hwo x (List.mem_of_mem_drop z)
        · exact hwo x (List.mem_of_mem_take z)
      · have h1 := hsum f hf
        have h2 : ((ws.drop r5.toNat ++ ws.take r5.toNat).map f).sum = (ws.map f).sum := by
          rw [List.map_append, List.sum_append, Nat.add_comm, ← List.sum_append, ← List.map_append, List.take_append_drop]
        have h3 : ks.length - 1 = i := by omega
        rw [h2, h3]
        exact h1
      · have e9 : (ks ++ [ws.drop r5.toNat ++ ws.take r5.toNat]).map knotD = ks.map knotD ++ [knotD (ws.drop r5.toNat ++ ws.take r5.toNat)] := by
          rw [List.map_append]
          rfl
        rw [e9]
        rfl
    · rintro Γ' ⟨ks, s2, s3, s4, s5, hk, hc, hln, rfl⟩
      rw [rangeD_len] at hln
      exact ⟨ks, s2, s3, s4, s5, hk, hc, by omega, by omega, rfl⟩
  rintro _ ⟨ks, s2, s3, s4, s5, hk, hc, hp, hl, rfl⟩
  refine sj_frz 1 rfl ?_
  show SJ K [.ex v (StoreO K), .dat false (.list (ks.map knotD)), s2, s3, s4, s5] _ _
  refine sj_retD false ?_
  walk_at "v"
  rw [List.length_map]
  refine ⟨keep_ex keep_nil, ?_⟩
  have ex : ((ks.length : Nat) : Int) - 1 = ((ks.length - 1 : Nat) : Int) := by omega
  rw [ex]
  exact q ks hk hl (ks.length - 1) (by omega) fun b => Nat.le_trans (chain_le hk hc b _ (by omega)) (by omega)
end
end Wb
end
section
set_option Elab.async false
set_option linter.all false
set_option maxRecDepth 100000
/-! Law k32 itself. -/
open PySem L2 Pk
local macro_rules | `(tactic| walk_at "sh") => `(tactic| first | exact sh_int | exact sh_bool | exact sh_non | exact sh_nil | exact sh_str (by decide +kernel) | assumption)
local macro_rules | `(tactic| walk_at "v1") => `(tactic| first
  | (with_reducible refine wd_int ?_) | (with_reducible refine wd_str ?_) | (with_reducible refine wd_bl ?_) | (with_reducible refine wd_non ?_)
  | ((with_reducible apply wd_var); exact rfl) | ((with_reducible apply wd_varN); exact rfl)
  | ((with_reducible apply wd_ixm); exact rfl)
  | ((with_reducible apply wd_lenM); exact rfl) | ((with_reducible apply wd_lenScript); exact rfl) | ((with_reducible apply wd_ixScript); exact rfl)
  | (with_reducible refine wd_op ?_) | (with_reducible refine wd_un ?_)
  | (with_reducible refine rd_add ?_) | (with_reducible refine rd_sub ?_) | (with_reducible refine rd_lt ?_) | (with_reducible refine rd_le ?_) | (with_reducible refine rd_gt ?_) | (with_reducible refine rd_ge ?_) | (with_reducible refine ru_neg ?_)
  | ((with_reducible refine rd_eq ?ev_h ?ev_k ?_); (case ev_h => walk_at "sh"); (case ev_k => walk_at "sh")) | ((with_reducible refine rd_ne ?ev_h ?ev_k ?_); (case ev_h => walk_at "sh"); (case ev_k => walk_at "sh"))
  | ((with_reducible refine rd_mod ?ev_h ?_); case ev_h => first | decide | assumption | omega) | ((with_reducible refine rd_div ?ev_h ?ev_k ?_); (case ev_h => first | decide | assumption | omega); (case ev_k => first | decide | assumption | omega))
  | ((with_reducible refine rd_pow ?ev_h ?_); case ev_h => exact ⟨by decide, by decide, by decide⟩)
  | ((with_reducible refine rd_mul ?ev_h ?_); case ev_h => first | exact .inr ⟨by decide, by decide⟩ | exact .inl ⟨by decide, by decide⟩ | exact .inl ⟨by omega, by omega⟩ | exact .inr ⟨by omega, by omega⟩)
  | (with_reducible refine rc_lenL ?_) | (with_reducible refine rc_lenT ?_) | (with_reducible refine rc_max2 ?_) | (with_reducible refine rc_min2 ?_) | (with_reducible refine rc_intB ?_) | (with_reducible refine rc_intI ?_) | (with_reducible refine rc_listL ?_) | (with_reducible refine rc_listT ?_) | (with_reducible refine rc_tupleL ?_)
  | ((with_reducible apply rd_ixT); exact rfl)
  | ((with_reducible apply rd_ixL); exact rfl)
  | ((with_reducible refine wd_isi ?ev_h ?_); case ev_h => decide) | ((with_reducible refine wd_isi2 ?ev_h ?ev_k ?_); (case ev_h => decide); (case ev_k => decide))
  | (with_reducible refine wd_tup2 ?_) | (with_reducible refine wd_tup1 ?_) | (with_reducible refine wd_tup3 ?_) | (with_reducible refine wd_tup0 ?_)
  | (with_reducible refine wd_lst0 ?_) | (with_reducible refine wd_lst1 ?_) | (with_reducible refine wd_lst2 ?_) | (with_reducible refine wd_lst3 ?_) | (with_reducible refine wd_lst4 ?_) | (with_reducible refine wd_lst5 ?_) | (with_reducible refine wd_lst6 ?_)
  | ((with_reducible apply wd_callO0); exact rfl) | ((with_reducible apply wd_callO1); exact rfl) | ((with_reducible apply wd_callO2); exact rfl) | ((with_reducible apply wd_callO3); exact rfl)
  | (with_reducible refine wd_call1 ?_) | (with_reducible refine wd_call2 ?_) | (with_reducible refine wd_call3 ?_) | (with_reducible refine wd_call4 ?_) | (with_reducible refine wd_call0 ?_)
  | (with_reducible refine wd_cb1 ?_) | (with_reducible refine wd_cb2 ?_)
  | (with_reducible refine wd_rev ?_) | (with_reducible refine wd_lrg1 ?_) | (with_reducible refine wd_sl ?_) | (with_reducible refine wo_no ?_) | (with_reducible refine wo_some ?_)
  | (with_reducible refine wd_andV ?_) | (with_reducible refine wd_orV ?_) | (with_reducible refine wd_notV ?_) | (with_reducible refine wd_if ?_) | (with_reducible refine wd_chain ?_)
  | (with_reducible refine wt_test ?_) | (with_reducible refine wt_B ?_) | (with_reducible refine wt_not ?_) | (with_reducible refine wt_and ?_) | (with_reducible refine wt_or ?_) | (with_reducible refine wt_yes ?_)
  | (with_reducible refine gj_name ?_) | (with_reducible refine gj_tup rfl ?_) | (with_reducible refine gjs_cons ?_) | (with_reducible refine gjs_nil ?_))
local macro_rules | `(tactic| walk_at "v") => `(tactic| repeat walk_at "v1")
local macro_rules | `(tactic| walk_at "x") => `(tactic| refine ⟨_, rfl, ?_⟩)
local macro_rules | `(tactic| walk_at "vx") => `(tactic| repeat (first | walk_at "v1" | (with_reducible refine ⟨_, rfl, ?_⟩)))
namespace Wb
open PySem PySem.Spec PyProof.Rows L2 Pk Sy
theorem every_ds (ks : List (List Wy)) : (ks.map fun k => PyData.list (natsD (List.range k.length))) = (every ks).map fun t => PyData.list (natsD t) := by simp [every]
theorem firsts_ds (ks : List (List Wy)) : (ks.map fun k => PyData.list (natsD (firstsK k))) = (firsts ks).map fun t => PyData.list (natsD t) := by simp [firsts]
theorem neq_self {d : PyData} (nb : NB d) : (!PyData.eqv d d) = false := by rw [eqv_self nb]; rfl
theorem ok_many : PyData.strOk "many" = true := by decide +kernel
theorem wordD_sh (n : Nat) : SeqAt.shaped (wordD n) = true := by
  unfold wordD
  by_cases h : n ≤ 2000
  · rw [if_pos h]; exact sh_int
  · rw [if_neg h]; exact sh_str ok_many
theorem wordD_nb (n : Nat) : NB (wordD n) := by
  unfold wordD
  by_cases h : n ≤ 2000
  · rw [if_pos h]; exact .int _
  · rw [if_neg h]; exact .str _
section
variable {K : PySem.W.Frag} {m : Bool} {Γ : List Sl} {Q : PyData → Prop}
/-- [n, 'many'][int(n > 2000)] -/
theorem rd_word {n : Nat} (q : Q (wordD n)) : RD K m Γ (rIx K) (.list [.int n, .str "many"]) (.int (if decide ((2000 : Int) < n) then 1 else 0)) Q := by
  unfold wordD at q
  by_cases h : n ≤ 2000
  · rw [if_pos h] at q
    have : decide ((2000 : Int) < n) = false := decide_eq_false (by omega)
    rw [this]
    exact rd_ixL rfl q
  · rw [if_neg h] at q
    have : decide ((2000 : Int) < n) = true := decide_eq_true (by omega)
    rw [this]
    exact rd_ixL rfl q
end
section
variable {P : Program} {w : World} {K : PySem.W.Frag} {mg : Str → Option Value} {base : Heap} {k : Nat}
abbrev T_ofwebN (f : Tkf) (C : Addr) (K : PySem.W.Frag) : List Sl → (Sl → Prop) → Prop := fun Γ Q => T_ofwebX f C K Γ Q fun _ _ => False
theorem ok_lr {C : Addr} (D : Def K mg "_law_long_right" s_l_long_right ["store"]) (c_chain : Cal P w K mg base CX0 k "_law_chain" ["store"] (spG K (T_chain K))) (c_some : Cal P w K mg base CX0 k "_law_some_runs" ["web", "taken", "way", "most"] (spG K (T_some K))) (c_kf : Cal P w K mg base CX0 k "_law_firsts" ["knot"] (spG K (T_fc K)))
    (c_ofweb : Cal P w K mg base CX0 k "runs_of_web" ["web"] (spG K (T_ofwebN every C K))) (c_first : Cal P w K mg base CX0 k "first_runs" ["web"] (spG K (T_ofwebN firsts C K))) (m_range : mg "range" = none) (m_len : mg "len" = none) (m_list : mg "list" = none) : Cal P w K mg base CX0 (k + 1) "_law_long_right" ["store"] (spG K (T_lr K)) := by
  refine cal_g D sc_l_long_right (fun Γ Qr ⟨v, e, _⟩ => by subst e; exact ⟨rfl, noMl_ex noMl_nil⟩) fun f cdv A outer s H E hr => ⟨_, wk_l_long_right (c_l_chain := c_chain) (c_l_some_runs := c_some) (c_l_firsts := c_kf) (c_runs_of_web := c_ofweb) (c_first_runs := c_first) (m_range := m_range) (m_len := m_len) (m_list := m_list) f cdv A outer s H E hr, ?_⟩
  rintro Γ Qr ⟨v, rfl, q⟩
  show SJ K [.ex v (StoreO K), .no, .no, .no, .no, .no] (t_l_long_right K _ _ _ _ _) _
  unfold t_l_long_right
  · refine sj_seq (sj_set false (wd_callO0 rfl ⟨v, rfl, fun ks hk hl j hj h2 => asD_dat ?_⟩))
    have hw : WayOk ks.length (.knot j) := hj
    have he : (runs ks (every ks) (.knot j)).length ≤ 2000 := h2 false
    have hf : (runs ks (firsts ks) (.knot j)).length ≤ 2000 := h2 true
    show SJ K [.ex v (StoreO K), .dat false (webD (.knot j) ks), .no, .no, .no, .no] _ _
    refine sj_seq (sj_set false (wd_tup2 ?_))
    walk_at "v"
    refine wd_lcMa (mi := false) knotD knotD (wipeOk_no rfl wipeOk_nil) gwn (wi_list ?_)
    walk_at "v"
    refine ⟨_, rfl, ks, rfl, by omega, fun i kn hkn => gj_name ⟨rfl, ?_⟩, ?_⟩
    · walk_at "v"
      rfl
    show SJ K [.ex v (StoreO K), .dat false (webD (.knot j) ks), .dat false (webD (.knot j) ks), .no, .no, .no] _ _
    refine sj_seq (sj_set false (wd_call4 (wd_var rfl ?_)))
    refine wd_lcMa (mi := false) knotD (fun k => .list (natsD (List.range k.length))) (wipeOk_no rfl wipeOk_nil) gwn (wi_list ?_)
    walk_at "v"
    refine ⟨_, rfl, ks, rfl, by omega, fun i kn hkn => gj_name ⟨rfl, ?_⟩, ?_⟩
    · walk_at "v"
      obtain ⟨_, h5, _⟩ := hk i kn hkn
      refine ⟨_, rfl, ⟨by simp, by simp; omega⟩, ?_⟩
      have e : ((kn.map Wy.d).length : Int).toNat = kn.length := by simp
      rw [e, rangeD_nats]
    rw [every_ds]
    walk_at "v"
    refine ⟨.knot j, ks, every ks, .knot j, rfl, tk_every hk, hl, hw, he, asD_dat ?_⟩
    show SJ K [.ex v (StoreO K), .dat false (webD (.knot j) ks), .dat false (webD (.knot j) ks), .no, .dat false (.list (runsD (runs ks (every ks) (.knot j)))), .no] _ _
    refine sj_seq (sj_set false (wd_call4 (wd_var rfl ?_)))
    refine wd_lcMa (mi := false) knotD (fun k => .list (natsD (firstsK k))) (wipeOk_no rfl wipeOk_nil) gwn (wi_list ?_)
    walk_at "v"
    refine ⟨_, rfl, ks, rfl, by omega, fun i kn hkn => gj_name ⟨rfl, ?_⟩, ?_⟩
    · walk_at "v"
      obtain ⟨_, h5, _⟩ := hk i kn hkn
      exact ⟨kn, rfl, h5, fun l => asD_mln rfl⟩
    rw [firsts_ds]
    walk_at "v"
    refine ⟨.knot j, ks, firsts ks, .knot j, rfl, tk_firsts hk, hl, hw, hf, asD_dat ?_⟩
    show SJ K [.ex v (StoreO K), .dat false (webD (.knot j) ks), .dat false (webD (.knot j) ks), .no, .dat false (.list (runsD (runs ks (every ks) (.knot j)))), .dat false (.list (runsD (runs ks (firsts ks) (.knot j))))] _ _
    refine sj_retD true (wd_lf ?_)
    walk_at "v"
    refine ⟨.knot j, ks, rfl, hk, hl, hw, fun _ l => asD_ex rfl ?_, fun h => absurd h (by omega)⟩
    rw [pairsD_prs]
    walk_at "v"
    refine rd_eqSelf (runsD_sh _) (runsD_nb _) ⟨_, rfl, iteT' rfl ?_⟩
    walk_at "v"
    refine ⟨.knot j, ks, rfl, hk, hl, hw, fun _ l => asD_ex rfl ?_, fun h => absurd h (by omega)⟩
    rw [pairsD_prs]
    walk_at "v"
    refine rd_eqSelf (runsD_sh _) (runsD_nb _) ⟨_, rfl, iteT' rfl ?_⟩
    walk_at "v"
    exact rd_eqSelf (webD_sh _ _) (webD_nb _ _) ⟨rfl, keep_ex keep_nil, q⟩
def midK : List (List Wy) := [List.replicate 5 (.gives 1), List.replicate 5 (.knot 0), List.replicate 5 (.knot 1), List.replicate 4 (.knot 2), List.replicate 4 (.knot 3), [.knot 4, .nothing]]
theorem mid_ok : KnotsOk midK := knotsB_ok (by decide +kernel)
theorem mid_every : (runs midK (every midK) (.knot 5)).length = 2001 := by
  have h := count_runs (tk_every mid_ok) (.knot 5) midK.length (Nat.le_refl _) (show 5 < 6 by decide)
  have e : wcount (countsN midK (every midK) midK.length) (.knot 5) = 2001 := by decide +kernel
  omega
theorem mid_firsts : (runs midK (firsts midK) (.knot 5)).length = 2 := by
  have h := count_runs (tk_firsts mid_ok) (.knot 5) midK.length (Nat.le_refl _) (show 5 < 6 by decide)
  have e : wcount (countsN midK (firsts midK) midK.length) (.knot 5) = 2 := by decide +kernel
  omega
theorem ok_law {f0 : Addr} {fd0 : FuncData} (F0 : Fun K "law" "law" s_law f0 fd0) (c_cfirst : Cal P w K mg base CX0 k "count_first" ["web"] (spG K (T_cfirst K))) (c_word : Cal P w K mg base CX0 k "_law_word" ["way", "web"] (spG K (T_word K))) (c_full : Cal P w K mg base CX0 k "_law_full" [] (spG K (T_full K))) (c_counted : Cal P w K mg base CX0 k "_law_counted" ["web", "taken"] (spG K (T_counted K))) (c_kf : Cal P w K mg base CX0 k "_law_firsts" ["knot"] (spG K (T_fc K))) (c_tall : Cal P w K mg base CX0 k "_law_tall" ["store"] (spG K (T_tall K))) (c_store : Cal P w K mg base CX0 k "_law_store" ["cell"] (spG K (T_store K))) (c_cell : Cal P w K mg base CX0 k "_law_cell" ["script", "k"] (spG K (T_cell K))) (c_lr : Cal P w K mg base CX0 k "_law_long_right" ["store"] (spG K (T_lr K)))
    (m_len : mg "len" = none) (m_range : mg "range" = none) (m_min : mg "min" = none) (m_max : mg "max" = none) (m_list : mg "list" = none) (m_int : mg "int" = none) : FnOk P w K mg base CX0 (k + 1) f0 fd0 ["script"] (spG K (T_law K)) := by
  refine fnOk_g F0 sc_law (fun Γ Qr ⟨v, ns, e, _⟩ => by subst e; exact ⟨rfl, noMl_ex noMl_nil⟩) fun f cdv A outer s H E hr => ⟨_, wk_law (c_count_first := c_cfirst) (c_l_word := c_word) (c_l_full := c_full) (c_l_counted := c_counted) (c_l_firsts := c_kf) (c_l_tall := c_tall) (c_l_store := c_store) (c_l_cell := c_cell) (c_l_long_right := c_lr) (m_len := m_len) (m_range := m_range) (m_min := m_min) (m_max := m_max) (m_list := m_list) (m_int := m_int) f cdv A outer s H E hr, ?_⟩
  rintro Γ Qr ⟨v, ns, rfl, hns, q⟩
  show SJ K [.ex v (ScriptO K ns), .no, .no, .no, .no, .no, .no, .no, .no, .no] (t_law K _ _ _ _ _ _ _ _ _) _
  unfold t_law
  refine sj_seq (sj_if (wt_not (wt_B (.ofX (wx_callTmp (PL := StP) (wx_call1 (wd_callO1 rfl (wd_int ⟨v, ns, 0, rfl, by decide, by decide, fun c => asD_new ⟨c, rfl, fun l g x hg => ⟨false, l, [g, x, 1], rfl, ⟨g, x, 1, rfl, hg⟩, ⟨_, rfl, asD_new ⟨_, rfl, iteF' rfl (sj_next ?_)⟩⟩⟩⟩⟩))))))))
  refine sj_cut (fun Γ' => ∃ s1 s2 s3 s4 s6 s7, Γ' = [.ex v (ScriptO K ns), s1, s2, s3, s4, .no, s6, s7, .no, .no]) (sj_for false (wi_rng ?_)) ?_
  · walk_at "v"
    refine ⟨_, rfl, ⟨by omega, by omega⟩, fun i Γ' => ∃ s1 s2 s3 s4 s6 s7, Γ' = [.ex v (ScriptO K ns), s1, s2, s3, s4, .no, s6, s7, .no, .no], ⟨.no, .no, .no, .no, .no, .no, rfl⟩, ?_, fun Γ' h => h⟩
    rintro i d Γ' hd ⟨s1, s2, s3, s4, s6, s7, rfl⟩
    obtain ⟨hin, rfl⟩ := rangeD_of hd
    rw [Int.zero_add]
    have hi10 : i < 10 := by simp at hin; omega
    refine gj_name ?_
    show SJ K [.ex v (ScriptO K ns), .dat false (.int i), s2, s3, s4, .no, s6, s7, .no, .no] _ _
    refine sj_seq (sj_setX (wx_call1 (wd_callO1 rfl (wd_var rfl ⟨v, ns, i, rfl, by omega, by omega, fun c => asD_new ⟨c, rfl, fun l g x hg => ?_⟩⟩))))
    refine sj_close 2 (l := l) (ns := [g, x, 1]) StP rfl ⟨g, x, 1, rfl, hg⟩ ?_
    show SJ K [.ex v (ScriptO K ns), .dat false (.int i), .ex (.ref l) (StoreO K), s3, s4, .no, s6, s7, .no, .no] _ _
    refine sj_seq (sj_set false (wd_callO0 rfl ⟨_, rfl, fun ks hk hl j hj => asD_dat ?_⟩))
    have hw : WayOk ks.length (.knot j) := hj
    show SJ K [.ex v (ScriptO K ns), .dat false (.int i), .ex (.ref l) (StoreO K), .dat false (webD (.knot j) ks), s4, .no, s6, s7, .no, .no] _ _
    refine sj_seq (sj_set false (wd_tup2 ?_))
    walk_at "v"
    refine wd_lcMa (mi := false) knotD knotD (wipeOk_no rfl wipeOk_nil) gwn (wi_list ?_)
    walk_at "v"
    refine ⟨_, rfl, ks, rfl, by omega, fun i kn hkn => gj_name ⟨rfl, ?_⟩, ?_⟩
    · walk_at "v"
      rfl
    show SJ K [.ex v (ScriptO K ns), .dat false (.int i), .ex (.ref l) (StoreO K), .dat false (webD (.knot j) ks), .dat false (webD (.knot j) ks), .no, s6, s7, .no, .no] _ _
    have ce : wcount (counts ks (every ks)) (.knot j) = (runs ks (every ks) (.knot j)).length := count_runs (tk_every hk) _ ks.length (Nat.le_refl _) hw
    have cf : wcount (counts ks (firsts ks)) (.knot j) = (runs ks (firsts ks) (.knot j)).length := count_runs (tk_firsts hk) _ ks.length (Nat.le_refl _) hw
    obtain ⟨ne, hne⟩ : ∃ n, n = (runs ks (every ks) (.knot j)).length := ⟨_, rfl⟩
    obtain ⟨nf, hnf⟩ : ∃ n, n = (runs ks (firsts ks) (.knot j)).length := ⟨_, rfl⟩
    refine sj_seq (sj_set false (wd_call2 (wd_var rfl ?_)))
    refine wd_lcMa (mi := false) knotD (fun k => .list (natsD (List.range k.length))) (wipeOk_no rfl wipeOk_nil) gwn (wi_list ?_)
    walk_at "v"
    refine ⟨_, rfl, ks, rfl, by omega, fun i kn hkn => gj_name ⟨rfl, ?_⟩, ?_⟩
    · walk_at "v"
      obtain ⟨_, h5, _⟩ := hk i kn hkn
      refine ⟨_, rfl, ⟨by simp, by simp; omega⟩, ?_⟩
      have e : ((kn.map Wy.d).length : Int).toNat = kn.length := by simp
      rw [e, rangeD_nats]
    rw [every_ds]
    refine ⟨.knot j, ks, every ks, rfl, tk_every hk, hl, hw, asD_new ?_⟩
    rw [ce, ← hne]
    show SJ K [.ex v (ScriptO K ns), .dat false (.int i), .ex (.ref l) (StoreO K), .dat false (webD (.knot j) ks), .dat false (webD (.knot j) ks), .no, .dat false (.int ne), s7, .no, .no] _ _
    refine sj_seq (sj_set false (wd_call2 (wd_var rfl ?_)))
    refine wd_lcMa (mi := false) knotD (fun k => .list (natsD (firstsK k))) (wipeOk_no rfl wipeOk_nil) gwn (wi_list ?_)
    walk_at "v"
    refine ⟨_, rfl, ks, rfl, by omega, fun i kn hkn => gj_name ⟨rfl, ?_⟩, ?_⟩
    · walk_at "v"
      obtain ⟨_, h5, _⟩ := hk i kn hkn
      exact ⟨kn, rfl, h5, fun l => asD_mln rfl⟩
    rw [firsts_ds]
    refine ⟨.knot j, ks, firsts ks, rfl, tk_firsts hk, hl, hw, asD_new ?_⟩
    rw [cf, ← hnf]
    show SJ K [.ex v (ScriptO K ns), .dat false (.int i), .ex (.ref l) (StoreO K), .dat false (webD (.knot j) ks), .dat false (webD (.knot j) ks), .no, .dat false (.int ne), .dat false (.int nf), .no, .no] _ _
    refine sj_seq (sj_if ?_)
    walk_at "v"
    refine ⟨false, .knot j, ks, rfl, hk, hl, hw, asD_new ?_⟩
    rw [show tks false ks = every ks from rfl, ← hne]
    walk_at "v"
    refine rd_word ?_
    refine rd_neSelf (wordD_sh _) (wordD_nb _) ⟨_, rfl, iteF' rfl (sj_next ?_)⟩
    refine sj_if ?_
    walk_at "v"
    refine ⟨true, .knot j, ks, rfl, hk, hl, hw, asD_new ?_⟩
    rw [show tks true ks = firsts ks from rfl, ← hnf]
    walk_at "v"
    refine rd_word ?_
    refine rd_neSelf (wordD_sh _) (wordD_nb _) ⟨_, rfl, iteF' rfl ?_⟩
    walk_at "v"
    refine ⟨.knot j, ks, rfl, hk, hl, hw, asD_new ?_⟩
    rw [← hnf]
    walk_at "v"
    refine ⟨_, rfl, iteF' (neq_self (.int _)) ?_⟩
    walk_at "v"
    refine rd_neSelf (webD_sh _ _) (webD_nb _ _) ⟨_, rfl, iteF' rfl (sj_next ?_)⟩
    exact ⟨_, _, _, _, _, _, rfl⟩
  · rintro _ ⟨s1, s2, s3, s4, s6, s7, rfl⟩
    refine sj_seq (sj_set false (wd_lst5 ?_))
    refine wd_op (wd_lst1 (wd_tup2 (wd_str (wd_int (wd_int (rd_rep (by decide) (by decide) (by decide) ?_))))))
    refine wd_op (wd_lst1 (wd_tup2 (wd_str (wd_int (wd_int (rd_rep (by decide) (by decide) (by decide) ?_))))))
    refine wd_op (wd_lst1 (wd_tup2 (wd_str (wd_int (wd_int (rd_rep (by decide) (by decide) (by decide) ?_))))))
    refine wd_op (wd_lst1 (wd_tup2 (wd_str (wd_int (wd_int (rd_rep (by decide) (by decide) (by decide) ?_))))))
    refine wd_op (wd_lst1 (wd_tup2 (wd_str (wd_int (wd_int (rd_rep (by decide) (by decide) (by decide) ?_))))))
    show SJ K [.ex v (ScriptO K ns), s1, s2, s3, s4, .no, s6, s7, .dat false (.list ((midK.take 5).map knotD)), .no] _ _
    refine sj_seq (sj_set false ?_)
    walk_at "v"
    refine rd_cat (by decide) ?_
    show SJ K [.ex v (ScriptO K ns), s1, s2, s3, s4, .no, s6, s7, .dat false (.list (midK.map knotD)), .no] _ _
    have hm : WayOk midK.length (.knot 5) := (show 5 < 6 by decide)
    refine sj_seq (sj_if ?_)
    walk_at "v"
    refine ⟨false, .knot 5, midK, rfl, mid_ok, by decide, hm, asD_new ?_⟩
    rw [show tks false midK = every midK from rfl, mid_every, show wordD 2001 = .str "many" from rfl]
    walk_at "v"
    refine ⟨_, rfl, iteF' (neq_self (.str _)) ?_⟩
    walk_at "v"
    refine ⟨true, .knot 5, midK, rfl, mid_ok, by decide, hm, asD_new ?_⟩
    rw [show tks true midK = firsts midK from rfl, mid_firsts, show wordD 2 = .int 2 from rfl]
    walk_at "v"
    refine ⟨_, rfl, iteF' (neq_self (.int _)) (sj_next ?_)⟩
    refine sj_seq (sj_set false ?_)
    walk_at "v"
    refine ⟨rfl, asD_dat ?_⟩
    show SJ K [.ex v (ScriptO K ns), s1, s2, s3, s4, .no, s6, s7, .dat false (.list (fullK.map knotD)), .no] _ _
    have h19 : WayOk fullK.length (.knot 19) := by rw [full_len]; show 19 < 21; decide
    have h20 : WayOk fullK.length (.knot 20) := by rw [full_len]; show 20 < 21; decide
    have hfl : fullK.length ≤ 300 := by rw [full_len]; decide
    refine sj_cut (fun Γ' => ∃ s9, Γ' = [.ex v (ScriptO K ns), s1, s2, s3, s4, .no, s6, s7, .dat false (.list (fullK.map knotD)), s9]) (sj_for false (wi_rng (wd_int ⟨_, rfl, ⟨by decide, by decide⟩, ?_⟩))) ?_
    · refine ⟨fun i Γ' => ∃ s9, Γ' = [.ex v (ScriptO K ns), s1, s2, s3, s4, .no, s6, s7, .dat false (.list (fullK.map knotD)), s9], ⟨.no, rfl⟩, ?_, fun Γ' h => h⟩
      rintro i d Γ' hd ⟨s9, rfl⟩
      obtain ⟨hin, rfl⟩ := rangeD_of hd
      have hi2 : i < 2 := hin
      have hb : ∃ b : Bool, (0 : Int) + (i : Int) = wayI b ∧ (runs fullK (tks b fullK) (.knot 19)).length = 2000 := by
        rcases i with _ | _ | i
        · exact ⟨false, rfl, full_every⟩
        · exact ⟨true, rfl, full_firsts⟩
        · omega
      obtain ⟨b, eb, h2⟩ := hb
      rw [eb]
      refine gj_name ?_
      show SJ K [.ex v (ScriptO K ns), s1, s2, s3, s4, .no, s6, s7, .dat false (.list (fullK.map knotD)), .dat false (.int (wayI b))] _ _
      refine sj_if ?_
      walk_at "v"
      refine ⟨b, .knot 19, fullK, rfl, full_ok, hfl, h19, asD_new ?_⟩
      rw [h2, show wordD 2000 = .int 2000 from rfl]
      walk_at "v"
      refine ⟨_, rfl, iteF' (neq_self (.int _)) ?_⟩
      walk_at "v"
      refine ⟨b, .knot 20, fullK, rfl, full_ok, hfl, h20, asD_new ?_⟩
      rw [full_more b, show wordD 2001 = .str "many" from rfl]
      walk_at "v"
      refine ⟨_, rfl, iteF' (neq_self (.str _)) (sj_next ?_)⟩
      exact ⟨_, rfl⟩
    · rintro _ ⟨s9, rfl⟩
      refine sj_retD true (wd_lf ?_)
      walk_at "v"
      refine ⟨.knot 20, fullK, rfl, full_ok, hfl, h20, asD_new ?_⟩
      rw [show firsts fullK = tks true fullK from rfl, full_more true]
      walk_at "v"
      rw [eqv_int]
      exact ⟨rfl, keep_ex keep_nil, q⟩
end
end Wb
end
section
set_option Elab.async false
set_option linter.all false
set_option maxRecDepth 100000
/-! What the head tells of the top. -/
namespace Ch
open PySem PySem.Spec PyProof.Rows L2 Pk Sy
structure Fx (K : PySem.W.Frag) (mg : Str → Option Value) : Prop where
  D_l_cell : Def K mg "_law_cell" s_l_cell ["script", "k"]
  D_l_store : Def K mg "_law_store" s_l_store ["cell"]
  D_l_take : Def K mg "_law_take" s_l_take ["store", "many"]
  D_l_way : Def K mg "_law_way" s_l_way ["store", "many"]
  D_l_knots : Def K mg "_law_knots" s_l_knots ["store"]
  D_l_counted : Def K mg "_law_counted" s_l_counted ["web", "taken"]
  D_l_some_runs : Def K mg "_law_some_runs" s_l_some_runs ["web", "taken", "way", "most"]
  D_l_word : Def K mg "_law_word" s_l_word ["way", "web"]
  D_l_firsts : Def K mg "_law_firsts" s_l_firsts ["knot"]
  D_l_tall : Def K mg "_law_tall" s_l_tall ["store"]
  D_l_full : Def K mg "_law_full" s_l_full []
  D_l_chain : Def K mg "_law_chain" s_l_chain ["store"]
  D_l_long_right : Def K mg "_law_long_right" s_l_long_right ["store"]
  D_all_choices : Def K mg "all_choices" s_all_choices ["knot"]
  D_first_choices : Def K mg "first_choices" s_first_choices ["knot"]
  D_choices_by_knot : Def K mg "choices_by_knot" s_choices_by_knot ["web", "first"]
  D_runs_behind : Def K mg "runs_behind" s_runs_behind ["way", "counts"]
  D_run_counts : Def K mg "run_counts" s_run_counts ["web", "taken"]
  D_runs_told : Def K mg "runs_told" s_runs_told ["web", "taken"]
  D_runs_of_web : Def K mg "runs_of_web" s_runs_of_web ["web"]
  D_count_first : Def K mg "count_first" s_count_first ["web"]
  D_first_runs : Def K mg "first_runs" s_first_runs ["web"]
  m_len : mg "len" = none
  m_range : mg "range" = none
  m_zip : mg "zip" = none
  m_sum : mg "sum" = none
  m_int : mg "int" = none
  m_isinstance : mg "isinstance" = none
  m_ValueError : mg "ValueError" = none
  m_list : mg "list" = none
  m_min : mg "min" = none
  m_max : mg "max" = none
  g_MOST_RUNS : ∃ t, mg "MOST_RUNS" = some (.int 2000 t)
  g_RunError : mg "RunError" = some (.ref (He.ga K "RunError"))
  g_NoStore : mg "NoStore" = some (.ref (He.ga K "NoStore"))
  g_NoNumber : mg "NoNumber" = some (.ref (He.ga K "NoNumber"))
  g_TooMany : mg "TooMany" = some (.ref (He.ga K "TooMany"))
  g_NoFit : mg "NoFit" = some (.ref (He.ga K "NoFit"))
  g_NoText : mg "NoText" = some (.ref (He.ga K "NoText"))
  g_NoName : mg "NoName" = some (.ref (He.ga K "NoName"))
  g_NoRow : mg "NoRow" = some (.ref (He.ga K "NoRow"))
  g_NoChoice : mg "NoChoice" = some (.ref (He.ga K "NoChoice"))
  e_TooMany : ExcT K mg "TooMany" (He.ga K "TooMany")
  kit_TooMany_RunError : PySem.W.kitOne K (.ref (He.ga K "TooMany")) (.ref (He.ga K "RunError")) = some true
  kit_TooMany_NoStore : PySem.W.kitOne K (.ref (He.ga K "TooMany")) (.ref (He.ga K "NoStore")) = some false
  kit_TooMany_NoNumber : PySem.W.kitOne K (.ref (He.ga K "TooMany")) (.ref (He.ga K "NoNumber")) = some false
  kit_TooMany_TooMany : PySem.W.kitOne K (.ref (He.ga K "TooMany")) (.ref (He.ga K "TooMany")) = some true
  kit_TooMany_NoFit : PySem.W.kitOne K (.ref (He.ga K "TooMany")) (.ref (He.ga K "NoFit")) = some false
  kit_TooMany_NoText : PySem.W.kitOne K (.ref (He.ga K "TooMany")) (.ref (He.ga K "NoText")) = some false
  kit_TooMany_NoName : PySem.W.kitOne K (.ref (He.ga K "TooMany")) (.ref (He.ga K "NoName")) = some false
  kit_TooMany_NoRow : PySem.W.kitOne K (.ref (He.ga K "TooMany")) (.ref (He.ga K "NoRow")) = some false
  kit_TooMany_NoChoice : PySem.W.kitOne K (.ref (He.ga K "TooMany")) (.ref (He.ga K "NoChoice")) = some false
  exm_TooMany_RunError : PySem.W.exmOne K (.ref (He.ga K "TooMany")) (.ref (He.ga K "RunError")) = some true
  exm_TooMany_NoStore : PySem.W.exmOne K (.ref (He.ga K "TooMany")) (.ref (He.ga K "NoStore")) = some false
  exm_TooMany_NoNumber : PySem.W.exmOne K (.ref (He.ga K "TooMany")) (.ref (He.ga K "NoNumber")) = some false
  exm_TooMany_TooMany : PySem.W.exmOne K (.ref (He.ga K "TooMany")) (.ref (He.ga K "TooMany")) = some true
  exm_TooMany_NoFit : PySem.W.exmOne K (.ref (He.ga K "TooMany")) (.ref (He.ga K "NoFit")) = some false
  exm_TooMany_NoText : PySem.W.exmOne K (.ref (He.ga K "TooMany")) (.ref (He.ga K "NoText")) = some false
  exm_TooMany_NoName : PySem.W.exmOne K (.ref (He.ga K "TooMany")) (.ref (He.ga K "NoName")) = some false
  exm_TooMany_NoRow : PySem.W.exmOne K (.ref (He.ga K "TooMany")) (.ref (He.ga K "NoRow")) = some false
  exm_TooMany_NoChoice : PySem.W.exmOne K (.ref (He.ga K "TooMany")) (.ref (He.ga K "NoChoice")) = some false
  kit_TooMany_ValueError : PySem.W.kitOne K (.ref (He.ga K "TooMany")) (.type "ValueError") = some true
end Ch
end
section
set_option Elab.async false
set_option linter.all false
set_option maxRecDepth 100000
/-! Law k32: all defs together. -/
namespace Ch
open PySem PySem.Spec PyProof.Rows L2 Pk Sy Wb
theorem chain {P : Program} {w : World} {K : PySem.W.Frag} {mg : Str → Option Value} {base : Heap} {f : Addr} {fd : FuncData} (F0 : Fun K "law" "law" s_law f fd) (x : Fx K mg) : FnOk P w K mg base CX0 9 f fd ["script"] (spG K (T_law K)) := by
  have take : Cal P w K mg base CX0 1 "_law_take" ["store", "many"] (spG K (T_take K)) := ok_take x.D_l_take
  have way : Cal P w K mg base CX0 2 "_law_way" ["store", "many"] (spG K (T_way K)) := ok_way x.D_l_way take
  have knots := ok_knots (k := 2) x.D_l_knots (take.mono (by decide)) way x.m_range x.m_len
  have counted := ok_counted (P := P) (w := w) (base := base) (k := 0) x.D_l_counted x.m_zip x.m_sum x.m_len
  have all := ok_all_choices (P := P) (w := w) (base := base) (k := 0) x.D_all_choices x.m_len x.m_range x.m_list
  have fc := ok_fc (P := P) (w := w) (base := base) (k := 0) x.D_first_choices x.m_len x.m_range
  have cbk := ok_cbk (k := 1) x.D_choices_by_knot fc all
  have beh := ok_behind (P := P) (w := w) (base := base) (k := 0) x.D_runs_behind
  have rc := ok_rcounts (k := 1) x.D_run_counts beh x.m_zip x.m_sum
  have told := ok_told (k := 2) x.D_runs_told (beh.mono (by decide)) rc x.g_MOST_RUNS x.e_TooMany
  have ofweb := ok_ofweb (k := 3) x.D_runs_of_web told (cbk.mono (by decide))
  have first := ok_firstruns (k := 3) x.D_first_runs told (cbk.mono (by decide))
  have cf := ok_cfirst (k := 2) x.D_count_first (beh.mono (by decide)) rc cbk
  have some_ := ok_some (P := P) (w := w) (base := base) (k := 0) x.D_l_some_runs x.m_len
  have cell := ok_cell (P := P) (w := w) (base := base) (k := 0) x.D_l_cell x.m_len
  have store := ok_store (P := P) (w := w) (mg := mg) (base := base) (k := 0) x.D_l_store
  have full := ok_full (P := P) (w := w) (base := base) (k := 0) x.D_l_full x.m_range
  have kf := ok_kfirsts (P := P) (w := w) (base := base) (k := 0) x.D_l_firsts x.m_len x.m_range
  have word := ok_word (k := 4) x.D_l_word ⟨x.e_TooMany.c, x.exm_TooMany_RunError, fun o ho => by
      simp only [List.mem_cons, List.not_mem_nil, or_false] at ho
      rcases ho with z | z | z | z | z | z | z <;> rw [z]
      · exact x.kit_TooMany_NoChoice
      · exact x.kit_TooMany_NoFit
      · exact x.kit_TooMany_NoName
      · exact x.kit_TooMany_NoNumber
      · exact x.kit_TooMany_NoRow
      · exact x.kit_TooMany_NoStore
      · exact x.kit_TooMany_NoText, x.kit_TooMany_TooMany, x.kit_TooMany_ValueError⟩ ofweb first x.m_int x.m_isinstance x.m_ValueError x.m_len x.g_TooMany x.g_RunError x.g_NoChoice x.g_NoFit x.g_NoName x.g_NoNumber x.g_NoRow x.g_NoStore x.g_NoText
  have tall := ok_tall (k := 3) x.D_l_tall (take.mono (by decide)) (way.mono (by decide)) knots x.m_range x.m_len
  have chn := ok_chain (k := 1) x.D_l_chain take x.m_range x.m_len x.m_int
  have lr := ok_lr (k := 4) x.D_l_long_right (chn.mono (by decide)) (some_.mono (by decide)) (kf.mono (by decide)) ofweb.noX first.noX x.m_range x.m_len x.m_list
  exact ok_law (k := 8) F0 (cf.mono (by decide)) (word.mono (by decide)) (full.mono (by decide)) (counted.mono (by decide)) (kf.mono (by decide)) (tall.mono (by decide)) (store.mono (by decide)) (cell.mono (by decide)) (lr.mono (by decide)) x.m_len x.m_range x.m_min x.m_max x.m_list x.m_int
end Ch
end
section
set_option Elab.async false
set_option linter.all false
set_option maxRecDepth 100000
set_option maxHeartbeats 0
/-! The head: facts by names, the run. -/
namespace Hd
open PySem PySem.Spec PyProof.Rows L2 Pk Sy Ch
def d_l_cell : He.DefD := ⟨("_law_cell", none), "_law_cell", "_law_cell", defArgs s_l_cell, defBody s_l_cell, defScope s_l_cell, [], []⟩
def d_l_store : He.DefD := ⟨("_law_store", none), "_law_store", "_law_store", defArgs s_l_store, defBody s_l_store, defScope s_l_store, [], []⟩
def d_l_take : He.DefD := ⟨("_law_take", none), "_law_take", "_law_take", defArgs s_l_take, defBody s_l_take, defScope s_l_take, [], []⟩
def d_l_way : He.DefD := ⟨("_law_way", none), "_law_way", "_law_way", defArgs s_l_way, defBody s_l_way, defScope s_l_way, [], []⟩
def d_l_knots : He.DefD := ⟨("_law_knots", none), "_law_knots", "_law_knots", defArgs s_l_knots, defBody s_l_knots, defScope s_l_knots, [], []⟩
def d_l_counted : He.DefD := ⟨("_law_counted", none), "_law_counted", "_law_counted", defArgs s_l_counted, defBody s_l_counted, defScope s_l_counted, [], []⟩
def d_l_some_runs : He.DefD := ⟨("_law_some_runs", none), "_law_some_runs", "_law_some_runs", defArgs s_l_some_runs, defBody s_l_some_runs, defScope s_l_some_runs, [], []⟩
def d_l_word : He.DefD := ⟨("_law_word", none), "_law_word", "_law_word", defArgs s_l_word, defBody s_l_word, defScope s_l_word, [], []⟩
def d_l_firsts : He.DefD := ⟨("_law_firsts", none), "_law_firsts", "_law_firsts", defArgs s_l_firsts, defBody s_l_firsts, defScope s_l_firsts, [], []⟩
def d_l_tall : He.DefD := ⟨("_law_tall", none), "_law_tall", "_law_tall", defArgs s_l_tall, defBody s_l_tall, defScope s_l_tall, [], []⟩
def d_l_full : He.DefD := ⟨("_law_full", none), "_law_full", "_law_full", defArgs s_l_full, defBody s_l_full, defScope s_l_full, [], []⟩
def d_l_chain : He.DefD := ⟨("_law_chain", none), "_law_chain", "_law_chain", defArgs s_l_chain, defBody s_l_chain, defScope s_l_chain, [], []⟩
def d_l_long_right : He.DefD := ⟨("_law_long_right", none), "_law_long_right", "_law_long_right", defArgs s_l_long_right, defBody s_l_long_right, defScope s_l_long_right, [], []⟩
def d_all_choices : He.DefD := ⟨("all_choices", none), "all_choices", "all_choices", defArgs s_all_choices, defBody s_all_choices, defScope s_all_choices, [], []⟩
def d_first_choices : He.DefD := ⟨("first_choices", none), "first_choices", "first_choices", defArgs s_first_choices, defBody s_first_choices, defScope s_first_choices, [], []⟩
def d_choices_by_knot : He.DefD := ⟨("choices_by_knot", none), "choices_by_knot", "choices_by_knot", defArgs s_choices_by_knot, defBody s_choices_by_knot, defScope s_choices_by_knot, [], []⟩
def d_runs_behind : He.DefD := ⟨("runs_behind", none), "runs_behind", "runs_behind", defArgs s_runs_behind, defBody s_runs_behind, defScope s_runs_behind, [], []⟩
def d_run_counts : He.DefD := ⟨("run_counts", none), "run_counts", "run_counts", defArgs s_run_counts, defBody s_run_counts, defScope s_run_counts, [], []⟩
def d_runs_told : He.DefD := ⟨("runs_told", none), "runs_told", "runs_told", defArgs s_runs_told, defBody s_runs_told, defScope s_runs_told, [], []⟩
def d_runs_of_web : He.DefD := ⟨("runs_of_web", none), "runs_of_web", "runs_of_web", defArgs s_runs_of_web, defBody s_runs_of_web, defScope s_runs_of_web, [], []⟩
def d_count_first : He.DefD := ⟨("count_first", none), "count_first", "count_first", defArgs s_count_first, defBody s_count_first, defScope s_count_first, [], []⟩
def d_first_runs : He.DefD := ⟨("first_runs", none), "first_runs", "first_runs", defArgs s_first_runs, defBody s_first_runs, defScope s_first_runs, [], []⟩
def d_law : He.DefD := ⟨("law", none), "law", "law", defArgs s_law, defBody s_law, defScope s_law, [], []⟩
def fn : List He.DefD := [d_l_cell, d_l_store, d_l_take, d_l_way, d_l_knots, d_l_counted, d_l_some_runs, d_l_word, d_l_firsts, d_l_tall, d_l_full, d_l_chain, d_l_long_right, d_all_choices, d_first_choices, d_choices_by_knot, d_runs_behind, d_run_counts, d_runs_told, d_runs_of_web, d_count_first, d_first_runs, d_law]
def fa : List He.Fa := [.glo "_law_cell", .glo "_law_store", .glo "_law_take", .glo "_law_way", .glo "_law_knots", .glo "_law_counted", .glo "_law_some_runs", .glo "_law_word", .glo "_law_firsts", .glo "_law_tall", .glo "_law_full", .glo "_law_chain", .glo "_law_long_right", .glo "all_choices", .glo "first_choices", .glo "choices_by_knot", .glo "runs_behind", .glo "run_counts", .glo "runs_told", .glo "runs_of_web", .glo "count_first", .glo "first_runs", .glo "law", .free "len", .free "range", .free "zip", .free "sum", .free "int", .free "isinstance", .free "ValueError", .free "list", .free "min", .free "max", .int "MOST_RUNS" 2000, .glo "RunError", .glo "NoStore", .glo "NoNumber", .glo "TooMany", .glo "NoFit", .glo "NoText", .glo "NoName", .glo "NoRow", .glo "NoChoice"]
def exs (K : PySem.W.Frag) : List Bool := [excB K "TooMany",
  decide (PySem.W.kitOne K (.ref (He.ga K "TooMany")) (.ref (He.ga K "RunError")) = some true),
  decide (PySem.W.kitOne K (.ref (He.ga K "TooMany")) (.ref (He.ga K "NoStore")) = some false),
  decide (PySem.W.kitOne K (.ref (He.ga K "TooMany")) (.ref (He.ga K "NoNumber")) = some false),
  decide (PySem.W.kitOne K (.ref (He.ga K "TooMany")) (.ref (He.ga K "TooMany")) = some true),
  decide (PySem.W.kitOne K (.ref (He.ga K "TooMany")) (.ref (He.ga K "NoFit")) = some false),
  decide (PySem.W.kitOne K (.ref (He.ga K "TooMany")) (.ref (He.ga K "NoText")) = some false),
  decide (PySem.W.kitOne K (.ref (He.ga K "TooMany")) (.ref (He.ga K "NoName")) = some false),
  decide (PySem.W.kitOne K (.ref (He.ga K "TooMany")) (.ref (He.ga K "NoRow")) = some false),
  decide (PySem.W.kitOne K (.ref (He.ga K "TooMany")) (.ref (He.ga K "NoChoice")) = some false),
  decide (PySem.W.exmOne K (.ref (He.ga K "TooMany")) (.ref (He.ga K "RunError")) = some true),
  decide (PySem.W.exmOne K (.ref (He.ga K "TooMany")) (.ref (He.ga K "NoStore")) = some false),
  decide (PySem.W.exmOne K (.ref (He.ga K "TooMany")) (.ref (He.ga K "NoNumber")) = some false),
  decide (PySem.W.exmOne K (.ref (He.ga K "TooMany")) (.ref (He.ga K "TooMany")) = some true),
  decide (PySem.W.exmOne K (.ref (He.ga K "TooMany")) (.ref (He.ga K "NoFit")) = some false),
  decide (PySem.W.exmOne K (.ref (He.ga K "TooMany")) (.ref (He.ga K "NoText")) = some false),
  decide (PySem.W.exmOne K (.ref (He.ga K "TooMany")) (.ref (He.ga K "NoName")) = some false),
  decide (PySem.W.exmOne K (.ref (He.ga K "TooMany")) (.ref (He.ga K "NoRow")) = some false),
  decide (PySem.W.exmOne K (.ref (He.ga K "TooMany")) (.ref (He.ga K "NoChoice")) = some false),
  decide (PySem.W.kitOne K (.ref (He.ga K "TooMany")) (.type "ValueError") = some true)]
def ex (K : PySem.W.Frag) : Bool := (exs K).all id
theorem ex_at {K : PySem.W.Frag} (h : ex K = true) (i : Nat) {b : Bool} (hb : (exs K)[i]? = some b) : b = true := List.all_eq_true.mp h b (List.mem_of_getElem? hb)
abbrev R : PySem.W.OpenRow := PySem.W.OpenLaw.row PySem.Challenge.rw_pickruns_k32_too_many_runs
abbrev hk : PySem.W.Hook := hookB 6 fa fn ex
def ob (s : PySem.W.SharedT) : He.AlD × Bool := obsB 6 fa fn ex (HandSHeadRun.getT s)
theorem ob_eq (s : PySem.W.SharedT) : ob s = hk.obs s.abs := obsB_eq (HandSHeadRun.getT_eq s)
def loose : List PySem.Str := ["RunError", "NoStore", "NoNumber", "TooMany", "NoFit", "NoText", "NoName", "NoRow", "NoChoice", "MOST_RUNS", "all_choices", "first_choices", "choices_by_knot", "runs_behind", "run_counts", "runs_told", "runs_of_web", "count_first", "first_runs", "_law_cell", "_law_store", "_law_take", "_law_way", "_law_knots", "_law_counted", "_law_some_runs", "_law_word", "_law_firsts", "_law_tall", "_law_full", "_law_chain", "_law_long_right"]
theorem run (w : World) : HandSHeadRun.RunEq R (PySem.W.view R.prog [35]) hk ob 12000 loose w := by
  intro os
  kernel_rfl
section
variable {K : PySem.W.Frag} {h : Heap} {mg : Str → Option Value}
theorem D_l_cell (X : K.In h) (G : h.Ns mainGlobals mg) (c : He.SaysD fa fn K) : Def K mg "_law_cell" s_l_cell ["script", "k"] := by
  obtain ⟨fd, F⟩ := c.def_ 0 (d := d_l_cell) rfl
  have F' : Fun K "_law_cell" "_law_cell" s_l_cell _ fd := He5.fun_of F
  exact ⟨_, fd, He.glo_ok X G (c.fact 0 (f := .glo "_law_cell") rfl), F', F'.binds (ps := ["script", "k"]) fun _ _ _ _ _ _ us hl => match us, hl with | [_, _], _ => rfl⟩
theorem D_l_store (X : K.In h) (G : h.Ns mainGlobals mg) (c : He.SaysD fa fn K) : Def K mg "_law_store" s_l_store ["cell"] := by
  obtain ⟨fd, F⟩ := c.def_ 1 (d := d_l_store) rfl
  have F' : Fun K "_law_store" "_law_store" s_l_store _ fd := He5.fun_of F
  exact ⟨_, fd, He.glo_ok X G (c.fact 1 (f := .glo "_law_store") rfl), F', F'.binds (ps := ["cell"]) fun _ _ _ _ _ _ us hl => match us, hl with | [_], _ => rfl⟩
theorem D_l_take (X : K.In h) (G : h.Ns mainGlobals mg) (c : He.SaysD fa fn K) : Def K mg "_law_take" s_l_take ["store", "many"] := by
  obtain ⟨fd, F⟩ := c.def_ 2 (d := d_l_take) rfl
  have F' : Fun K "_law_take" "_law_take" s_l_take _ fd := He5.fun_of F
  exact ⟨_, fd, He.glo_ok X G (c.fact 2 (f := .glo "_law_take") rfl), F', F'.binds (ps := ["store", "many"]) fun _ _ _ _ _ _ us hl => match us, hl with | [_, _], _ => rfl⟩
theorem D_l_way (X : K.In h) (G : h.Ns mainGlobals mg) (c : He.SaysD fa fn K) : Def K mg "_law_way" s_l_way ["store", "many"] := by
  obtain ⟨fd, F⟩ := c.def_ 3 (d := d_l_way) rfl
  have F' : Fun K "_law_way" "_law_way" s_l_way _ fd := He5.fun_of F
  exact ⟨_, fd, He.glo_ok X G (c.fact 3 (f := .glo "_law_way") rfl), F', F'.binds (ps := ["store", "many"]) fun _ _ _ _ _ _ us hl => match us, hl with | [_, _], _ => rfl⟩
theorem D_l_knots (X : K.In h) (G : h.Ns mainGlobals mg) (c : He.SaysD fa fn K) : Def K mg "_law_knots" s_l_knots ["store"] := by
  obtain ⟨fd, F⟩ := c.def_ 4 (d := d_l_knots) rfl
  have F' : Fun K "_law_knots" "_law_knots" s_l_knots _ fd := He5.fun_of F
  exact ⟨_, fd, He.glo_ok X G (c.fact 4 (f := .glo "_law_knots") rfl), F', F'.binds (ps := ["store"]) fun _ _ _ _ _ _ us hl => match us, hl with | [_], _ => rfl⟩
theorem D_l_counted (X : K.In h) (G : h.Ns mainGlobals mg) (c : He.SaysD fa fn K) : Def K mg "_law_counted" s_l_counted ["web", "taken"] := by
  obtain ⟨fd, F⟩ := c.def_ 5 (d := d_l_counted) rfl
  have F' : Fun K "_law_counted" "_law_counted" s_l_counted _ fd := He5.fun_of F
  exact ⟨_, fd, He.glo_ok X G (c.fact 5 (f := .glo "_law_counted") rfl), F', F'.binds (ps := ["web", "taken"]) fun _ _ _ _ _ _ us hl => match us, hl with | [_, _], _ => rfl⟩
theorem D_l_some_runs (X : K.In h) (G : h.Ns mainGlobals mg) (c : He.SaysD fa fn K) : Def K mg "_law_some_runs" s_l_some_runs ["web", "taken", "way", "most"] := by
  obtain ⟨fd, F⟩ := c.def_ 6 (d := d_l_some_runs) rfl
  have F' : Fun K "_law_some_runs" "_law_some_runs" s_l_some_runs _ fd := He5.fun_of F
  exact ⟨_, fd, He.glo_ok X G (c.fact 6 (f := .glo "_law_some_runs") rfl), F', F'.binds (ps := ["web", "taken", "way", "most"]) fun _ _ _ _ _ _ us hl => match us, hl with | [_, _, _, _], _ => rfl⟩
theorem D_l_word (X : K.In h) (G : h.Ns mainGlobals mg) (c : He.SaysD fa fn K) : Def K mg "_law_word" s_l_word ["way", "web"] := by
  obtain ⟨fd, F⟩ := c.def_ 7 (d := d_l_word) rfl
  have F' : Fun K "_law_word" "_law_word" s_l_word _ fd := He5.fun_of F
  exact ⟨_, fd, He.glo_ok X G (c.fact 7 (f := .glo "_law_word") rfl), F', F'.binds (ps := ["way", "web"]) fun _ _ _ _ _ _ us hl => match us, hl with | [_, _], _ => rfl⟩
theorem D_l_firsts (X : K.In h) (G : h.Ns mainGlobals mg) (c : He.SaysD fa fn K) : Def K mg "_law_firsts" s_l_firsts ["knot"] := by
  obtain ⟨fd, F⟩ := c.def_ 8 (d := d_l_firsts) rfl
  have F' : Fun K "_law_firsts" "_law_firsts" s_l_firsts _ fd := He5.fun_of F
  exact ⟨_, fd, He.glo_ok X G (c.fact 8 (f := .glo "_law_firsts") rfl), F', F'.binds (ps := ["knot"]) fun _ _ _ _ _ _ us hl => match us, hl with | [_], _ => rfl⟩
theorem D_l_tall (X : K.In h) (G : h.Ns mainGlobals mg) (c : He.SaysD fa fn K) : Def K mg "_law_tall" s_l_tall ["store"] := by
  obtain ⟨fd, F⟩ := c.def_ 9 (d := d_l_tall) rfl
  have F' : Fun K "_law_tall" "_law_tall" s_l_tall _ fd := He5.fun_of F
  exact ⟨_, fd, He.glo_ok X G (c.fact 9 (f := .glo "_law_tall") rfl), F', F'.binds (ps := ["store"]) fun _ _ _ _ _ _ us hl => match us, hl with | [_], _ => rfl⟩
theorem D_l_full (X : K.In h) (G : h.Ns mainGlobals mg) (c : He.SaysD fa fn K) : Def K mg "_law_full" s_l_full [] := by
  obtain ⟨fd, F⟩ := c.def_ 10 (d := d_l_full) rfl
  have F' : Fun K "_law_full" "_law_full" s_l_full _ fd := He5.fun_of F
  exact ⟨_, fd, He.glo_ok X G (c.fact 10 (f := .glo "_law_full") rfl), F', F'.binds (ps := []) fun _ _ _ _ _ _ us hl => match us, hl with | [], _ => rfl⟩
theorem D_l_chain (X : K.In h) (G : h.Ns mainGlobals mg) (c : He.SaysD fa fn K) : Def K mg "_law_chain" s_l_chain ["store"] := by
  obtain ⟨fd, F⟩ := c.def_ 11 (d := d_l_chain) rfl
  have F' : Fun K "_law_chain" "_law_chain" s_l_chain _ fd := He5.fun_of F
  exact ⟨_, fd, He.glo_ok X G (c.fact 11 (f := .glo "_law_chain") rfl), F', F'.binds (ps := ["store"]) fun _ _ _ _ _ _ us hl => match us, hl with | [_], _ => rfl⟩
theorem D_l_long_right (X : K.In h) (G : h.Ns mainGlobals mg) (c : He.SaysD fa fn K) : Def K mg "_law_long_right" s_l_long_right ["store"] := by
  obtain ⟨fd, F⟩ := c.def_ 12 (d := d_l_long_right) rfl
  have F' : Fun K "_law_long_right" "_law_long_right" s_l_long_right _ fd := He5.fun_of F
  exact ⟨_, fd, He.glo_ok X G (c.fact 12 (f := .glo "_law_long_right") rfl), F', F'.binds (ps := ["store"]) fun _ _ _ _ _ _ us hl => match us, hl with | [_], _ => rfl⟩
theorem D_all_choices (X : K.In h) (G : h.Ns mainGlobals mg) (c : He.SaysD fa fn K) : Def K mg "all_choices" s_all_choices ["knot"] := by
  obtain ⟨fd, F⟩ := c.def_ 13 (d := d_all_choices) rfl
  have F' : Fun K "all_choices" "all_choices" s_all_choices _ fd := He5.fun_of F
  exact ⟨_, fd, He.glo_ok X G (c.fact 13 (f := .glo "all_choices") rfl), F', F'.binds (ps := ["knot"]) fun _ _ _ _ _ _ us hl => match us, hl with | [_], _ => rfl⟩
theorem D_first_choices (X : K.In h) (G : h.Ns mainGlobals mg) (c : He.SaysD fa fn K) : Def K mg "first_choices" s_first_choices ["knot"] := by
  obtain ⟨fd, F⟩ := c.def_ 14 (d := d_first_choices) rfl
  have F' : Fun K "first_choices" "first_choices" s_first_choices _ fd := He5.fun_of F
  exact ⟨_, fd, He.glo_ok X G (c.fact 14 (f := .glo "first_choices") rfl), F', F'.binds (ps := ["knot"]) fun _ _ _ _ _ _ us hl => match us, hl with | [_], _ => rfl⟩
theorem D_choices_by_knot (X : K.In h) (G : h.Ns mainGlobals mg) (c : He.SaysD fa fn K) : Def K mg "choices_by_knot" s_choices_by_knot ["web", "first"] := by
  obtain ⟨fd, F⟩ := c.def_ 15 (d := d_choices_by_knot) rfl
  have F' : Fun K "choices_by_knot" "choices_by_knot" s_choices_by_knot _ fd := He5.fun_of F
  exact ⟨_, fd, He.glo_ok X G (c.fact 15 (f := .glo "choices_by_knot") rfl), F', F'.binds (ps := ["web", "first"]) fun _ _ _ _ _ _ us hl => match us, hl with | [_, _], _ => rfl⟩
theorem D_runs_behind (X : K.In h) (G : h.Ns mainGlobals mg) (c : He.SaysD fa fn K) : Def K mg "runs_behind" s_runs_behind ["way", "counts"] := by
  obtain ⟨fd, F⟩ := c.def_ 16 (d := d_runs_behind) rfl
  have F' : Fun K "runs_behind" "runs_behind" s_runs_behind _ fd := He5.fun_of F
  exact ⟨_, fd, He.glo_ok X G (c.fact 16 (f := .glo "runs_behind") rfl), F', F'.binds (ps := ["way", "counts"]) fun _ _ _ _ _ _ us hl => match us, hl with | [_, _], _ => rfl⟩
theorem D_run_counts (X : K.In h) (G : h.Ns mainGlobals mg) (c : He.SaysD fa fn K) : Def K mg "run_counts" s_run_counts ["web", "taken"] := by
  obtain ⟨fd, F⟩ := c.def_ 17 (d := d_run_counts) rfl
  have F' : Fun K "run_counts" "run_counts" s_run_counts _ fd := He5.fun_of F
  exact ⟨_, fd, He.glo_ok X G (c.fact 17 (f := .glo "run_counts") rfl), F', F'.binds (ps := ["web", "taken"]) fun _ _ _ _ _ _ us hl => match us, hl with | [_, _], _ => rfl⟩
theorem D_runs_told (X : K.In h) (G : h.Ns mainGlobals mg) (c : He.SaysD fa fn K) : Def K mg "runs_told" s_runs_told ["web", "taken"] := by
  obtain ⟨fd, F⟩ := c.def_ 18 (d := d_runs_told) rfl
  have F' : Fun K "runs_told" "runs_told" s_runs_told _ fd := He5.fun_of F
  exact ⟨_, fd, He.glo_ok X G (c.fact 18 (f := .glo "runs_told") rfl), F', F'.binds (ps := ["web", "taken"]) fun _ _ _ _ _ _ us hl => match us, hl with | [_, _], _ => rfl⟩
theorem D_runs_of_web (X : K.In h) (G : h.Ns mainGlobals mg) (c : He.SaysD fa fn K) : Def K mg "runs_of_web" s_runs_of_web ["web"] := by
  obtain ⟨fd, F⟩ := c.def_ 19 (d := d_runs_of_web) rfl
  have F' : Fun K "runs_of_web" "runs_of_web" s_runs_of_web _ fd := He5.fun_of F
  exact ⟨_, fd, He.glo_ok X G (c.fact 19 (f := .glo "runs_of_web") rfl), F', F'.binds (ps := ["web"]) fun _ _ _ _ _ _ us hl => match us, hl with | [_], _ => rfl⟩
theorem D_count_first (X : K.In h) (G : h.Ns mainGlobals mg) (c : He.SaysD fa fn K) : Def K mg "count_first" s_count_first ["web"] := by
  obtain ⟨fd, F⟩ := c.def_ 20 (d := d_count_first) rfl
  have F' : Fun K "count_first" "count_first" s_count_first _ fd := He5.fun_of F
  exact ⟨_, fd, He.glo_ok X G (c.fact 20 (f := .glo "count_first") rfl), F', F'.binds (ps := ["web"]) fun _ _ _ _ _ _ us hl => match us, hl with | [_], _ => rfl⟩
theorem D_first_runs (X : K.In h) (G : h.Ns mainGlobals mg) (c : He.SaysD fa fn K) : Def K mg "first_runs" s_first_runs ["web"] := by
  obtain ⟨fd, F⟩ := c.def_ 21 (d := d_first_runs) rfl
  have F' : Fun K "first_runs" "first_runs" s_first_runs _ fd := He5.fun_of F
  exact ⟨_, fd, He.glo_ok X G (c.fact 21 (f := .glo "first_runs") rfl), F', F'.binds (ps := ["web"]) fun _ _ _ _ _ _ us hl => match us, hl with | [_], _ => rfl⟩
theorem fx (X : K.In h) (G : h.Ns mainGlobals mg) (c : He.SaysD fa fn K) (cx : ex K = true) : Fx K mg := ⟨D_l_cell X G c,
  D_l_store X G c,
  D_l_take X G c,
  D_l_way X G c,
  D_l_knots X G c,
  D_l_counted X G c,
  D_l_some_runs X G c,
  D_l_word X G c,
  D_l_firsts X G c,
  D_l_tall X G c,
  D_l_full X G c,
  D_l_chain X G c,
  D_l_long_right X G c,
  D_all_choices X G c,
  D_first_choices X G c,
  D_choices_by_knot X G c,
  D_runs_behind X G c,
  D_run_counts X G c,
  D_runs_told X G c,
  D_runs_of_web X G c,
  D_count_first X G c,
  D_first_runs X G c,
  He.free_ok X G (c.fact 23 (f := .free "len") rfl),
  He.free_ok X G (c.fact 24 (f := .free "range") rfl),
  He.free_ok X G (c.fact 25 (f := .free "zip") rfl),
  He.free_ok X G (c.fact 26 (f := .free "sum") rfl),
  He.free_ok X G (c.fact 27 (f := .free "int") rfl),
  He.free_ok X G (c.fact 28 (f := .free "isinstance") rfl),
  He.free_ok X G (c.fact 29 (f := .free "ValueError") rfl),
  He.free_ok X G (c.fact 30 (f := .free "list") rfl),
  He.free_ok X G (c.fact 31 (f := .free "min") rfl),
  He.free_ok X G (c.fact 32 (f := .free "max") rfl),
  He.int_ok X G (c.fact 33 (f := .int "MOST_RUNS" 2000) rfl),
  He.glo_ok X G (c.fact 34 (f := .glo "RunError") rfl),
  He.glo_ok X G (c.fact 35 (f := .glo "NoStore") rfl),
  He.glo_ok X G (c.fact 36 (f := .glo "NoNumber") rfl),
  He.glo_ok X G (c.fact 37 (f := .glo "TooMany") rfl),
  He.glo_ok X G (c.fact 38 (f := .glo "NoFit") rfl),
  He.glo_ok X G (c.fact 39 (f := .glo "NoText") rfl),
  He.glo_ok X G (c.fact 40 (f := .glo "NoName") rfl),
  He.glo_ok X G (c.fact 41 (f := .glo "NoRow") rfl),
  He.glo_ok X G (c.fact 42 (f := .glo "NoChoice") rfl),
  excB_ok (ex_at cx 0 rfl) (He.glo_ok X G (c.fact 37 (f := .glo "TooMany") rfl)),
  of_decide_eq_true (ex_at cx 1 rfl),
  of_decide_eq_true (ex_at cx 2 rfl),
  of_decide_eq_true (ex_at cx 3 rfl),
  of_decide_eq_true (ex_at cx 4 rfl),
  of_decide_eq_true (ex_at cx 5 rfl),
  of_decide_eq_true (ex_at cx 6 rfl),
  of_decide_eq_true (ex_at cx 7 rfl),
  of_decide_eq_true (ex_at cx 8 rfl),
  of_decide_eq_true (ex_at cx 9 rfl),
  of_decide_eq_true (ex_at cx 10 rfl),
  of_decide_eq_true (ex_at cx 11 rfl),
  of_decide_eq_true (ex_at cx 12 rfl),
  of_decide_eq_true (ex_at cx 13 rfl),
  of_decide_eq_true (ex_at cx 14 rfl),
  of_decide_eq_true (ex_at cx 15 rfl),
  of_decide_eq_true (ex_at cx 16 rfl),
  of_decide_eq_true (ex_at cx 17 rfl),
  of_decide_eq_true (ex_at cx 18 rfl),
  of_decide_eq_true (ex_at cx 19 rfl)⟩
theorem facts {P : Program} {w : World} {f : Addr} (X : K.In h) (G : h.Ns mainGlobals mg) (hfa : mg ("law" : Str) = some (.ref f)) (c : He.SaysD fa fn K) (cx : ex K = true) :
    ∃ fd : FuncData, (∀ (s : Shared) (v : Value), BindsTo s fd ⟨[v], []⟩ [("script", v)]) ∧ ∀ base : Heap, K.In base → base.Ns mainGlobals mg → FnOk P w K mg base CX0 9 f fd ["script"] (spG K (T_law K)) := by
  obtain ⟨fd, F⟩ := c.def_ 22 (d := d_law) rfl
  have e := hfa.symm.trans (He.glo_ok X G (c.fact 22 (f := .glo "law") rfl))
  cases e
  have b := FunD.bindsA (ps := ["script"]) F fun _ _ _ _ _ _ us hl => match us, hl with | [_], _ => rfl
  have F' : Fun K "law" "law" s_law _ fd := He5.fun_of F
  exact ⟨fd, fun s v => b s [v] rfl, fun base _ _ => chain F' (fx X G c cx)⟩
end
end Hd
open PySem PySem.W PySem.Calls PyProof.Rows
theorem PySem.Challenge.cw_pickruns_k32_too_many_runs_holds : PySem.Challenge.rw_pickruns_k32_too_many_runs.Holds := by
  w_on; o_law
  refine HandSHeadRun.head_any (r := OpenLaw.row PySem.Challenge.rw_pickruns_k32_too_many_runs) (q := view (OpenLaw.row PySem.Challenge.rw_pickruns_k32_too_many_runs).prog [35]) (H := Hd.hk) (ob := Hd.ob) (M := 12000) (loose := Hd.loose) (d := HandSHeadRun.topDef (OpenLaw.row PySem.Challenge.rw_pickruns_k32_too_many_runs).prog 35) (kwd := []) Hd.ob_eq
    (by kernel_rfl) (fun s => by kernel_rfl) Hd.run (by kernel_rfl) (by kernel_rfl) (by kernel_rfl) (by rfl) (by first | assumption | decide +kernel) (by decide +kernel) ⟨rfl, rfl, rfl, rfl, rfl, by decide +kernel⟩ ?hw ?hc
  case hw => w_witness2
  case hc =>
    refine L2.walk_ofE (l := PySem.Challenge.rw_pickruns_k32_too_many_runs) (n := 63) (k := 9) (x := "script") (CX := L2.CX0) rfl (by decide) (by kernel_rfl) ⟨rfl, by decide, by decide⟩ ?F (fun _ _ _ _ z => z)
    intro w mg fa h Y G hmg0
    obtain ⟨K, KX, c, cx⟩ := Y
    have hmg : mg ("law" : PySem.Str) = some (.ref fa) := by
      have e : (HandSHeadRun.topDef (OpenLaw.row PySem.Challenge.rw_pickruns_k32_too_many_runs).prog 35).name = ("law" : PySem.Str) := by kernel_rfl
      rw [← e]
      exact hmg0
    obtain ⟨fd, hb, hF⟩ := Hd.facts (P := (PySem.Challenge.rw_pickruns_k32_too_many_runs).prog) (w := w) KX G hmg c cx
    exact ⟨K, fd, Pk.spG K (Pk.T_law K), KX, hb, fun H a ns hl _ hS => Pk.law_start hl hS fun _ => rfl, hF⟩
end
