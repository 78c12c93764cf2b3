import PyProof.Rows.All
import PyProof.StrBlock2
import Wide.All
import Wide.FinOn
import OpenK.AllK
import HandS.ForMost
import HandS.ForExc
import HandS.IsInst
import HandS.Deep
import HandS.Conv
import HandS.Walk
import HandS.Style
import HandS.Zip
import HandS.TupAny
import HandS.Text
import HandS.WordsExc
import HandS.TryOnly
import HandS.ExcIs
import HandS.ExcValue
import HandS.HeadHook1
import HandS.HeadHook2
import KE.KDictZip
import HandS.Strs
import HandS.ExcInit
import HandS.ExcField
import KE.DataCmp
import KE.SortData
import KE.KEqDict
import PySem.Challenge.RW_pickruns_k08_all_runs_told
import KE.KStateDown
import Lean
import HandS.Head0
import HandS.Head1
import HandS.Head2
import HandS.HeadEnd
import HandS.HeadNt
section
set_option Elab.async false
set_option linter.all false
set_option maxRecDepth 100000
/-! The data layer, part 0: what is represented, slots, environments. -/
namespace Pk
open PySem PySem.Spec PyProof.Rows L2

abbrev Le (F H : Hp) : Prop := ∀ a o, F a = some o → H a = some o
theorem Le.rfl' {F : Hp} : Le F F := fun _ _ h => h
theorem Le.tr {F G H : Hp} (a : Le F G) (b : Le G H) : Le F H := fun x o h => b x o (a x o h)
theorem Le.nn {F H : Hp} (e : Le F H) {a : Addr} (h : H a = none) : F a = none := by
  cases q : F a with
  | none => rfl
  | some o => rw [e a o q] at h; cases h
theorem Le.new {F H : Hp} (e : Le F H) {p : Addr} {o : HO} (h : F p = none) : Le F (upd H p o) := fun a u q => by
  rw [upd_ne (ne_of_none q h)]; exact e a u q
theorem Le.both {F H : Hp} (e : Le F H) {p : Addr} {o : HO} : Le (upd F p o) (upd H p o) := fun a u q => by
  by_cases hp : a = p
  · subst hp; rw [upd_same] at q ⊢; exact q
  · rw [upd_ne hp] at q ⊢; exact e a u q
theorem Le.up {F : Hp} {p : Addr} {o : HO} (h : F p = none) : Le F (upd F p o) := Le.new Le.rfl' h
theorem Le.lay {F H : Hp} (e : Le F H) {p : Addr} {o : HO} (h : H p = some o) : Le (upd F p o) H := fun a u q => by
  by_cases hp : a = p
  · subst hp; rw [upd_same] at q; rw [← q]; exact h
  · rw [upd_ne hp] at q; exact e a u q

theorem sqT_le {K : PySem.W.Frag} {F F' : Hp} {a : Addr} {xs : List V} (e : Le F F') (h : SqT K F a xs) : SqT K F' a xs := by
  rcases h with (h | ⟨o, h⟩) | h
  · exact .inl (.inl (e _ _ h))
  · exact .inl (.inr ⟨o, e _ _ h⟩)
  · exact .inr h
theorem sqL_le {K : PySem.W.Frag} {F F' : Hp} {a : Addr} {xs : List V} (e : Le F F') (h : SqL K F a xs) : SqL K F' a xs := by
  rcases h with (h | ⟨o, h⟩) | h
  · exact .inl (.inl (e _ _ h))
  · exact .inl (.inr ⟨o, e _ _ h⟩)
  · exact .inr h

/-! ### data as it stands in a heap -/
/-- flat dicts as data -/
def kD : Key → PyData
  | .inl i => .int i
  | .inr x => .str x
def vD : V → PyData
  | .int i => .int i
  | .str x => .str x
  | .bl b => .bool b
  | .non => .none
  | _ => .list []
def kvD (p : Key × V) : PyData × PyData := (kD p.1, vD p.2)
def flD : PyData → Bool
  | .none => true
  | .bool _ => true
  | .int _ => true
  | .str _ => true
  | _ => false
def flatDs (ds : List (PyData × PyData)) : Bool := ds.all fun z => flD z.2
mutual
inductive Rp (K : PySem.W.Frag) (F : Hp) : V → PyData → Prop
  | non : Rp K F .non .none
  | bl (b : Bool) : Rp K F (.bl b) (.bool b)
  | int (i : Int) : Rp K F (.int i) (.int i)
  | str (x : Str) : Rp K F (.str x) (.str x)
  | lst {a : Addr} {xs : List V} {ds : List PyData} : F a = some (.lst xs) → RpA K F xs ds → Rp K F (.ref a) (.list ds)
  | tup {a : Addr} {xs : List V} {ds : List PyData} : SqT K F a xs → RpA K F xs ds → Rp K F (.ref a) (.tuple ds)
  /-- a dict: what is in it is told where that is flat -/
  | dct {a : Addr} {kvs : List (Key × V)} {ds : List (PyData × PyData)} : F a = some (.dK kvs) → (flatDs ds = true → kvs.map kvD = ds) → Rp K F (.ref a) (.dict ds)
inductive RpA (K : PySem.W.Frag) (F : Hp) : List V → List PyData → Prop
  | nil : RpA K F [] []
  | cons {v : V} {vs : List V} {d : PyData} {ds : List PyData} : Rp K F v d → RpA K F vs ds → RpA K F (v :: vs) (d :: ds)
end
section
variable {K : PySem.W.Frag} {F F' H : Hp}
mutual
theorem Rp.le (e : Le F F') : ∀ (d : PyData) {v : V}, Rp K F v d → Rp K F' v d
  | .none, _, h => by cases h; exact .non
  | .bool _, _, h => by cases h; exact .bl _
  | .int _, _, h => by cases h; exact .int _
  | .str _, _, h => by cases h; exact .str _
  | .list ds, _, h => by
    cases h with
    | lst a b => exact .lst (e _ _ a) (RpA.le e ds b)
  | .tuple ds, _, h => by
    cases h with
    | tup a b => exact .tup (sqT_le e a) (RpA.le e ds b)
  | .dict _, _, h => by
    cases h with
    | dct a t => exact .dct (e _ _ a) t
theorem RpA.le (e : Le F F') : ∀ (ds : List PyData) {vs : List V}, RpA K F vs ds → RpA K F' vs ds
  | [], _, h => by cases h; exact .nil
  | d :: ds, _, h => by
    cases h with
    | cons a b => exact .cons (Rp.le e d a) (RpA.le e ds b)
end
theorem Rp.mono {v : V} {d : PyData} (h : Rp K F v d) (e : Le F F') : Rp K F' v d := Rp.le e d h
theorem RpA.mono {vs : List V} {ds : List PyData} (h : RpA K F vs ds) (e : Le F F') : RpA K F' vs ds := RpA.le e ds h
mutual
theorem Rp.dp : ∀ (d : PyData) {v : V}, d.canLay0 = true → Rp K F v d → Dp K F v d
  | .none, _, _, h => by cases h; exact .non
  | .bool _, _, _, h => by cases h; exact .bl _
  | .int _, _, _, h => by cases h; exact .int _
  | .str _, _, _, h => by cases h; exact .str _
  | .list ds, _, c, h => by
    cases h with
    | lst a b => exact .lst (SqL.of a) (RpA.dp ds (by simpa [PyData.canLay0] using c) b)
  | .tuple ds, _, c, h => by
    cases h with
    | tup a b => exact .tup a (RpA.dp ds (by simpa [PyData.canLay0] using c) b)
  | .dict _, _, c, _ => by simp [PyData.canLay0] at c
theorem RpA.dp : ∀ (ds : List PyData) {vs : List V}, PyData.canLayAll0 ds = true → RpA K F vs ds → DpAll K F vs ds
  | [], _, _, h => by cases h; exact .nil
  | d :: ds, _, c, h => by
    have c' : d.canLay0 = true ∧ PyData.canLayAll0 ds = true := by simpa [PyData.canLayAll0] using c
    cases h with
    | cons a b => exact .cons (Rp.dp d c'.1 a) (RpA.dp ds c'.2 b)
end
theorem RpA.length : ∀ {vs : List V} {ds : List PyData}, RpA K F vs ds → vs.length = ds.length
  | [], [], _ => rfl
  | _ :: _, [], h => by cases h
  | [], _ :: _, h => by cases h
  | _ :: vs, _ :: ds, h => by
    cases h with
    | cons _ b => simp [RpA.length b]
theorem RpA.get : ∀ {vs : List V} {ds : List PyData} {i : Nat} {d : PyData}, RpA K F vs ds → ds[i]? = some d → ∃ v, vs[i]? = some v ∧ Rp K F v d
  | [], [], i, d, _, e => by simp at e
  | _ :: _, [], _, _, h, _ => by cases h
  | [], _ :: _, _, _, h, _ => by cases h
  | v :: vs, x :: ds, 0, d, h, e => by
    cases h with
    | cons a b => simp at e; subst e; exact ⟨v, rfl, a⟩
  | v :: vs, x :: ds, i + 1, d, h, e => by
    cases h with
    | cons a b =>
      obtain ⟨u, h1, h2⟩ := RpA.get (i := i) (d := d) b (by simpa using e)
      exact ⟨u, by simpa using h1, h2⟩
theorem RpA.getV : ∀ {vs : List V} {ds : List PyData} {i : Nat} {v : V}, RpA K F vs ds → vs[i]? = some v → ∃ d, ds[i]? = some d ∧ Rp K F v d
  | [], [], i, d, _, e => by simp at e
  | _ :: _, [], _, _, h, _ => by cases h
  | [], _ :: _, _, _, h, _ => by cases h
  | v :: vs, x :: ds, 0, d, h, e => by
    cases h with
    | cons a b => simp at e; subst e; exact ⟨x, rfl, a⟩
  | v :: vs, x :: ds, i + 1, d, h, e => by
    cases h with
    | cons a b =>
      obtain ⟨u, h1, h2⟩ := RpA.getV (i := i) (v := d) b (by simpa using e)
      exact ⟨u, by simpa using h1, h2⟩
theorem RpA.append : ∀ {vs us : List V} {ds es : List PyData}, RpA K F vs ds → RpA K F us es → RpA K F (vs ++ us) (ds ++ es)
  | [], _, [], _, _, h => h
  | _ :: _, _, [], _, h, _ => by cases h
  | [], _, _ :: _, _, h, _ => by cases h
  | _ :: _, _, _ :: _, _, h, k => by
    cases h with
    | cons a b => exact .cons a (RpA.append b k)
theorem RpA.take : ∀ {vs : List V} {ds : List PyData} (n : Nat), RpA K F vs ds → RpA K F (vs.take n) (ds.take n)
  | [], [], n, _ => by simp; exact .nil
  | _ :: _, [], _, h => by cases h
  | [], _ :: _, _, h => by cases h
  | _ :: _, _ :: _, 0, _ => .nil
  | _ :: _, _ :: _, n + 1, h => by
    cases h with
    | cons a b => exact .cons a (RpA.take n b)
theorem RpA.drop : ∀ {vs : List V} {ds : List PyData} (n : Nat), RpA K F vs ds → RpA K F (vs.drop n) (ds.drop n)
  | [], [], n, _ => by simp; exact .nil
  | _ :: _, [], _, h => by cases h
  | [], _ :: _, _, h => by cases h
  | _ :: _, _ :: _, 0, h => h
  | _ :: _, _ :: _, n + 1, h => by
    cases h with
    | cons a b => exact RpA.drop n b
theorem RpA.set : ∀ {vs : List V} {ds : List PyData} {v : V} {d : PyData} (n : Nat), RpA K F vs ds → Rp K F v d → RpA K F (vs.set n v) (ds.set n d)
  | [], [], _, _, n, _, _ => by simp; exact .nil
  | _ :: _, [], _, _, _, h, _ => by cases h
  | [], _ :: _, _, _, _, h, _ => by cases h
  | _ :: _, _ :: _, _, _, 0, h, k => by
    cases h with
    | cons a b => exact .cons k b
  | _ :: _, _ :: _, _, _, n + 1, h, k => by
    cases h with
    | cons a b => exact .cons a (RpA.set n b k)
theorem RpA.reverse : ∀ {vs : List V} {ds : List PyData}, RpA K F vs ds → RpA K F vs.reverse ds.reverse
  | [], [], _ => .nil
  | _ :: _, [], h => by cases h
  | [], _ :: _, h => by cases h
  | _ :: _, _ :: _, h => by
    cases h with
    | cons a b => simp only [List.reverse_cons]; exact (RpA.reverse b).append (.cons a .nil)
theorem RpA.one {v : V} {d : PyData} (h : Rp K F v d) : RpA K F [v] [d] := .cons h .nil
/-- a scalar stands in any heap -/
def flat : PyData → Bool
  | .none => true | .bool _ => true | .int _ => true | .str _ => true | _ => false
theorem Rp.flat {v : V} {d : PyData} (h : Rp K F v d) (f : flat d = true) : Rp K F' v d := by
  cases h with
  | non => exact .non
  | bl b => exact .bl b
  | int i => exact .int i
  | str x => exact .str x
  | lst _ _ => cases f
  | tup _ _ => cases f
  | dct _ _ => cases f
end

/-! ### list-free data; data whose lists are new -/
mutual
def lf : PyData → Bool
  | .list _ => false
  | .dict _ => false
  | .tuple xs => lfA xs
  | _ => true
def lfA : List PyData → Bool
  | [] => true
  | x :: xs => lf x && lfA xs
end
def TupLe (K : PySem.W.Frag) (F F' : Hp) : Prop := (∀ a xs, SqT K F a xs → SqT K F' a xs) ∧ ∀ a fs, F a = some (.xd fs) → F' a = some (.xd fs)
theorem Le.tup {K : PySem.W.Frag} {F F' : Hp} (e : Le F F') : TupLe K F F' := ⟨fun _ _ h => sqT_le e h, fun a _ h => e a _ h⟩
section
variable {K : PySem.W.Frag} {F F' : Hp}
mutual
theorem Rp.lfree (e : TupLe K F F') : ∀ (d : PyData) {v : V}, lf d = true → Rp K F v d → Rp K F' v d
  | .none, _, _, h => by cases h; exact .non
  | .bool _, _, _, h => by cases h; exact .bl _
  | .int _, _, _, h => by cases h; exact .int _
  | .str _, _, _, h => by cases h; exact .str _
  | .list ds, _, z, h => by simp [lf] at z
  | .tuple ds, _, z, h => by
    cases h with
    | tup a b => exact .tup (e.1 _ _ a) (RpA.lfree e ds (by simpa [lf] using z) b)
  | .dict _, _, z, h => by simp [lf] at z
theorem RpA.lfree (e : TupLe K F F') : ∀ (ds : List PyData) {vs : List V}, lfA ds = true → RpA K F vs ds → RpA K F' vs ds
  | [], _, _, h => by cases h; exact .nil
  | d :: ds, _, z, h => by
    have z' : lf d = true ∧ lfA ds = true := by simpa [lfA] using z
    cases h with
    | cons a b => exact .cons (Rp.lfree e d z'.1 a) (RpA.lfree e ds z'.2 b)
end
end
open Classical in
/-- F without the lists of N -/
noncomputable def cutN (N : Addr → Prop) (F : Hp) : Hp := fun a => match F a with
  | some (.lst xs) => if N a then none else some (.lst xs)
  | o => o
theorem cutN_le (N : Addr → Prop) (F : Hp) : Le (cutN N F) F := fun a o h => by
  unfold cutN at h
  split at h
  · rename_i xs e
    split at h
    · cases h
    · rw [e]; exact h
  · exact h
theorem cutN_at {N : Addr → Prop} {F : Hp} {a : Addr} (h : ¬ N a) : cutN N F a = F a := by
  unfold cutN
  split
  · rename_i xs e
    rw [if_neg h, e]
  · rfl
theorem cutN_lst {N : Addr → Prop} {F : Hp} {a : Addr} {xs : List V} (h : cutN N F a = some (.lst xs)) : ¬ N a ∧ F a = some (.lst xs) := by
  refine ⟨fun n => ?_, cutN_le N F a _ h⟩
  have e := cutN_le N F a _ h
  unfold cutN at h
  rw [e] at h
  simp [n] at h
theorem cutN_mono {N N' : Addr → Prop} {F F' : Hp} (hN : ∀ a, N' a → N a) (e : Le F F') : Le (cutN N F) (cutN N' F') := fun a o h => by
  cases o with
  | lst xs =>
    obtain ⟨n, q⟩ := cutN_lst h
    rw [cutN_at fun z => n (hN a z)]
    exact e _ _ q
  | _ =>
    have q := e _ _ (cutN_le N F a _ h)
    unfold cutN
    rw [q]
theorem cutN_tup {K : PySem.W.Frag} {N : Addr → Prop} {F : Hp} : TupLe K F (cutN N F) := by
  refine ⟨fun a xs h => ?_, fun a fs h => by unfold cutN; rw [h]⟩
  rcases h with (h | ⟨o, h⟩) | h
  · refine .inl (.inl ?_)
    unfold cutN
    rw [h]
  · refine .inl (.inr ⟨o, ?_⟩)
    unfold cutN
    rw [h]
  · exact .inr h

/-! ### slots -/
/-- what a def's environment leans on: the heap at the entry, what of it is frozen, what of it may be changed -/
structure Bs where
  K : PySem.W.Frag
  F0 : Hp
  H0 : Hp
  S0 : Addr → Prop
  N : Addr → Prop
def Bs.own (X : Bs) (a : Addr) : Prop := X.H0 a = none ∨ X.S0 a
/-- the frozen part, all of it, or without the lists that stood before -/
noncomputable def Bs.ff (X : Bs) (F : Hp) : Bool → Hp
  | true => cutN X.N F
  | false => F
theorem Bs.ff_le (X : Bs) (F : Hp) (m : Bool) : Le (X.ff F m) F := by
  cases m with
  | true => exact cutN_le X.N F
  | false => exact Le.rfl'
theorem Bs.ff_mono {X : Bs} {F F' : Hp} (e : Le F F') (m : Bool) : Le (X.ff F m) (X.ff F' m) := by
  cases m with
  | true => exact cutN_mono (fun _ h => h) e
  | false => exact e
theorem Bs.ff_at {X : Bs} {F : Hp} {m : Bool} {a : Addr} (h : ¬ X.N a) : X.ff F m a = F a := by
  cases m with
  | true => exact cutN_at h
  | false => rfl
theorem Bs.ff_tup {X : Bs} {F : Hp} {m : Bool} {K : PySem.W.Frag} : TupLe K F (X.ff F m) := by
  cases m with
  | true => exact cutN_tup
  | false => exact ⟨fun _ _ h => h, fun _ _ h => h⟩
/-- another's new is new to me -/
theorem Bs.ff_to {X X' : Bs} {F : Hp} (hN : ∀ a, X'.N a → X.N a) (m : Bool) : Le (X.ff F m) (X'.ff F m) := by
  cases m with
  | true => exact cutN_mono hN Le.rfl'
  | false => exact Le.rfl'
open Classical in
/-- F with what stands in H at S -/
noncomputable def lay (S : Addr → Prop) (H F : Hp) : Hp := fun a => if S a then H a else F a
/-- a thing of one's own that may change, by what holds of it; vw: as which data it may be read -/
structure Own where
  K : PySem.W.Frag
  p : Hp → Hp → V → (Addr → Prop) → Prop
  vw : Option PyData
  keep : ∀ {F F' H H' : Hp} {v : V} {S : Addr → Prop}, p F H v S → Le F F' → (∀ a, S a → H' a = H a) → p F' H' v S
  /-- what is read as no data bears the loss of frozen lists -/
  keepT : vw = none → ∀ {F F' H H' : Hp} {v : V} {S : Addr → Prop}, p F H v S → TupLe K F F' → (∀ a, S a → H' a = H a) → p F' H' v S
  view : ∀ {F H : Hp} {v : V} {S : Addr → Prop} {d : PyData}, Le F H → p F H v S → vw = some d → Rp K (lay S H F) v d ∧ ∀ a, S a → ∃ xs, H a = some (.lst xs)
inductive Sl where
  | no
  | dat (m : Bool) (d : PyData)
  | ml (m : Bool) (l : Addr) (ds : List PyData)
  | ex (v : V) (Φ : Own)
abbrev Sl.dt (d : PyData) : Sl := .dat false d
def SlOk (X : Bs) (F H : Hp) (ov : Option V) (S : Addr → Prop) : Sl → Prop
  | .no => ∀ a, ¬ S a
  | .dat m d => (∃ v, ov = some v ∧ Rp X.K (X.ff F m) v d) ∧ ∀ a, ¬ S a
  | .ml m l ds => ∃ xs, ov = some (.ref l) ∧ (∀ a, S a ↔ a = l) ∧ H l = some (.lst xs) ∧ RpA X.K (X.ff F m) xs ds ∧ (m = true → ¬ X.N l)
  | .ex v Φ => ov = some v ∧ Φ.K = X.K ∧ Φ.p F H v S
theorem SlOk.mono {X : Bs} {F F' H H' : Hp} {ov : Option V} {S : Addr → Prop} : ∀ {s : Sl}, SlOk X F H ov S s → Le F F' → (∀ a, S a → H' a = H a) → SlOk X F' H' ov S s
  | .no, h, _, _ => h
  | .dat m _, ⟨⟨v, e, r⟩, n⟩, le, _ => ⟨⟨v, e, r.mono (Bs.ff_mono le m)⟩, n⟩
  | .ml m l ds, ⟨xs, e, hS, hl, r, nl⟩, le, k => ⟨xs, e, hS, (k l ((hS l).mpr rfl)).trans hl, r.mono (Bs.ff_mono le m), nl⟩
  | .ex _ Φ, ⟨e, hk, q⟩, le, k => ⟨e, hk, Φ.keep q le k⟩
/-- the same over another base -/
theorem SlOk.to {X X' : Bs} {F H : Hp} {ov : Option V} {S : Addr → Prop} (hK : X.K = X'.K) (hN : ∀ a, X'.N a → X.N a) : ∀ {s : Sl}, SlOk X F H ov S s → SlOk X' F H ov S s
  | .no, h => h
  | .dat m _, ⟨⟨v, e, r⟩, n⟩ => ⟨⟨v, e, by rw [← hK]; exact r.mono (Bs.ff_to hN m)⟩, n⟩
  | .ml m l ds, ⟨xs, e, hS, hl, r, nl⟩ => ⟨xs, e, hS, hl, by rw [← hK]; exact r.mono (Bs.ff_to hN m), fun z n => nl z (hN l n)⟩
  | .ex _ Φ, ⟨e, hk, q⟩ => ⟨e, hk.trans hK, q⟩
structure En (X : Bs) (F H : Hp) (σ : L2.St) (Γ : List Sl) : Prop where
  le : Le F H
  len : σ.length = Γ.length
  sl : ∃ S : Nat → Addr → Prop, (∀ i s, Γ[i]? = some s → SlOk X F H (σ.getD i none) (S i) s) ∧ (∀ i j a, S i a → S j a → i = j) ∧ (∀ i a, S i a → F a = none ∧ H a ≠ none ∧ X.own a)
  fr : ∀ a o, X.H0 a = some o → ¬ X.S0 a → H a = some o ∧ F a = X.F0 a
  f0 : Le X.F0 F
  nn : ∀ a, X.N a → H a ≠ none
section
variable {X : Bs} {F F' H H' : Hp} {σ : L2.St} {Γ : List Sl}
theorem En.ownN (E : En X F H σ Γ) {p : Addr} (h : H p = none) : X.own p := by
  by_cases hs : X.S0 p
  · exact .inr hs
  · refine .inl ?_
    cases q : X.H0 p with
    | none => rfl
    | some o => rw [(E.fr p o q hs).1] at h; cases h
theorem En.dat (E : En X F H σ Γ) {i : Nat} {m : Bool} {d : PyData} (h : Γ[i]? = some (.dat m d)) : ∃ v, σ[i]? = some (some v) ∧ Rp X.K (X.ff F m) v d := by
  obtain ⟨S, hs, _⟩ := E.sl
  obtain ⟨⟨v, e, r⟩, _⟩ := hs i _ h
  refine ⟨v, ?_, r⟩
  have hi : i < σ.length := by rw [E.len]; exact (List.getElem?_eq_some_iff.mp h).1
  simp only [List.getD_eq_getElem?_getD, List.getElem?_eq_getElem hi, Option.getD_some] at e
  rw [List.getElem?_eq_getElem hi, e]
theorem En.at {i : Nat} {s : Sl} {v : V} (E : En X F H σ Γ) (h : Γ[i]? = some s) (e : σ.getD i none = some v) : σ[i]? = some (some v) := by
  have hi : i < σ.length := by rw [E.len]; exact (List.getElem?_eq_some_iff.mp h).1
  simp only [List.getD_eq_getElem?_getD, List.getElem?_eq_getElem hi, Option.getD_some] at e
  rw [List.getElem?_eq_getElem hi, e]
theorem En.ml (E : En X F H σ Γ) {i : Nat} {m : Bool} {l : Addr} {ds : List PyData} (h : Γ[i]? = some (.ml m l ds)) : ∃ xs, σ[i]? = some (some (.ref l)) ∧ H l = some (.lst xs) ∧ F l = none ∧ RpA X.K (X.ff F m) xs ds := by
  obtain ⟨S, hs, _, ho⟩ := E.sl
  obtain ⟨xs, e, hS, hl, r, _⟩ := hs i _ h
  exact ⟨xs, E.at h e, hl, (ho i l ((hS l).mpr rfl)).1, r⟩
theorem En.ex (E : En X F H σ Γ) {i : Nat} {v : V} {Φ : Own} (h : Γ[i]? = some (.ex v Φ)) : σ[i]? = some (some v) := by
  obtain ⟨S, hs, _⟩ := E.sl
  obtain ⟨e, _⟩ := hs i _ h
  exact E.at h e
/-- more is frozen, what stands apart may change -/
theorem En.grow (E : En X F H σ Γ) (lf : Le F F') (le : Le F' H') (hh : ∀ a o, H a = some o → H' a = some o) (hn : ∀ a o, H a = some o → F' a = F a) : En X F' H' σ Γ := by
  have hnn : ∀ a, X.N a → H' a ≠ none := fun a n => by
    cases q : H a with
    | none => exact absurd q (E.nn a n)
    | some o => rw [hh a o q]; simp
  obtain ⟨S, hs, hd, ho⟩ := E.sl
  refine ⟨le, E.len, ⟨S, fun i s e => (hs i s e).mono lf fun a sa => ?_, hd, fun i a sa => ?_⟩, fun a o e n => ?_, E.f0.tr lf, hnn⟩
  · obtain ⟨_, h1, _⟩ := ho i a sa
    cases q : H a with
    | none => exact absurd q h1
    | some o => exact hh a o q
  · obtain ⟨h0, h1, h2⟩ := ho i a sa
    cases q : H a with
    | none => exact absurd q h1
    | some o => exact ⟨(hn a o q).trans h0, by rw [hh a o q]; simp, h2⟩
  · obtain ⟨h1, h2⟩ := E.fr a o e n
    exact ⟨hh a o h1, (hn a o h1).trans h2⟩
/-- a new frozen object -/
theorem En.alloc (E : En X F H σ Γ) {p : Addr} {o : HO} (h : H p = none) : En X (upd F p o) (upd H p o) σ Γ :=
  E.grow (Le.up (E.le.nn h)) E.le.both (fun a u q => by rw [upd_ne (ne_of_none q h)]; exact q) (fun a u q => by rw [upd_ne (ne_of_none q h)])
/-- a new object that is not frozen, held by nobody -/
theorem En.free (E : En X F H σ Γ) {p : Addr} {o : HO} (h : H p = none) : En X F (upd H p o) σ Γ :=
  E.grow Le.rfl' (E.le.new (E.le.nn h)) (fun a u q => by rw [upd_ne (ne_of_none q h)]; exact q) (fun _ _ _ => rfl)
theorem getD_app {α : Type} {l : List α} {x d : α} {i : Nat} (h : i < l.length) : (l ++ [x]).getD i d = l.getD i d := by
  simp [List.getD_eq_getElem?_getD, List.getElem?_append_left h]
theorem getD_last {α : Type} {l : List α} {x d : α} : (l ++ [x]).getD l.length d = x := by
  simp [List.getD_eq_getElem?_getD]
/-- one more slot, of a new thing or of data -/
theorem En.pushG (E : En X F H σ Γ) {ov : Option V} {s : Sl} {T : Addr → Prop} (lf : Le F F') (le : Le F' H') (hh : ∀ a o, H a = some o → H' a = some o) (hn : ∀ a o, H a = some o → F' a = F a)
    (h : SlOk X F' H' ov T s) (hT : ∀ a, T a → H a = none ∧ F' a = none ∧ H' a ≠ none) : En X F' H' (σ ++ [ov]) (Γ ++ [s]) := by
  have hown : ∀ a, T a → X.own a := fun a ta => E.ownN (hT a ta).1
  have hdis : ∀ (S : Nat → Addr → Prop), (∀ i a, S i a → F a = none ∧ H a ≠ none ∧ X.own a) → ∀ i a, S i a → ¬ T a := fun S ho i a sa ta => (ho i a sa).2.1 (hT a ta).1
  have E' := E.grow lf le hh hn
  obtain ⟨S, hs, hdj, ho⟩ := E.sl
  have hkeep : ∀ i a, S i a → F' a = none ∧ H' a ≠ none ∧ X.own a := fun i a sa => by
    obtain ⟨h0, h1, h2⟩ := ho i a sa
    cases q : H a with
    | none => exact absurd q h1
    | some o => exact ⟨(hn a o q).trans h0, by rw [hh a o q]; simp, h2⟩
  have hs' : ∀ i s, Γ[i]? = some s → SlOk X F' H' (σ.getD i none) (S i) s := fun i s e => (hs i s e).mono lf fun a sa => by
    obtain ⟨_, h1, _⟩ := ho i a sa
    cases q : H a with
    | none => exact absurd q h1
    | some o => exact hh a o q
  refine ⟨E'.le, by simp [E.len], ⟨fun i a => (i < Γ.length ∧ S i a) ∨ (i = Γ.length ∧ T a), fun i u e => ?_, fun i j a h1 h2 => ?_, fun i a h1 => ?_⟩, E'.fr, E'.f0, E'.nn⟩
  · have hi : i < (Γ ++ [s]).length := (List.getElem?_eq_some_iff.mp e).1
    simp only [List.length_append, List.length_cons, List.length_nil] at hi
    by_cases hlt : i < Γ.length
    · rw [List.getElem?_append_left hlt] at e
      rw [getD_app (by rw [E.len]; exact hlt)]
      have eS : (fun a => (i < Γ.length ∧ S i a) ∨ (i = Γ.length ∧ T a)) = S i := by
        funext a
        apply propext
        constructor
        · rintro (⟨_, q⟩ | ⟨q, _⟩)
          · exact q
          · omega
        · intro q; exact .inl ⟨hlt, q⟩
      show SlOk X F' H' _ (fun a => (i < Γ.length ∧ S i a) ∨ (i = Γ.length ∧ T a)) u
      rw [eS]
      exact hs' i u e
    · have hie : i = Γ.length := by omega
      subst hie
      simp at e; subst e
      have eS : (fun a => (Γ.length < Γ.length ∧ S Γ.length a) ∨ (Γ.length = Γ.length ∧ T a)) = T := by
        funext a
        apply propext
        constructor
        · rintro (⟨q, _⟩ | ⟨_, q⟩)
          · omega
          · exact q
        · intro q; exact .inr ⟨rfl, q⟩
      show SlOk X F' H' _ (fun a => (Γ.length < Γ.length ∧ S Γ.length a) ∨ (Γ.length = Γ.length ∧ T a)) s
      rw [eS, ← E.len, getD_last]
      exact h
  · rcases h1 with ⟨a1, b1⟩ | ⟨a1, b1⟩ <;> rcases h2 with ⟨a2, b2⟩ | ⟨a2, b2⟩
    · exact hdj i j a b1 b2
    · exact absurd b2 (hdis S ho i a b1)
    · exact absurd b1 (hdis S ho j a b2)
    · omega
  · rcases h1 with ⟨a1, b1⟩ | ⟨a1, b1⟩
    · exact hkeep i a b1
    · exact ⟨(hT a b1).2.1, (hT a b1).2.2, hown a b1⟩
theorem En.noN (E : En X F H σ Γ) {p : Addr} (h : H p = none) : ¬ X.N p := fun n => E.nn p n h
theorem En.pushD (E : En X F H σ Γ) {v : V} {m : Bool} {d : PyData} (r : Rp X.K (X.ff F m) v d) : En X F H (σ ++ [some v]) (Γ ++ [.dat m d]) :=
  E.pushG (T := fun _ => False) Le.rfl' E.le (fun _ _ q => q) (fun _ _ _ => rfl) ⟨⟨v, rfl, r⟩, fun _ z => z⟩ (fun _ z => z.elim)
/-- a new list of one's own -/
theorem En.pushM (E : En X F H σ Γ) {p : Addr} {xs : List V} {m : Bool} {ds : List PyData} (h : H p = none) (r : RpA X.K (X.ff F m) xs ds) : En X F (upd H p (.lst xs)) (σ ++ [some (.ref p)]) (Γ ++ [.ml m p ds]) :=
  E.pushG (T := fun a => a = p) Le.rfl' (E.le.new (E.le.nn h)) (fun a u q => by rw [upd_ne (ne_of_none q h)]; exact q) (fun _ _ _ => rfl)
    ⟨xs, rfl, fun _ => Iff.rfl, upd_same, r, fun _ => E.noN h⟩ (fun a e => by subst e; exact ⟨h, E.le.nn h, by rw [upd_same]; simp⟩)
theorem En.drop {ov : Option V} {s : Sl} (E : En X F H (σ ++ [ov]) (Γ ++ [s])) : En X F H σ Γ := by
  have hl : σ.length = Γ.length := by
    have := E.len
    simp at this
    exact this
  obtain ⟨S, hs, hdj, ho⟩ := E.sl
  refine ⟨E.le, hl, ⟨S, fun i u e => ?_, hdj, ho⟩, E.fr, E.f0, E.nn⟩
  have hi : i < Γ.length := (List.getElem?_eq_some_iff.mp e).1
  have q := hs i u (by rw [List.getElem?_append_left hi]; exact e)
  rw [getD_app (by rw [hl]; exact hi)] at q
  exact q
/-- the value that came last is put into a slot -/
theorem En.put {ov : Option V} {s : Sl} (E : En X F H (σ ++ [ov]) (Γ ++ [s])) (i : Nat) : En X F H (σ.set i ov) (Γ.set i s) := by
  have hl : σ.length = Γ.length := by
    have := E.len
    simp at this
    exact this
  obtain ⟨S, hs, hdj, ho⟩ := E.sl
  by_cases hi : i < Γ.length
  · refine ⟨E.le, by simp [hl], ⟨fun j a => if j = i then S Γ.length a else if j = Γ.length then False else S j a, fun j u e => ?_, fun j k a h1 h2 => ?_, fun j a h1 => ?_⟩, E.fr, E.f0, E.nn⟩
    · by_cases hj : j = i
      · subst hj
        rw [List.getElem?_set_self hi] at e
        cases e
        have q := hs Γ.length s (by simp)
        rw [← hl, getD_last, hl] at q
        have : (σ.set j ov).getD j none = ov := by simp [List.getD_eq_getElem?_getD, hl, hi]
        rw [this]
        simpa using q
      · rw [List.getElem?_set_ne (Ne.symm hj)] at e
        have hj' : j < Γ.length := (List.getElem?_eq_some_iff.mp e).1
        have q := hs j u (by rw [List.getElem?_append_left hj']; exact e)
        rw [getD_app (by rw [hl]; exact hj')] at q
        have : (σ.set i ov).getD j none = σ.getD j none := by simp [List.getD_eq_getElem?_getD, List.getElem?_set_ne (Ne.symm hj)]
        rw [this]
        have hne : j ≠ Γ.length := by omega
        simpa [hj, hne] using q
    · by_cases a1 : j = i
      · by_cases a2 : k = i
        · omega
        · simp only [if_pos a1, if_neg a2] at h1 h2
          by_cases a3 : k = Γ.length
          · simp [a3] at h2
          · simp only [if_neg a3] at h2
            have := hdj _ _ _ h1 h2
            omega
      · simp only [if_neg a1] at h1
        by_cases a4 : j = Γ.length
        · simp [a4] at h1
        · simp only [if_neg a4] at h1
          by_cases a2 : k = i
          · simp only [if_pos a2] at h2
            have := hdj _ _ _ h1 h2
            omega
          · simp only [if_neg a2] at h2
            by_cases a3 : k = Γ.length
            · simp [a3] at h2
            · simp only [if_neg a3] at h2
              exact hdj _ _ _ h1 h2
    · by_cases a1 : j = i
      · simp only [if_pos a1] at h1; exact ho _ a h1
      · simp only [if_neg a1] at h1
        by_cases a4 : j = Γ.length
        · simp [a4] at h1
        · simp only [if_neg a4] at h1; exact ho _ a h1
  · have e1 : σ.set i ov = σ := List.set_eq_of_length_le (by omega)
    have e2 : Γ.set i s = Γ := List.set_eq_of_length_le (by omega)
    rw [e1, e2]
    exact E.drop
/-- a slot is told otherwise, over the same addresses (or fewer) -/
theorem En.retell (E : En X F H σ Γ) (lf : Le F F') (le : Le F' H) (hf : ∀ a o, X.H0 a = some o → ¬ X.S0 a → F' a = F a) {i : Nat} {s s' : Sl} (hi : Γ[i]? = some s)
    (h : ∀ S : Addr → Prop, (∀ a, S a → F a = none ∧ H a ≠ none) → SlOk X F H (σ.getD i none) S s → ∃ S' : Addr → Prop, SlOk X F' H (σ.getD i none) S' s' ∧ (∀ a, S' a → S a ∧ F' a = none) ∧ ∀ a, F' a ≠ F a → S a) : En X F' H σ (Γ.set i s') := by
  obtain ⟨S, hs, hdj, ho⟩ := E.sl
  have hil : i < Γ.length := (List.getElem?_eq_some_iff.mp hi).1
  obtain ⟨S', q, hsub, hch⟩ := h (S i) (fun a sa => ⟨(ho i a sa).1, (ho i a sa).2.1⟩) (hs i s hi)
  have hother : ∀ j a, j ≠ i → S j a → F' a = F a := fun j a hj sa => by
    by_cases e : F' a = F a
    · exact e
    · exact absurd (hdj j i a sa (hch a e)) hj
  refine ⟨le, by simp [E.len], ⟨fun j a => if j = i then S' a else S j a, fun j u e => ?_, fun j k a h1 h2 => ?_, fun j a h1 => ?_⟩, fun a o e n => ?_, E.f0.tr lf, E.nn⟩
  · by_cases hj : j = i
    · subst hj
      rw [List.getElem?_set_self hil] at e
      cases e
      simpa using q
    · rw [List.getElem?_set_ne (Ne.symm hj)] at e
      have := (hs j u e).mono lf (H' := H) fun _ _ => rfl
      simpa [hj] using this
  · by_cases a1 : j = i <;> by_cases a2 : k = i
    · omega
    · simp only [if_pos a1, if_neg a2] at h1 h2
      have := hdj _ _ _ (hsub a h1).1 h2
      omega
    · simp only [if_neg a1, if_pos a2] at h1 h2
      have := hdj _ _ _ h1 (hsub a h2).1
      omega
    · simp only [if_neg a1, if_neg a2] at h1 h2
      exact hdj _ _ _ h1 h2
  · by_cases a1 : j = i
    · simp only [if_pos a1] at h1
      obtain ⟨sa, fn⟩ := hsub a h1
      exact ⟨fn, (ho i a sa).2.1, (ho i a sa).2.2⟩
    · simp only [if_neg a1] at h1
      exact ⟨(hother j a a1 h1).trans (ho j a h1).1, (ho j a h1).2⟩
  · exact ⟨(E.fr a o e n).1, (hf a o e n).trans (E.fr a o e n).2⟩
/-- a list of one's own is frozen -/
theorem En.freeze (E : En X F H σ Γ) {i : Nat} {m : Bool} {l : Addr} {ds : List PyData} (hi : Γ[i]? = some (.ml m l ds)) : ∃ F', Le F F' ∧ En X F' H σ (Γ.set i (.dat m (.list ds))) := by
  obtain ⟨xs, e1, hl, fl, r⟩ := E.ml hi
  obtain ⟨S, hs, hdj, ho⟩ := id E.sl
  have own : X.own l ∧ (m = true → ¬ X.N l) := by
    obtain ⟨_, _, hS, _, _, nl⟩ := hs i _ hi
    exact ⟨(ho i l ((hS l).mpr rfl)).2.2, nl⟩
  obtain ⟨own, nl⟩ := own
  have fl' : ∀ {F : Hp}, F l = some (.lst xs) → X.ff F m l = some (.lst xs) := fun {F} h => by
    cases m with
    | false => exact h
    | true => rw [Bs.ff_at (nl rfl)]; exact h
  refine ⟨upd F l (.lst xs), Le.up fl, E.retell (Le.up fl) (E.le.lay hl) (fun a o e n => ?_) hi fun S hS q => ?_⟩
  · refine upd_ne fun z => ?_
    subst z
    rcases own with w | w
    · rw [w] at e; cases e
    · exact n w
  · obtain ⟨ys, e, hS', hl', r', _⟩ := q
    rw [hl] at hl'; cases hl'
    refine ⟨fun _ => False, ⟨⟨.ref l, e, .lst (fl' upd_same) (r.mono (Bs.ff_mono (Le.up fl) m))⟩, fun _ z => z⟩, fun _ z => z.elim, fun a ha => ?_⟩
    refine (hS' a).mpr ?_
    by_cases z : a = l
    · exact z
    · exact absurd (upd_ne z) ha
theorem En.forget (E : En X F H σ Γ) {i : Nat} {s : Sl} (hi : Γ[i]? = some s) : En X F H σ (Γ.set i .no) :=
  E.retell Le.rfl' E.le (fun _ _ _ _ => rfl) hi fun S _ _ => ⟨fun _ => False, fun _ z => z, fun _ z => z.elim, fun _ h => absurd rfl h⟩
end
end Pk
end
section
set_option Elab.async false
set_option linter.all false
set_option maxRecDepth 100000
/-! The data layer, part 1: the frame, judgements, expressions, tests, arguments, calls. -/
namespace Pk
open PySem PySem.Spec PyProof.Rows L2

/-- one slot stands aside while the others work -/
theorem En.frame {X : Bs} {F H : Hp} {σ : L2.St} {Γ : List Sl} {ov : Option V} {s : Sl} (E : En X F H (σ ++ [ov]) (Γ ++ [s])) :
    ∃ X' : Bs, X'.K = X.K ∧ X'.N = X.N ∧ En X' F H σ Γ ∧ ∀ F' H' σ' Γ', Γ'.length = Γ.length → Le F F' → En X' F' H' σ' Γ' → En X F' H' (σ' ++ [ov]) (Γ' ++ [s]) := by
  have hl : σ.length = Γ.length := by
    have := E.len
    simp at this
    exact this
  have own0 : ∀ p, H p = none → X.own p := fun p h => E.ownN h
  obtain ⟨S, hs, hdj, ho⟩ := id E.sl
  refine ⟨⟨X.K, F, H, fun a => ∃ i, i < Γ.length ∧ S i a, X.N⟩, rfl, rfl, ⟨E.le, hl, ⟨fun i a => i < Γ.length ∧ S i a, fun i u e => ?_, fun i j a h1 h2 => hdj i j a h1.2 h2.2, fun i a h1 => ⟨(ho i a h1.2).1, (ho i a h1.2).2.1, .inr ⟨i, h1⟩⟩⟩, fun a o e _ => ⟨e, rfl⟩, Le.rfl', E.nn⟩, fun F' H' σ' Γ' hlen lf E' => ?_⟩
  · have hi : i < Γ.length := (List.getElem?_eq_some_iff.mp e).1
    have q := hs i u (by rw [List.getElem?_append_left hi]; exact e)
    rw [getD_app (by rw [hl]; exact hi)] at q
    have eS : (fun a => i < Γ.length ∧ S i a) = S i := by
      funext a
      exact propext ⟨fun z => z.2, fun z => ⟨hi, z⟩⟩
    show SlOk _ F H _ (fun a => i < Γ.length ∧ S i a) u
    rw [eS]
    exact q.to rfl fun _ h => h
  · obtain ⟨S', hs', hdj', ho'⟩ := id E'.sl
    have notS : ∀ a, S Γ.length a → ¬ ∃ i, i < Γ.length ∧ S i a := fun a sa ⟨i, hi, si⟩ => by
      have := hdj i _ a si sa
      omega
    have keepS : ∀ a, S Γ.length a → H' a = H a ∧ F' a = F a := fun a sa => by
      obtain ⟨_, h1, _⟩ := ho _ a sa
      cases q : H a with
      | none => exact absurd q h1
      | some o => exact E'.fr a o q (notS a sa)
    have disS : ∀ i a, S' i a → ¬ S Γ.length a := fun i a h1 h2 => by
      rcases (ho' i a h1).2.2 with w | w
      · exact (ho _ a h2).2.1 w
      · exact notS a h2 w
    have hl' : σ'.length = Γ'.length := E'.len
    refine ⟨E'.le, by simp [hl'], ⟨fun i a => (i < Γ'.length ∧ S' i a) ∨ (i = Γ'.length ∧ S Γ.length a), fun i u e => ?_, fun i j a h1 h2 => ?_, fun i a h1 => ?_⟩, fun a o e n => ?_, E.f0.tr lf, E'.nn⟩
    · have hi : i < (Γ' ++ [s]).length := (List.getElem?_eq_some_iff.mp e).1
      simp only [List.length_append, List.length_cons, List.length_nil] at hi
      by_cases hlt : i < Γ'.length
      · rw [List.getElem?_append_left hlt] at e
        rw [getD_app (by rw [hl']; exact hlt)]
        have eS : (fun a => (i < Γ'.length ∧ S' i a) ∨ (i = Γ'.length ∧ S Γ.length a)) = S' i := by
          funext a
          apply propext
          constructor
          · rintro (⟨_, q⟩ | ⟨q, _⟩)
            · exact q
            · omega
          · intro q; exact .inl ⟨hlt, q⟩
        show SlOk X F' H' _ (fun a => (i < Γ'.length ∧ S' i a) ∨ (i = Γ'.length ∧ S Γ.length a)) u
        rw [eS]
        exact (hs' i u e).to rfl fun _ h => h
      · have hie : i = Γ'.length := by omega
        subst hie
        simp at e; subst e
        have eS : (fun a => (Γ'.length < Γ'.length ∧ S' Γ'.length a) ∨ (Γ'.length = Γ'.length ∧ S Γ.length a)) = S Γ.length := by
          funext a
          apply propext
          constructor
          · rintro (⟨q, _⟩ | ⟨_, q⟩)
            · omega
            · exact q
          · intro q; exact .inr ⟨rfl, q⟩
        show SlOk X F' H' _ (fun a => (Γ'.length < Γ'.length ∧ S' Γ'.length a) ∨ (Γ'.length = Γ'.length ∧ S Γ.length a)) s
        rw [eS, ← hl', getD_last]
        have q := hs Γ.length s (by simp)
        rw [← hl, getD_last, hl] at q
        exact q.mono lf fun a sa => (keepS a sa).1
    · rcases h1 with ⟨a1, b1⟩ | ⟨a1, b1⟩ <;> rcases h2 with ⟨a2, b2⟩ | ⟨a2, b2⟩
      · exact hdj' i j a b1 b2
      · exact absurd b2 (disS i a b1)
      · exact absurd b1 (disS j a b2)
      · omega
    · rcases h1 with ⟨a1, b1⟩ | ⟨a1, b1⟩
      · refine ⟨(ho' i a b1).1, (ho' i a b1).2.1, ?_⟩
        rcases (ho' i a b1).2.2 with w | ⟨j, _, w⟩
        · exact own0 a w
        · exact (ho j a w).2.2
      · obtain ⟨k1, k2⟩ := keepS a b1
        exact ⟨k2.trans (ho _ a b1).1, by rw [k1]; exact (ho _ a b1).2.1, (ho _ a b1).2.2⟩
    · obtain ⟨q1, q2⟩ := E.fr a o e n
      have nS : ¬ ∃ i, i < Γ.length ∧ S i a := fun ⟨i, _, si⟩ => by
        rcases (ho i a si).2.2 with w | w
        · rw [w] at e; cases e
        · exact n w
      obtain ⟨r1, r2⟩ := E'.fr a o q1 nS
      exact ⟨r1, r2.trans q2⟩
theorem En.rebase {X : Bs} {F H : Hp} {σ : L2.St} {Γ : List Sl} (E : En X F H σ Γ) :
    ∃ X' : Bs, X'.K = X.K ∧ X'.N = X.N ∧ X'.F0 = F ∧ X'.H0 = H ∧ En X' F H σ Γ ∧ ∀ F' H' σ' Γ', En X' F' H' σ' Γ' → En X F' H' σ' Γ' := by
  obtain ⟨S, hs, hdj, ho⟩ := id E.sl
  refine ⟨⟨X.K, F, H, fun a => ∃ i, S i a, X.N⟩, rfl, rfl, rfl, rfl, ⟨E.le, E.len, ⟨S, fun i s e => (hs i s e).to rfl fun _ h => h, hdj, fun i a h1 => ⟨(ho i a h1).1, (ho i a h1).2.1, .inr ⟨i, h1⟩⟩⟩, fun a o e _ => ⟨e, rfl⟩, Le.rfl', E.nn⟩, fun F' H' σ' Γ' E' => ?_⟩
  have lf : Le F F' := E'.f0
  obtain ⟨S', hs', hdj', ho'⟩ := id E'.sl
  refine ⟨E'.le, E'.len, ⟨S', fun i s e => (hs' i s e).to rfl fun _ h => h, hdj', fun i a h1 => ⟨(ho' i a h1).1, (ho' i a h1).2.1, ?_⟩⟩, fun a o e n => ?_, E.f0.tr lf, E'.nn⟩
  · rcases (ho' i a h1).2.2 with w | ⟨j, w⟩
    · exact E.ownN w
    · exact (ho j a w).2.2
  · obtain ⟨q1, q2⟩ := E.fr a o e n
    have nS : ¬ ∃ i, S i a := fun ⟨i, si⟩ => by
      rcases (ho i a si).2.2 with w | w
      · rw [w] at e; cases e
      · exact n w
    obtain ⟨r1, r2⟩ := E'.fr a o q1 nS
    exact ⟨r1, r2.trans q2⟩

/-! ### judgements over data -/
/-- the reading t gives data, of which Q holds; m: its lists are new -/
def WD (K : PySem.W.Frag) (m : Bool) (Γ : List Sl) (t : TE) (Q : PyData → Prop) : Prop := ∀ X : Bs, X.K = K → ∀ F H σ, En X F H σ Γ → ∀ C : VK,
  (∀ v F' H' d, Le F F' → En X F' H' σ Γ → Rp K (X.ff F' m) v d → Q d → C v H') → t σ H C
/-- .. or a new thing of one's own -/
def WX (K : PySem.W.Frag) (Γ : List Sl) (t : TE) (Q : Sl → Prop) : Prop := ∀ X : Bs, X.K = K → ∀ F H σ, En X F H σ Γ → ∀ C : VK,
  (∀ v F' H' s, Le F F' → En X F' H' (σ ++ [some v]) (Γ ++ [s]) → Q s → C v H') → t σ H C
def WT (K : PySem.W.Frag) (Γ : List Sl) (t : TT) (Q : Bool → Prop) : Prop := ∀ X : Bs, X.K = K → ∀ F H σ, En X F H σ Γ → ∀ C : Bool → Hp → Prop,
  (∀ b F' H', Le F F' → En X F' H' σ Γ → Q b → C b H') → t σ H C
/-- an argument: data, or one's own in a slot -/
inductive Ag where
  | d (x : PyData)
  | o (i : Nat)
def Ag.ix : Ag → Option Nat
  | .d _ => none
  | .o i => some i
def Ag.sl (Γ : List Sl) : Ag → Sl
  | .d x => .dat false x
  | .o i => Γ.getD i .no
def AgOk (X : Bs) (m : Bool) (F : Hp) (σ : L2.St) : V → Ag → Prop
  | v, .d x => Rp X.K (X.ff F m) v x
  | v, .o i => σ[i]? = some (some v)
inductive AgsOk (X : Bs) (m : Bool) (F : Hp) (σ : L2.St) : List V → List Ag → Prop
  | nil : AgsOk X m F σ [] []
  | cons {v vs a as} : AgOk X m F σ v a → AgsOk X m F σ vs as → AgsOk X m F σ (v :: vs) (a :: as)
def WA (K : PySem.W.Frag) (m : Bool) (Γ : List Sl) (t : TA) (Q : List Ag → Prop) : Prop := ∀ X : Bs, X.K = K → ∀ F H σ, En X F H σ Γ → ∀ C : List V → Hp → Prop,
  (∀ vs F' H' as, Le F F' → En X F' H' σ Γ → AgsOk X m F' σ vs as → Q as → C vs H') → t σ H C
/-- operations on values -/
def RD (K : PySem.W.Frag) (m : Bool) (Γ : List Sl) (r : R2) (x y : PyData) (Q : PyData → Prop) : Prop := ∀ X : Bs, X.K = K → ∀ F H σ, En X F H σ Γ → ∀ v u, Rp K (X.ff F m) v x → Rp K (X.ff F m) u y → ∀ C : VK,
  (∀ z F' H' d, Le F F' → En X F' H' σ Γ → Rp K (X.ff F' m) z d → Q d → C z H') → r v u H C
def RX (K : PySem.W.Frag) (m : Bool) (Γ : List Sl) (r : R2) (x y : PyData) (Q : Sl → Prop) : Prop := ∀ X : Bs, X.K = K → ∀ F H σ, En X F H σ Γ → ∀ v u, Rp K (X.ff F m) v x → Rp K (X.ff F m) u y → ∀ C : VK,
  (∀ z F' H' s, Le F F' → En X F' H' (σ ++ [some z]) (Γ ++ [s]) → Q s → C z H') → r v u H C
def RU (K : PySem.W.Frag) (m : Bool) (Γ : List Sl) (r : V → Hp → VK → Prop) (x : PyData) (Q : PyData → Prop) : Prop := ∀ X : Bs, X.K = K → ∀ F H σ, En X F H σ Γ → ∀ v, Rp K (X.ff F m) v x → ∀ C : VK,
  (∀ z F' H' d, Le F F' → En X F' H' σ Γ → Rp K (X.ff F' m) z d → Q d → C z H') → r v H C
def RC (K : PySem.W.Frag) (m : Bool) (Γ : List Sl) (r : List V → Hp → VK → Prop) (xs : List PyData) (Q : PyData → Prop) : Prop := ∀ X : Bs, X.K = K → ∀ F H σ, En X F H σ Γ → ∀ vs, RpA K (X.ff F m) vs xs → ∀ C : VK,
  (∀ z F' H' d, Le F F' → En X F' H' σ Γ → Rp K (X.ff F' m) z d → Q d → C z H') → r vs H C
def RCX (K : PySem.W.Frag) (m : Bool) (Γ : List Sl) (r : List V → Hp → VK → Prop) (xs : List PyData) (Q : Sl → Prop) : Prop := ∀ X : Bs, X.K = K → ∀ F H σ, En X F H σ Γ → ∀ vs, RpA K (X.ff F m) vs xs → ∀ C : VK,
  (∀ z F' H' s, Le F F' → En X F' H' (σ ++ [some z]) (Γ ++ [s]) → Q s → C z H') → r vs H C

/-- a slot as data -/
def Sl.toD (m : Bool) : Sl → Option PyData
  | .dat m' d => if m = true ∧ m' = false then none else some d
  | .ml m' _ ds => if m = true ∧ m' = false then none else some (.list ds)
  | .ex _ Φ => if m = true then none else Φ.vw
  | .no => none
/-- what is new may be taken as any -/
theorem Bs.ff_any {X : Bs} {F : Hp} {m m' : Bool} (h : ¬ (m = true ∧ m' = false)) : Le (X.ff F m') (X.ff F m) := by
  cases m with
  | false => exact X.ff_le F m'
  | true =>
    cases m' with
    | true => exact Le.rfl'
    | false => exact absurd ⟨rfl, rfl⟩ h
section
variable {K : PySem.W.Frag} {m : Bool} {Γ : List Sl} {t ta tb : TE} {Q : PyData → Prop} {QX : Sl → Prop}
theorem lastFreeze {X : Bs} {F H : Hp} {σ : L2.St} {v : V} {s : Sl} {d : PyData} (hs : s.toD m = some d) (E : En X F H (σ ++ [some v]) (Γ ++ [s])) : ∃ F', Le F F' ∧ En X F' H σ Γ ∧ Rp X.K (X.ff F' m) v d := by
  have hl : σ.length = Γ.length := by
    have := E.len
    simp at this
    exact this
  cases s with
  | no => cases hs
  | ex u Φ =>
    cases m with
    | true => simp [Sl.toD] at hs
    | false =>
      have hv : Φ.vw = some d := by simpa [Sl.toD] using hs
      obtain ⟨S, h1, hdj, ho⟩ := id E.sl
      obtain ⟨e, hk, p⟩ := h1 Γ.length (.ex u Φ) (by simp)
      rw [← hl, getD_last] at e
      cases e
      obtain ⟨rv, hL⟩ := Φ.view E.le p hv
      have lf : Le F (lay (S Γ.length) H F) := fun a o q => by
        unfold lay
        rw [if_neg fun sa => by rw [(ho _ a sa).1] at q; cases q]
        exact q
      have ln : ∀ a, ¬ S Γ.length a → lay (S Γ.length) H F a = F a := fun a h => by unfold lay; rw [if_neg h]
      have Ed := E.drop
      refine ⟨lay (S Γ.length) H F, lf, ⟨fun a o q => ?_, hl, ⟨fun i a => i < Γ.length ∧ S i a, fun i w q => ?_, fun i j a q1 q2 => hdj i j a q1.2 q2.2, fun i a q => ⟨?_, (ho i a q.2).2⟩⟩, fun a o q n => ⟨(E.fr a o q n).1, ?_⟩, E.f0.tr lf, E.nn⟩, by rw [← hk]; exact rv⟩
      · unfold lay at q
        split at q
        · exact q
        · exact E.le a o q
      · have hi : i < Γ.length := (List.getElem?_eq_some_iff.mp q).1
        have z := h1 i w (by rw [List.getElem?_append_left hi]; exact q)
        rw [getD_app (by rw [hl]; exact hi)] at z
        have eS : (fun a => i < Γ.length ∧ S i a) = S i := by
          funext a
          exact propext ⟨fun z => z.2, fun z => ⟨hi, z⟩⟩
        show SlOk X _ H _ (fun a => i < Γ.length ∧ S i a) w
        rw [eS]
        exact z.mono lf fun _ _ => rfl
      · rw [ln a fun sa => by have := hdj _ _ a sa q.2; omega]
        exact (ho i a q.2).1
      · rw [ln a fun sa => ?_]
        · exact (E.fr a o q n).2
        · rcases (ho _ a sa).2.2 with z | z
          · rw [z] at q; cases q
          · exact n z
  | dat m' x =>
    simp only [Sl.toD] at hs
    split at hs
    · cases hs
    · rename_i hm
      cases hs
      obtain ⟨u, e, r⟩ := E.dat (i := Γ.length) (m := m') (d := d) (by simp)
      rw [← hl] at e
      simp at e
      subst e
      exact ⟨F, Le.rfl', E.drop, r.mono (Bs.ff_any hm)⟩
  | ml m' l ds =>
    simp only [Sl.toD] at hs
    split at hs
    · cases hs
    · rename_i hm
      cases hs
      obtain ⟨F', lf, E'⟩ := E.freeze (i := Γ.length) (m := m') (l := l) (ds := ds) (by simp)
      have e2 : (Γ ++ [Sl.ml m' l ds]).set Γ.length (.dat m' (.list ds)) = Γ ++ [.dat m' (.list ds)] := by simp
      rw [e2] at E'
      obtain ⟨u, e, r⟩ := E'.dat (i := Γ.length) (m := m') (d := .list ds) (by simp)
      rw [← hl] at e
      simp at e
      subst e
      exact ⟨F', lf, E'.drop, r.mono (Bs.ff_any hm)⟩
theorem toD_dat {d : PyData} : (Sl.dat m d).toD m = some d := by cases m <;> simp [Sl.toD]
theorem toD_ml {l : Addr} {ds : List PyData} : (Sl.ml m l ds).toD m = some (.list ds) := by cases m <;> simp [Sl.toD]
theorem WD.ofX (h : WX K Γ t fun s => ∃ d, s.toD m = some d ∧ Q d) : WD K m Γ t Q := fun X hK F H σ E C k =>
  h X hK F H σ E C fun v F' H' s lf E' ⟨d, hs, q⟩ => by
    obtain ⟨F2, l2, E2, r⟩ := lastFreeze hs E'
    subst hK
    exact k v F2 H' d (lf.tr l2) E2 r q
theorem WX.ofD (h : WD K m Γ t fun d => QX (.dat m d)) : WX K Γ t QX := fun X hK F H σ E C k =>
  h X hK F H σ E C fun v F' H' d lf E' r q => k v F' H' _ lf (E'.pushD (by rw [hK]; exact r)) q
theorem RD.ofX {r : R2} {x y : PyData} (h : RX K m Γ r x y fun s => ∃ d, s.toD m = some d ∧ Q d) : RD K m Γ r x y Q := fun X hK F H σ E v u rv ru C k =>
  h X hK F H σ E v u rv ru C fun z F' H' s lf E' ⟨d, hs, q⟩ => by
    obtain ⟨F2, l2, E2, r⟩ := lastFreeze hs E'
    subst hK
    exact k z F2 H' d (lf.tr l2) E2 r q
theorem RC.ofX {r : List V → Hp → VK → Prop} {xs : List PyData} (h : RCX K m Γ r xs fun s => ∃ d, s.toD m = some d ∧ Q d) : RC K m Γ r xs Q := fun X hK F H σ E vs rv C k =>
  h X hK F H σ E vs rv C fun z F' H' s lf E' ⟨d, hs, q⟩ => by
    obtain ⟨F2, l2, E2, r⟩ := lastFreeze hs E'
    subst hK
    exact k z F2 H' d (lf.tr l2) E2 r q
theorem WD.mono {Q' : PyData → Prop} (h : WD K m Γ t Q) (k : ∀ d, Q d → Q' d) : WD K m Γ t Q' := fun X hK F H σ E C c => h X hK F H σ E C fun v F' H' d lf E' r q => c v F' H' d lf E' r (k d q)
theorem WX.mono {Q' : Sl → Prop} (h : WX K Γ t QX) (k : ∀ s, QX s → Q' s) : WX K Γ t Q' := fun X hK F H σ E C c => h X hK F H σ E C fun v F' H' d lf E' q => c v F' H' d lf E' (k d q)
theorem WT.mono {tt : TT} {Q Q' : Bool → Prop} (h : WT K Γ tt Q) (k : ∀ b, Q b → Q' b) : WT K Γ tt Q' := fun X hK F H σ E C c => h X hK F H σ E C fun v F' H' lf E' q => c v F' H' lf E' (k v q)
/-- what holds no list is new -/
theorem wd_lf (h : WD K false Γ t fun d => lf d = true ∧ Q d) : WD K m Γ t Q := fun X hK F H σ E C k =>
  h X hK F H σ E C fun v F' H' d l E' r ⟨z, q⟩ => k v F' H' d l E' (Rp.lfree Bs.ff_tup d z r) q
/-- what is new is data -/
theorem wd_new (h : WD K true Γ t Q) : WD K false Γ t Q := fun X hK F H σ E C k =>
  h X hK F H σ E C fun v F' H' d l E' r q => k v F' H' d l E' (r.mono (X.ff_le F' true)) q

/-! ### names, constants -/
theorem wd_var {i : Nat} {d : PyData} (h : Γ[i]? = some (.dat m d)) (q : Q d) : WD K m Γ (tVar i) Q := fun X hK F H σ E C k => by
  obtain ⟨v, e, r⟩ := E.dat h
  subst hK
  exact ⟨v, e, k v F H d Le.rfl' E r q⟩
theorem wd_varN {i : Nat} {d : PyData} (h : Γ[i]? = some (.dat true d)) (q : Q d) : WD K m Γ (tVar i) Q := by
  cases m with
  | true => exact wd_var h q
  | false => exact wd_new (wd_var h q)
theorem wd_c {v : V} {d : PyData} (h : ∀ F, Rp K F v d) (q : Q d) : WD K m Γ (tC v) Q := fun X hK F H σ E C k => k v F H d Le.rfl' E (h _) q
theorem wd_int {i : Int} (q : Q (.int i)) : WD K m Γ (tC (.int i)) Q := wd_c (fun _ => .int i) q
theorem wd_bl {b : Bool} (q : Q (.bool b)) : WD K m Γ (tC (.bl b)) Q := wd_c (fun _ => .bl b) q
theorem wd_str {x : Str} (q : Q (.str x)) : WD K m Γ (tC (.str x)) Q := wd_c (fun _ => .str x) q
theorem wd_non (q : Q .none) : WD K m Γ (tC .non) Q := wd_c (fun _ => .non) q
/-! ### operators -/
theorem Bs.mo {X : Bs} {F F' : Hp} {v : V} {d : PyData} (r : Rp K (X.ff F m) v d) (l : Le F F') : Rp K (X.ff F' m) v d := r.mono (Bs.ff_mono l m)
theorem Bs.moA {X : Bs} {F F' : Hp} {v : List V} {d : List PyData} (r : RpA K (X.ff F m) v d) (l : Le F F') : RpA K (X.ff F' m) v d := r.mono (Bs.ff_mono l m)
theorem wd_op {r : R2} (h : WD K m Γ ta fun x => WD K m Γ tb fun y => RD K m Γ r x y Q) : WD K m Γ (tOp r ta tb) Q := fun X hK F H σ E C k =>
  h X hK F H σ E _ fun v F1 H1 x l1 E1 r1 h1 => h1 X hK F1 H1 σ E1 _ fun u F2 H2 y l2 E2 r2 h2 =>
    h2 X hK F2 H2 σ E2 v u (Bs.mo r1 l2) r2 C fun z F3 H3 d l3 E3 r3 q => k z F3 H3 d (l1.tr (l2.tr l3)) E3 r3 q
theorem wx_op {r : R2} (m : Bool) (h : WD K m Γ ta fun x => WD K m Γ tb fun y => RX K m Γ r x y QX) : WX K Γ (tOp r ta tb) QX := fun X hK F H σ E C k =>
  h X hK F H σ E _ fun v F1 H1 x l1 E1 r1 h1 => h1 X hK F1 H1 σ E1 _ fun u F2 H2 y l2 E2 r2 h2 =>
    h2 X hK F2 H2 σ E2 v u (Bs.mo r1 l2) r2 C fun z F3 H3 d l3 E3 q => k z F3 H3 d (l1.tr (l2.tr l3)) E3 q
theorem wd_un {r : V → Hp → VK → Prop} (h : WD K m Γ ta fun x => RU K m Γ r x Q) : WD K m Γ (tUn r ta) Q := fun X hK F H σ E C k =>
  h X hK F H σ E _ fun v F1 H1 x l1 E1 r1 h1 => h1 X hK F1 H1 σ E1 v r1 C fun z F3 H3 d l3 E3 r3 q => k z F3 H3 d (l1.tr l3) E3 r3 q
theorem En.lef {X : Bs} {F H : Hp} {σ : L2.St} (E : En X F H σ Γ) (m : Bool) : Le (X.ff F m) H := (X.ff_le F m).tr E.le
/-- a plain value: no new object -/
theorem rd_plain {r : R2} {x y d : PyData} (h : ∀ (F H : Hp) v u (C : VK), Le F H → Rp K F v x → Rp K F u y → (∀ z, Rp K F z d → C z H) → r v u H C) (q : Q d) : RD K m Γ r x y Q := fun X hK F H σ E v u rv ru C k =>
  h (X.ff F m) H v u C (E.lef m) rv ru fun z rz => k z F H d Le.rfl' E rz q
theorem rc_plain {r : List V → Hp → VK → Prop} {xs : List PyData} {d : PyData} (h : ∀ (F H : Hp) vs (C : VK), Le F H → RpA K F vs xs → (∀ z, Rp K F z d → C z H) → r vs H C) (q : Q d) : RC K m Γ r xs Q := fun X hK F H σ E vs rv C k =>
  h (X.ff F m) H vs C (E.lef m) rv fun z rz => k z F H d Le.rfl' E rz q
theorem ru_plain {r : V → Hp → VK → Prop} {x d : PyData} (h : ∀ (F H : Hp) v (C : VK), Le F H → Rp K F v x → (∀ z, Rp K F z d → C z H) → r v H C) (q : Q d) : RU K m Γ r x Q := fun X hK F H σ E v rv C k =>
  h (X.ff F m) H v C (E.lef m) rv fun z rz => k z F H d Le.rfl' E rz q
/-- a new list -/
theorem rx_list {r : R2} {x y : PyData} {ds : List PyData} (h : ∀ (F H : Hp) v u (C : VK), Le F H → Rp K F v x → Rp K F u y → (∀ p xs, H p = none → RpA K F xs ds → C (.ref p) (upd H p (.lst xs))) → r v u H C) (q : ∀ l, QX (.ml m l ds)) : RX K m Γ r x y QX := fun X hK F H σ E v u rv ru C k =>
  h (X.ff F m) H v u C (E.lef m) rv ru fun p xs hp rx => k (.ref p) F _ _ Le.rfl' (E.pushM hp (by rw [hK]; exact rx)) (q p)
theorem rcx_list {r : List V → Hp → VK → Prop} {xs ds : List PyData} (h : ∀ (F H : Hp) vs (C : VK), Le F H → RpA K F vs xs → (∀ p ys, H p = none → RpA K F ys ds → C (.ref p) (upd H p (.lst ys))) → r vs H C) (q : ∀ l, QX (.ml m l ds)) : RCX K m Γ r xs QX := fun X hK F H σ E vs rv C k =>
  h (X.ff F m) H vs C (E.lef m) rv fun p xs hp rx => k (.ref p) F _ _ Le.rfl' (E.pushM hp (by rw [hK]; exact rx)) (q p)
/-- a new tuple -/
theorem En.newT {X : Bs} (hK : X.K = K) {F H : Hp} {σ : L2.St} (E : En X F H σ Γ) {p : Addr} {xs : List V} {ds : List PyData} (hp : H p = none) (rx : RpA K (X.ff F m) xs ds) : Le F (upd F p (.tup xs)) ∧ En X (upd F p (.tup xs)) (upd H p (.tup xs)) σ Γ ∧ Rp K (X.ff (upd F p (.tup xs)) m) (.ref p) (.tuple ds) :=
  ⟨Le.up (E.le.nn hp), E.alloc hp, .tup (Bs.ff_tup.1 _ _ (SqT.of upd_same)) (Bs.moA rx (Le.up (E.le.nn hp)))⟩
theorem rd_tuple {r : R2} {x y : PyData} {ds : List PyData} (h : ∀ (F H : Hp) v u (C : VK), Le F H → Rp K F v x → Rp K F u y → (∀ p xs, H p = none → RpA K F xs ds → C (.ref p) (upd H p (.tup xs))) → r v u H C) (q : Q (.tuple ds)) : RD K m Γ r x y Q := fun X hK F H σ E v u rv ru C k =>
  h (X.ff F m) H v u C (E.lef m) rv ru fun p xs hp rx => let ⟨a, b, c⟩ := E.newT hK hp rx; k (.ref p) _ _ _ a b c q
theorem rc_tuple {r : List V → Hp → VK → Prop} {xs ds : List PyData} (h : ∀ (F H : Hp) vs (C : VK), Le F H → RpA K F vs xs → (∀ p ys, H p = none → RpA K F ys ds → C (.ref p) (upd H p (.tup ys))) → r vs H C) (q : Q (.tuple ds)) : RC K m Γ r xs Q := fun X hK F H σ E vs rv C k =>
  h (X.ff F m) H vs C (E.lef m) rv fun p xs hp rx => let ⟨a, b, c⟩ := E.newT hK hp rx; k (.ref p) _ _ _ a b c q

/-! ### tests -/
variable {tt tu : TT} {QT : Bool → Prop}
theorem wt_test (h : WD K false Γ t fun d => ∃ b, d = .bool b ∧ QT b) : WT K Γ (tTest t) QT := fun X hK F H σ E C k =>
  h X hK F H σ E _ fun v F1 H1 x l1 E1 r1 ⟨b, e, q⟩ => by
    subst e
    cases r1
    exact ⟨b, rfl, k b F1 H1 l1 E1 q⟩
theorem wt_B (h : WD K false Γ t fun d => ∃ b, d = .bool b ∧ QT b) : WT K Γ (tB t) QT := fun X hK F H σ E C k =>
  h X hK F H σ E _ fun v F1 H1 x l1 E1 r1 ⟨b, e, q⟩ => by
    subst e
    cases r1
    exact ⟨b, rfl, k b F1 H1 l1 E1 q⟩
theorem wt_not (h : WT K Γ tt fun b => QT (!b)) : WT K Γ (tNot tt) QT := fun X hK F H σ E C k => h X hK F H σ E _ fun b F1 H1 l1 E1 q => k _ F1 H1 l1 E1 q
theorem wt_and (h : WT K Γ tt fun b => if b = true then WT K Γ tu QT else QT false) : WT K Γ (tAnd tt tu) QT := fun X hK F H σ E C k =>
  h X hK F H σ E _ fun b F1 H1 l1 E1 q => by
    cases b with
    | true => exact q X hK F1 H1 σ E1 C fun b F2 H2 l2 E2 q2 => k b F2 H2 (l1.tr l2) E2 q2
    | false => exact k false F1 H1 l1 E1 q
theorem wt_or (h : WT K Γ tt fun b => if b = true then QT true else WT K Γ tu QT) : WT K Γ (tOr tt tu) QT := fun X hK F H σ E C k =>
  h X hK F H σ E _ fun b F1 H1 l1 E1 q => by
    cases b with
    | false => exact q X hK F1 H1 σ E1 C fun b F2 H2 l2 E2 q2 => k b F2 H2 (l1.tr l2) E2 q2
    | true => exact k true F1 H1 l1 E1 q
theorem wt_yes (q : QT true) : WT K Γ tYes QT := fun X hK F H σ E C k => k true F H Le.rfl' E q
theorem wd_andV (h : WD K false Γ ta fun d => ∃ b, d = .bool b ∧ if b = true then WD K m Γ tb Q else Q (.bool false)) : WD K m Γ (tAndV ta tb) Q := fun X hK F H σ E C k =>
  h X hK F H σ E _ fun v F1 H1 x l1 E1 r1 ⟨b, e, q⟩ => by
    subst e
    cases r1
    refine ⟨b, rfl, ?_⟩
    cases b with
    | true => exact q X hK F1 H1 σ E1 C fun v F2 H2 d l2 E2 r q2 => k v F2 H2 d (l1.tr l2) E2 r q2
    | false => exact k _ F1 H1 _ l1 E1 (.bl false) q
theorem wd_orV (h : WD K false Γ ta fun d => ∃ b, d = .bool b ∧ if b = true then Q (.bool true) else WD K m Γ tb Q) : WD K m Γ (tOrV ta tb) Q := fun X hK F H σ E C k =>
  h X hK F H σ E _ fun v F1 H1 x l1 E1 r1 ⟨b, e, q⟩ => by
    subst e
    cases r1
    refine ⟨b, rfl, ?_⟩
    cases b with
    | false => exact q X hK F1 H1 σ E1 C fun v F2 H2 d l2 E2 r q2 => k v F2 H2 d (l1.tr l2) E2 r q2
    | true => exact k _ F1 H1 _ l1 E1 (.bl true) q
theorem wd_notV (h : WD K false Γ ta fun d => ∃ b, d = .bool b ∧ Q (.bool (!b))) : WD K m Γ (tNotV ta) Q := fun X hK F H σ E C k =>
  h X hK F H σ E _ fun v F1 H1 x l1 E1 r1 ⟨b, e, q⟩ => by
    subst e
    cases r1
    exact ⟨b, rfl, k _ F1 H1 _ l1 E1 (.bl _) q⟩
theorem wd_if (h : WT K Γ tt fun b => if b = true then WD K m Γ ta Q else WD K m Γ tb Q) : WD K m Γ (tIf tt ta tb) Q := fun X hK F H σ E C k =>
  h X hK F H σ E _ fun b F1 H1 l1 E1 q => by
    cases b with
    | true => exact q X hK F1 H1 σ E1 C fun v F2 H2 d l2 E2 r q2 => k v F2 H2 d (l1.tr l2) E2 r q2
    | false => exact q X hK F1 H1 σ E1 C fun v F2 H2 d l2 E2 r q2 => k v F2 H2 d (l1.tr l2) E2 r q2
theorem wd_chain {tc : TE} {r r' : R2} (h : WD K false Γ ta fun x => WD K false Γ tb fun y => RD K false Γ r x y fun z => ∃ b, z = .bool b ∧ if b = true then WD K false Γ tc fun w => RD K false Γ r' y w fun z => ∃ b, z = .bool b ∧ Q (.bool b) else Q (.bool false)) : WD K m Γ (tChain r r' ta tb tc) Q := fun X hK F H σ E C k =>
  h X hK F H σ E _ fun v F1 H1 x l1 E1 r1 h1 => h1 X hK F1 H1 σ E1 _ fun u F2 H2 y l2 E2 r2 h2 =>
    h2 X hK F2 H2 σ E2 v u (r1.mono l2) r2 _ fun z F3 H3 d l3 E3 r3 ⟨b, e, q⟩ => by
      subst e
      cases r3
      refine ⟨b, rfl, ?_⟩
      cases b with
      | true =>
        exact q X hK F3 H3 σ E3 _ fun w' F4 H4 d4 l4 E4 r4 q4 => q4 X hK F4 H4 σ E4 u w' (r2.mono (l3.tr l4)) r4 C fun z F5 H5 d5 l5 E5 r5 ⟨b, e, q5⟩ => by
          subst e
          cases r5
          exact k _ F5 H5 _ (l1.tr (l2.tr (l3.tr (l4.tr l5)))) E5 (.bl _) q5
      | false => exact k _ F3 H3 _ (l1.tr (l2.tr l3)) E3 (.bl false) q

/-! ### arguments, displays -/
theorem AgsOk.mono {X : Bs} {F F' : Hp} {σ : L2.St} (l : Le F F') : ∀ {vs : List V} {as : List Ag}, AgsOk X m F σ vs as → AgsOk X m F' σ vs as
  | _, _, .nil => .nil
  | _, _, .cons (a := .d x) h t => .cons (a := .d x) (Bs.mo h l) (AgsOk.mono l t)
  | _, _, .cons (a := .o i) h t => .cons (a := .o i) h (AgsOk.mono l t)
variable {tr : TA} {QA : List Ag → Prop}
theorem wa_nil (q : QA []) : WA K m Γ tNil QA := fun X hK F H σ E C k => k [] F H [] Le.rfl' E .nil q
theorem wa_d (h : WD K m Γ ta fun d => WA K m Γ tr fun as => QA (.d d :: as)) : WA K m Γ (tCons ta tr) QA := fun X hK F H σ E C k =>
  h X hK F H σ E _ fun v F1 H1 x l1 E1 r1 h1 => h1 X hK F1 H1 σ E1 _ fun vs F2 H2 as l2 E2 r2 q => k (v :: vs) F2 H2 _ (l1.tr l2) E2 (.cons (a := .d x) (by subst hK; exact Bs.mo r1 l2) r2) q
theorem wa_o {i : Nat} {v : V} {Φ : Own} (hi : Γ[i]? = some (.ex v Φ)) (h : WA K m Γ tr fun as => QA (.o i :: as)) : WA K m Γ (tCons (tVar i) tr) QA := fun X hK F H σ E C k =>
  ⟨v, E.ex hi, h X hK F H σ E _ fun vs F2 H2 as l2 E2 r2 q => k (v :: vs) F2 H2 _ l2 E2 (.cons (a := .o i) (E2.ex hi) r2) q⟩
/-- all arguments are data -/
def allD : List Ag → Option (List PyData)
  | [] => some []
  | .d x :: r => (allD r).map (x :: ·)
  | .o _ :: _ => none
theorem AgsOk.all {X : Bs} {F : Hp} {σ : L2.St} : ∀ {vs : List V} {as : List Ag} {ds : List PyData}, AgsOk X m F σ vs as → allD as = some ds → RpA X.K (X.ff F m) vs ds
  | _, _, ds, .nil, e => by cases e; exact .nil
  | _, _, ds, .cons (a := .d x) (as := as) h t, e => by
    cases q : allD as with
    | none => rw [allD, q] at e; cases e
    | some es => rw [allD, q] at e; cases e; exact .cons h (AgsOk.all t q)
  | _, _, ds, .cons (a := .o i) h t, e => by cases e
theorem WA.mono {QA' : List Ag → Prop} (h : WA K m Γ tr QA) (k : ∀ as, QA as → QA' as) : WA K m Γ tr QA' := fun X hK F H σ E C c => h X hK F H σ E C fun vs F' H' as l E' r q => c vs F' H' as l E' r (k as q)
theorem wd_tup (h : WA K m Γ tr fun as => ∃ ds, allD as = some ds ∧ ds.length ≤ 100000 ∧ Q (.tuple ds)) : WD K m Γ (tTup tr) Q := fun X hK F H σ E C k =>
  h X hK F H σ E _ fun vs F1 H1 as l1 E1 r1 ⟨ds, e, hz, q⟩ => by
    have rv := r1.all e
    refine ⟨Nat.le_trans (by rw [rv.length]; exact hz) (by decide), fun p hp => ?_⟩
    obtain ⟨a, b, c⟩ := E1.newT hK hp (by rw [← hK]; exact rv)
    exact k (.ref p) _ _ _ (l1.tr a) b c q
theorem wx_lst (m : Bool) (h : WA K m Γ tr fun as => ∃ ds, allD as = some ds ∧ ds.length ≤ 100000 ∧ ∀ l, QX (.ml m l ds)) : WX K Γ (tLst tr) QX := fun X hK F H σ E C k =>
  h X hK F H σ E _ fun vs F1 H1 as l1 E1 r1 ⟨ds, e, hz, q⟩ => by
    have rv := r1.all e
    refine ⟨Nat.le_trans (by rw [rv.length]; exact hz) (by decide), fun p hp => ?_⟩
    exact k (.ref p) _ _ _ l1 (E1.pushM hp rv) (q p)
theorem wd_lst (h : WA K m Γ tr fun as => ∃ ds, allD as = some ds ∧ ds.length ≤ 100000 ∧ Q (.list ds)) : WD K m Γ (tLst tr) Q :=
  .ofX (wx_lst m (h.mono fun as ⟨ds, e, hz, q⟩ => ⟨ds, e, hz, fun _ => ⟨_, toD_ml, q⟩⟩))
theorem wd_cb {r : List V → Hp → VK → Prop} (h : WA K m Γ tr fun as => ∃ ds, allD as = some ds ∧ RC K m Γ r ds Q) : WD K m Γ (tCB r tr) Q := fun X hK F H σ E C k =>
  h X hK F H σ E _ fun vs F1 H1 as l1 E1 r1 ⟨ds, e, q⟩ => q X hK F1 H1 σ E1 vs (by rw [← hK]; exact r1.all e) C fun z F2 H2 d l2 E2 r2 q2 => k z F2 H2 d (l1.tr l2) E2 r2 q2
theorem wx_cb {r : List V → Hp → VK → Prop} (m : Bool) (h : WA K m Γ tr fun as => ∃ ds, allD as = some ds ∧ RCX K m Γ r ds QX) : WX K Γ (tCB r tr) QX := fun X hK F H σ E C k =>
  h X hK F H σ E _ fun vs F1 H1 as l1 E1 r1 ⟨ds, e, q⟩ => q X hK F1 H1 σ E1 vs (by rw [← hK]; exact r1.all e) C fun z F2 H2 d l2 E2 q2 => k z F2 H2 d (l1.tr l2) E2 q2
end
end Pk
end
section
set_option Elab.async false
set_option linter.all false
set_option maxRecDepth 100000
/-! The data layer, part 2: promises over data, calls, a def's body. -/
namespace Pk
open PySem PySem.Spec PyProof.Rows L2

/-- a promise over data: T tells of the arguments what is wanted of the result -/
def spG (K : PySem.W.Frag) (T : List Sl → (Sl → Prop) → Prop) : Sp := fun vs H Q _ => ∃ (X : Bs) (F : Hp) (Γ : List Sl) (Qr : Sl → Prop), X.K = K ∧ X.F0 = F ∧ X.H0 = H ∧ (∀ a, X.N a ↔ H a ≠ none) ∧ En X F H (vs.map some) Γ ∧ T Γ Qr ∧
  ∀ F' H' v s, Le F F' → En X F' H' (vs.map some ++ [some v]) (Γ ++ [s]) → Qr s → Q v H'
/-- the arguments of one's own are unlike slots -/
def AgsGood (Γ : List Sl) (as : List Ag) : Prop := (as.filterMap Ag.ix).Nodup ∧ ∀ i ∈ as.filterMap Ag.ix, ∃ v Φ, Γ[i]? = some (.ex v Φ)
theorem ix_mem {as : List Ag} {k i : Nat} (h : as[k]? = some (.o i)) : i ∈ as.filterMap Ag.ix := List.mem_filterMap.mpr ⟨.o i, List.mem_of_getElem? h, rfl⟩
theorem ix_inj : ∀ {as : List Ag} {k k' i : Nat}, (as.filterMap Ag.ix).Nodup → as[k]? = some (.o i) → as[k']? = some (.o i) → k = k'
  | [], k, k', i, _, h, _ => by simp at h
  | a :: as, 0, 0, i, _, _, _ => rfl
  | a :: as, 0, k' + 1, i, nd, h, h' => by
    simp at h h'
    subst h
    simp [Ag.ix] at nd
    exact absurd h' (fun z => nd.1 _ (List.mem_of_getElem? z) rfl)
  | a :: as, k + 1, 0, i, nd, h, h' => by
    simp at h h'
    subst h'
    simp [Ag.ix] at nd
    exact absurd h (fun z => nd.1 _ (List.mem_of_getElem? z) rfl)
  | a :: as, k + 1, k' + 1, i, nd, h, h' => by
    simp at h h'
    have nd' : (as.filterMap Ag.ix).Nodup := by
      cases a with
      | d x => exact nd
      | o j => simp [Ag.ix] at nd; exact nd.2
    rw [ix_inj nd' h h']
theorem AgsOk.len {X : Bs} {m : Bool} {F : Hp} {σ : L2.St} : ∀ {vs : List V} {as : List Ag}, AgsOk X m F σ vs as → vs.length = as.length
  | _, _, .nil => rfl
  | _, _, .cons _ t => by simp [AgsOk.len t]
theorem AgsOk.at {X : Bs} {m : Bool} {F : Hp} {σ : L2.St} : ∀ {vs : List V} {as : List Ag} {k : Nat} {a : Ag}, AgsOk X m F σ vs as → as[k]? = some a → ∃ v, vs[k]? = some v ∧ AgOk X m F σ v a
  | _, _, _, _, .nil, e => by simp at e
  | _, _, 0, _, .cons h _, e => by simp at e; subst e; exact ⟨_, rfl, h⟩
  | _, _, k + 1, a, .cons _ t, e => by
    obtain ⟨v, h1, h2⟩ := AgsOk.at (k := k) (a := a) t (by simpa using e)
    exact ⟨v, by simpa using h1, h2⟩
theorem map_some_getD {vs : List V} {k : Nat} {v : V} (h : vs[k]? = some v) : (vs.map some).getD k none = some v := by
  simp [List.getD_eq_getElem?_getD, h]
/-- THE CALL over data: what the called sees, and how its end is ours -/
theorem call_sp {K : PySem.W.Frag} {Γ : List Sl} {X : Bs} (hK : X.K = K) {F H : Hp} {σ : L2.St} (E : En X F H σ Γ) {vs : List V} {as : List Ag} (ra : AgsOk X false F σ vs as) (hg : AgsGood Γ as) :
    ∃ X1 : Bs, X1.K = K ∧ X1.F0 = F ∧ X1.H0 = H ∧ (∀ a, X1.N a ↔ H a ≠ none) ∧ En X1 F H (vs.map some) (as.map (Ag.sl Γ)) ∧ ∀ F' H' v s, Le F F' → En X1 F' H' (vs.map some ++ [some v]) (as.map (Ag.sl Γ) ++ [s]) → En X F' H' (σ ++ [some v]) (Γ ++ [s]) := by
  subst hK
  obtain ⟨S, hs, hdj, ho⟩ := id E.sl
  obtain ⟨nd, hex⟩ := hg
  have exv : ∀ {k i : Nat}, as[k]? = some (.o i) → ∃ v Φ, Γ[i]? = some (.ex v Φ) ∧ vs[k]? = some v ∧ σ.getD i none = some v ∧ Φ.K = X.K ∧ Φ.p F H v (S i) := fun {k i} h => by
    obtain ⟨v, Φ, hΓ⟩ := hex i (ix_mem h)
    obtain ⟨e, hk, q⟩ := hs i _ hΓ
    obtain ⟨u, hu, hv⟩ := ra.at h
    have e2 : σ[i]? = some (some v) := E.ex hΓ
    have e3 : σ[i]? = some (some u) := hv
    rw [e2] at e3
    cases e3
    exact ⟨v, Φ, hΓ, hu, e, hk, q⟩
  refine ⟨⟨X.K, F, H, fun a => ∃ (k i : Nat), as[k]? = some (.o i) ∧ S i a, fun a => H a ≠ none⟩, rfl, rfl, rfl, fun _ => Iff.rfl, ⟨E.le, by simp [ra.len], ⟨fun k a => ∃ (i : Nat), as[k]? = some (.o i) ∧ S i a, fun k s e => ?_, fun k k' a h1 h2 => ?_, fun k a h1 => ?_⟩, fun a o e _ => ⟨e, rfl⟩, Le.rfl', fun _ h => h⟩, fun F' H' v s lf E' => ?_⟩
  · rw [List.getElem?_map] at e
    cases ha : as[k]? with
    | none => rw [ha] at e; cases e
    | some a =>
      rw [ha] at e
      cases e
      cases a with
      | d x =>
        obtain ⟨u, hu, hv⟩ := ra.at ha
        exact ⟨⟨u, map_some_getD hu, hv⟩, fun a ⟨i, z, _⟩ => by rw [ha] at z; cases z⟩
      | o i =>
        obtain ⟨u, Φ, hΓ, hu, _, hk, q⟩ := exv ha
        have e1 : Ag.sl Γ (.o i) = .ex u Φ := by simp [Ag.sl, List.getD_eq_getElem?_getD, hΓ]
        rw [e1]
        have eS : (fun a => ∃ (j : Nat), as[k]? = some (.o j) ∧ S j a) = S i := by
          funext a
          apply propext
          constructor
          · rintro ⟨j, e, z⟩
            rw [ha] at e
            cases e
            exact z
          · intro z; exact ⟨i, ha, z⟩
        show SlOk _ F H _ (fun a => ∃ (j : Nat), as[k]? = some (.o j) ∧ S j a) _
        rw [eS]
        exact ⟨map_some_getD hu, hk, q⟩
  · obtain ⟨i, e1, s1⟩ := h1
    obtain ⟨j, e2, s2⟩ := h2
    have := hdj i j a s1 s2
    subst this
    exact ix_inj nd e1 e2
  · obtain ⟨i, e1, s1⟩ := h1
    exact ⟨(ho i a s1).1, (ho i a s1).2.1, .inr ⟨k, i, e1, s1⟩⟩
  · -- behind the call
    obtain ⟨S', hs', hdj', ho'⟩ := id E'.sl
    have hlen : (vs.map some).length = (as.map (Ag.sl Γ)).length := by simp [ra.len]
    have notP : ∀ j a, S j a → (∀ (k : Nat), as[k]? ≠ some (.o j)) → ¬ ∃ (k i : Nat), as[k]? = some (.o i) ∧ S i a := fun j a sj hn ⟨k, i, e, si⟩ => by
      have := hdj i j a si sj
      subst this
      exact hn k e
    have keepP : ∀ j a, S j a → (∀ (k : Nat), as[k]? ≠ some (.o j)) → H' a = H a ∧ F' a = F a := fun j a sj hn => by
      obtain ⟨_, h1, _⟩ := ho j a sj
      cases z : H a with
      | none => exact absurd z h1
      | some o => exact E'.fr a o z (notP j a sj hn)
    have disP : ∀ k j a, S' k a → S j a → (∀ (k : Nat), as[k]? ≠ some (.o j)) → False := fun k j a h1 sj hn => by
      rcases (ho' k a h1).2.2 with w | w
      · exact (ho j a sj).2.1 w
      · exact notP j a sj hn w
    have ownX : ∀ k a, S' k a → X.own a := fun k a h1 => by
      rcases (ho' k a h1).2.2 with w | ⟨k', i, _, w⟩
      · exact E.ownN w
      · exact (ho i a w).2.2
    have kl : ∀ {k i : Nat}, as[k]? = some (.o i) → k < as.length := fun h => (List.getElem?_eq_some_iff.mp h).1
    refine ⟨E'.le, by simp [E.len], ⟨fun j a => (j < Γ.length ∧ ((∃ (k : Nat), as[k]? = some (.o j) ∧ S' k a) ∨ ((∀ (k : Nat), as[k]? ≠ some (.o j)) ∧ S j a))) ∨ (j = Γ.length ∧ S' as.length a), fun j u e => ?_, fun j j' a h1 h2 => ?_, fun j a h1 => ?_⟩, fun a o e n => ?_, E.f0.tr lf, fun a n => E'.nn a (E.nn a n)⟩
    · have hj : j < (Γ ++ [s]).length := (List.getElem?_eq_some_iff.mp e).1
      simp only [List.length_append, List.length_cons, List.length_nil] at hj
      by_cases hlt : j < Γ.length
      · rw [List.getElem?_append_left hlt] at e
        rw [getD_app (by rw [E.len]; exact hlt)]
        by_cases hp : ∃ (k : Nat), as[k]? = some (.o j)
        · obtain ⟨k, hk⟩ := hp
          obtain ⟨u0, Φ, hΓ, hu, e0, hkk, _⟩ := exv hk
          rw [hΓ] at e
          cases e
          have eS : (fun a => (j < Γ.length ∧ ((∃ (k : Nat), as[k]? = some (.o j) ∧ S' k a) ∨ ((∀ (k : Nat), as[k]? ≠ some (.o j)) ∧ S j a))) ∨ (j = Γ.length ∧ S' as.length a)) = S' k := by
            funext a
            apply propext
            constructor
            · rintro (⟨_, ⟨k', e', z⟩ | ⟨z, _⟩⟩ | ⟨z, _⟩)
              · rw [ix_inj nd hk e']; exact z
              · exact absurd hk (z k)
              · omega
            · intro z; exact .inl ⟨hlt, .inl ⟨k, hk, z⟩⟩
          show SlOk X F' H' _ (fun a => (j < Γ.length ∧ ((∃ (k : Nat), as[k]? = some (.o j) ∧ S' k a) ∨ ((∀ (k : Nat), as[k]? ≠ some (.o j)) ∧ S j a))) ∨ (j = Γ.length ∧ S' as.length a)) _
          rw [eS]
          have hk' : k < as.length := kl hk
          have q1 := hs' k (.ex u0 Φ) (by
            rw [List.getElem?_append_left (by simpa using hk'), List.getElem?_map, hk]
            simp [Ag.sl, List.getD_eq_getElem?_getD, hΓ])
          exact ⟨e0, hkk, q1.2.2⟩
        · have hn : ∀ (k : Nat), as[k]? ≠ some (.o j) := fun k z => hp ⟨k, z⟩
          have eS : (fun a => (j < Γ.length ∧ ((∃ (k : Nat), as[k]? = some (.o j) ∧ S' k a) ∨ ((∀ (k : Nat), as[k]? ≠ some (.o j)) ∧ S j a))) ∨ (j = Γ.length ∧ S' as.length a)) = S j := by
            funext a
            apply propext
            constructor
            · rintro (⟨_, ⟨k', e', z⟩ | ⟨_, z⟩⟩ | ⟨z, _⟩)
              · exact absurd e' (hn k')
              · exact z
              · omega
            · intro z; exact .inl ⟨hlt, .inr ⟨hn, z⟩⟩
          show SlOk X F' H' _ (fun a => (j < Γ.length ∧ ((∃ (k : Nat), as[k]? = some (.o j) ∧ S' k a) ∨ ((∀ (k : Nat), as[k]? ≠ some (.o j)) ∧ S j a))) ∨ (j = Γ.length ∧ S' as.length a)) _
          rw [eS]
          exact (hs j u e).mono lf fun a sa => (keepP j a sa hn).1
      · have hje : j = Γ.length := by omega
        subst hje
        simp at e
        subst e
        have eS : (fun a => (Γ.length < Γ.length ∧ ((∃ (k : Nat), as[k]? = some (.o Γ.length) ∧ S' k a) ∨ ((∀ (k : Nat), as[k]? ≠ some (.o Γ.length)) ∧ S Γ.length a))) ∨ (Γ.length = Γ.length ∧ S' as.length a)) = S' as.length := by
          funext a
          apply propext
          constructor
          · rintro (⟨z, _⟩ | ⟨_, z⟩)
            · omega
            · exact z
          · intro z; exact .inr ⟨rfl, z⟩
        show SlOk X F' H' _ (fun a => (Γ.length < Γ.length ∧ ((∃ (k : Nat), as[k]? = some (.o Γ.length) ∧ S' k a) ∨ ((∀ (k : Nat), as[k]? ≠ some (.o Γ.length)) ∧ S Γ.length a))) ∨ (Γ.length = Γ.length ∧ S' as.length a)) _
        rw [eS, ← E.len, getD_last]
        have q1 := hs' as.length s (by
          have : as.length = (as.map (Ag.sl Γ)).length := by simp
          rw [this]
          simp)
        have e4 : (vs.map some ++ [some v]).getD as.length none = some v := by
          have : as.length = (vs.map some).length := by simp [ra.len]
          rw [this, getD_last]
        rw [e4] at q1
        refine SlOk.to ?_ ?_ q1
        · rfl
        · exact fun a n => E.nn a n
    · rcases h1 with ⟨a1, ⟨k1, e1, z1⟩ | ⟨n1, z1⟩⟩ | ⟨a1, z1⟩ <;> rcases h2 with ⟨a2, ⟨k2, e2, z2⟩ | ⟨n2, z2⟩⟩ | ⟨a2, z2⟩
      · have := hdj' k1 k2 a z1 z2
        subst this
        rw [e1] at e2
        cases e2
        rfl
      · exact (disP k1 j' a z1 z2 n2).elim
      · have := hdj' k1 as.length a z1 z2
        have := kl e1
        omega
      · exact (disP k2 j a z2 z1 n1).elim
      · exact hdj j j' a z1 z2
      · exact (disP _ j a z2 z1 n1).elim
      · have := hdj' k2 as.length a z2 z1
        have := kl e2
        omega
      · exact (disP _ j' a z1 z2 n2).elim
      · omega
    · rcases h1 with ⟨a1, ⟨k1, e1, z1⟩ | ⟨n1, z1⟩⟩ | ⟨a1, z1⟩
      · exact ⟨(ho' k1 a z1).1, (ho' k1 a z1).2.1, ownX k1 a z1⟩
      · obtain ⟨q1, q2⟩ := keepP j a z1 n1
        exact ⟨q2.trans (ho j a z1).1, by rw [q1]; exact (ho j a z1).2.1, (ho j a z1).2.2⟩
      · exact ⟨(ho' _ a z1).1, (ho' _ a z1).2.1, ownX _ a z1⟩
    · obtain ⟨q1, q2⟩ := E.fr a o e n
      have nS : ¬ ∃ (k i : Nat), as[k]? = some (.o i) ∧ S i a := fun ⟨k, i, _, si⟩ => by
        rcases (ho i a si).2.2 with w | w
        · rw [w] at e; cases e
        · exact n w
      obtain ⟨r1, r2⟩ := E'.fr a o q1 nS
      exact ⟨r1, r2.trans q2⟩
theorem call_g {K : PySem.W.Frag} {Γ : List Sl} {T : List Sl → (Sl → Prop) → Prop} {X : Bs} (hK : X.K = K) {F H : Hp} {σ : L2.St} (E : En X F H σ Γ) {vs : List V} {as : List Ag} (ra : AgsOk X false F σ vs as) (hg : AgsGood Γ as) {Qr : Sl → Prop} (hT : T (as.map (Ag.sl Γ)) Qr) {C : VK} {EE : XK}
    (k : ∀ v F' H' s, Le F F' → En X F' H' (σ ++ [some v]) (Γ ++ [s]) → Qr s → C v H') : spG K T vs H C EE := by
  obtain ⟨X1, a, b, c, d, e, f⟩ := call_sp hK E ra hg
  exact ⟨X1, F, _, Qr, a, b, c, d, e, hT, fun F' H' v s lf E' q => k v F' H' s lf (f F' H' v s lf E') q⟩
section
variable {K : PySem.W.Frag} {Γ : List Sl} {T : List Sl → (Sl → Prop) → Prop} {EE : XK} {tr : TA}
theorem wx_call {QX : Sl → Prop} (h : WA K false Γ tr fun as => AgsGood Γ as ∧ T (as.map (Ag.sl Γ)) QX) : WX K Γ (tCall (spG K T) [] EE tr) QX := fun X hK F H σ E C k =>
  h X hK F H σ E _ fun vs F1 H1 as l1 E1 r1 ⟨hg, hT⟩ => by
    rw [List.append_nil]
    exact call_g hK E1 r1 hg hT fun v F' H' s lf E' q => k v F' H' s (l1.tr lf) E' q
theorem wd_call {m : Bool} {Q : PyData → Prop} (h : WA K false Γ tr fun as => AgsGood Γ as ∧ T (as.map (Ag.sl Γ)) fun s => ∃ d, s.toD m = some d ∧ Q d) : WD K m Γ (tCall (spG K T) [] EE tr) Q := .ofX (wx_call h)
/-- arguments that are data alone -/
theorem agsGood_d {as : List Ag} {ds : List PyData} (h : allD as = some ds) : AgsGood Γ as := by
  have e : as.filterMap Ag.ix = [] := by
    induction as generalizing ds with
    | nil => rfl
    | cons a as ih =>
      cases a with
      | o i => cases h
      | d x =>
        cases q : allD as with
        | none => rw [allD, q] at h; cases h
        | some es => simpa [Ag.ix] using ih q
  exact ⟨by rw [e]; exact List.nodup_nil, fun i hi => by rw [e] at hi; cases hi⟩
theorem agsGood_1 {i : Nat} {v : V} {Φ : Own} {as : List Ag} {ds : List PyData} (hi : Γ[i]? = some (.ex v Φ)) (h : allD as = some ds) : AgsGood Γ (.o i :: as) := by
  have e : as.filterMap Ag.ix = [] := by
    induction as generalizing ds with
    | nil => rfl
    | cons a as ih =>
      cases a with
      | o i => cases h
      | d x =>
        cases q : allD as with
        | none => rw [allD, q] at h; cases h
        | some es => simpa [Ag.ix] using ih q
  have e' : (Ag.o i :: as).filterMap Ag.ix = [i] := by simp [Ag.ix, e]
  refine ⟨by rw [e']; simp, fun j hj => ?_⟩
  rw [e'] at hj
  simp at hj
  subst hj
  exact ⟨v, Φ, hi⟩
end

/-! ### statements -/
/-- the fields of an exception; where they stand -/
abbrev Fs := List (Str × V)
def FsAt (F : Hp) : Option Fs → Option Addr → Prop
  | none, d => d = none
  | some fs, d => ∃ a, d = some a ∧ F a = some (.xd fs)
structure Po where
  nx : List Sl → Prop
  rt : Sl → List Sl → Prop
  bk : List Sl → Prop := fun _ => False
  ct : List Sl → Prop := fun _ => False
  /-- what an exception is let out to, and what is told of it -/
  W : Value → Option Addr → L2.St → Hp → Prop := fun _ _ _ _ => False
  ex : Value → Option Fs → List Sl → Prop := fun _ _ _ => False
structure Meets (X : Bs) (P : Po) (D : Ends) : Prop where
  nx : ∀ F H σ Γ, En X F H σ Γ → P.nx Γ → D.nx σ H
  rt : ∀ F H σ Γ v s, En X F H (σ ++ [some v]) (Γ ++ [s]) → P.rt s Γ → D.rt v H
  bk : ∀ F H σ Γ, En X F H σ Γ → P.bk Γ → D.bk σ H
  ct : ∀ F H σ Γ, En X F H σ Γ → P.ct Γ → D.ct σ H
  xc : ∀ F H σ Γ cls o d, En X F H σ Γ → FsAt F o d → P.ex cls o Γ → P.W cls d σ H
def SJ (K : PySem.W.Frag) (Γ : List Sl) (ts : TS) (P : Po) : Prop := ∀ X : Bs, X.K = K → ∀ F H σ, En X F H σ Γ → ∀ D : Ends, Meets X P D → ts D σ H

/-- the def's own base, not a loop's -/
def Bs.Top (X : Bs) : Prop := (∀ a, X.N a ↔ X.H0 a ≠ none) ∧ Le X.F0 X.H0
/-- .. at the def's own level -/
def SJt (K : PySem.W.Frag) (Γ : List Sl) (ts : TS) (P : Po) : Prop := ∀ X : Bs, X.K = K → X.Top → ∀ F H σ, En X F H σ Γ → ∀ D : Ends, Meets X P D → ts D σ H
theorem SJ.t {K : PySem.W.Frag} {Γ : List Sl} {ts : TS} {P : Po} (h : SJ K Γ ts P) : SJt K Γ ts P := fun X hK _ F H σ E D hD => h X hK F H σ E D hD
theorem sjt_seq {K : PySem.W.Frag} {Γ : List Sl} {t u : TS} {P : Po} (h : SJt K Γ t { P with nx := fun Γ' => SJt K Γ' u P }) : SJt K Γ (tSeq t u) P := fun X hK hT F H σ E D hD =>
  h X hK hT F H σ E _ ⟨fun F' H' σ' Γ' E' q => q X hK hT F' H' σ' E' D hD, hD.rt, hD.bk, hD.ct, hD.xc⟩
theorem sjt_cut {K : PySem.W.Frag} {Γ : List Sl} {t u : TS} {P : Po} (M : List Sl → Prop) (h : SJt K Γ t { P with nx := M }) (k : ∀ Γ', M Γ' → SJt K Γ' u P) : SJt K Γ (tSeq t u) P := fun X hK hT F H σ E D hD =>
  h X hK hT F H σ E _ ⟨fun F' H' σ' Γ' E' q => k Γ' q X hK hT F' H' σ' E' D hD, hD.rt, hD.bk, hD.ct, hD.xc⟩
/-- what the def keeps of the arguments of others -/
def Keep (Γ Γ' : List Sl) : Prop := ∀ (i : Nat) (v : V) (Φ : Own), Γ[i]? = some (.ex v Φ) → Γ'[i]? = some (.ex v Φ)
theorem keep_nil {Γ' : List Sl} : Keep [] Γ' := fun i v Φ h => by simp at h
theorem keep_ex {v : V} {Φ : Own} {Γ Γ' : List Sl} (h : Keep Γ Γ') : Keep (.ex v Φ :: Γ) (.ex v Φ :: Γ') := fun i u Ψ e => by
  cases i with
  | zero => simpa using e
  | succ i => simp at e ⊢; exact h i u Ψ e
theorem keep_dat {m : Bool} {d : PyData} {s : Sl} {Γ Γ' : List Sl} (h : Keep Γ Γ') : Keep (.dat m d :: Γ) (s :: Γ') := fun i u Ψ e => by
  cases i with
  | zero => simp at e
  | succ i => simp at e ⊢; exact h i u Ψ e
/-- no lists of one's own among arguments -/
def NoMl (Γ : List Sl) : Prop := ∀ (i : Nat) (m : Bool) (l : Addr) (ds : List PyData), Γ[i]? ≠ some (.ml m l ds)
theorem noMl_nil : NoMl [] := fun i m l ds h => by simp at h
theorem noMl_dat {m : Bool} {d : PyData} {Γ : List Sl} (h : NoMl Γ) : NoMl (.dat m d :: Γ) := fun i m l ds e => by
  cases i with
  | zero => simp at e
  | succ i => simp at e; exact h i m l ds e
theorem noMl_ex {v : V} {Φ : Own} {Γ : List Sl} (h : NoMl Γ) : NoMl (.ex v Φ :: Γ) := fun i m l ds e => by
  cases i with
  | zero => simp at e
  | succ i => simp at e; exact h i m l ds e
theorem En.pad {X : Bs} {F H : Hp} {σ : L2.St} {Γ : List Sl} (E : En X F H σ Γ) (n : Nat) : En X F H (σ ++ List.replicate n none) (Γ ++ List.replicate n .no) := by
  induction n with
  | zero => simpa using E
  | succ n ih =>
    rw [List.replicate_succ', List.replicate_succ', ← List.append_assoc, ← List.append_assoc]
    exact ih.pushG (T := fun _ => False) Le.rfl' E.le (fun _ _ q => q) (fun _ _ _ => rfl) (fun _ z => z) (fun _ z => z.elim)
/-- the arguments as they stand at the end -/
theorem En.back {X : Bs} {F H F' H' : Hp} {σ' : L2.St} {Γ Γ' : List Sl} {vs : List V} {ov : Option V} {s : Sl} (E0 : En X F H (vs.map some) Γ) (hF : X.F0 = F) (nm : NoMl Γ) (kp : Keep Γ Γ') (E : En X F' H' (σ' ++ [ov]) (Γ' ++ [s])) : En X F' H' (vs.map some ++ [ov]) (Γ ++ [s]) := by
  have lf : Le F F' := by rw [← hF]; exact E.f0
  have hl : σ'.length = Γ'.length := by
    have := E.len
    simp at this
    exact this
  obtain ⟨S0, hs0, _, _⟩ := id E0.sl
  obtain ⟨S, hs, hdj, ho⟩ := id E.sl
  refine ⟨E.le, by simp [← E0.len], ⟨fun i a => (i < Γ.length ∧ (∃ v Φ, Γ[i]? = some (.ex v Φ)) ∧ S i a) ∨ (i = Γ.length ∧ S Γ'.length a), fun i u e => ?_, fun i j a h1 h2 => ?_, fun i a h1 => ?_⟩, E.fr, E.f0, E.nn⟩
  · have hi : i < (Γ ++ [s]).length := (List.getElem?_eq_some_iff.mp e).1
    simp only [List.length_append, List.length_cons, List.length_nil] at hi
    by_cases hlt : i < Γ.length
    · rw [List.getElem?_append_left hlt] at e
      rw [getD_app (by rw [E0.len]; exact hlt)]
      cases u with
      | no =>
        intro a z
        rcases z with ⟨_, ⟨v, Φ, z⟩, _⟩ | ⟨z, _⟩
        · rw [e] at z; cases z
        · omega
      | dat m d =>
        obtain ⟨⟨v, ev, r⟩, _⟩ := hs0 i _ e
        refine ⟨⟨v, ev, Bs.mo r lf⟩, fun a z => ?_⟩
        rcases z with ⟨_, ⟨v, Φ, z⟩, _⟩ | ⟨z, _⟩
        · rw [e] at z; cases z
        · omega
      | ml m l ds => exact absurd e (nm i m l ds)
      | ex v Φ =>
        have e' := kp i v Φ e
        have hi' : i < Γ'.length := (List.getElem?_eq_some_iff.mp e').1
        have q := hs i _ (by rw [List.getElem?_append_left hi']; exact e')
        obtain ⟨ev, hk, _⟩ := hs0 i _ e
        have eS : (fun a => (i < Γ.length ∧ (∃ v Φ, Γ[i]? = some (.ex v Φ)) ∧ S i a) ∨ (i = Γ.length ∧ S Γ'.length a)) = S i := by
          funext a
          apply propext
          constructor
          · rintro (⟨_, _, z⟩ | ⟨z, _⟩)
            · exact z
            · omega
          · intro z; exact .inl ⟨hlt, ⟨v, Φ, e⟩, z⟩
        show SlOk X F' H' _ (fun a => (i < Γ.length ∧ (∃ v Φ, Γ[i]? = some (.ex v Φ)) ∧ S i a) ∨ (i = Γ.length ∧ S Γ'.length a)) _
        rw [eS]
        exact ⟨ev, hk, q.2.2⟩
    · have hie : i = Γ.length := by omega
      subst hie
      simp at e
      subst e
      have eS : (fun a => (Γ.length < Γ.length ∧ (∃ v Φ, Γ[Γ.length]? = some (.ex v Φ)) ∧ S Γ.length a) ∨ (Γ.length = Γ.length ∧ S Γ'.length a)) = S Γ'.length := by
        funext a
        apply propext
        constructor
        · rintro (⟨z, _⟩ | ⟨_, z⟩)
          · omega
          · exact z
        · intro z; exact .inr ⟨rfl, z⟩
      show SlOk X F' H' _ (fun a => (Γ.length < Γ.length ∧ (∃ v Φ, Γ[Γ.length]? = some (.ex v Φ)) ∧ S Γ.length a) ∨ (Γ.length = Γ.length ∧ S Γ'.length a)) _
      rw [eS, ← E0.len, getD_last]
      have q := hs Γ'.length s (by simp)
      rw [← hl, getD_last, hl] at q
      exact q
  · have le : ∀ {i : Nat}, (∃ v Φ, Γ[i]? = some (Sl.ex v Φ)) → i < Γ'.length := fun {i} ⟨v, Φ, z⟩ => (List.getElem?_eq_some_iff.mp (kp i v Φ z)).1
    rcases h1 with ⟨a1, b1, c1⟩ | ⟨a1, c1⟩ <;> rcases h2 with ⟨a2, b2, c2⟩ | ⟨a2, c2⟩
    · exact hdj i j a c1 c2
    · have := hdj _ _ a c1 c2
      have := le b1
      omega
    · have := hdj _ _ a c1 c2
      have := le b2
      omega
    · omega
  · rcases h1 with ⟨a1, b1, c1⟩ | ⟨a1, c1⟩
    · exact ho i a c1
    · exact ho _ a c1
/-- what is wanted of a def's body -/
def retP (Γ : List Sl) (Qr : Sl → Prop) : Po := { nx := fun Γ' => Keep Γ Γ' ∧ Qr (.dat true .none), rt := fun s Γ' => Keep Γ Γ' ∧ Qr s }
section
variable {P : Program} {w : World} {K : PySem.W.Frag} {mg : Str → Option Value} {base : Heap}
/-- a body keeps its promise -/
theorem body_g {N : List Str} {T : List Sl → (Sl → Prop) → Prop} {vs : List V} {H : Hp} {Q : VK} {E : XK} {t : TS} (h : spG K T vs H Q E) (hn : ∀ Γ Qr, T Γ Qr → NoMl Γ) (hj : ∀ Γ Qr, T Γ Qr → SJt K (Γ ++ List.replicate (N.length - Γ.length) .no) t (retP Γ Qr)) : t { nx := fun _ H' => Q .non H', rt := Q } (L2.start N vs) H := by
  obtain ⟨X, F, Γ, Qr, hK, hF, hH, hNN, E0, hT, k⟩ := h
  have hl : vs.length = Γ.length := by simpa using E0.len
  have Ep := E0.pad (N.length - Γ.length)
  have es : L2.start N vs = vs.map some ++ List.replicate (N.length - Γ.length) none := by rw [L2.start, hl]
  rw [es]
  refine hj Γ Qr hT X hK ⟨fun a => by rw [hH]; exact hNN a, by rw [hF, hH]; exact E0.le⟩ F H _ Ep _ ⟨fun F' H' σ' Γ' E' ⟨kp, q⟩ => ?_, fun F' H' σ' Γ' v s E' ⟨kp, q⟩ => ?_, fun _ _ _ _ _ z => z, fun _ _ _ _ _ z => z, fun _ _ _ _ _ _ _ _ _ z => z⟩
  · exact k F' H' .non (.dat true .none) (by rw [← hF]; exact E'.f0) (E0.back hF (hn Γ Qr hT) kp (E'.pushD .non)) q
  · exact k F' H' v s (by rw [← hF]; exact E'.drop.f0) (E0.back hF (hn Γ Qr hT) kp E') q
theorem len_g {T : List Sl → (Sl → Prop) → Prop} {n : Nat} (hl : ∀ Γ Qr, T Γ Qr → Γ.length = n) : ∀ vs H Q E, spG K T vs H Q E → vs.length = n := fun vs H Q E h => by
  obtain ⟨X, F, Γ, Qr, hK, hF, hH, hNN, E0, hT, k⟩ := h
  have := E0.len
  rw [List.length_map] at this
  rw [this]
  exact hl Γ Qr hT
/-- a def that calls what it calls, as others call it -/
structure Cal (P : Program) (w : World) (K : PySem.W.Frag) (mg : Str → Option Value) (base : Heap) (CX : CXT) (k : Nat) (x : Str) (ps : List Str) (sp : Sp) : Prop where
  ex : ∃ f fd, mg x = some (.ref f) ∧ PySem.W.keepIn K (.ref f) = true ∧ Binds K fd ps [] ∧ FnOk P w K mg base CX k f fd ps sp
/-- where a def stands, and how it is called -/
structure Def (K : PySem.W.Frag) (mg : Str → Option Value) (x : Str) (st : Stmt) (ps : List Str) : Prop where
  ex : ∃ f fd, mg x = some (.ref f) ∧ Fun K x x st f fd ∧ Binds K fd ps []
theorem Cal.mono {CX : CXT} {j k : Nat} {x : Str} {ps : List Str} {sp : Sp} (c : Cal P w K mg base CX j x ps sp) (h : j ≤ k) : Cal P w K mg base CX k x ps sp :=
  let ⟨f, fd, a, b, d, e⟩ := c.ex
  ⟨f, fd, a, b, d, e.mono h⟩
theorem Cal.imp {CX : CXT} {k : Nat} {x : Str} {ps : List Str} {sp sp' : Sp} (c : Cal P w K mg base CX k x ps sp) (h : ∀ vs H Q E, sp' vs H Q E → sp vs H Q E) : Cal P w K mg base CX k x ps sp' :=
  let ⟨f, fd, a, b, d, e⟩ := c.ex
  ⟨f, fd, a, b, d, e.imp h⟩
/-- THE RULE for a def over data that raises nothing -/
theorem cal_g {x : Str} {st : Stmt} {N ps : List Str} {k : Nat} {T : List Sl → (Sl → Prop) → Prop} (D : Def K mg x st ps) (S : FnScope N ps (defScope st)) (hT : ∀ Γ Qr, T Γ Qr → Γ.length = ps.length ∧ NoMl Γ)
    (hb : ∀ (f : Addr) (cdv : Value) (A : Around) (outer : List Env) (s : Shared) (H : Hp) (E : XK), Room k (A.deeper (envOfC x (defScope st) s.heap.objs.size f cdv)) →
      ∃ t, PSs (cxOf CX0 P w K mg base N x (defScope st) f cdv A outer s H E).nox (defBody st) t ∧ ∀ Γ Qr, T Γ Qr → SJ K (Γ ++ List.replicate (N.length - Γ.length) .no) t (retP Γ Qr)) : Cal P w K mg base CX0 (k + 1) x ps (spG K T) := by
  obtain ⟨f, fd, a, F, b⟩ := D.ex
  refine ⟨f, fd, a, F.kp, b, F.ok S (len_g fun Γ Qr h => (hT Γ Qr h).1) fun cdv A outer s H vs Q E hr h => ?_⟩
  obtain ⟨t, ht, hj⟩ := hb f cdv A outer s H E hr
  exact ⟨t, ht, body_g h (fun Γ Qr z => (hT Γ Qr z).2) fun Γ Qr z => (hj Γ Qr z).t⟩
/-- .. whose body is told at its own level -/
theorem cal_t {x : Str} {st : Stmt} {N ps : List Str} {k : Nat} {T : List Sl → (Sl → Prop) → Prop} (D : Def K mg x st ps) (S : FnScope N ps (defScope st)) (hT : ∀ Γ Qr, T Γ Qr → Γ.length = ps.length ∧ NoMl Γ)
    (hb : ∀ (f : Addr) (cdv : Value) (A : Around) (outer : List Env) (s : Shared) (H : Hp) (E : XK), Room k (A.deeper (envOfC x (defScope st) s.heap.objs.size f cdv)) →
      ∃ t, PSs (cxOf CX0 P w K mg base N x (defScope st) f cdv A outer s H E).nox (defBody st) t ∧ ∀ Γ Qr, T Γ Qr → SJt K (Γ ++ List.replicate (N.length - Γ.length) .no) t (retP Γ Qr)) : Cal P w K mg base CX0 (k + 1) x ps (spG K T) := by
  obtain ⟨f, fd, a, F, b⟩ := D.ex
  refine ⟨f, fd, a, F.kp, b, F.ok S (len_g fun Γ Qr h => (hT Γ Qr h).1) fun cdv A outer s H vs Q E hr h => ?_⟩
  obtain ⟨t, ht, hj⟩ := hb f cdv A outer s H E hr
  exact ⟨t, ht, body_g h (fun Γ Qr z => (hT Γ Qr z).2) hj⟩
/-- a def of which nothing is asked -/
theorem cal_no {x : Str} {st : Stmt} {ps : List Str} {k : Nat} (D : Def K mg x st ps) : Cal P w K mg base CX0 k x ps (fun _ _ _ _ => False) := by
  obtain ⟨f, fd, a, F, b⟩ := D.ex
  exact ⟨f, fd, a, F.kp, b, ⟨fun _ _ _ _ h => h.elim, fun _ _ _ _ _ _ _ _ _ _ _ _ _ h => h.elim⟩⟩
end
section
variable {X : Cx} {k : Nat} {x : Str} {ps : List Str} {sp : Sp} {p pos : Pos} {e : Expr} {es : List Expr} {t : TA}
/-- f(e, ..) -/
theorem pe_c (c : Cal X.prog X.w X.K X.mg X.base CX0 k x ps sp) (hr : Room k X.A) (hg : Gl X x) (ha : PA X (e :: es) t) (hdb : (x == ("__debug__" : Str)) = false := by decide) (he : starEach (e :: es) X.env = (false, eval e X.env) :: starEach es X.env := by rfl) (hpl : ((backTo pos (starEach es X.env)).any fun x => x.fst) = false := by rfl) : PE X (.Call (.Name x p) (e :: es) [] pos) (tCall sp [] E0 t) := by
  obtain ⟨f, fd, a, b, d, F⟩ := c.ex
  exact pe_call F hr hg a b d .nil pass0 ha hdb he hpl
theorem pe_c0 (c : Cal X.prog X.w X.K X.mg X.base CX0 k x ps sp) (hr : Room k X.A) (hg : Gl X x) (hdb : (x == ("__debug__" : Str)) = false := by decide) : PE X (.Call (.Name x p) [] [] pos) (tCall sp [] E0 tNil) := by
  obtain ⟨f, fd, a, b, d, F⟩ := c.ex
  exact pe_call0 F hr hg a b d .nil pass0 hdb
end
end Pk
end
section
set_option Elab.async false
set_option linter.all false
set_option maxRecDepth 100000
/-! The data layer, part 3: statements, loops, comprehensions. -/
namespace Pk
open PySem PySem.Spec PyProof.Rows L2

section
variable {X : Bs} {F H : Hp} {σ : L2.St} {Γ : List Sl}
/-- a list of one's own changes -/
theorem En.mut (E : En X F H σ Γ) {i : Nat} {m : Bool} {l : Addr} {ds es : List PyData} {ys : List V} (hi : Γ[i]? = some (.ml m l ds)) (r : RpA X.K (X.ff F m) ys es) : En X F (upd H l (.lst ys)) σ (Γ.set i (.ml m l es)) := by
  obtain ⟨S, hs, hdj, ho⟩ := id E.sl
  have hil : i < Γ.length := (List.getElem?_eq_some_iff.mp hi).1
  obtain ⟨xs, e, hS, hl, _, nl⟩ := hs i _ hi
  have sl : S i l := (hS l).mpr rfl
  refine ⟨E.le.new (ho i l sl).1, by simp [E.len], ⟨S, fun j u q => ?_, hdj, fun j a sa => ⟨(ho j a sa).1, ?_, (ho j a sa).2.2⟩⟩, fun a o q n => ?_, E.f0, fun a n => ?_⟩
  · by_cases hj : j = i
    · subst hj
      rw [List.getElem?_set_self hil] at q
      cases q
      exact ⟨ys, e, hS, upd_same, r, nl⟩
    · rw [List.getElem?_set_ne (Ne.symm hj)] at q
      exact (hs j u q).mono Le.rfl' fun a sa => upd_ne fun z => hj (by subst z; exact hdj j i a sa sl)
  · by_cases z : a = l
    · subst z; rw [upd_same]; simp
    · rw [upd_ne z]; exact (ho j a sa).2.1
  · obtain ⟨q1, q2⟩ := E.fr a o q n
    refine ⟨?_, q2⟩
    rw [upd_ne]
    · exact q1
    · intro z
      subst z
      rcases (ho i a sl).2.2 with w | w
      · rw [w] at q; cases q
      · exact n w
  · by_cases z : a = l
    · subst z; rw [upd_same]; simp
    · rw [upd_ne z]; exact E.nn a n
def wipeG (Γ : List Sl) : List Nat → List Sl
  | [] => Γ
  | v :: vs => (wipeG Γ vs).set v .no
theorem wipeG_length (Γ : List Sl) : ∀ vs : List Nat, (wipeG Γ vs).length = Γ.length
  | [] => rfl
  | v :: vs => by simp [wipeG, wipeG_length Γ vs]
theorem wipeG_out {i : Nat} : ∀ {vs : List Nat}, i ∉ vs → (wipeG Γ vs)[i]? = Γ[i]?
  | [], _ => rfl
  | v :: vs, h => by
    rw [wipeG, List.getElem?_set_ne (by intro z; subst z; exact h List.mem_cons_self)]
    exact wipeG_out fun z => h (List.mem_cons_of_mem _ z)
theorem wipeG_in {i : Nat} (hl : i < Γ.length) : ∀ {vs : List Nat}, i ∈ vs → (wipeG Γ vs)[i]? = some .no
  | [], h => by cases h
  | v :: vs, h => by
    rw [wipeG]
    by_cases z : v = i
    · subst z
      rw [List.getElem?_set_self (by rw [wipeG_length]; exact hl)]
    · rw [List.getElem?_set_ne z]
      rcases List.mem_cons.mp h with w | w
      · exact absurd w.symm z
      · exact wipeG_in hl w
theorem En.set_no (E : En X F H σ Γ) (i : Nat) (ov : Option V) : En X F H (σ.set i ov) (Γ.set i .no) := by
  have h := E.pushG (ov := ov) (s := .no) (T := fun _ => False) Le.rfl' E.le (fun _ _ q => q) (fun _ _ _ => rfl) (fun _ z => z) (fun _ z => z.elim)
  exact h.put i
theorem En.wipe (E : En X F H σ Γ) : ∀ vs : List Nat, En X F H (L2.wipe σ vs) (wipeG Γ vs)
  | [] => E
  | v :: vs => (En.wipe E vs).set_no v none
/-- slots that a comprehension may use as its own -/
def wipeOk (Γ : List Sl) (vs : List Nat) : Prop := ∀ i ∈ vs, ∀ s, Γ[i]? = some s → s = .no ∨ ∃ m d, s = .dat m d
theorem wipeOk_nil : wipeOk Γ [] := fun _ h => by cases h
theorem wipeOk_no {i : Nat} {vs : List Nat} (h : Γ[i]? = some .no) (r : wipeOk Γ vs) : wipeOk Γ (i :: vs) := fun j hj s e => by
  rcases List.mem_cons.mp hj with z | z
  · subst z; rw [h] at e; cases e; exact .inl rfl
  · exact r j z s e
theorem wipeOk_dat {i : Nat} {vs : List Nat} {m : Bool} {d : PyData} (h : Γ[i]? = some (.dat m d)) (r : wipeOk Γ vs) : wipeOk Γ (i :: vs) := fun j hj s e => by
  rcases List.mem_cons.mp hj with z | z
  · subst z; rw [h] at e; cases e; exact .inr ⟨m, d, rfl⟩
  · exact r j z s e
theorem En.unwipe {X0 : Bs} {F0 H0 : Hp} {ov : Option V} {s : Sl} {vs : List Nat} (E0 : En X0 F0 H0 σ Γ) (hK : X0.K = X.K) (hN : X0.N = X.N) (lf : Le F0 F) (hv : wipeOk Γ vs) (E : En X F H (L2.wipe σ vs ++ [ov]) (wipeG Γ vs ++ [s])) : En X F H (σ ++ [ov]) (Γ ++ [s]) := by
  obtain ⟨S0, hs0, _, _⟩ := id E0.sl
  obtain ⟨S, hs, hdj, ho⟩ := id E.sl
  have hl : σ.length = Γ.length := E0.len
  refine ⟨E.le, by simp [hl], ⟨S, fun i u e => ?_, hdj, ho⟩, E.fr, E.f0, E.nn⟩
  have hi : i < (Γ ++ [s]).length := (List.getElem?_eq_some_iff.mp e).1
  simp only [List.length_append, List.length_cons, List.length_nil] at hi
  by_cases hlt : i < Γ.length
  · rw [List.getElem?_append_left hlt] at e
    rw [getD_app (by rw [hl]; exact hlt)]
    by_cases hin : i ∈ vs
    · have q := hs i .no (by rw [List.getElem?_append_left (by rw [wipeG_length]; exact hlt)]; exact wipeG_in hlt hin)
      rcases hv i hin u e with z | ⟨m, d, z⟩
      · subst z; exact q
      · subst z
        obtain ⟨⟨v, ev, r⟩, _⟩ := hs0 i _ e
        refine ⟨⟨v, ev, ?_⟩, q⟩
        rw [← hK]
        exact (Bs.mo r lf).mono (Bs.ff_to (fun a h => by rw [hN]; exact h) m)
    · have q := hs i u (by rw [List.getElem?_append_left (by rw [wipeG_length]; exact hlt), wipeG_out hin]; exact e)
      rw [getD_app (by rw [wipe_length, hl]; exact hlt)] at q
      have : (L2.wipe σ vs).getD i none = σ.getD i none := by simp [List.getD_eq_getElem?_getD, wipe_out hin]
      rw [this] at q
      exact q
  · have hie : i = Γ.length := by omega
    subst hie
    simp at e
    subst e
    rw [← hl, getD_last, hl]
    have q := hs Γ.length s (by rw [← wipeG_length Γ vs]; simp)
    have : (L2.wipe σ vs ++ [ov]).getD Γ.length none = ov := by
      rw [← hl, ← wipe_length σ vs, getD_last]
    rw [this] at q
    exact q
end

/-! ### targets -/
def GJ (K : PySem.W.Frag) (m : Bool) (Γ : List Sl) (g : TG) (d : PyData) (N : List Sl → Prop) : Prop := ∀ X : Bs, X.K = K → ∀ F H σ, En X F H σ Γ → ∀ v, Rp K (X.ff F m) v d → ∀ C : L2.St → Hp → Prop,
  (∀ F' H' σ' Γ', Le F F' → En X F' H' σ' Γ' → N Γ' → C σ' H') → g v σ H C
def GJs (K : PySem.W.Frag) (m : Bool) (Γ : List Sl) (g : TGs) (ds : List PyData) (N : List Sl → Prop) : Prop := ∀ X : Bs, X.K = K → ∀ F H σ, En X F H σ Γ → ∀ vs, RpA K (X.ff F m) vs ds → ∀ C : L2.St → Hp → Prop,
  (∀ F' H' σ' Γ', Le F F' → En X F' H' σ' Γ' → N Γ' → C σ' H') → g vs σ H C
section
variable {K : PySem.W.Frag} {m : Bool} {Γ : List Sl} {N : List Sl → Prop}
theorem gj_name {i : Nat} {d : PyData} (q : N (Γ.set i (.dat m d))) : GJ K m Γ (gName i) d N := fun X hK F H σ E v r C k => by
  subst hK
  exact k F H _ _ Le.rfl' ((E.pushD r).put i) q
theorem gj_tup {n : Nat} {gs : TGs} {ds : List PyData} (hn : ds.length = n) (h : GJs K m Γ gs ds N) : GJ K m Γ (gTup K n gs) (.tuple ds) N := fun X hK F H σ E v r C k => by
  cases r with
  | tup a b => exact ⟨_, _, rfl, sqT_le (E.lef m) a, by rw [b.length]; exact hn, h X hK F H σ E _ b C k⟩
theorem gjs_nil (q : N Γ) : GJs K m Γ gNil [] N := fun X hK F H σ E vs r C k => by
  cases r
  exact ⟨rfl, k F H σ Γ Le.rfl' E q⟩
theorem gjs_cons {g : TG} {gs : TGs} {d : PyData} {ds : List PyData} (h : GJ K m Γ g d fun Γ' => GJs K m Γ' gs ds N) : GJs K m Γ (gCons g gs) (d :: ds) N := fun X hK F H σ E vs r C k => by
  cases r with
  | cons a b => exact ⟨_, _, rfl, h X hK F H σ E _ a _ fun F' H' σ' Γ' lf E' h' => h' X hK F' H' σ' E' _ (Bs.moA b lf) C fun F2 H2 σ2 Γ2 l2 E2 q => k F2 H2 σ2 Γ2 (lf.tr l2) E2 q⟩
end
/-- a target that stores into the comprehension's own slots alone -/
def Gw (g : TG) (vs : List Nat) : Prop := ∀ v σ H (C C' : L2.St → Hp → Prop) σ0, L2.wipe σ vs = L2.wipe σ0 vs → (∀ σ2 H2, L2.wipe σ2 vs = L2.wipe σ0 vs → C σ2 H2 → C' σ2 H2) → g v σ H C → g v σ H C'
def Gws (g : TGs) (vs : List Nat) : Prop := ∀ us σ H (C C' : L2.St → Hp → Prop) σ0, L2.wipe σ vs = L2.wipe σ0 vs → (∀ σ2 H2, L2.wipe σ2 vs = L2.wipe σ0 vs → C σ2 H2 → C' σ2 H2) → g us σ H C → g us σ H C'
theorem wipe_in {σ : L2.St} {i : Nat} (hl : i < σ.length) : ∀ {vs : List Nat}, i ∈ vs → (L2.wipe σ vs)[i]? = some none
  | [], h => by cases h
  | v :: vs, h => by
    rw [L2.wipe]
    by_cases z : v = i
    · subst z
      rw [List.getElem?_set_self (by rw [wipe_length]; exact hl)]
    · rw [List.getElem?_set_ne z]
      rcases List.mem_cons.mp h with w | w
      · exact absurd w.symm z
      · exact wipe_in hl w
theorem wipe_eq {σ σ' : L2.St} {vs : List Nat} (hl : σ.length = σ'.length) (h : ∀ i, i ∉ vs → σ[i]? = σ'[i]?) : L2.wipe σ vs = L2.wipe σ' vs := by
  apply List.ext_getElem?
  intro i
  by_cases hin : i ∈ vs
  · by_cases hlt : i < σ.length
    · rw [wipe_in hlt hin, wipe_in (by rw [← hl]; exact hlt) hin]
    · rw [List.getElem?_eq_none (by rw [wipe_length]; omega), List.getElem?_eq_none (by rw [wipe_length]; omega)]
  · rw [wipe_out hin, wipe_out hin]
    exact h i hin
theorem wipe_set {σ : L2.St} {i : Nat} {ov : Option V} {vs : List Nat} (h : i ∈ vs) : L2.wipe (σ.set i ov) vs = L2.wipe σ vs := wipe_eq (by simp) fun j hj => by
  rw [List.getElem?_set_ne]
  intro z
  subst z
  exact hj h
theorem wipe_wipe {σ : L2.St} {vs : List Nat} : L2.wipe (L2.wipe σ vs) vs = L2.wipe σ vs := wipe_eq (wipe_length σ vs) fun j hj => wipe_out hj
theorem gw_name {i : Nat} {vs : List Nat} (h : i ∈ vs) : Gw (gName i) vs := fun v σ H C C' σ0 e k q => k _ _ ((wipe_set h).trans e) q
theorem gw_tup {K : PySem.W.Frag} {n : Nat} {gs : TGs} {vs : List Nat} (h : Gws gs vs) : Gw (gTup K n gs) vs := fun v σ H C C' σ0 e k q => by
  obtain ⟨a, xs, e1, h1, h2, q⟩ := q
  exact ⟨a, xs, e1, h1, h2, h xs σ H C C' σ0 e k q⟩
theorem gws_nil {vs : List Nat} : Gws gNil vs := fun us σ H C C' σ0 e k q => ⟨q.1, k σ H e q.2⟩
theorem gws_cons {g : TG} {gs : TGs} {vs : List Nat} (h : Gw g vs) (hs : Gws gs vs) : Gws (gCons g gs) vs := fun us σ H C C' σ0 e k q => by
  obtain ⟨v, r, e1, q⟩ := q
  exact ⟨v, r, e1, h v σ H _ _ σ0 e (fun σ2 H2 e2 q2 => hs r σ2 H2 C C' σ0 e2 k q2) q⟩

/-! ### statements -/
section
variable {K : PySem.W.Frag} {m : Bool} {Γ : List Sl} {P : Po} {t u ts : TS} {te ta tb : TE}
theorem Meets.imp {X : Bs} {P P' : Po} {D : Ends} (h : Meets X P D) (nx : ∀ Γ, P'.nx Γ → P.nx Γ) (rt : ∀ s Γ, P'.rt s Γ → P.rt s Γ) (bk : ∀ Γ, P'.bk Γ → P.bk Γ) (ct : ∀ Γ, P'.ct Γ → P.ct Γ) (hW : P'.W = P.W) (ex : ∀ c d Γ, P'.ex c d Γ → P.ex c d Γ) : Meets X P' D :=
  ⟨fun F H σ Γ E q => h.nx F H σ Γ E (nx Γ q), fun F H σ Γ v s E q => h.rt F H σ Γ v s E (rt s Γ q), fun F H σ Γ E q => h.bk F H σ Γ E (bk Γ q), fun F H σ Γ E q => h.ct F H σ Γ E (ct Γ q), fun F H σ Γ c o d E a q => by rw [hW]; exact h.xc F H σ Γ c o d E a (ex c o Γ q)⟩
theorem SJ.mono {P' : Po} (h : SJ K Γ ts P') (nx : ∀ Γ, P'.nx Γ → P.nx Γ) (rt : ∀ s Γ, P'.rt s Γ → P.rt s Γ) (bk : ∀ Γ, P'.bk Γ → P.bk Γ) (ct : ∀ Γ, P'.ct Γ → P.ct Γ) (hW : P'.W = P.W) (ex : ∀ c d Γ, P'.ex c d Γ → P.ex c d Γ) : SJ K Γ ts P := fun X hK F H σ E D hD => h X hK F H σ E D (hD.imp nx rt bk ct hW ex)
theorem sj_next (q : P.nx Γ) : SJ K Γ tNext P := fun X hK F H σ E D hD => hD.nx F H σ Γ E q
theorem sj_seq (h : SJ K Γ t { P with nx := fun Γ' => SJ K Γ' u P }) : SJ K Γ (tSeq t u) P := fun X hK F H σ E D hD =>
  h X hK F H σ E _ ⟨fun F' H' σ' Γ' E' q => q X hK F' H' σ' E' D hD, hD.rt, hD.bk, hD.ct, hD.xc⟩
/-- with a word between -/
theorem sj_cut (M : List Sl → Prop) (h : SJ K Γ t { P with nx := M }) (k : ∀ Γ', M Γ' → SJ K Γ' u P) : SJ K Γ (tSeq t u) P := fun X hK F H σ E D hD =>
  h X hK F H σ E _ ⟨fun F' H' σ' Γ' E' q => k Γ' q X hK F' H' σ' E' D hD, hD.rt, hD.bk, hD.ct, hD.xc⟩
theorem sj_asg {g : TG} (m : Bool) (h : WD K m Γ te fun d => GJ K m Γ g d P.nx) : SJ K Γ (tAsg te g) P := fun X hK F H σ E D hD =>
  h X hK F H σ E _ fun v F1 H1 d l1 E1 r q => q X hK F1 H1 σ E1 v r _ fun F2 H2 σ2 Γ2 l2 E2 q2 => hD.nx F2 H2 σ2 Γ2 E2 q2
theorem sj_set {i : Nat} (m : Bool) (h : WD K m Γ te fun d => P.nx (Γ.set i (.dat m d))) : SJ K Γ (tAsg te (gName i)) P := sj_asg m (h.mono fun d q => gj_name q)
theorem sj_setX {i : Nat} (h : WX K Γ te fun s => P.nx (Γ.set i s)) : SJ K Γ (tAsg te (gName i)) P := fun X hK F H σ E D hD =>
  h X hK F H σ E _ fun v F1 H1 s l1 E1 q => hD.nx F1 H1 _ _ (E1.put i) q
theorem sj_ret (h : WX K Γ te fun s => P.rt s Γ) : SJ K Γ (tRet te) P := fun X hK F H σ E D hD =>
  h X hK F H σ E _ fun v F1 H1 s l1 E1 q => hD.rt F1 H1 _ _ v s E1 q
theorem sj_retD (m : Bool) (h : WD K m Γ te fun d => P.rt (.dat m d) Γ) : SJ K Γ (tRet te) P := sj_ret (.ofD h)
theorem sj_retN (h : P.rt (.dat true .none) Γ) : SJ K Γ tRetN P := fun X hK F H σ E D hD => hD.rt F H σ Γ .non _ (E.pushD .non) h
theorem sj_brk (h : P.bk Γ) : SJ K Γ tBreak P := fun X hK F H σ E D hD => hD.bk F H σ Γ E h
theorem sj_cont (h : P.ct Γ) : SJ K Γ tCont P := fun X hK F H σ E D hD => hD.ct F H σ Γ E h
/-- a list of one's own is frozen -/
theorem sj_frz (i : Nat) {l : Addr} {ds : List PyData} (hi : Γ[i]? = some (.ml m l ds)) (h : SJ K (Γ.set i (.dat m (.list ds))) ts P) : SJ K Γ ts P := fun X hK F H σ E D hD => by
  obtain ⟨F', lf, E'⟩ := E.freeze hi
  exact h X hK F' H σ E' D hD
theorem En.take {X : Bs} {F H : Hp} {σ : L2.St} (E : En X F H σ Γ) {i : Nat} {l : Addr} {ds : List PyData} (hi : Γ[i]? = some (.ml m l ds)) : En X F H (σ ++ [some (.ref l)]) (Γ.set i .no ++ [.ml m l ds]) := by
  obtain ⟨S, hs, hdj, ho⟩ := id E.sl
  have hil : i < Γ.length := (List.getElem?_eq_some_iff.mp hi).1
  refine ⟨E.le, by simp [E.len], ⟨fun j a => (j < Γ.length ∧ j ≠ i ∧ S j a) ∨ (j = Γ.length ∧ S i a), fun j u e => ?_, fun j k a h1 h2 => ?_, fun j a h1 => ?_⟩, E.fr, E.f0, E.nn⟩
  · have hj : j < (Γ.set i .no ++ [Sl.ml m l ds]).length := (List.getElem?_eq_some_iff.mp e).1
    simp only [List.length_append, List.length_cons, List.length_nil, List.length_set] at hj
    by_cases hlt : j < Γ.length
    · rw [List.getElem?_append_left (by simpa using hlt)] at e
      rw [getD_app (by rw [E.len]; exact hlt)]
      by_cases z : j = i
      · subst z
        rw [List.getElem?_set_self hil] at e
        cases e
        intro a q
        rcases q with ⟨_, q, _⟩ | ⟨q, _⟩
        · exact q rfl
        · omega
      · rw [List.getElem?_set_ne (Ne.symm z)] at e
        have eS : (fun a => (j < Γ.length ∧ j ≠ i ∧ S j a) ∨ (j = Γ.length ∧ S i a)) = S j := by
          funext a
          apply propext
          constructor
          · rintro (⟨_, _, q⟩ | ⟨q, _⟩)
            · exact q
            · omega
          · intro q; exact .inl ⟨hlt, z, q⟩
        show SlOk X F H _ (fun a => (j < Γ.length ∧ j ≠ i ∧ S j a) ∨ (j = Γ.length ∧ S i a)) _
        rw [eS]
        exact hs j u e
    · have hje : j = Γ.length := by omega
      subst hje
      have e' : (Γ.set i .no ++ [Sl.ml m l ds])[Γ.length]? = some (.ml m l ds) := by
        have : Γ.length = (Γ.set i Sl.no).length := by simp
        rw [this]; simp
      rw [e'] at e
      cases e
      have eS : (fun a => (Γ.length < Γ.length ∧ Γ.length ≠ i ∧ S Γ.length a) ∨ (Γ.length = Γ.length ∧ S i a)) = S i := by
        funext a
        apply propext
        constructor
        · rintro (⟨q, _⟩ | ⟨_, q⟩)
          · omega
          · exact q
        · intro q; exact .inr ⟨rfl, q⟩
      show SlOk X F H _ (fun a => (Γ.length < Γ.length ∧ Γ.length ≠ i ∧ S Γ.length a) ∨ (Γ.length = Γ.length ∧ S i a)) _
      rw [eS, ← E.len, getD_last]
      obtain ⟨xs, e0, r⟩ := hs i _ hi
      exact ⟨xs, rfl, r⟩
  · rcases h1 with ⟨a1, b1, c1⟩ | ⟨a1, c1⟩ <;> rcases h2 with ⟨a2, b2, c2⟩ | ⟨a2, c2⟩
    · exact hdj j k a c1 c2
    · exact absurd (hdj _ _ a c1 c2) b1
    · exact absurd (hdj _ _ a c2 c1) b2
    · omega
  · rcases h1 with ⟨_, _, c1⟩ | ⟨_, c1⟩
    · exact ho j a c1
    · exact ho i a c1
/-- return of a list of one's own -/
theorem sj_retM {i : Nat} {l : Addr} {ds : List PyData} (hi : Γ[i]? = some (.ml m l ds)) (h : P.rt (.ml m l ds) (Γ.set i .no)) : SJ K Γ (tRet (tVar i)) P := fun X hK F H σ E D hD => by
  obtain ⟨xs, e, _⟩ := E.ml hi
  exact ⟨_, e, hD.rt F H σ _ (.ref l) _ (E.take hi) h⟩
theorem sj_if {c : TT} (h : WT K Γ c fun b => if b = true then SJ K Γ t P else SJ K Γ u P) : SJ K Γ (tIfS c t u) P := fun X hK F H σ E D hD =>
  h X hK F H σ E _ fun b F1 H1 l1 E1 q => by
    cases b with
    | true => exact q X hK F1 H1 σ E1 D hD
    | false => exact q X hK F1 H1 σ E1 D hD
theorem sj_drop (h : WX K Γ te fun _ => P.nx Γ) : SJ K Γ (tDrop te) P := fun X hK F H σ E D hD =>
  h X hK F H σ E _ fun v F1 H1 s l1 E1 q => hD.nx F1 H1 _ _ E1.drop q
theorem sz_lt {n : Nat} (h : n < 100000) : n < sizeLine := Nat.lt_of_lt_of_le h (by decide)
theorem sz_le {n : Nat} (h : n ≤ 100000) : n ≤ sizeLine := Nat.le_trans h (by decide)
/-- xs.append(e), of one's own -/
theorem sj_app {i : Nat} {l : Addr} {ds : List PyData} (hi : Γ[i]? = some (.ml m l ds)) (hz : ds.length < 100000) (h : WD K m Γ te fun d => P.nx (Γ.set i (.ml m l (ds ++ [d])))) : SJ K Γ (tDrop (tBM K "list" rAppend (tVar i) (tCons te tNil))) P := fun X hK F H σ E D hD => by
  subst hK
  obtain ⟨xs, e, hl, fl, r⟩ := E.ml hi
  refine ⟨.ref l, e, .inl ⟨rfl, _, SqL.of hl⟩, h X rfl F H σ E _ fun v F1 H1 d l1 E1 rv q => ?_⟩
  obtain ⟨xs1, e1, hl1, fl1, r1⟩ := E1.ml hi
  refine ⟨l, xs1, v, rfl, rfl, hl1, sz_lt (by rw [r1.length]; exact hz), hD.nx F1 _ σ _ (E1.mut hi (r1.append (RpA.one rv))) q⟩
/-- xs.extend(e), of one's own -/
theorem sj_ext {i : Nat} {l : Addr} {ds : List PyData} (hi : Γ[i]? = some (.ml m l ds)) (h : WD K m Γ te fun d => ∃ es, d = .list es ∧ ds.length + es.length ≤ 100000 ∧ P.nx (Γ.set i (.ml m l (ds ++ es)))) : SJ K Γ (tDrop (tBM K "list" rExtend (tVar i) (tCons te tNil))) P := fun X hK F H σ E D hD => by
  subst hK
  obtain ⟨xs, e, hl, fl, r⟩ := E.ml hi
  refine ⟨.ref l, e, .inl ⟨rfl, _, SqL.of hl⟩, h X rfl F H σ E _ fun v F1 H1 d l1 E1 rv ⟨es, e2, hz, q⟩ => ?_⟩
  subst e2
  obtain ⟨xs1, e1, hl1, fl1, r1⟩ := E1.ml hi
  cases rv with
  | lst hb rb => exact ⟨l, _, xs1, _, rfl, rfl, hl1, E1.lef m _ _ hb, sz_le (by rw [r1.length, rb.length]; exact hz), hD.nx F1 _ σ _ (E1.mut hi (r1.append rb)) q⟩
/-- xs[k] = e, of one's own -/
theorem sj_setI {i : Nat} {l : Addr} {ds : List PyData} {ti : TE} (hi : Γ[i]? = some (.ml m l ds)) (h : WD K m Γ te fun d => WD K false Γ ti fun k => ∃ n j, k = .int n ∧ ixN ds.length n = some j ∧ P.nx (Γ.set i (.ml m l (ds.set j d)))) : SJ K Γ (tAsg te (gSub (tVar i) ti rSetL)) P := fun X hK F H σ E D hD => by
  subst hK
  refine h X rfl F H σ E _ fun v F1 H1 d l1 E1 rv q1 => ?_
  obtain ⟨xs1, e1, hl1, fl1, r1⟩ := E1.ml hi
  refine ⟨.ref l, e1, q1 X rfl F1 H1 σ E1 _ fun w' F2 H2 k l2 E2 rk ⟨n, j, ek, hj, q⟩ => ?_⟩
  subst ek
  cases rk
  obtain ⟨xs2, e2, hl2, fl2, r2⟩ := E2.ml hi
  exact ⟨l, xs2, n, j, rfl, rfl, hl2, by rw [r2.length]; exact hj, hD.nx F2 _ σ _ (E2.mut hi (r2.set j (Bs.mo rv l2))) q⟩
/-- target = xs.pop(), of one's own -/
theorem sj_pop {i : Nat} {l : Addr} {ds : List PyData} {d : PyData} {g : TG} (hi : Γ[i]? = some (.ml m l (ds ++ [d]))) (h : GJ K m (Γ.set i (.ml m l ds)) g d P.nx) : SJ K Γ (tAsg (tBM0 K "list" rPop (tVar i)) g) P := fun X hK F H σ E D hD => by
  subst hK
  obtain ⟨xs, e, hl, fl, r⟩ := E.ml hi
  have hn : xs.length = ds.length + 1 := by rw [r.length]; simp
  obtain ⟨v, hv, rv⟩ := r.get (i := ds.length) (d := d) (by simp)
  have rd : RpA X.K (X.ff F m) xs.dropLast ds := by
    have := r.take ds.length
    simp at this
    rw [List.dropLast_eq_take, hn]
    simpa using this
  refine ⟨.ref l, e, .inl ⟨rfl, _, SqL.of hl⟩, l, xs, v, rfl, rfl, hl, by rw [hn]; simpa using hv, ?_⟩
  exact h X rfl F _ σ (E.mut hi rd) v rv _ fun F2 H2 σ2 Γ2 l2 E2 q2 => hD.nx F2 H2 σ2 Γ2 E2 q2
/-- xs.clear(), of one's own -/
theorem sj_clear {i : Nat} {l : Addr} {ds : List PyData} (hi : Γ[i]? = some (.ml m l ds)) (h : P.nx (Γ.set i (.ml m l []))) : SJ K Γ (tDrop (tBM0 K "list" rClear (tVar i))) P := fun X hK F H σ E D hD => by
  subst hK
  obtain ⟨xs, e, hl, fl, r⟩ := E.ml hi
  exact ⟨.ref l, e, .inl ⟨rfl, _, SqL.of hl⟩, l, xs, rfl, rfl, hl, hD.nx F _ σ _ (E.mut hi .nil) h⟩
/-- name op= e (ints) -/
theorem sj_aug {i : Nat} {f : Int → Int → Int} {a : Int} {m' : Bool} (hi : Γ[i]? = some (.dat m' (.int a))) (h : WD K false Γ te fun d => ∃ b, d = .int b ∧ P.nx (Γ.set i (.dat m (.int (f a b))))) : SJ K Γ (tAug i te (ipI f)) P := fun X hK F H σ E D hD => by
  subst hK
  obtain ⟨v, e, r⟩ := E.dat hi
  cases r
  refine ⟨_, e, h X rfl F H σ E _ fun v F1 H1 d l1 E1 rv ⟨b, eb, q⟩ => ?_⟩
  subst eb
  cases rv
  exact ⟨a, b, rfl, rfl, hD.nx F1 H1 _ _ ((E1.pushD (.int _)).put i) q⟩
/-- while -/
theorem sj_while {c : TT} (I : Nat → List Sl → Prop) (m : Nat) (h0 : I m Γ) (hs : ∀ m Γ', I m Γ' → WT K Γ' c fun b => if b = true then SJ K Γ' t { P with nx := fun Γ2 => ∃ m', m' < m ∧ I m' Γ2, ct := fun Γ2 => ∃ m', m' < m ∧ I m' Γ2, bk := P.nx } else P.nx Γ') : SJ K Γ (tWhile c t) P := fun X hK F H σ E D hD => by
  refine ⟨fun m σ H => ∃ F Γ', En X F H σ Γ' ∧ I m Γ', ⟨m, F, Γ, E, h0⟩, fun m σ' H' ⟨F', Γ', E', hi⟩ => ?_⟩
  refine hs m Γ' hi X hK F' H' σ' E' _ fun b F1 H1 l1 E1 q => ?_
  cases b with
  | true =>
    rw [if_pos rfl]
    refine ⟨fun σ2 H2 => ∃ F2 Γ2, En X F2 H2 σ2 Γ2 ∧ ∃ m', m' < m ∧ I m' Γ2, fun σ2 H2 ⟨F2, Γ2, E2, m', hm, h2⟩ => ⟨m', hm, F2, Γ2, E2, h2⟩, ?_⟩
    exact q X hK F1 H1 σ' E1 _ ⟨fun F2 H2 σ2 Γ2 E2 z => ⟨F2, Γ2, E2, z⟩, hD.rt, hD.nx, fun F2 H2 σ2 Γ2 E2 z => ⟨F2, Γ2, E2, z⟩, hD.xc⟩
  | false =>
    rw [if_neg Bool.false_ne_true]
    exact hD.nx F1 H1 σ' Γ' E1 q
end

/-! ### what is walked -/
/-- the heap has grown by a new thing, or is as it was -/
structure Gr (F H F' H' : Hp) : Prop where
  lf : Le F F'
  le : Le F' H'
  hh : ∀ a o, H a = some o → H' a = some o
  hn : ∀ a o, H a = some o → F' a = F a
theorem Gr.same {F H : Hp} (h : Le F H) : Gr F H F H := ⟨Le.rfl', h, fun _ _ q => q, fun _ _ _ => rfl⟩
theorem Gr.new {F H : Hp} (h : Le F H) {p : Addr} {o : HO} (hp : H p = none) : Gr F H (upd F p o) (upd H p o) :=
  ⟨Le.up (h.nn hp), h.both, fun a u q => by rw [upd_ne (ne_of_none q hp)]; exact q, fun a u q => by rw [upd_ne (ne_of_none q hp)]⟩
theorem En.gr {X : Bs} {F H F' H' : Hp} {σ : L2.St} {Γ : List Sl} (E : En X F H σ Γ) (g : Gr F H F' H') : En X F' H' σ Γ := E.grow g.lf g.le g.hh g.hn
def WI (K : PySem.W.Frag) (m : Bool) (Γ : List Sl) (wi : TI) (Q : List PyData → Prop) : Prop := ∀ X : Bs, X.K = K → ∀ F H σ, En X F H σ Γ → ∀ C : It → Hp → Prop,
  (∀ J F' H' G Y ds, Le F F' → En X F' H' σ Γ → Walk J ds.length G Y → (∀ H2, Le F' H2 → G H2) → (∀ i F2 H2 x H3, Le F' F2 → Le F2 H2 → i < ds.length → Y i H2 x H3 → ∃ d F3, ds[i]? = some d ∧ Gr F2 H2 F3 H3 ∧ Rp K (X.ff F3 m) x d) → Q ds → C J H') → wi σ H C
section
variable {K : PySem.W.Frag} {m : Bool} {Γ : List Sl} {P : Po} {g : TG} {tb : TS} {wi : TI} {tl : TE} {QI : List PyData → Prop} {ta : TA}
theorem sj_for (m : Bool) (h : WI K m Γ wi fun ds => ∃ I : Nat → List Sl → Prop, I 0 Γ ∧ (∀ i d Γ', ds[i]? = some d → I i Γ' → GJ K m Γ' g d fun Γ2 => SJ K Γ2 tb { P with nx := I (i + 1), ct := I (i + 1), bk := P.nx }) ∧ ∀ Γ', I ds.length Γ' → P.nx Γ') : SJ K Γ (tFor wi g tb) P := fun X hK F H σ E D hD => by
  refine h X hK F H σ E _ fun J F1 H1 G Y ds lf E1 wk hG hY ⟨I, h0, hs, he⟩ => ?_
  obtain ⟨X1, k1, n1, f1, _, Er, back⟩ := E1.rebase
  have ffe : ∀ F, X1.ff F m = X.ff F m := fun F => by cases m <;> simp [Bs.ff, n1]
  have hK1 : X1.K = K := k1.trans hK
  refine for_it wk (fun i σ' H' => ∃ F' Γ', En X1 F' H' σ' Γ' ∧ I i Γ') ⟨F1, Γ, Er, h0⟩ (fun i σ' H' _ ⟨F', Γ', E', _⟩ => hG H' ?_) (fun i x σ' H' H3 hi ⟨F', Γ', E', hI⟩ hy => ?_) (fun σ' H' ⟨F', Γ', E', hI⟩ => hD.nx F' H' σ' Γ' (back _ _ _ _ E') (he Γ' hI))
  · exact Le.tr (by rw [← f1]; exact E'.f0) E'.le
  · obtain ⟨d, F3, hd, gr, r⟩ := hY i F' H' x H3 (by rw [← f1]; exact E'.f0) E'.le hi hy
    refine hs i d Γ' hd hI X1 hK1 F3 H3 σ' (E'.gr gr) x (by rw [ffe]; exact r) _ fun F4 H4 σ4 Γ4 l4 E4 sj => ?_
    exact sj X1 hK1 F4 H4 σ4 E4 _ ⟨fun F5 H5 σ5 Γ5 E5 q => ⟨F5, Γ5, E5, q⟩, fun F5 H5 σ5 Γ5 v s E5 q => hD.rt F5 H5 σ5 Γ5 v s (back _ _ _ _ E5) q, fun F5 H5 σ5 Γ5 E5 q => hD.nx F5 H5 σ5 Γ5 (back _ _ _ _ E5) q, fun F5 H5 σ5 Γ5 E5 q => ⟨F5, Γ5, E5, q⟩, fun F5 H5 σ5 Γ5 c o d E5 a q => hD.xc F5 H5 σ5 Γ5 c o d (back _ _ _ _ E5) a q⟩
theorem wi_list (h : WD K m Γ tl fun d => ∃ ds, d = .list ds ∧ QI ds) : WI K m Γ (iList K tl) QI := fun X hK F H σ E C k =>
  h X hK F H σ E _ fun v F1 H1 d l1 E1 r ⟨ds, e, q⟩ => by
    subst e
    cases r with
    | lst ha rs =>
      rename_i a xs
      have hn : xs.length = ds.length := rs.length
      refine ⟨a, rfl, ⟨xs, SqL.of (E1.lef m _ _ ha)⟩, k (Itl K a) F1 H1 (fun H => SqL K H a xs) (YAt xs) ds l1 E1 (by rw [← hn]; exact walk_list) (fun H2 l2 => SqL.of (l2 _ _ (X.ff_le F1 m _ _ ha))) (fun i F2 H2 x H3 l2 le hi hy => ?_) q⟩
      obtain ⟨rfl, hx⟩ := hy
      obtain ⟨d, hd, rd⟩ := rs.getV hx
      exact ⟨d, F2, hd, Gr.same le, Bs.mo rd l2⟩
theorem wi_tup (h : WD K m Γ tl fun d => ∃ ds, d = .tuple ds ∧ QI ds) : WI K m Γ (iTup K tl) QI := fun X hK F H σ E C k =>
  h X hK F H σ E _ fun v F1 H1 d l1 E1 r ⟨ds, e, q⟩ => by
    subst e
    cases r with
    | tup ha rs =>
      rename_i a xs
      have hn : xs.length = ds.length := rs.length
      refine ⟨a, rfl, ⟨xs, sqT_le (E1.lef m) ha⟩, k (Itt K a) F1 H1 (fun H => SqT K H a xs) (YAt xs) ds l1 E1 (by rw [← hn]; exact walk_tup) (fun H2 l2 => sqT_le ((X.ff_le F1 m).tr l2) ha) (fun i F2 H2 x H3 l2 le hi hy => ?_) q⟩
      obtain ⟨rfl, hx⟩ := hy
      obtain ⟨d, hd, rd⟩ := rs.getV hx
      exact ⟨d, F2, hd, Gr.same le, Bs.mo rd l2⟩
/-- lo, lo + 1, .. -/
def rangeD (lo : Int) (n : Nat) : List PyData := (List.range n).map fun (i : Nat) => PyData.int (lo + i)
theorem rangeD_len {lo : Int} {n : Nat} : (rangeD lo n).length = n := by simp [rangeD]
theorem rangeD_get {lo : Int} {n i : Nat} (h : i < n) : (rangeD lo n)[i]? = some (.int (lo + i)) := by simp [rangeD, h]
theorem rangeD_of {lo : Int} {n i : Nat} {d : PyData} (h : (rangeD lo n)[i]? = some d) : i < n ∧ d = .int (lo + i) := by
  have hi : i < (rangeD lo n).length := (List.getElem?_eq_some_iff.mp h).1
  rw [rangeD_len] at hi
  rw [rangeD_get hi] at h
  exact ⟨hi, (Option.some.inj h).symm⟩
theorem walkR {X : Bs} {F' : Hp} {lo : Int} {n : Nat} : (∀ i F2 H2 x H3, Le F' F2 → Le F2 H2 → i < (rangeD lo n).length → YFn (fun i => V.int (lo + i)) i H2 x H3 → ∃ d F3, (rangeD lo n)[i]? = some d ∧ Gr F2 H2 F3 H3 ∧ Rp K (X.ff F3 m) x d) := fun i F2 H2 x H3 l2 le hi hy => by
  obtain ⟨rfl, rfl⟩ := hy
  rw [rangeD_len] at hi
  exact ⟨_, F2, rangeD_get hi, Gr.same le, .int _⟩
theorem wi_rng1 (h : WA K false Γ ta fun as => ∃ j : Int, as = [.d (.int j)] ∧ (-(2 ^ 62) ≤ j ∧ j < 2 ^ 62) ∧ QI (rangeD 0 j.toNat)) : WI K m Γ (iRng1 ta) QI := fun X hK F H σ E C k =>
  h X hK F H σ E _ fun vs F1 H1 as l1 E1 r ⟨j, e, hj, q⟩ => by
    subst e
    cases r with
    | cons a b =>
      cases b
      have a' : Rp X.K (X.ff F1 false) _ (.int j) := a
      cases a'
      exact ⟨j, rfl, hj.1, hj.2, k (Itr 0 j.toNat) F1 H1 (fun _ => True) _ (rangeD 0 j.toNat) l1 E1 (by rw [rangeD_len]; exact walk_range) (fun _ _ => trivial) walkR q⟩
theorem wi_rng2 (h : WA K false Γ ta fun as => ∃ i j : Int, as = [.d (.int i), .d (.int j)] ∧ (-(2 ^ 62) ≤ i ∧ i < 2 ^ 62 ∧ -(2 ^ 62) ≤ j ∧ j < 2 ^ 62) ∧ QI (rangeD i (j - i).toNat)) : WI K m Γ (iRng2 ta) QI := fun X hK F H σ E C k =>
  h X hK F H σ E _ fun vs F1 H1 as l1 E1 r ⟨i, j, e, hj, q⟩ => by
    subst e
    cases r with
    | cons a b =>
      cases b with
      | cons b c =>
        cases c
        have a' : Rp X.K (X.ff F1 false) _ (.int i) := a
        have b' : Rp X.K (X.ff F1 false) _ (.int j) := b
        cases a'
        cases b'
        exact ⟨i, j, rfl, hj, k (Itr i (j - i).toNat) F1 H1 (fun _ => True) _ (rangeD i (j - i).toNat) l1 E1 (by rw [rangeD_len]; exact walk_range) (fun _ _ => trivial) walkR q⟩
/-- a list comprehension -/
theorem wx_lc {mi : Bool} (m : Bool) {tt : TT} {te : TE} {vs : List Nat} {QX : Sl → Prop} (hv : wipeOk Γ vs) (hgw : Gw g vs)
    (h : WI K mi Γ wi fun ds => ∃ I : Nat → List PyData → Prop, ds.length ≤ 100000 ∧ I 0 [] ∧ (∀ i d acc, ds[i]? = some d → acc.length ≤ i → I i acc → GJ K mi (wipeG Γ vs) g d fun Γ2 => wipeG Γ2 vs = wipeG Γ vs ∧ WT K Γ2 tt fun b => if b = true then WD K m Γ2 te fun y => I (i + 1) (acc ++ [y]) else I (i + 1) acc) ∧
      ∀ acc, acc.length ≤ ds.length → I ds.length acc → ∀ l, QX (.ml m l acc)) : WX K Γ (tLc wi g tt te vs) QX := fun X hK F H σ E C k => by
  refine h X hK F H σ E _ fun J F1 H1 G Y ds lf E1 wk hG hY ⟨I, hz, h0, hs, he⟩ Da hD => ?_
  obtain ⟨X1, k1, n1, f1, _, Er, back⟩ := E1.rebase
  have ffe : ∀ F, X1.ff F m = X.ff F m := fun F => by cases m <;> simp [Bs.ff, n1]
  have hK1 : X1.K = K := k1.trans hK
  have lef : ∀ {F' H' σ' Γ'}, En X1 F' H' σ' Γ' → Le F1 F' := fun E' => by rw [← f1]; exact E'.f0
  refine lc_it wk (fun i H' => ∃ F' acc, En X1 F' H' (L2.wipe σ vs ++ [some (.ref Da)]) (wipeG Γ vs ++ [.ml m Da acc]) ∧ acc.length ≤ i ∧ I i acc) ⟨F1, [], (Er.wipe vs).pushM hD .nil, Nat.le_refl _, h0⟩ (fun i H' _ ⟨F', acc, E', _⟩ => hG H' ((lef E').tr E'.le)) (fun i x H' H3 hi ⟨F', acc, E', hacc, hI⟩ hy => ?_) (fun H' ⟨F', acc, E', hacc, hI⟩ => ?_)
  · obtain ⟨d, F3, hd, gr, r⟩ := hY i F' H' x H3 (lef E') E'.le hi hy
    have E3 := E'.gr gr
    obtain ⟨X2, k2, n2, Ef, fb⟩ := E3.frame
    have ff2 : ∀ F m, X2.ff F m = X.ff F m := fun F m => by cases m <;> simp [Bs.ff, n2, n1]
    have hK2 : X2.K = K := k2.trans hK1
    refine hgw x _ H3 (fun σ2 H2 => L2.wipe σ2 vs = L2.wipe σ vs → _) _ σ wipe_wipe (fun σ2 H2 e2 q => ⟨e2, q e2⟩) ?_
    refine hs i d acc hd hacc hI X2 hK2 F3 H3 _ Ef x (by rw [ff2]; exact r) _ fun F4 H4 σ4 Γ4 l4 E4 ⟨eΓ, wt⟩ eσ => ?_
    have hlen : Γ4.length = (wipeG Γ vs).length := by rw [← eΓ, wipeG_length]
    have again : ∀ {F5 H5}, Le F4 F5 → En X2 F5 H5 σ4 Γ4 → En X1 F5 H5 (L2.wipe σ vs ++ [some (.ref Da)]) (wipeG Γ vs ++ [.ml m Da acc]) := fun {F5 H5} l5 E5 => by
      have := fb F5 H5 _ _ (by rw [wipeG_length, hlen]) (l4.tr l5) (E5.wipe vs)
      rw [eΓ, eσ] at this
      exact this
    refine wt X2 hK2 F4 H4 σ4 E4 _ fun b F5 H5 l5 E5 q5 => ?_
    cases b with
    | false => exact ⟨F5, acc, again l5 E5, Nat.le_succ_of_le hacc, q5⟩
    | true =>
      rw [if_pos rfl] at q5 ⊢
      refine q5 X2 hK2 F5 H5 σ4 E5 _ fun y F6 H6 dy l6 E6 ry q6 => ?_
      have E7 := again (l5.tr l6) E6
      obtain ⟨xs, _, hl, _, rx⟩ := E7.ml (i := (wipeG Γ vs).length) (m := m) (l := Da) (ds := acc) (by simp)
      have e8 := E7.mut (i := (wipeG Γ vs).length) (m := m) (l := Da) (ds := acc) (es := acc ++ [dy]) (ys := xs ++ [y]) (by simp) (rx.append (RpA.one (by rw [hK1, ffe, ← ff2]; exact ry)))
      have es : (wipeG Γ vs ++ [Sl.ml m Da acc]).set (wipeG Γ vs).length (.ml m Da (acc ++ [dy])) = wipeG Γ vs ++ [.ml m Da (acc ++ [dy])] := by simp
      rw [es] at e8
      exact ⟨xs, hl, sz_lt (by rw [rx.length]; omega), F6, acc ++ [dy], e8, by simp; omega, q6⟩
  · have hE := back _ _ _ _ (En.unwipe E1 (by rw [hK, hK1]) n1.symm (lef E') hv E')
    exact k (.ref Da) F' H' _ (lf.tr (lef E')) hE (he acc hacc hI Da)
end
end Pk
end
section
set_option Elab.async false
set_option linter.all false
set_option maxRecDepth 100000
/-! The data layer, part 4: operations over data. -/
namespace Pk
open PySem PySem.Spec PyProof.Rows L2

/-! ### things of one's own read as data -/
def Sl.frz : Sl → Sl
  | .ml _ _ ds => .dat false (.list ds)
  | .ex v Φ => match Φ.vw with
    | some d => .dat false d
    | none => .ex v Φ
  | s => s
def Sl.fz : Sl → Bool
  | .ml _ _ _ => true
  | .ex _ Φ => Φ.vw.isSome
  | _ => false
section
variable {K : PySem.W.Frag} {Γ : List Sl}
open Classical in
/-- all things of one's own that may be read as data are frozen for a while -/
theorem En.thaw {X : Bs} {F H : Hp} {σ : L2.St} (E : En X F H σ Γ) : ∃ F1, Le F F1 ∧ En X F1 H σ (Γ.map Sl.frz) ∧ ∀ F2 H2, Le F1 F2 → En X F2 H2 σ (Γ.map Sl.frz) → ∃ F3, Le F F3 ∧ En X F3 H2 σ Γ := by
  obtain ⟨S, hs, hdj, ho⟩ := id E.sl
  let M : Addr → Prop := fun a => ∃ (i : Nat) (s : Sl), Γ[i]? = some s ∧ s.fz = true ∧ S i a
  have hML : ∀ {a}, M a → ∃ xs, H a = some (.lst xs) := fun {a} ⟨i, s, h, f, sa⟩ => by
    have q := hs i s h
    cases s with
    | no => cases f
    | dat _ _ => cases f
    | ml m l ds =>
      obtain ⟨xs, _, hS, hl, _⟩ := q
      rw [(hS a).mp sa]
      exact ⟨xs, hl⟩
    | ex v Φ =>
      obtain ⟨_, _, p⟩ := q
      cases hv : Φ.vw with
      | none => simp [Sl.fz, hv] at f
      | some d => exact (Φ.view E.le p hv).2 a sa
  have hMF : ∀ {a}, M a → F a = none := fun {a} ⟨i, s, h, f, sa⟩ => (ho i a sa).1
  have hMO : ∀ {a}, M a → X.own a := fun {a} ⟨i, s, h, f, sa⟩ => (ho i a sa).2.2
  let F1 : Hp := fun a => if M a then H a else F a
  have f1M : ∀ {a}, M a → F1 a = H a := fun h => if_pos h
  have f1N : ∀ {a}, ¬ M a → F1 a = F a := fun h => if_neg h
  have lf : Le F F1 := fun a o q => by
    by_cases h : M a
    · rw [hMF h] at q; cases q
    · rw [f1N h]; exact q
  have le1 : Le F1 H := fun a o q => by
    by_cases h : M a
    · rw [f1M h] at q; exact q
    · rw [f1N h] at q; exact E.le a o q
  have notM : ∀ {j : Nat} {a : Addr} {s : Sl}, Γ[j]? = some s → s.fz = false → S j a → ¬ M a := fun {j a s} hj hn sa ⟨i, u, h, f, si⟩ => by
    have := hdj i j a si sa
    subst this
    rw [h] at hj
    cases hj
    rw [f] at hn
    cases hn
  have frM : ∀ a o, X.H0 a = some o → ¬ X.S0 a → ¬ M a := fun a o e n h => by
    rcases hMO h with w | w
    · rw [w] at e; cases e
    · exact n w
  have frz_no : ∀ {s : Sl}, s.fz = false → s.frz = s := fun {s} h => by
    cases s with
    | no => rfl
    | dat _ _ => rfl
    | ml _ _ _ => cases h
    | ex v Φ =>
      cases hv : Φ.vw with
      | none => simp [Sl.frz, hv]
      | some d => simp [Sl.fz, hv] at h
  refine ⟨F1, lf, ⟨le1, by simp [E.len], ⟨fun i a => (∀ s, Γ[i]? = some s → s.fz = false) ∧ i < Γ.length ∧ S i a, fun i s e => ?_, fun i j a h1 h2 => hdj i j a h1.2.2 h2.2.2, fun i a h1 => ?_⟩, fun a o e n => ⟨(E.fr a o e n).1, (f1N (frM a o e n)).trans (E.fr a o e n).2⟩, E.f0.tr lf, E.nn⟩, fun F2 H2 l2 E2 => ?_⟩
  · rw [List.getElem?_map] at e
    cases hg : Γ[i]? with
    | none => rw [hg] at e; cases e
    | some u =>
      rw [hg] at e
      cases e
      have hi : i < Γ.length := (List.getElem?_eq_some_iff.mp hg).1
      cases hf : u.fz with
      | false =>
        rw [frz_no hf]
        have eS : (fun a => (∀ s, Γ[i]? = some s → s.fz = false) ∧ i < Γ.length ∧ S i a) = S i := by
          funext a
          exact propext ⟨fun z => z.2.2, fun z => ⟨fun s w => (by rw [hg] at w; cases w; exact hf), hi, z⟩⟩
        show SlOk X F1 H _ (fun a => (∀ s, Γ[i]? = some s → s.fz = false) ∧ i < Γ.length ∧ S i a) u
        rw [eS]
        exact (hs i u hg).mono lf fun _ _ => rfl
      | true =>
        have none_ : ∀ a, ¬ ((∀ s, Γ[i]? = some s → s.fz = false) ∧ i < Γ.length ∧ S i a) := fun a z => by
          have := z.1 u hg
          rw [hf] at this
          cases this
        cases u with
        | no => cases hf
        | dat _ _ => cases hf
        | ml m l ds =>
          obtain ⟨xs, e0, hS, hl, r, _⟩ := hs i _ hg
          exact ⟨⟨_, e0, .lst ((f1M ⟨i, _, hg, rfl, (hS l).mpr rfl⟩).trans hl) (r.mono ((X.ff_le F m).tr lf))⟩, none_⟩
        | ex v Φ =>
          obtain ⟨e0, hk, p⟩ := hs i _ hg
          cases hv : Φ.vw with
          | none => simp [Sl.fz, hv] at hf
          | some d =>
            have rv := (Φ.view E.le p hv).1
            have ll : Le (lay (S i) H F) F1 := fun a o q => by
              unfold lay at q
              by_cases sa : S i a
              · rw [if_pos sa] at q
                rw [f1M ⟨i, _, hg, hf, sa⟩]
                exact q
              · rw [if_neg sa] at q
                exact lf a o q
            have ef : (Sl.ex v Φ).frz = .dat false d := by simp [Sl.frz, hv]
            rw [ef]
            refine ⟨⟨v, e0, ?_⟩, none_⟩
            rw [← hk]
            exact rv.mono ll
  · obtain ⟨n1, hi, sa⟩ := h1
    have hg : Γ[i]? = some Γ[i] := List.getElem?_eq_getElem hi
    have nM : ¬ M a := notM hg (n1 _ hg) sa
    exact ⟨(f1N nM).trans (ho i a sa).1, (ho i a sa).2⟩
  · obtain ⟨S2, hs2, hdj2, ho2⟩ := id E2.sl
    let F3 : Hp := fun a => if M a then none else F2 a
    have f3M : ∀ {a}, M a → F3 a = none := fun h => if_pos h
    have f3N : ∀ {a}, ¬ M a → F3 a = F2 a := fun h => if_neg h
    have l3 : Le F F3 := fun a o q => by
      by_cases h : M a
      · rw [hMF h] at q; cases q
      · rw [f3N h]; exact l2 a o (lf a o q)
    have h2M : ∀ {a}, M a → F2 a = H a ∧ H2 a = H a := fun {a} h => by
      obtain ⟨xs, hx⟩ := hML h
      have := l2 a _ ((f1M h).trans hx)
      rw [hx]
      exact ⟨this, E2.le _ _ this⟩
    have s2M : ∀ {i a}, S2 i a → ¬ M a := fun {i a} sa h => by
      obtain ⟨xs, hx⟩ := hML h
      have := (h2M h).1
      rw [(ho2 i a sa).1, hx] at this; cases this
    have tl : TupLe X.K F2 F3 := by
      refine ⟨fun a xs h => ?_, fun a fs h => by
        rw [f3N]
        · exact h
        · intro z
          obtain ⟨ys, hx⟩ := hML z
          rw [(h2M z).1, hx] at h; cases h⟩
      rcases h with (h | ⟨o, h⟩) | h
      · refine .inl (.inl ?_)
        rw [f3N]
        · exact h
        · intro z
          obtain ⟨ys, hx⟩ := hML z
          rw [(h2M z).1, hx] at h; cases h
      · refine .inl (.inr ⟨o, ?_⟩)
        rw [f3N]
        · exact h
        · intro z
          obtain ⟨ys, hx⟩ := hML z
          rw [(h2M z).1, hx] at h; cases h
      · exact .inr h
    refine ⟨F3, l3, ⟨fun a o q => ?_, E.len, ⟨fun i a => (∃ s, Γ[i]? = some s ∧ s.fz = true ∧ S i a) ∨ (∃ s, Γ[i]? = some s ∧ s.fz = false ∧ S2 i a), fun i s e => ?_, fun i j a h1 h2 => ?_, fun i a h1 => ?_⟩, fun a o e n => ⟨(E2.fr a o e n).1, (f3N (frM a o e n)).trans (E2.fr a o e n).2⟩, E.f0.tr l3, E2.nn⟩⟩
    · by_cases h : M a
      · rw [f3M h] at q; cases q
      · rw [f3N h] at q; exact E2.le a o q
    · cases hf : s.fz with
      | true =>
        have eS : (fun a => (∃ s, Γ[i]? = some s ∧ s.fz = true ∧ S i a) ∨ (∃ s, Γ[i]? = some s ∧ s.fz = false ∧ S2 i a)) = S i := by
          funext a
          apply propext
          constructor
          · rintro (⟨u, z, _, w⟩ | ⟨u, z, w, _⟩)
            · exact w
            · rw [e] at z; cases z; rw [hf] at w; cases w
          · intro z; exact .inl ⟨s, e, hf, z⟩
        show SlOk X F3 H2 _ (fun a => (∃ s, Γ[i]? = some s ∧ s.fz = true ∧ S i a) ∨ (∃ s, Γ[i]? = some s ∧ s.fz = false ∧ S2 i a)) _
        rw [eS]
        exact (hs i s e).mono l3 fun a sa => (h2M ⟨i, s, e, hf, sa⟩).2
      | false =>
        have q := hs2 i s (by rw [List.getElem?_map, e]; exact congrArg some (frz_no hf))
        have eS : (fun a => (∃ s, Γ[i]? = some s ∧ s.fz = true ∧ S i a) ∨ (∃ s, Γ[i]? = some s ∧ s.fz = false ∧ S2 i a)) = S2 i := by
          funext a
          apply propext
          constructor
          · rintro (⟨u, z, w, _⟩ | ⟨u, z, _, w⟩)
            · rw [e] at z; cases z; rw [hf] at w; cases w
            · exact w
          · intro z; exact .inr ⟨s, e, hf, z⟩
        show SlOk X F3 H2 _ (fun a => (∃ s, Γ[i]? = some s ∧ s.fz = true ∧ S i a) ∨ (∃ s, Γ[i]? = some s ∧ s.fz = false ∧ S2 i a)) _
        rw [eS]
        cases s with
        | no => exact q
        | dat m d =>
          obtain ⟨⟨v, e0, r⟩, n⟩ := hs i _ e
          exact ⟨⟨v, e0, Bs.mo r l3⟩, q.2⟩
        | ml _ _ _ => cases hf
        | ex v Φ =>
          obtain ⟨e0, hk, p⟩ := q
          exact ⟨e0, hk, Φ.keepT (by
            cases hv : Φ.vw with
            | none => rfl
            | some d => simp [Sl.fz, hv] at hf) p (by rw [hk]; exact tl) fun _ _ => rfl⟩
    · rcases h1 with ⟨s1, e1, f1, z1⟩ | ⟨s1, e1, f1, z1⟩ <;> rcases h2 with ⟨s2, e2, f2, z2⟩ | ⟨s2, e2, f2, z2⟩
      · exact hdj i j a z1 z2
      · exact absurd ⟨i, s1, e1, f1, z1⟩ (s2M z2)
      · exact absurd ⟨j, s2, e2, f2, z2⟩ (s2M z1)
      · exact hdj2 i j a z1 z2
    · rcases h1 with ⟨s1, e1, f1, z1⟩ | ⟨s1, e1, f1, z1⟩
      · have hm : M a := ⟨i, s1, e1, f1, z1⟩
        exact ⟨f3M hm, by rw [(h2M hm).2]; exact (ho i a z1).2.1, (ho i a z1).2.2⟩
      · exact ⟨(f3N (s2M z1)).trans (ho2 i a z1).1, (ho2 i a z1).2⟩
theorem wd_thaw {m : Bool} {t : TE} {Q : PyData → Prop} (h : WD K false (Γ.map Sl.frz) t fun d => flat d = true ∧ Q d) : WD K m Γ t Q := fun X hK F H σ E C k => by
  obtain ⟨F1, lf, E1, back⟩ := E.thaw
  refine h X hK F1 H σ E1 C fun v F2 H2 d l2 E2 r ⟨fl, q⟩ => ?_
  obtain ⟨F3, l3, E3⟩ := back F2 H2 l2 E2
  exact k v F3 H2 d l3 E3 (r.flat fl) q
theorem wt_thaw {t : TT} {Q : Bool → Prop} (h : WT K (Γ.map Sl.frz) t Q) : WT K Γ t Q := fun X hK F H σ E C k => by
  obtain ⟨F1, lf, E1, back⟩ := E.thaw
  refine h X hK F1 H σ E1 C fun b F2 H2 l2 E2 q => ?_
  obtain ⟨F3, l3, E3⟩ := back F2 H2 l2 E2
  exact k b F3 H2 l3 E3 q
/-- an item of a list of one's own -/
theorem atI_rp {F : Hp} {xs : List V} {ds : List PyData} {n : Int} {d : PyData} (r : RpA K F xs ds) (h : atI ds n = some d) : ∃ v, atI xs n = some v ∧ Rp K F v d := by
  unfold atI at h ⊢
  rw [r.length]
  cases hx : ixN ds.length n with
  | none => rw [hx] at h; cases h
  | some j =>
    rw [hx] at h
    exact r.get h
/-- an item of a list of one's own -/
theorem wd_ixm {m : Bool} {i : Nat} {l : Addr} {ds : List PyData} {ti : TE} {Q : PyData → Prop} (hi : Γ[i]? = some (.ml m l ds)) (h : WD K false Γ ti fun k => ∃ n d, k = .int n ∧ atI ds n = some d ∧ Q d) : WD K m Γ (tOp (rIx K) (tVar i) ti) Q := fun X hK F H σ E C k => by
  subst hK
  obtain ⟨xs, e, hl, fl, rx⟩ := E.ml hi
  refine ⟨.ref l, e, h X rfl F H σ E _ fun u F1 H1 x l1 E1 r1 ⟨n, d, ek, ha, q⟩ => ?_⟩
  subst ek
  cases r1
  obtain ⟨xs1, e1, hl1, fl1, rx1⟩ := E1.ml hi
  obtain ⟨v, hv, rv⟩ := atI_rp rx1 ha
  exact .inl ⟨l, xs1, n, v, rfl, rfl, SqL.of hl1, hv, k v F1 H1 d l1 E1 rv q⟩
end

/-! ### ints -/
section
variable {K : PySem.W.Frag} {m : Bool} {Γ : List Sl} {Q : PyData → Prop} {QX : Sl → Prop}
theorem rd_I0 {g : Int → Int → V} {i j : Int} {d : PyData} (hg : ∀ F, Rp K F (g i j) d) (q : Q d) : RD K m Γ (rI0 g) (.int i) (.int j) Q := rd_plain (d := d) (fun F H v u C le rv ru k => by
  cases rv; cases ru
  exact ⟨i, j, rfl, rfl, k _ (hg F)⟩) q
theorem rd_I {P : Int → Int → Prop} {g : Int → Int → V} {i j : Int} {d : PyData} (hg : ∀ F, Rp K F (g i j) d) (hc : P i j) (q : Q d) : RD K m Γ (rI P g) (.int i) (.int j) Q := rd_plain (d := d) (fun F H v u C le rv ru k => by
  cases rv; cases ru
  exact ⟨i, j, rfl, rfl, hc, k _ (hg F)⟩) q
/-! + -/
def dAdd (K : PySem.W.Frag) : R2 := fun x y H Q => rI0 (fun i j => .int (i + j)) x y H Q ∨ rCat x y H Q ∨ (∃ i j, x = .str i ∧ y = .str j ∧ i.length + j.length ≤ sizeLine ∧ Q (.str (i ++ j)) H) ∨ rCatA K x y H Q
theorem o_add {X : Cx} : OpR X (binaryOp .Add) (dAdd X.K) := op_add.or (op_cat.or (op_add_str.or op_catA))
theorem rd_add {i j : Int} (q : Q (.int (i + j))) : RD K m Γ (dAdd K) (.int i) (.int j) Q := rd_plain (d := .int (i + j)) (fun F H v u C le rv ru k => by
  cases rv; cases ru
  exact .inl ⟨i, j, rfl, rfl, k _ (.int _)⟩) q
theorem rx_cat {a b : List PyData} (hz : a.length + b.length ≤ 100000) (q : ∀ l, QX (.ml m l (a ++ b))) : RX K m Γ (dAdd K) (.list a) (.list b) QX := rx_list (ds := a ++ b) (fun F H v u C le rv ru k => by
  cases rv with
  | lst h1 r1 =>
    cases ru with
    | lst h2 r2 => exact .inr (.inl ⟨_, _, _, _, rfl, rfl, le _ _ h1, le _ _ h2, sz_le (by rw [r1.length, r2.length]; exact hz), fun p hp => k p _ hp (r1.append r2)⟩)) q
theorem rd_cat {a b : List PyData} (hz : a.length + b.length ≤ 100000) (q : Q (.list (a ++ b))) : RD K m Γ (dAdd K) (.list a) (.list b) Q := .ofX (rx_cat hz fun _ => ⟨_, toD_ml, q⟩)
theorem rd_addS {a b : Str} (hz : a.length + b.length ≤ 100000) (q : Q (.str (a ++ b))) : RD K m Γ (dAdd K) (.str a) (.str b) Q := rd_plain (d := .str (a ++ b)) (fun F H v u C le rv ru k => by
  cases rv; cases ru
  exact .inr (.inr (.inl ⟨a, b, rfl, rfl, sz_le hz, k _ (.str _)⟩))) q
theorem rd_catT {a b : List PyData} (hz : a.length + b.length ≤ 100000) (q : Q (.tuple (a ++ b))) : RD K m Γ (dAdd K) (.tuple a) (.tuple b) Q := fun X hK F H σ E v u rv ru C k => by
  cases rv with
  | tup h1 r1 =>
    cases ru with
    | tup h2 r2 =>
      rename_i p1 xs p2 ys
      refine .inr (.inr (.inr ⟨p1, p2, xs, ys, rfl, rfl, sqT_le (E.lef m) h1, sqT_le (E.lef m) h2, sz_le (by rw [r1.length, r2.length]; exact hz), fun z => ?_, fun _ z => ?_, fun _ _ p hp => ?_⟩))
      · have ea : a = [] := List.length_eq_zero_iff.mp (by rw [← r1.length, z]; rfl)
        rw [ea, List.nil_append] at q
        exact k _ F H _ Le.rfl' E (.tup h2 r2) q
      · have eb : b = [] := List.length_eq_zero_iff.mp (by rw [← r2.length, z]; rfl)
        rw [eb, List.append_nil] at q
        exact k _ F H _ Le.rfl' E (.tup h1 r1) q
      · obtain ⟨a', b', c'⟩ := E.newT hK hp (r1.append r2)
        exact k (.ref p) _ _ _ a' b' c' q
/-! - * // % ** -/
def dSub : R2 := rI0 fun i j => .int (i - j)
theorem o_sub {X : Cx} : OpR X (binaryOp .Sub) dSub := op_sub
theorem rd_sub {i j : Int} (q : Q (.int (i - j))) : RD K m Γ dSub (.int i) (.int j) Q := rd_I0 (fun _ => .int _) q
def dMul : R2 := fun x y H Q => rI CMul (fun i j => .int (i * j)) x y H Q ∨ rRep x y H Q
theorem o_mul {X : Cx} : OpR X (binaryOp .Mult) dMul := op_mul.or op_rep
theorem rd_mul {i j : Int} (hc : CMul i j) (q : Q (.int (i * j))) : RD K m Γ dMul (.int i) (.int j) Q := rd_plain (d := .int (i * j)) (fun F H v u C le rv ru k => by
  cases rv; cases ru
  exact .inl ⟨i, j, rfl, rfl, hc, k _ (.int _)⟩) q
theorem rep_rpA {F : Hp} {xs : List V} {ds : List PyData} (r : RpA K F xs ds) : ∀ n : Nat, RpA K F (List.replicate n xs).flatten (List.replicate n ds).flatten
  | 0 => .nil
  | n + 1 => by
    rw [List.replicate_succ, List.replicate_succ, List.flatten_cons, List.flatten_cons]
    exact r.append (rep_rpA r n)
theorem rx_rep {a : List PyData} {n : Int} (h0 : 0 ≤ n) (hn : n ≤ 100000) (hz : a.length * n.toNat ≤ 100000) (q : ∀ l, QX (.ml m l (List.replicate n.toNat a).flatten)) : RX K m Γ dMul (.list a) (.int n) QX := rx_list (fun F H v u C le rv ru k => by
  cases rv with
  | lst h1 r1 =>
    cases ru
    exact .inr ⟨_, n, _, rfl, rfl, le _ _ h1, by omega, by omega, sz_le (by rw [r1.length]; exact hz), fun p hp => k p _ hp (rep_rpA r1 _)⟩) q
theorem rd_rep {a : List PyData} {n : Int} (h0 : 0 ≤ n) (hn : n ≤ 100000) (hz : a.length * n.toNat ≤ 100000) (q : Q (.list (List.replicate n.toNat a).flatten)) : RD K m Γ dMul (.list a) (.int n) Q := .ofX (rx_rep h0 hn hz fun _ => ⟨_, toD_ml, q⟩)
def dDiv : R2 := rI CDiv fun i j => .int (i / j)
theorem o_div {X : Cx} : OpR X (binaryOp .FloorDiv) dDiv := op_fdiv
theorem rd_div {i j : Int} (h : 0 < j) (h2 : j < 1073741824) (q : Q (.int (i / j))) : RD K m Γ dDiv (.int i) (.int j) Q := rd_I (fun _ => .int _) ⟨h, h2⟩ q
def dMod : R2 := rI (fun _ j => 0 < j) fun i j => .int (i % j)
theorem o_mod {X : Cx} : OpR X (binaryOp .Mod) dMod := op_mod
theorem rd_mod {i j : Int} (h : 0 < j) (q : Q (.int (i % j))) : RD K m Γ dMod (.int i) (.int j) Q := rd_I (fun _ => .int _) h q
def dPow : R2 := rI CPow fun i j => .int (i ^ j.toNat)
theorem o_pow {X : Cx} : OpR X (binaryOp .Pow) dPow := op_pow
theorem rd_pow {i j : Int} (h : CPow i j) (q : Q (.int (i ^ j.toNat))) : RD K m Γ dPow (.int i) (.int j) Q := rd_I (fun _ => .int _) h q
def dNeg : V → Hp → VK → Prop := rU fun i => .int (-i)
theorem o_neg {X : Cx} : UnR X (unaryOp .USub) dNeg := un_neg
theorem ru_neg {i : Int} (q : Q (.int (-i))) : RU K m Γ dNeg (.int i) Q := ru_plain (d := .int (-i)) (fun F H v C le rv k => by
  cases rv
  exact ⟨i, rfl, k _ (.int _)⟩) q
/-! comparisons -/
def dLt : R2 := rI0 fun i j => .bl (decide (i < j))
def dLe : R2 := rI0 fun i j => .bl (decide (i ≤ j))
def dGt : R2 := rI0 fun i j => .bl (decide (j < i))
def dGe : R2 := rI0 fun i j => .bl (decide (j ≤ i))
theorem o_lt {X : Cx} : OpR X (compareOp .Lt) dLt := op_lt
theorem o_le {X : Cx} : OpR X (compareOp .LtE) dLe := op_le
theorem o_gt {X : Cx} : OpR X (compareOp .Gt) dGt := op_gt
theorem o_ge {X : Cx} : OpR X (compareOp .GtE) dGe := op_ge
theorem rd_lt {i j : Int} (q : Q (.bool (decide (i < j)))) : RD K m Γ dLt (.int i) (.int j) Q := rd_I0 (fun _ => .bl _) q
theorem rd_le {i j : Int} (q : Q (.bool (decide (i ≤ j)))) : RD K m Γ dLe (.int i) (.int j) Q := rd_I0 (fun _ => .bl _) q
theorem rd_gt {i j : Int} (q : Q (.bool (decide (j < i)))) : RD K m Γ dGt (.int i) (.int j) Q := rd_I0 (fun _ => .bl _) q
theorem rd_ge {i j : Int} (q : Q (.bool (decide (j ≤ i)))) : RD K m Γ dGe (.int i) (.int j) Q := rd_I0 (fun _ => .bl _) q
def dEq (K : PySem.W.Frag) : R2 := rEqD K
def dNe (K : PySem.W.Frag) : R2 := rNeD K
theorem o_eq {X : Cx} (hu : X.A.units + 64 < cLine) : OpR X (compareOp .Eq) (dEq X.K) := op_eqD hu
theorem o_ne {X : Cx} (hu : X.A.units + 64 < cLine) : OpR X (compareOp .NotEq) (dNe X.K) := op_neD hu
theorem rd_eq {x y : PyData} (sx : SeqAt.shaped x = true) (sy : SeqAt.shaped y = true) (q : Q (.bool (PyData.eqv x y))) : RD K m Γ (dEq K) x y Q := rd_plain (d := .bool (PyData.eqv x y)) (fun F H v u C le rv ru k =>
  ⟨x, y, Rp.dp x (SeqAt.canLay_of_shaped sx) (rv.mono le), Rp.dp y (SeqAt.canLay_of_shaped sy) (ru.mono le), sx, sy, k _ (.bl _)⟩) q
theorem rd_ne {x y : PyData} (sx : SeqAt.shaped x = true) (sy : SeqAt.shaped y = true) (q : Q (.bool (!PyData.eqv x y))) : RD K m Γ (dNe K) x y Q := rd_plain (d := .bool (!PyData.eqv x y)) (fun F H v u C le rv ru k =>
  ⟨x, y, Rp.dp x (SeqAt.canLay_of_shaped sx) (rv.mono le), Rp.dp y (SeqAt.canLay_of_shaped sy) (ru.mono le), sx, sy, k _ (.bl _)⟩) q
def rInDT (K : PySem.W.Frag) (f : Bool → Bool) : R2 := fun x y H Q => ∃ d ds, Dp K H x d ∧ Dp K H y (.tuple ds) ∧ SeqAt.shaped d = true ∧ SeqAt.shaped (.tuple ds) = true ∧ Q (.bl (f (ds.any fun z => PyData.eqv z d))) H
theorem op_inDT {X : Cx} (hu : X.A.units + 65 < cLine) : OpR X (compareOp .In) (rInDT X.K id) := by
  intro pins s σ H x y v u Q I rx ry ⟨d, ds, hd, he, sd, se, q⟩
  obtain ⟨as, r1⟩ := Dp.reads I d x v hd rx
  obtain ⟨bs, r2⟩ := Dp.reads I (.tuple ds) y u he ry
  exact SeqAt.in_tuple_reads r2 r1 (SeqAt.canLay_of_shaped se) (SeqAt.canLay_of_shaped sd) (room_in_shaped sd hu) ⟨.bl _, H, I, rfl, q⟩
theorem op_notInDT {X : Cx} (hu : X.A.units + 65 < cLine) : OpR X (compareOp .NotIn) (rInDT X.K fun b => !b) := by
  intro pins s σ H x y v u Q I rx ry ⟨d, ds, hd, he, sd, se, q⟩
  obtain ⟨as, r1⟩ := Dp.reads I d x v hd rx
  obtain ⟨bs, r2⟩ := Dp.reads I (.tuple ds) y u he ry
  exact SeqAt.notIn_tuple_reads r2 r1 (SeqAt.canLay_of_shaped se) (SeqAt.canLay_of_shaped sd) (room_in_shaped sd hu) ⟨.bl _, H, I, rfl, q⟩
def dIn (K : PySem.W.Frag) : R2 := fun x y H Q => rInD K x y H Q ∨ (∃ i j, x = .str i ∧ y = .str j ∧ Q (.bl (!(Builtin.Str.occurrences j i 0 j.length 1).isEmpty)) H) ∨ rInDT K id x y H Q
def dNotIn (K : PySem.W.Frag) : R2 := fun x y H Q => rNotInD K x y H Q ∨ (∃ i j, x = .str i ∧ y = .str j ∧ Q (.bl (!(!(Builtin.Str.occurrences j i 0 j.length 1).isEmpty))) H) ∨ rInDT K (fun b => !b) x y H Q
theorem o_in {X : Cx} (hu : X.A.units + 65 < cLine) : OpR X (compareOp .In) (dIn X.K) := (op_inD hu).or (op_in_str.or (op_inDT hu))
theorem o_notIn {X : Cx} (hu : X.A.units + 65 < cLine) : OpR X (compareOp .NotIn) (dNotIn X.K) := (op_notInD hu).or (op_notin_str.or (op_notInDT hu))
theorem rd_in {x : PyData} {ds : List PyData} (sx : SeqAt.shaped x = true) (sy : SeqAt.shaped (.list ds) = true) (q : Q (.bool (ds.any fun z => PyData.eqv z x))) : RD K m Γ (dIn K) x (.list ds) Q := rd_plain (d := .bool _) (fun F H v u C le rv ru k =>
  .inl ⟨x, ds, Rp.dp x (SeqAt.canLay_of_shaped sx) (rv.mono le), Rp.dp _ (SeqAt.canLay_of_shaped sy) (ru.mono le), sx, sy, k _ (.bl _)⟩) q
theorem rd_notIn {x : PyData} {ds : List PyData} (sx : SeqAt.shaped x = true) (sy : SeqAt.shaped (.list ds) = true) (q : Q (.bool (!ds.any fun z => PyData.eqv z x))) : RD K m Γ (dNotIn K) x (.list ds) Q := rd_plain (d := .bool _) (fun F H v u C le rv ru k =>
  .inl ⟨x, ds, Rp.dp x (SeqAt.canLay_of_shaped sx) (rv.mono le), Rp.dp _ (SeqAt.canLay_of_shaped sy) (ru.mono le), sx, sy, k _ (.bl _)⟩) q
/-! items -/
theorem rd_inT {x : PyData} {ds : List PyData} (sx : SeqAt.shaped x = true) (sy : SeqAt.shaped (.tuple ds) = true) (q : Q (.bool (ds.any fun z => PyData.eqv z x))) : RD K m Γ (dIn K) x (.tuple ds) Q := rd_plain (d := .bool _) (fun F H v u C le rv ru k =>
  .inr (.inr ⟨x, ds, Rp.dp _ (SeqAt.canLay_of_shaped sx) (rv.mono le), Rp.dp _ (SeqAt.canLay_of_shaped sy) (ru.mono le), sx, sy, k _ (.bl _)⟩)) q
theorem rd_notInT {x : PyData} {ds : List PyData} (sx : SeqAt.shaped x = true) (sy : SeqAt.shaped (.tuple ds) = true) (q : Q (.bool (!ds.any fun z => PyData.eqv z x))) : RD K m Γ (dNotIn K) x (.tuple ds) Q := rd_plain (d := .bool _) (fun F H v u C le rv ru k =>
  .inr (.inr ⟨x, ds, Rp.dp _ (SeqAt.canLay_of_shaped sx) (rv.mono le), Rp.dp _ (SeqAt.canLay_of_shaped sy) (ru.mono le), sx, sy, k _ (.bl _)⟩)) q
theorem rd_ixL {ds : List PyData} {n : Int} {d : PyData} (h : atI ds n = some d) (q : Q d) : RD K m Γ (rIx K) (.list ds) (.int n) Q := rd_plain (d := d) (fun F H v u C le rv ru k => by
  cases rv with
  | lst h1 r1 =>
    cases ru
    obtain ⟨z, hz, rz⟩ := atI_rp r1 h
    exact .inl ⟨_, _, n, z, rfl, rfl, SqL.of (le _ _ h1), hz, k z rz⟩) q
theorem rd_ixT {ds : List PyData} {n : Int} {d : PyData} (h : atI ds n = some d) (q : Q d) : RD K m Γ (rIx K) (.tuple ds) (.int n) Q := rd_plain (d := d) (fun F H v u C le rv ru k => by
  cases rv with
  | tup h1 r1 =>
    cases ru
    obtain ⟨z, hz, rz⟩ := atI_rp r1 h
    exact .inr (.inl ⟨_, _, n, z, rfl, rfl, sqT_le le h1, hz, k z rz⟩)) q
theorem rd_ixS {x : Str} {n : Int} {c : Nat} (hz : x.length ≤ 100000) (h : atI x.cps.toList n = some c) (q : Q (.str ⟨#[c]⟩)) : RD K m Γ (rIx K) (.str x) (.int n) Q := rd_plain (d := .str ⟨#[c]⟩) (fun F H v u C le rv ru k => by
  cases rv; cases ru
  exact .inr (.inr ⟨x, n, c, rfl, rfl, sz_le hz, h, k _ (.str _)⟩)) q
theorem atI_ofNat {α : Type} {xs : List α} {n : Nat} : atI xs (n : Int) = xs[n]? := by
  unfold atI ixN
  by_cases h : n < xs.length
  · rw [if_pos (by omega), if_pos (by omega)]
    simp
  · rw [if_pos (by omega), if_neg (by omega)]
    simp [List.getElem?_eq_none (by omega : xs.length ≤ n)]
theorem atI_of {α : Type} {xs : List α} {z : Int} {n : Nat} {x : α} (e : z = (n : Int)) (h : xs[n]? = some x) : atI xs z = some x := by
  rw [e, atI_ofNat]; exact h
theorem atI_lastD {α : Type} {xs : List α} {x : α} : atI (xs ++ [x]) (-1) = some x := atI_last xs x
/-! len, list, sum, max, min, int -/
def dLen (K : PySem.W.Frag) : List V → Hp → VK → Prop := fun xs H Q => ∃ x n, xs = [x] ∧ LenV K x H n ∧ Q (.int n) H
theorem o_len {X : Cx} : CallR X (.builtin "len") (dLen X.K) := call_len
theorem rc_lenL {ds : List PyData} (q : Q (.int ds.length)) : RC K m Γ (dLen K) [.list ds] Q := rc_plain (d := .int ds.length) (fun F H vs C le rv k => by
  cases rv with
  | cons a b =>
    cases b
    cases a with
    | lst h1 r1 => exact ⟨_, ds.length, rfl, .inl ⟨_, SqL.of (le _ _ h1), r1.length.symm⟩, k _ (.int _)⟩) q
theorem rc_lenT {ds : List PyData} (q : Q (.int ds.length)) : RC K m Γ (dLen K) [.tuple ds] Q := rc_plain (d := .int ds.length) (fun F H vs C le rv k => by
  cases rv with
  | cons a b =>
    cases b
    cases a with
    | tup h1 r1 => exact ⟨_, ds.length, rfl, .inr ⟨_, sqT_le le h1, r1.length.symm⟩, k _ (.int _)⟩) q
theorem rc_lenS {x : Str} (hz : x.length ≤ 100000) (q : Q (.int x.length)) : RC K m Γ (dLen K) [.str x] Q := rc_plain (d := .int x.length) (fun F H vs C le rv k => by
  cases rv with
  | cons a b =>
    cases b
    cases a
    exact ⟨_, x.length, rfl, ⟨sz_le hz, rfl⟩, k _ (.int _)⟩) q
def dList (K : PySem.W.Frag) : List V → Hp → VK → Prop := fun xs H Q => ∃ p ys, xs = [.ref p] ∧ (SqL K H p ys ∨ SqT K H p ys) ∧ ∀ l, H l = none → Q (.ref l) (upd H l (.lst ys))
theorem o_list {X : Cx} : CallR X (.type "list") (dList X.K) := call_list_of
theorem rcx_listL {ds : List PyData} (q : ∀ l, QX (.ml m l ds)) : RCX K m Γ (dList K) [.list ds] QX := rcx_list (fun F H vs C le rv k => by
  cases rv with
  | cons a b =>
    cases b
    cases a with
    | lst h1 r1 => exact ⟨_, _, rfl, .inl (SqL.of (le _ _ h1)), fun p hp => k p _ hp r1⟩) q
theorem rcx_listT {ds : List PyData} (q : ∀ l, QX (.ml m l ds)) : RCX K m Γ (dList K) [.tuple ds] QX := rcx_list (fun F H vs C le rv k => by
  cases rv with
  | cons a b =>
    cases b
    cases a with
    | tup h1 r1 => exact ⟨_, _, rfl, .inr (sqT_le le h1), fun p hp => k p _ hp r1⟩) q
theorem rc_listL {ds : List PyData} (q : Q (.list ds)) : RC K m Γ (dList K) [.list ds] Q := .ofX (rcx_listL fun _ => ⟨_, toD_ml, q⟩)
theorem rc_listT {ds : List PyData} (q : Q (.list ds)) : RC K m Γ (dList K) [.tuple ds] Q := .ofX (rcx_listT fun _ => ⟨_, toD_ml, q⟩)
def dTuple (K : PySem.W.Frag) : List V → Hp → VK → Prop := fun xs H Q => ∃ p ys, xs = [.ref p] ∧ ((SqL K H p ys ∧ ∀ l, H l = none → Q (.ref l) (upd H l (.tup ys))) ∨ (SqT K H p ys ∧ Q (.ref p) H))
theorem o_tuple {X : Cx} : CallR X (.type "tuple") (dTuple X.K) := call_tuple_of
theorem rc_tupleL {ds : List PyData} (q : Q (.tuple ds)) : RC K m Γ (dTuple K) [.list ds] Q := rc_tuple (fun F H vs C le rv k => by
  cases rv with
  | cons a b =>
    cases b
    cases a with
    | lst h1 r1 => exact ⟨_, _, rfl, .inl ⟨SqL.of (le _ _ h1), fun p hp => k p _ hp r1⟩⟩) q
theorem ints_of {F : Hp} : ∀ {xs : List V} {ns : List Int}, RpA K F xs (ns.map PyData.int) → xs = ns.map V.int
  | [], [], _ => rfl
  | _ :: _, [], h => by cases h
  | [], _ :: _, h => by cases h
  | v :: xs, n :: ns, h => by
    cases h with
    | cons a b =>
      cases a
      rw [ints_of b]
      rfl
def dSum (K : PySem.W.Frag) : List V → Hp → VK → Prop := rSum K
theorem o_sum {X : Cx} (hc : X.calm = true) : CallR X (.builtin "sum") (dSum X.K) := cr_sum hc
theorem rc_sum {ns : List Int} (q : Q (.int ns.sum)) : RC K m Γ (dSum K) [.list (ns.map PyData.int)] Q := rc_plain (d := .int ns.sum) (fun F H vs C le rv k => by
  cases rv with
  | cons a b =>
    cases b
    cases a with
    | lst h1 r1 =>
      rw [ints_of r1] at h1
      exact ⟨_, ns, rfl, SqL.of (le _ _ h1), k _ (.int _)⟩) q
def dMax (K : PySem.W.Frag) : List V → Hp → VK → Prop := fun xs H Q => (∃ i j, xs = [.int i, .int j] ∧ Q (.int (if j > i then j else i)) H) ∨ rMax K xs H Q
def dMin (K : PySem.W.Frag) : List V → Hp → VK → Prop := fun xs H Q => (∃ i j, xs = [.int i, .int j] ∧ Q (.int (if j < i then j else i)) H) ∨ rMin K xs H Q
theorem o_max {X : Cx} (hc : X.calm = true) : CallR X (.builtin "max") (dMax X.K) := (call_max2 hc).or (cr_max hc)
theorem o_min {X : Cx} (hc : X.calm = true) : CallR X (.builtin "min") (dMin X.K) := (call_min2 hc).or (cr_min hc)
theorem rc_max2 {i j : Int} (q : Q (.int (max i j))) : RC K m Γ (dMax K) [.int i, .int j] Q := rc_plain (d := .int (max i j)) (fun F H vs C le rv k => by
  cases rv with
  | cons a b =>
    cases b with
    | cons b c =>
      cases c; cases a; cases b
      have e : (if j > i then j else i) = max i j := by split <;> omega
      exact .inl ⟨i, j, rfl, by rw [e]; exact k _ (.int _)⟩) q
theorem rc_min2 {i j : Int} (q : Q (.int (min i j))) : RC K m Γ (dMin K) [.int i, .int j] Q := rc_plain (d := .int (min i j)) (fun F H vs C le rv k => by
  cases rv with
  | cons a b =>
    cases b with
    | cons b c =>
      cases c; cases a; cases b
      have e : (if j < i then j else i) = min i j := by split <;> omega
      exact .inl ⟨i, j, rfl, by rw [e]; exact k _ (.int _)⟩) q
def dInt : List V → Hp → VK → Prop := fun xs H Q => (∃ i, xs = [.int i] ∧ Q (.int i) H) ∨ ∃ k, xs = [.bl k] ∧ Q (.int (if k then 1 else 0)) H
theorem o_int {X : Cx} : CallR X (.type "int") dInt := call_int1
theorem rc_intB {b : Bool} (q : Q (.int (if b then 1 else 0))) : RC K m Γ dInt [.bool b] Q := rc_plain (d := .int (if b then 1 else 0)) (fun F H vs C le rv k => by
  cases rv with
  | cons a c =>
    cases c; cases a
    exact .inr ⟨b, rfl, k _ (.int _)⟩) q
theorem rc_intI {i : Int} (q : Q (.int i)) : RC K m Γ dInt [.int i] Q := rc_plain (d := .int i) (fun F H vs C le rv k => by
  cases rv with
  | cons a c =>
    cases c; cases a
    exact .inl ⟨i, rfl, k _ (.int _)⟩) q
/-! list(range(n)) -/
theorem rg_rp {F : Hp} {a b : Int} : RpA K F (rgV a b) (rangeD a (b - a).toNat) := by
  unfold rgV rangeD
  generalize List.range (b - a).toNat = l
  induction l with
  | nil => exact .nil
  | cons i l ih => exact .cons (.int _) ih
theorem wx_lrg1 {ta : TE} (m : Bool) (h : WD K false Γ ta fun x => ∃ n : Int, x = .int n ∧ (0 ≤ n ∧ n ≤ 100000) ∧ ∀ l, QX (.ml m l (rangeD 0 n.toNat))) : WX K Γ (tLstRg (tRg1 ta)) QX := fun X hK F H σ E C k =>
  h X hK F H σ E _ fun v F1 H1 x l1 E1 r ⟨n, e, hn, q⟩ => by
    subst e
    cases r
    refine ⟨n, rfl, RgOk.of_le (by omega) (by omega) (by omega) (by omega), fun p hp => ?_⟩
    have rr : RpA X.K (X.ff F1 m) (rgV 0 n) (rangeD 0 n.toNat) := by
      have := rg_rp (K := X.K) (F := X.ff F1 m) (a := 0) (b := n)
      rwa [Int.sub_zero] at this
    exact k (.ref p) F1 _ _ l1 (E1.pushM hp rr) (q p)
theorem wd_lrg1 {ta : TE} (h : WD K false Γ ta fun x => ∃ n : Int, x = .int n ∧ (0 ≤ n ∧ n ≤ 100000) ∧ Q (.list (rangeD 0 n.toNat))) : WD K m Γ (tLstRg (tRg1 ta)) Q := .ofX (wx_lrg1 m (h.mono fun d ⟨n, e, hn, q⟩ => ⟨n, e, hn, fun _ => ⟨_, toD_ml, q⟩⟩))
/-! xs[::-1] -/
theorem wx_rev {ta : TE} (m : Bool) (h : WD K m Γ ta fun x => ∃ ds, x = .list ds ∧ ∀ l, QX (.ml m l ds.reverse)) : WX K Γ (tRevL K ta) QX := fun X hK F H σ E C k =>
  h X hK F H σ E _ fun v F1 H1 x l1 E1 r ⟨ds, e, q⟩ => by
    subst e
    subst hK
    cases r with
    | lst h1 r1 => exact ⟨_, _, rfl, SqL.of (E1.lef m _ _ h1), fun p hp => k (.ref p) F1 _ _ l1 (E1.pushM hp r1.reverse) (q p)⟩
theorem wd_rev {ta : TE} (h : WD K m Γ ta fun x => ∃ ds, x = .list ds ∧ Q (.list ds.reverse)) : WD K m Γ (tRevL K ta) Q := .ofX (wx_rev m (h.mono fun d ⟨n, e, q⟩ => ⟨n, e, fun _ => ⟨_, toD_ml, q⟩⟩))
/-! slices -/
def WO (K : PySem.W.Frag) (Γ : List Sl) (t : TO) (Q : Option Int → Prop) : Prop := ∀ X : Bs, X.K = K → ∀ F H σ, En X F H σ Γ → ∀ C : Option Int → Hp → Prop, (∀ o F' H', Le F F' → En X F' H' σ Γ → Q o → C o H') → t σ H C
theorem wo_no {Q : Option Int → Prop} (q : Q none) : WO K Γ tNoPart Q := fun X hK F H σ E C k => k none F H Le.rfl' E q
theorem wo_some {t : TE} {Q : Option Int → Prop} (h : WD K false Γ t fun d => ∃ i, d = .int i ∧ Q (some i)) : WO K Γ (tPart t) Q := fun X hK F H σ E C k =>
  h X hK F H σ E _ fun v F1 H1 x l1 E1 r ⟨i, e, q⟩ => by
    subst e
    cases r
    exact ⟨i, rfl, k (some i) F1 H1 l1 E1 q⟩
def cutD {α : Type} (xs : List α) (lo hi : Option Int) : List α := (xs.drop (HT.sIx xs.length 0 lo)).take (HT.sIx xs.length xs.length hi - HT.sIx xs.length 0 lo)
theorem cut_rp {F : Hp} {xs : List V} {ds : List PyData} (r : RpA K F xs ds) (lo hi : Option Int) : RpA K F (cutV xs lo hi) (cutD ds lo hi) := by
  unfold cutV cutD
  rw [r.length]
  exact (r.drop _).take _
theorem wx_sl {t : TE} {tl th : TO} (m : Bool) (h : WD K m Γ t fun x => ∃ ds, x = .list ds ∧ WO K Γ tl fun lo => WO K Γ th fun hi => ∀ l, QX (.ml m l (cutD ds lo hi))) : WX K Γ (tSl (rSlL K) t tl th) QX := fun X hK F H σ E C k =>
  h X hK F H σ E _ fun v F1 H1 x l1 E1 r ⟨ds, e, h1⟩ => h1 X hK F1 H1 σ E1 _ fun lo F2 H2 l2 E2 h2 => h2 X hK F2 H2 σ E2 _ fun hi F3 H3 l3 E3 q => by
    subst e
    subst hK
    cases (Bs.mo r (l2.tr l3)) with
    | lst h1 r1 => exact ⟨_, _, rfl, SqL.of (E3.lef m _ _ h1), fun p hp => k (.ref p) F3 _ _ (l1.tr (l2.tr l3)) (E3.pushM hp (cut_rp r1 lo hi)) (q p)⟩
theorem WO.mono {t : TO} {Q Q' : Option Int → Prop} (h : WO K Γ t Q) (k : ∀ o, Q o → Q' o) : WO K Γ t Q' := fun X hK F H σ E C c => h X hK F H σ E C fun o F' H' l E' q => c o F' H' l E' (k o q)
theorem wd_sl {t : TE} {tl th : TO} (h : WD K m Γ t fun x => ∃ ds, x = .list ds ∧ WO K Γ tl fun lo => WO K Γ th fun hi => Q (.list (cutD ds lo hi))) : WD K m Γ (tSl (rSlL K) t tl th) Q :=
  .ofX (wx_sl m (h.mono fun d ⟨ds, e, q⟩ => ⟨ds, e, q.mono fun lo q => q.mono fun hi q l => ⟨_, toD_ml, q⟩⟩))
theorem wd_slT {t : TE} {tl th : TO} (h : WD K m Γ t fun x => ∃ ds, x = .tuple ds ∧ WO K Γ tl fun lo => WO K Γ th fun hi => Q (.tuple (cutD ds lo hi))) : WD K m Γ (tSl (rSlA K) t tl th) Q := fun X hK F H σ E C k =>
  h X hK F H σ E _ fun v F1 H1 x l1 E1 r ⟨ds, e, hq⟩ => by
    subst hK
    subst e
    refine hq X rfl F1 H1 σ E1 _ fun lo F2 H2 l2 E2 hq2 => hq2 X rfl F2 H2 σ E2 _ fun hi F3 H3 l3 E3 q => ?_
    cases r with
    | tup h1 r1 =>
      have r2 := r1.mono (Bs.ff_mono (X := X) (l2.tr l3) m)
      have h2 := sqT_le (Bs.ff_mono (X := X) (l2.tr l3) m) h1
      refine ⟨_, _, rfl, sqT_le (E3.lef m) h2, fun z => ?_, fun _ p hp => ?_⟩
      · have e : cutD ds lo hi = ds := by
          unfold cutD
          rw [← r1.length, z.1, z.2, List.drop_zero, Nat.sub_zero, r1.length, List.take_length]
        have q' : Q (.tuple (cutD ds lo hi)) := q
        rw [e] at q'
        exact k _ F3 H3 _ (l1.tr (l2.tr l3)) E3 (.tup h2 r2) q'
      · obtain ⟨a', b', c'⟩ := E3.newT rfl hp (cut_rp r2 lo hi)
        exact k (.ref p) _ _ _ (l1.tr ((l2.tr l3).tr a')) b' c' q
theorem wd_slS {t : TE} {tl th : TO} (h : WD K false Γ t fun x => ∃ z, x = .str z ∧ z.length ≤ 100000 ∧ WO K Γ tl fun lo => WO K Γ th fun hi => Q (.str (cutS z lo hi))) : WD K m Γ (tSl rSlS t tl th) Q := fun X hK F H σ E C k =>
  h X hK F H σ E _ fun v F1 H1 x l1 E1 r ⟨z, e, hz, hq⟩ => by
    subst e
    cases r
    exact hq X hK F1 H1 σ E1 _ fun lo F2 H2 l2 E2 hq2 => hq2 X hK F2 H2 σ E2 _ fun hi F3 H3 l3 E3 q => ⟨z, rfl, sz_le hz, k _ F3 H3 _ (l1.tr (l2.tr l3)) E3 (.str _) q⟩
/-! isinstance -/
def tyN : PyData → String
  | .none => "NoneType" | .bool _ => "bool" | .int _ => "int" | .str _ => "str" | .list _ => "list" | .tuple _ => "tuple" | .dict _ => "dict"
def isTyS (a T : String) : Bool := a == T || (a == "bool" && T == "int")
def isTy (d : PyData) (T : String) : Bool := isTyS (tyN d) T
theorem tyX {F H : Hp} {v : V} {d : PyData} (le : Le F H) (r : Rp K F v d) : TyX K H v (.type (tyN d)) := by
  cases r with
  | non => exact .base .non
  | bl b => exact .base (.bl b)
  | int i => exact .base (.int i)
  | str x => exact .base (.str x)
  | lst h _ => exact .base (.lst (le _ _ h))
  | tup h _ =>
    rcases h with (h | ⟨o, h⟩) | ⟨o, its, n, hk, hc, _⟩
    · exact .base (.tup (le _ _ h))
    · exact .fTuple (le _ _ h)
    · exact .kTuple hk hc
  | dct h _ => exact .base (.dK (le _ _ h))
theorem kit_tab : ∀ a ∈ ["NoneType", "bool", "int", "str", "list", "tuple", "dict"], ∀ T ∈ ["int", "bool", "str", "list", "tuple", "dict"], kitB a T = some (isTyS a T) := by decide +kernel
theorem tyN_mem (d : PyData) : tyN d ∈ ["NoneType", "bool", "int", "str", "list", "tuple", "dict"] := by cases d <;> simp [tyN]
theorem kit_isTy {d : PyData} {T : String} (hT : T ∈ ["int", "bool", "str", "list", "tuple", "dict"]) : PySem.W.kitOne K (.type (tyN d)) (.type T) = some (isTy d T) := kit_ty (kit_tab _ (tyN_mem d) T hT)
theorem wd_isi {ta : TE} {T : String} (hT : T ∈ ["int", "bool", "str", "list", "tuple", "dict"]) (h : WD K false Γ ta fun d => Q (.bool (isTy d T))) : WD K m Γ (tCB (rIsi K) (tCons ta (tCons (tC (.ty T)) tNil))) Q := fun X hK F H σ E C k =>
  h X hK F H σ E _ fun v F1 H1 d l1 E1 r q => ⟨v, .ty T, .type (tyN d), .type T, isTy d T, rfl, .ty T, tyX E1.le r, kit_isTy hT, k _ F1 H1 _ l1 E1 (.bl _) q⟩
theorem wd_isi2 {ta : TE} {T U : String} (hT : T ∈ ["int", "bool", "str", "list", "tuple", "dict"]) (hU : U ∈ ["int", "bool", "str", "list", "tuple", "dict"]) (h : WD K false Γ ta fun d => Q (.bool (isTy d T || isTy d U))) : WD K m Γ (tCB (rIsiT K) (tCons ta (tCons (tTup (tCons (tC (.ty T)) (tCons (tC (.ty U)) tNil))) tNil))) Q := fun X hK F H σ E C k =>
  h X hK F H σ E _ fun v F1 H1 d l1 E1 r q => ⟨by show 2 ≤ sizeLine; decide, fun p hp => by
    refine ⟨v, p, [.ty T, .ty U], .type (tyN d), [.type T, .type U], isTy d T || isTy d U, rfl, upd_same, .cons (.ty T) (.cons (.ty U) .nil), tyX (E1.free hp).le r, ?_, k _ F1 _ _ l1 (E1.free hp) (.bl _) q⟩
    refine kitAny_cons (kit_isTy hT) (fun e => ?_) (fun e => by rw [e]; rfl)
    refine kitAny_cons (kit_isTy hU) (fun e2 => by rw [e, e2]; exact kitAny_nil) (fun e2 => by rw [e2]; simp)⟩
end
end Pk
end
section
set_option Elab.async false
set_option linter.all false
set_option maxRecDepth 100000
/-! The data layer, part 5: zip, enumerate, texts walked; shapes of data. -/
namespace Pk
open PySem PySem.Spec PyProof.Rows L2
section
variable {K : PySem.W.Frag} {m : Bool} {Γ : List Sl} {QI : List PyData → Prop} {ta : TA} {te : TE}
def pairD (x y : PyData) : PyData := .tuple [x, y]
theorem yPair {X : Bs} {F' : Hp} {fx fy : Nat → Option V} {xs ys ds : List PyData} (hd : ∀ i, i < ds.length → ∃ x y, xs[i]? = some x ∧ ys[i]? = some y ∧ ds[i]? = some (pairD x y)) (hx : ∀ i x, xs[i]? = some x → ∀ v, fx i = some v → Rp K (X.ff F' m) v x) (hy : ∀ i x, ys[i]? = some x → ∀ v, fy i = some v → Rp K (X.ff F' m) v x) :
    ∀ i F2 H2 x H3, Le F' F2 → Le F2 H2 → i < ds.length → YPair fx fy i H2 x H3 → ∃ d F3, ds[i]? = some d ∧ Gr F2 H2 F3 H3 ∧ Rp K (X.ff F3 m) x d := fun i F2 H2 v H3 l2 le hi hy' => by
  obtain ⟨T, x, y, rfl, nT, rfl, e1, e2⟩ := hy'
  obtain ⟨dx, dy, h1, h2, h3⟩ := hd i hi
  have g := Gr.new le (p := T) (o := .tup [x, y]) nT
  refine ⟨_, _, h3, g, .tup (Bs.ff_tup.1 _ _ (SqT.of upd_same)) (.cons (Bs.mo (hx i dx h1 x e1) (l2.tr g.lf)) (.cons (Bs.mo (hy i dy h2 y e2) (l2.tr g.lf)) .nil))⟩
theorem zip_get {xs ys : List PyData} {i : Nat} (h : i < (List.zipWith pairD xs ys).length) : ∃ x y, xs[i]? = some x ∧ ys[i]? = some y ∧ (List.zipWith pairD xs ys)[i]? = some (pairD x y) := by
  rw [List.length_zipWith] at h
  have h1 : i < xs.length := by omega
  have h2 : i < ys.length := by omega
  exact ⟨xs[i], ys[i], by simp [h1], by simp [h2], by simp [List.getElem?_zipWith, h1, h2]⟩
theorem wi_zip (h : WA K m Γ ta fun as => ∃ xs ys, as = [.d (.list xs), .d (.list ys)] ∧ QI (List.zipWith pairD xs ys)) : WI K m Γ (iZip K ta) QI := fun X hK F H σ E C k =>
  h X hK F H σ E _ fun vs F1 H1 as l1 E1 r ⟨xs, ys, e, q⟩ => by
    subst e
    cases r with
    | cons a b =>
      cases b with
      | cons b c =>
        cases c
        have a' : Rp X.K (X.ff F1 m) _ (.list xs) := a
        have b' : Rp X.K (X.ff F1 m) _ (.list ys) := b
        cases a' with
        | lst ha ra =>
          cases b' with
          | lst hb rb =>
            rename_i pa us pb ws
            refine ⟨pa, pb, us, ws, rfl, SqL.of (E1.lef m _ _ ha), SqL.of (E1.lef m _ _ hb), k (Itz K pa pb) F1 H1 _ _ (List.zipWith pairD xs ys) l1 E1 (walk_zip (xs := us) (ys := ws) (by rw [List.length_zipWith, ra.length, rb.length])) (fun H2 l2 => ⟨SqL.of (l2 _ _ (X.ff_le F1 m _ _ ha)), SqL.of (l2 _ _ (X.ff_le F1 m _ _ hb))⟩) (yPair (fun i hi => zip_get hi) (fun i x hx v hv => ?_) (fun i x hx v hv => ?_)) q⟩
            · obtain ⟨u, hu, ru⟩ := ra.get hx
              rw [hv] at hu; cases hu; rw [← hK]; exact ru
            · obtain ⟨u, hu, ru⟩ := rb.get hx
              rw [hv] at hu; cases hu; rw [← hK]; exact ru
/-- (0, x0), (1, x1), .. -/
def enumD (xs : List PyData) : List PyData := List.zipWith pairD (rangeD 0 xs.length) xs
theorem enumD_len {xs : List PyData} : (enumD xs).length = xs.length := by simp [enumD, rangeD_len]
theorem enumD_of {xs : List PyData} {i : Nat} {d : PyData} (h : (enumD xs)[i]? = some d) : ∃ x, xs[i]? = some x ∧ d = .tuple [.int i, x] := by
  have hi : i < (enumD xs).length := (List.getElem?_eq_some_iff.mp h).1
  obtain ⟨a, b, h1, h2, h3⟩ := zip_get hi
  obtain ⟨_, e⟩ := rangeD_of h1
  refine ⟨b, h2, ?_⟩
  unfold enumD at h
  rw [h3] at h
  cases h
  rw [e, Int.zero_add]
  rfl
theorem wi_enum (h : WA K m Γ ta fun as => ∃ xs, as = [.d (.list xs)] ∧ QI (enumD xs)) : WI K m Γ (iEnum K ta) QI := fun X hK F H σ E C k =>
  h X hK F H σ E _ fun vs F1 H1 as l1 E1 r ⟨xs, e, q⟩ => by
    subst e
    cases r with
    | cons a b =>
      cases b
      have a' : Rp X.K (X.ff F1 m) _ (.list xs) := a
      cases a' with
      | lst ha ra =>
        rename_i pa us
        refine ⟨pa, us, rfl, SqL.of (E1.lef m _ _ ha), k (Ite K pa) F1 H1 _ _ (enumD xs) l1 E1 (by rw [enumD_len, ← ra.length]; exact walk_enum (xs := us)) (fun H2 l2 => SqL.of (l2 _ _ (X.ff_le F1 m _ _ ha))) (yPair (xs := rangeD 0 xs.length) (ys := xs) (fun i hi => zip_get hi) (fun i x hx v hv => ?_) (fun i x hx v hv => ?_)) q⟩
        · obtain ⟨_, e⟩ := rangeD_of hx
          cases hv
          rw [e, Int.zero_add]
          exact .int _
        · obtain ⟨u, hu, ru⟩ := ra.get hx
          rw [hv] at hu; cases hu; rw [← hK]; exact ru
/-- the signs of a text -/
def signsD (x : Str) : List PyData := x.cps.toList.map fun c => .str ⟨#[c]⟩
theorem wi_str (h : WD K false Γ te fun d => ∃ x, d = .str x ∧ QI (signsD x)) : WI K m Γ (iStr te) QI := fun X hK F H σ E C k =>
  h X hK F H σ E _ fun v F1 H1 d l1 E1 r ⟨x, e, q⟩ => by
    subst e
    cases r
    have hn : (signsD x).length = x.cps.size := by simp [signsD]
    refine ⟨x, rfl, k (Its x) F1 H1 _ _ (signsD x) l1 E1 (by rw [hn]; exact walk_str) (fun _ _ => trivial) (fun i F2 H2 u H3 l2 le hi hy => ?_) q⟩
    obtain ⟨rfl, c, hc, rfl⟩ := hy
    exact ⟨.str ⟨#[c]⟩, F2, by simp [signsD, hc], Gr.same le, .str _⟩
end

/-! ### shapes: which data may be compared -/
/-- at most n deep, no dicts, texts of signs -/
def dep : Nat → PyData → Prop
  | _, .none => True
  | _, .bool _ => True
  | _, .int _ => True
  | _, .str x => PyData.strOk x = true
  | 0, .list _ => False
  | 0, .tuple _ => False
  | n + 1, .list xs => ∀ x ∈ xs, dep n x
  | n + 1, .tuple xs => ∀ x ∈ xs, dep n x
  | _, .dict _ => False
theorem dep_can : ∀ (n : Nat) (d : PyData), dep n d → d.canLay0 = true ∧ d.depth ≤ n + 1
  | _, .none, _ => ⟨rfl, by simp [PyData.depth]⟩
  | _, .bool _, _ => ⟨rfl, by simp [PyData.depth]⟩
  | _, .int _, _ => ⟨rfl, by simp [PyData.depth]⟩
  | n, .str x, h => by
    have h' : PyData.strOk x = true := by cases n <;> exact h
    exact ⟨by simpa [PyData.canLay0] using h', by simp [PyData.depth]⟩
  | 0, .list _, h => h.elim
  | 0, .tuple _, h => h.elim
  | n + 1, .list xs, h => by
    have : PyData.canLayAll0 xs = true ∧ PyData.depthAll xs ≤ n + 1 := by
      have h' : ∀ x ∈ xs, dep n x := h
      clear h
      induction xs with
      | nil => exact ⟨rfl, by simp [PyData.depthAll]⟩
      | cons x xs ih =>
        obtain ⟨a, b⟩ := dep_can n x (h' x List.mem_cons_self)
        obtain ⟨c, d⟩ := ih fun y hy => h' y (List.mem_cons_of_mem _ hy)
        exact ⟨by simp [PyData.canLayAll0, a, c], by simp only [PyData.depthAll]; omega⟩
    exact ⟨by simpa [PyData.canLay0] using this.1, by simp only [PyData.depth]; omega⟩
  | n + 1, .tuple xs, h => by
    have : PyData.canLayAll0 xs = true ∧ PyData.depthAll xs ≤ n + 1 := by
      have h' : ∀ x ∈ xs, dep n x := h
      clear h
      induction xs with
      | nil => exact ⟨rfl, by simp [PyData.depthAll]⟩
      | cons x xs ih =>
        obtain ⟨a, b⟩ := dep_can n x (h' x List.mem_cons_self)
        obtain ⟨c, d⟩ := ih fun y hy => h' y (List.mem_cons_of_mem _ hy)
        exact ⟨by simp [PyData.canLayAll0, a, c], by simp only [PyData.depthAll]; omega⟩
    exact ⟨by simpa [PyData.canLay0] using this.1, by simp only [PyData.depth]; omega⟩
  | n, .dict _, h => by cases n <;> exact h.elim
theorem dep_shaped {n : Nat} {d : PyData} (h : dep n d) (hn : n ≤ 63) : SeqAt.shaped d = true := by
  obtain ⟨a, b⟩ := dep_can n d h
  simp only [SeqAt.shaped, a, Bool.true_and, decide_eq_true_eq]
  omega
theorem sh_int {i : Int} : SeqAt.shaped (.int i) = true := dep_shaped (n := 0) (d := .int i) trivial (by decide)
theorem sh_bool {b : Bool} : SeqAt.shaped (.bool b) = true := dep_shaped (n := 0) (d := .bool b) trivial (by decide)
theorem sh_non : SeqAt.shaped .none = true := dep_shaped (n := 0) (d := .none) trivial (by decide)
theorem sh_str {x : Str} (h : PyData.strOk x = true) : SeqAt.shaped (.str x) = true := dep_shaped (n := 0) (d := .str x) h (by decide)
theorem sh_nil : SeqAt.shaped (.list []) = true := dep_shaped (n := 1) (d := .list []) (fun x h => by cases h) (by decide)
/-- == of texts, ints -/
theorem eqv_int {i j : Int} : PyData.eqv (.int i) (.int j) = decide (i = j) := by simp only [PyData.eqv]; exact Bool.beq_eq_decide_eq i j
theorem eqv_str {x y : Str} : PyData.eqv (.str x) (.str y) = decide (x = y) := by simp only [PyData.eqv]; exact Bool.beq_eq_decide_eq x y
theorem eqv_bool {x y : Bool} : PyData.eqv (.bool x) (.bool y) = (x == y) := by simp only [PyData.eqv]
theorem eqv_nil {xs : List PyData} : PyData.eqv (.list xs) (.list []) = xs.isEmpty := by cases xs <;> simp [PyData.eqv, PyData.eqvAll]
/-- no truths within -/
inductive NB : PyData → Prop
  | non : NB .none
  | int (i : Int) : NB (.int i)
  | str (x : Str) : NB (.str x)
  | lst {xs : List PyData} : (∀ x ∈ xs, NB x) → NB (.list xs)
  | tup {xs : List PyData} : (∀ x ∈ xs, NB x) → NB (.tuple xs)
mutual
theorem eqv_iff : ∀ (x y : PyData), NB x → NB y → (PyData.eqv x y = true ↔ x = y)
  | .none, y, _, hy => by cases hy <;> simp [PyData.eqv]
  | .int i, y, _, hy => by cases hy <;> simp [PyData.eqv]
  | .str s, y, _, hy => by cases hy <;> simp [PyData.eqv]
  | .list xs, y, hx, hy => by
    cases hx with
    | lst h =>
      cases hy with
      | lst k => simp only [PyData.eqv, PyData.list.injEq]; exact eqvAll_iff xs _ h k
      | _ => simp [PyData.eqv]
  | .tuple xs, y, hx, hy => by
    cases hx with
    | tup h =>
      cases hy with
      | tup k => simp only [PyData.eqv, PyData.tuple.injEq]; exact eqvAll_iff xs _ h k
      | _ => simp [PyData.eqv]
  | .bool _, _, hx, _ => by cases hx
  | .dict _, _, hx, _ => by cases hx
theorem eqvAll_iff : ∀ (xs ys : List PyData), (∀ x ∈ xs, NB x) → (∀ x ∈ ys, NB x) → (PyData.eqvAll xs ys = true ↔ xs = ys)
  | [], ys, _, _ => by cases ys <;> simp [PyData.eqvAll]
  | x :: xs, [], _, _ => by simp [PyData.eqvAll]
  | x :: xs, y :: ys, hx, hy => by
    simp only [PyData.eqvAll, Bool.and_eq_true, List.cons.injEq]
    rw [eqv_iff x y (hx x List.mem_cons_self) (hy y List.mem_cons_self), eqvAll_iff xs ys (fun z h => hx z (List.mem_cons_of_mem _ h)) (fun z h => hy z (List.mem_cons_of_mem _ h))]
end
theorem eqv_self {x : PyData} (h : NB x) : PyData.eqv x x = true := (eqv_iff x x h h).mpr rfl
theorem eqv_no {x y : PyData} (h : NB x) (k : NB y) (n : x ≠ y) : PyData.eqv x y = false := by
  cases e : PyData.eqv x y with
  | false => rfl
  | true => exact absurd ((eqv_iff x y h k).mp e) n
end Pk
end
section
set_option Elab.async false
set_option linter.all false
set_option maxRecDepth 100000
/-! The data layer, part 6: short forms, own lists of ints, the script. -/
namespace Pk
open PySem PySem.Spec PyProof.Rows L2
section
variable {K : PySem.W.Frag} {m : Bool} {Γ : List Sl} {Q : PyData → Prop} {QX : Sl → Prop} {ta tb tc td te tf : TE}
/-! ### displays and built-ins by their number of arguments -/
theorem wd_cb1 {r : List V → Hp → VK → Prop} (h : WD K m Γ ta fun x => RC K m Γ r [x] Q) : WD K m Γ (tCB r (tCons ta tNil)) Q := wd_cb (wa_d (h.mono fun x q => wa_nil ⟨_, rfl, q⟩))
theorem wd_cb2 {r : List V → Hp → VK → Prop} (h : WD K m Γ ta fun x => WD K m Γ tb fun y => RC K m Γ r [x, y] Q) : WD K m Γ (tCB r (tCons ta (tCons tb tNil))) Q := wd_cb (wa_d (h.mono fun x h => wa_d (h.mono fun y q => wa_nil ⟨_, rfl, q⟩)))
theorem wx_cb1 {r : List V → Hp → VK → Prop} (m : Bool) (h : WD K m Γ ta fun x => RCX K m Γ r [x] QX) : WX K Γ (tCB r (tCons ta tNil)) QX := wx_cb m (wa_d (h.mono fun x q => wa_nil ⟨_, rfl, q⟩))
theorem le_lit {n : Nat} (h : Nat.ble n 100000 = true) : n ≤ 100000 := Nat.le_of_ble_eq_true h
theorem wd_tup0 (q : Q (.tuple [])) : WD K m Γ (tTup tNil) Q := wd_tup (wa_nil ⟨_, rfl, le_lit rfl, q⟩)
theorem wd_tup1 (h : WD K m Γ ta fun x => Q (.tuple [x])) : WD K m Γ (tTup (tCons ta tNil)) Q := wd_tup (wa_d (h.mono fun x q => wa_nil ⟨_, rfl, le_lit rfl, q⟩))
theorem wd_tup2 (h : WD K m Γ ta fun x => WD K m Γ tb fun y => Q (.tuple [x, y])) : WD K m Γ (tTup (tCons ta (tCons tb tNil))) Q := wd_tup (wa_d (h.mono fun x h => wa_d (h.mono fun y q => wa_nil ⟨_, rfl, le_lit rfl, q⟩)))
theorem wd_tup3 (h : WD K m Γ ta fun x => WD K m Γ tb fun y => WD K m Γ tc fun z => Q (.tuple [x, y, z])) : WD K m Γ (tTup (tCons ta (tCons tb (tCons tc tNil)))) Q := wd_tup (wa_d (h.mono fun x h => wa_d (h.mono fun y h => wa_d (h.mono fun z q => wa_nil ⟨_, rfl, le_lit rfl, q⟩))))
theorem wd_lst0 (q : Q (.list [])) : WD K m Γ (tLst tNil) Q := wd_lst (wa_nil ⟨_, rfl, le_lit rfl, q⟩)
theorem wd_lst1 (h : WD K m Γ ta fun x => Q (.list [x])) : WD K m Γ (tLst (tCons ta tNil)) Q := wd_lst (wa_d (h.mono fun x q => wa_nil ⟨_, rfl, le_lit rfl, q⟩))
theorem wd_lst2 (h : WD K m Γ ta fun x => WD K m Γ tb fun y => Q (.list [x, y])) : WD K m Γ (tLst (tCons ta (tCons tb tNil))) Q := wd_lst (wa_d (h.mono fun x h => wa_d (h.mono fun y q => wa_nil ⟨_, rfl, le_lit rfl, q⟩)))
theorem wd_lst3 (h : WD K m Γ ta fun x => WD K m Γ tb fun y => WD K m Γ tc fun z => Q (.list [x, y, z])) : WD K m Γ (tLst (tCons ta (tCons tb (tCons tc tNil)))) Q := wd_lst (wa_d (h.mono fun x h => wa_d (h.mono fun y h => wa_d (h.mono fun z q => wa_nil ⟨_, rfl, le_lit rfl, q⟩))))
theorem wd_lst4 (h : WD K m Γ ta fun x => WD K m Γ tb fun y => WD K m Γ tc fun z => WD K m Γ td fun u => Q (.list [x, y, z, u])) : WD K m Γ (tLst (tCons ta (tCons tb (tCons tc (tCons td tNil))))) Q := wd_lst (wa_d (h.mono fun x h => wa_d (h.mono fun y h => wa_d (h.mono fun z h => wa_d (h.mono fun u q => wa_nil ⟨_, rfl, le_lit rfl, q⟩)))))
theorem wd_lst5 (h : WD K m Γ ta fun x => WD K m Γ tb fun y => WD K m Γ tc fun z => WD K m Γ td fun u => WD K m Γ te fun w => Q (.list [x, y, z, u, w])) : WD K m Γ (tLst (tCons ta (tCons tb (tCons tc (tCons td (tCons te tNil)))))) Q := wd_lst (wa_d (h.mono fun x h => wa_d (h.mono fun y h => wa_d (h.mono fun z h => wa_d (h.mono fun u h => wa_d (h.mono fun w q => wa_nil ⟨_, rfl, le_lit rfl, q⟩))))))
theorem wd_lst6 (h : WD K m Γ ta fun x => WD K m Γ tb fun y => WD K m Γ tc fun z => WD K m Γ td fun u => WD K m Γ te fun w => WD K m Γ tf fun r => Q (.list [x, y, z, u, w, r])) : WD K m Γ (tLst (tCons ta (tCons tb (tCons tc (tCons td (tCons te (tCons tf tNil))))))) Q := wd_lst (wa_d (h.mono fun x h => wa_d (h.mono fun y h => wa_d (h.mono fun z h => wa_d (h.mono fun u h => wa_d (h.mono fun w h => wa_d (h.mono fun r q => wa_nil ⟨_, rfl, le_lit rfl, q⟩)))))))
theorem wx_lst0 (m : Bool) (q : ∀ l, QX (.ml m l [])) : WX K Γ (tLst tNil) QX := wx_lst m (wa_nil ⟨_, rfl, le_lit rfl, q⟩)
theorem wx_lst1 (m : Bool) (h : WD K m Γ ta fun x => ∀ l, QX (.ml m l [x])) : WX K Γ (tLst (tCons ta tNil)) QX := wx_lst m (wa_d (h.mono fun x q => wa_nil ⟨_, rfl, le_lit rfl, q⟩))
theorem wx_lst2 (m : Bool) (h : WD K m Γ ta fun x => WD K m Γ tb fun y => ∀ l, QX (.ml m l [x, y])) : WX K Γ (tLst (tCons ta (tCons tb tNil))) QX := wx_lst m (wa_d (h.mono fun x h => wa_d (h.mono fun y q => wa_nil ⟨_, rfl, le_lit rfl, q⟩)))
theorem wx_lst3 (m : Bool) (h : WD K m Γ ta fun x => WD K m Γ tb fun y => WD K m Γ tc fun z => ∀ l, QX (.ml m l [x, y, z])) : WX K Γ (tLst (tCons ta (tCons tb (tCons tc tNil)))) QX := wx_lst m (wa_d (h.mono fun x h => wa_d (h.mono fun y h => wa_d (h.mono fun z q => wa_nil ⟨_, rfl, le_lit rfl, q⟩))))
/-! ### calls of own defs -/
variable {T : List Sl → (Sl → Prop) → Prop} {EE : XK}
theorem wx_call0 (h : T [] QX) : WX K Γ (tCall (spG K T) [] EE tNil) QX := wx_call (wa_nil ⟨agsGood_d rfl, h⟩)
theorem wx_call1 (h : WD K false Γ ta fun x => T [.dat false x] QX) : WX K Γ (tCall (spG K T) [] EE (tCons ta tNil)) QX := wx_call (wa_d (h.mono fun x q => wa_nil ⟨agsGood_d rfl, q⟩))
theorem wx_call2 (h : WD K false Γ ta fun x => WD K false Γ tb fun y => T [.dat false x, .dat false y] QX) : WX K Γ (tCall (spG K T) [] EE (tCons ta (tCons tb tNil))) QX := wx_call (wa_d (h.mono fun x h => wa_d (h.mono fun y q => wa_nil ⟨agsGood_d rfl, q⟩)))
theorem wx_call3 (h : WD K false Γ ta fun x => WD K false Γ tb fun y => WD K false Γ tc fun z => T [.dat false x, .dat false y, .dat false z] QX) : WX K Γ (tCall (spG K T) [] EE (tCons ta (tCons tb (tCons tc tNil)))) QX := wx_call (wa_d (h.mono fun x h => wa_d (h.mono fun y h => wa_d (h.mono fun z q => wa_nil ⟨agsGood_d rfl, q⟩))))
theorem wx_call4 (h : WD K false Γ ta fun x => WD K false Γ tb fun y => WD K false Γ tc fun z => WD K false Γ td fun u => T [.dat false x, .dat false y, .dat false z, .dat false u] QX) : WX K Γ (tCall (spG K T) [] EE (tCons ta (tCons tb (tCons tc (tCons td tNil))))) QX := wx_call (wa_d (h.mono fun x h => wa_d (h.mono fun y h => wa_d (h.mono fun z h => wa_d (h.mono fun u q => wa_nil ⟨agsGood_d rfl, q⟩)))))
theorem ag_ex {i : Nat} {v : V} {Φ : Own} (hi : Γ[i]? = some (.ex v Φ)) : Ag.sl Γ (.o i) = .ex v Φ := by simp [Ag.sl, List.getD_eq_getElem?_getD, hi]
theorem wx_callO0 {i : Nat} {v : V} {Φ : Own} (hi : Γ[i]? = some (.ex v Φ)) (h : T [.ex v Φ] QX) : WX K Γ (tCall (spG K T) [] EE (tCons (tVar i) tNil)) QX := wx_call (wa_o hi (wa_nil ⟨agsGood_1 hi rfl, by rw [List.map_cons, ag_ex hi]; exact h⟩))
theorem wx_callO1 {i : Nat} {v : V} {Φ : Own} (hi : Γ[i]? = some (.ex v Φ)) (h : WD K false Γ ta fun x => T [.ex v Φ, .dat false x] QX) : WX K Γ (tCall (spG K T) [] EE (tCons (tVar i) (tCons ta tNil))) QX := wx_call (wa_o hi (wa_d (h.mono fun x q => wa_nil ⟨agsGood_1 hi rfl, by rw [List.map_cons, ag_ex hi]; exact q⟩)))
theorem wx_callO2 {i : Nat} {v : V} {Φ : Own} (hi : Γ[i]? = some (.ex v Φ)) (h : WD K false Γ ta fun x => WD K false Γ tb fun y => T [.ex v Φ, .dat false x, .dat false y] QX) : WX K Γ (tCall (spG K T) [] EE (tCons (tVar i) (tCons ta (tCons tb tNil)))) QX := wx_call (wa_o hi (wa_d (h.mono fun x h => wa_d (h.mono fun y q => wa_nil ⟨agsGood_1 hi rfl, by rw [List.map_cons, ag_ex hi]; exact q⟩))))
theorem wx_callO3 {i : Nat} {v : V} {Φ : Own} (hi : Γ[i]? = some (.ex v Φ)) (h : WD K false Γ ta fun x => WD K false Γ tb fun y => WD K false Γ tc fun z => T [.ex v Φ, .dat false x, .dat false y, .dat false z] QX) : WX K Γ (tCall (spG K T) [] EE (tCons (tVar i) (tCons ta (tCons tb (tCons tc tNil))))) QX := wx_call (wa_o hi (wa_d (h.mono fun x h => wa_d (h.mono fun y h => wa_d (h.mono fun z q => wa_nil ⟨agsGood_1 hi rfl, by rw [List.map_cons, ag_ex hi]; exact q⟩)))))
/-- what is wanted of a call's result, as data -/
def asD (m : Bool) (Q : PyData → Prop) : Sl → Prop := fun s => ∃ d, s.toD m = some d ∧ Q d
theorem asD_dat {d : PyData} (q : Q d) : asD m Q (.dat m d) := ⟨d, toD_dat, q⟩
theorem asD_new {d : PyData} (q : Q d) : asD m Q (.dat true d) := ⟨d, by cases m <;> simp [Sl.toD], q⟩
theorem asD_ml {l : Addr} {ds : List PyData} (q : Q (.list ds)) : asD m Q (.ml m l ds) := ⟨_, toD_ml, q⟩
theorem asD_mln {l : Addr} {ds : List PyData} (q : Q (.list ds)) : asD m Q (.ml true l ds) := ⟨_, by cases m <;> simp [Sl.toD], q⟩
theorem asD_ex {v : V} {Φ : Own} {d : PyData} (hv : Φ.vw = some d) (q : Q d) : asD false Q (.ex v Φ) := ⟨d, by simp [Sl.toD, hv], q⟩
theorem wd_call0 (h : T [] (asD m Q)) : WD K m Γ (tCall (spG K T) [] EE tNil) Q := .ofX (wx_call0 h)
theorem wd_call1 (h : WD K false Γ ta fun x => T [.dat false x] (asD m Q)) : WD K m Γ (tCall (spG K T) [] EE (tCons ta tNil)) Q := .ofX (wx_call1 h)
theorem wd_call2 (h : WD K false Γ ta fun x => WD K false Γ tb fun y => T [.dat false x, .dat false y] (asD m Q)) : WD K m Γ (tCall (spG K T) [] EE (tCons ta (tCons tb tNil))) Q := .ofX (wx_call2 h)
theorem wd_call3 (h : WD K false Γ ta fun x => WD K false Γ tb fun y => WD K false Γ tc fun z => T [.dat false x, .dat false y, .dat false z] (asD m Q)) : WD K m Γ (tCall (spG K T) [] EE (tCons ta (tCons tb (tCons tc tNil)))) Q := .ofX (wx_call3 h)
theorem wd_call4 (h : WD K false Γ ta fun x => WD K false Γ tb fun y => WD K false Γ tc fun z => WD K false Γ td fun u => T [.dat false x, .dat false y, .dat false z, .dat false u] (asD m Q)) : WD K m Γ (tCall (spG K T) [] EE (tCons ta (tCons tb (tCons tc (tCons td tNil))))) Q := .ofX (wx_call4 h)
theorem wd_callO0 {i : Nat} {v : V} {Φ : Own} (hi : Γ[i]? = some (.ex v Φ)) (h : T [.ex v Φ] (asD m Q)) : WD K m Γ (tCall (spG K T) [] EE (tCons (tVar i) tNil)) Q := .ofX (wx_callO0 hi h)
theorem wd_callO1 {i : Nat} {v : V} {Φ : Own} (hi : Γ[i]? = some (.ex v Φ)) (h : WD K false Γ ta fun x => T [.ex v Φ, .dat false x] (asD m Q)) : WD K m Γ (tCall (spG K T) [] EE (tCons (tVar i) (tCons ta tNil))) Q := .ofX (wx_callO1 hi h)
theorem wd_callO2 {i : Nat} {v : V} {Φ : Own} (hi : Γ[i]? = some (.ex v Φ)) (h : WD K false Γ ta fun x => WD K false Γ tb fun y => T [.ex v Φ, .dat false x, .dat false y] (asD m Q)) : WD K m Γ (tCall (spG K T) [] EE (tCons (tVar i) (tCons ta (tCons tb tNil)))) Q := .ofX (wx_callO2 hi h)
theorem wd_callO3 {i : Nat} {v : V} {Φ : Own} (hi : Γ[i]? = some (.ex v Φ)) (h : WD K false Γ ta fun x => WD K false Γ tb fun y => WD K false Γ tc fun z => T [.ex v Φ, .dat false x, .dat false y, .dat false z] (asD m Q)) : WD K m Γ (tCall (spG K T) [] EE (tCons (tVar i) (tCons ta (tCons tb (tCons tc tNil))))) Q := .ofX (wx_callO3 hi h)
end
/-! ### tests -/
theorem iteD {p A B : Prop} [Decidable p] (h1 : p → A) (h2 : ¬ p → B) : if decide p = true then A else B := by
  by_cases h : p
  · rw [decide_eq_true h, if_pos rfl]; exact h1 h
  · rw [decide_eq_false h, if_neg Bool.false_ne_true]; exact h2 h
theorem iteN {p A B : Prop} [Decidable p] (h1 : ¬ p → A) (h2 : p → B) : if (!decide p) = true then A else B := by
  by_cases h : p
  · rw [decide_eq_true h, if_neg (by decide)]; exact h2 h
  · rw [decide_eq_false h, if_pos (by decide)]; exact h1 h
theorem iteB {b : Bool} {A B : Prop} (h1 : b = true → A) (h2 : b = false → B) : if b = true then A else B := by
  cases b with
  | true => rw [if_pos rfl]; exact h1 rfl
  | false => rw [if_neg Bool.false_ne_true]; exact h2 rfl
theorem iteT' {A B : Prop} {b : Bool} (hb : b = true) (h : A) : if b = true then A else B := by rw [if_pos hb]; exact h
theorem iteF' {A B : Prop} {b : Bool} (hb : b = false) (h : B) : if b = true then A else B := by rw [hb, if_neg Bool.false_ne_true]; exact h
/-! ### a list of ints of one's own, of another's def -/
def OwnL (K : PySem.W.Frag) (P : List Int → Prop) : Own where
  K := K
  p := fun _ H v S => ∃ (l : Addr) (ns : List Int), v = .ref l ∧ (∀ b, S b ↔ b = l) ∧ H l = some (.lst (ns.map V.int)) ∧ P ns
  vw := none
  keep := fun {F F' H H' v S} ⟨l, ns, e, hS, hl, hp⟩ _ k => ⟨l, ns, e, hS, (k l ((hS l).mpr rfl)).trans hl, hp⟩
  keepT := fun _ {F F' H H' v S} ⟨l, ns, e, hS, hl, hp⟩ _ k => ⟨l, ns, e, hS, (k l ((hS l).mpr rfl)).trans hl, hp⟩
  view := fun _ _ e => nomatch e
theorem ints_rp {K : PySem.W.Frag} {F : Hp} : ∀ ns : List Int, RpA K F (ns.map V.int) (ns.map PyData.int)
  | [] => .nil
  | n :: ns => .cons (.int n) (ints_rp ns)
section
variable {K : PySem.W.Frag} {Γ : List Sl} {P : Po} {ts : TS}
/-- a slot is told otherwise -/
theorem sj_retell {i : Nat} {s s' : Sl} (hi : Γ[i]? = some s) (h : ∀ (X : Bs) (F H : Hp) (ov : Option V) (S : Addr → Prop), X.K = K → SlOk X F H ov S s → SlOk X F H ov S s') (k : SJ K (Γ.set i s') ts P) : SJ K Γ ts P := fun X hK F H σ E D hD =>
  k X hK F H σ (E.retell Le.rfl' E.le (fun _ _ _ _ => rfl) hi fun S hS q => ⟨S, h X F H _ S hK q, fun a sa => ⟨sa, (hS a sa).1⟩, fun _ z => absurd rfl z⟩) D hD
theorem sj_open (i : Nat) {v : V} {PL : List Int → Prop} (hi : Γ[i]? = some (.ex v (OwnL K PL))) (k : ∀ l ns, v = .ref l → PL ns → SJ K (Γ.set i (.ml false l (ns.map PyData.int))) ts P) : SJ K Γ ts P := fun X hK F H σ E D hD => by
  obtain ⟨S, hs, _, _⟩ := id E.sl
  obtain ⟨e, _, l, ns, rfl, hS, hl, hp⟩ := hs i _ hi
  refine k l ns rfl hp X hK F H σ (E.retell Le.rfl' E.le (fun _ _ _ _ => rfl) hi fun S hS q => ⟨S, ?_, fun a sa => ⟨sa, (hS a sa).1⟩, fun _ z => absurd rfl z⟩) D hD
  obtain ⟨e', _, l', ns', er, hS', hl', hp'⟩ := q
  cases er
  rw [hl] at hl'
  have : ns.map V.int = ns'.map V.int := by injection hl' with z; injection z
  exact ⟨ns.map V.int, e, hS', hl, ints_rp ns, fun z => nomatch z⟩
theorem ints_eq {F : Hp} {xs : List V} {ns : List Int} (r : RpA K F xs (ns.map PyData.int)) : xs = ns.map V.int := ints_of r
theorem sj_close (i : Nat) {m : Bool} {l : Addr} {ns : List Int} (PL : List Int → Prop) (hi : Γ[i]? = some (.ml m l (ns.map PyData.int))) (hp : PL ns) (k : SJ K (Γ.set i (.ex (.ref l) (OwnL K PL))) ts P) : SJ K Γ ts P :=
  sj_retell hi (fun X F H ov S hK q => by
    obtain ⟨xs, e, hS, hl, r, _⟩ := q
    rw [ints_of r] at hl
    exact ⟨e, hK.symm, l, ns, rfl, hS, hl, hp⟩) k
end
/-! ### the script -/
def ScriptO (K : PySem.W.Frag) (ns : List Int) : Own where
  K := K
  p := fun _ H v S => ∃ a : Addr, v = .ref a ∧ SqL K H a (ns.map V.int) ∧ ((∀ b, S b ↔ b = a) ∨ (∀ H', SqL K H' a (ns.map V.int)) ∧ ∀ b, ¬ S b)
  vw := none
  keep := fun {F F' H H' v S} ⟨a, e, h, c⟩ _ k => by
    refine ⟨a, e, ?_, c⟩
    rcases c with c | ⟨c, _⟩
    · have z := k a ((c a).mpr rfl)
      rcases h with (h | ⟨o, h⟩) | h
      · exact .inl (.inl (z.trans h))
      · exact .inl (.inr ⟨o, z.trans h⟩)
      · exact .inr h
    · exact c H'
  keepT := fun _ {F F' H H' v S} ⟨a, e, h, c⟩ _ k => by
    refine ⟨a, e, ?_, c⟩
    rcases c with c | ⟨c, _⟩
    · have z := k a ((c a).mpr rfl)
      rcases h with (h | ⟨o, h⟩) | h
      · exact .inl (.inl (z.trans h))
      · exact .inl (.inr ⟨o, z.trans h⟩)
      · exact .inr h
    · exact c H'
  view := fun _ _ e => nomatch e
section
variable {K : PySem.W.Frag} {m : Bool} {Γ : List Sl} {Q : PyData → Prop} {ta : TE}
theorem En.script {X : Bs} {F H : Hp} {σ : L2.St} (E : En X F H σ Γ) {i : Nat} {v : V} {ns : List Int} (hi : Γ[i]? = some (.ex v (ScriptO K ns))) : ∃ a, v = .ref a ∧ SqL K H a (ns.map V.int) := by
  obtain ⟨S, hs, _, _⟩ := E.sl
  obtain ⟨_, _, a, e, h, _⟩ := hs i _ hi
  exact ⟨a, e, h⟩
theorem wd_lenScript {i : Nat} {v : V} {ns : List Int} (hi : Γ[i]? = some (.ex v (ScriptO K ns))) (q : Q (.int ns.length)) : WD K m Γ (tCB (dLen K) (tCons (tVar i) tNil)) Q := fun X hK F H σ E C k => by
  obtain ⟨a, e, h⟩ := E.script hi
  subst e
  refine ⟨_, E.ex hi, _, ns.length, rfl, .inl ⟨_, h, by simp⟩, k _ F H _ Le.rfl' E (.int _) q⟩
theorem wd_ixScript {i : Nat} {v : V} {ns : List Int} (hi : Γ[i]? = some (.ex v (ScriptO K ns))) (h : WD K false Γ ta fun d => ∃ (n : Int) (c : Int), d = .int n ∧ atI ns n = some c ∧ Q (.int c)) : WD K m Γ (tOp (rIx K) (tVar i) ta) Q := fun X hK F H σ E C k => by
  refine ⟨v, E.ex hi, h X hK F H σ E _ fun u F1 H1 x l1 E1 r1 ⟨n, c, en, hc, q⟩ => ?_⟩
  subst en
  cases r1
  obtain ⟨a, e, hq⟩ := E1.script hi
  subst e
  refine .inl ⟨a, _, n, .int c, rfl, rfl, hq, ?_, k _ F1 H1 _ l1 E1 (.int _) q⟩
  unfold atI at hc ⊢
  rw [List.length_map]
  cases hx : ixN ns.length n with
  | none => rw [hx] at hc; cases hc
  | some j =>
    rw [hx] at hc
    simp only [Option.bind_some] at hc ⊢
    rw [List.getElem?_map, hc]
    rfl
end
end Pk
end
section
set_option Elab.async false
set_option linter.all false
set_option maxRecDepth 100000
/-! The data layer, part 7: comprehensions by what each item gives; items of written lists. -/
namespace Pk
open PySem PySem.Spec PyProof.Rows L2
section
variable {K : PySem.W.Frag} {m mi : Bool} {Γ : List Sl} {Q : PyData → Prop} {QX : Sl → Prop} {ta tb te : TE} {wi : TI} {g : TG} {tt : TT} {vs : List Nat}
theorem WI.mono {QI QI' : List PyData → Prop} (h : WI K m Γ wi QI) (k : ∀ ds, QI ds → QI' ds) : WI K m Γ wi QI' := fun X hK F H σ E C c => h X hK F H σ E C fun J F' H' G Y ds l E' w a b q => c J F' H' G Y ds l E' w a b (k ds q)
theorem GJ.mono {N N' : List Sl → Prop} {d : PyData} (h : GJ K m Γ g d N) (k : ∀ Γ, N Γ → N' Γ) : GJ K m Γ g d N' := fun X hK F H σ E v r C c => h X hK F H σ E v r C fun F' H' σ' Γ' l E' q => c F' H' σ' Γ' l E' (k Γ' q)
/-- each item gives what R tells -/
theorem wx_lcF (m : Bool) (R : Nat → PyData → PyData → Prop) (hv : wipeOk Γ vs) (hgw : Gw g vs)
    (h : WI K mi Γ wi fun ds => ds.length ≤ 100000 ∧ (∀ (i : Nat) (d : PyData), ds[i]? = some d → GJ K mi (wipeG Γ vs) g d fun Γ2 => wipeG Γ2 vs = wipeG Γ vs ∧ WD K m Γ2 te (R i d)) ∧
      ∀ acc, acc.length = ds.length → (∀ (i : Nat) (d y : PyData), ds[i]? = some d → acc[i]? = some y → R i d y) → ∀ l, QX (.ml m l acc)) : WX K Γ (tLc wi g tYes te vs) QX :=
  wx_lc m hv hgw (h.mono fun ds ⟨hz, hs, he⟩ => ⟨fun n acc => acc.length = n ∧ ∀ (i : Nat) (d y : PyData), ds[i]? = some d → acc[i]? = some y → R i d y, hz, ⟨rfl, fun i d y _ e => by simp at e⟩,
    fun i d acc hd _ ⟨hl, ha⟩ => (hs i d hd).mono fun Γ2 ⟨e, w⟩ => ⟨e, wt_yes (by
      rw [if_pos rfl]
      refine w.mono fun y hy => ⟨by simp [hl], fun j d' y' h1 h2 => ?_⟩
      by_cases hj : j < acc.length
      · rw [List.getElem?_append_left hj] at h2
        exact ha j d' y' h1 h2
      · have hj2 : j < (acc ++ [y]).length := (List.getElem?_eq_some_iff.mp h2).1
        simp at hj2
        have hji : j = i := by omega
        subst hji
        rw [← hl] at h2
        simp at h2
        subst h2
        rw [hd] at h1
        cases h1
        exact hy)⟩,
    fun acc _ ⟨hl, ha⟩ l => he acc hl ha l⟩)
/-- each item gives f of it -/
theorem wx_lcM (m : Bool) (f : PyData → PyData) (hv : wipeOk Γ vs) (hgw : Gw g vs)
    (h : WI K mi Γ wi fun ds => ds.length ≤ 100000 ∧ (∀ (i : Nat) (d : PyData), ds[i]? = some d → GJ K mi (wipeG Γ vs) g d fun Γ2 => wipeG Γ2 vs = wipeG Γ vs ∧ WD K m Γ2 te fun y => y = f d) ∧ ∀ l, QX (.ml m l (ds.map f))) : WX K Γ (tLc wi g tYes te vs) QX :=
  wx_lcF m (fun _ d y => y = f d) hv hgw (h.mono fun ds ⟨hz, hs, he⟩ => ⟨hz, hs, fun acc hl ha l => by
    have : acc = ds.map f := by
      apply List.ext_getElem?
      intro i
      by_cases hi : i < ds.length
      · have h1 : ds[i]? = some ds[i] := List.getElem?_eq_getElem hi
        have h2 : acc[i]? = some (acc[i]'(by omega)) := List.getElem?_eq_getElem (by omega)
        rw [h2, List.getElem?_map, h1, ha i _ _ h1 h2]
        rfl
      · rw [List.getElem?_eq_none (by omega), List.getElem?_eq_none (by simp; omega)]
    rw [this]
    exact he l⟩)
/-- those that p keeps, f of each -/
theorem wx_lcP (m : Bool) (p : PyData → Bool) (f : PyData → PyData) (hv : wipeOk Γ vs) (hgw : Gw g vs)
    (h : WI K mi Γ wi fun ds => ds.length ≤ 100000 ∧ (∀ (i : Nat) (d : PyData), ds[i]? = some d → GJ K mi (wipeG Γ vs) g d fun Γ2 => wipeG Γ2 vs = wipeG Γ vs ∧ WT K Γ2 tt fun b => b = p d ∧ (b = true → WD K m Γ2 te fun y => y = f d)) ∧ ∀ l, QX (.ml m l ((ds.filter p).map f))) : WX K Γ (tLc wi g tt te vs) QX :=
  wx_lc m hv hgw (h.mono fun ds ⟨hz, hs, he⟩ => ⟨fun n acc => acc = ((ds.take n).filter p).map f, hz, by simp,
    fun i d acc hd _ ha => (hs i d hd).mono fun Γ2 ⟨e, w⟩ => ⟨e, w.mono fun b ⟨hb, hw⟩ => by
      have ht : ds.take (i + 1) = ds.take i ++ [d] := by rw [List.take_add_one, hd]; rfl
      cases hp : b with
      | true =>
        rw [if_pos rfl]
        refine (hw hp).mono fun y hy => ?_
        show acc ++ [y] = ((ds.take (i + 1)).filter p).map f
        have ha : acc = ((ds.take i).filter p).map f := ha
        rw [ht, List.filter_append, List.map_append, ha, hy]
        rw [hb] at hp
        simp [hp]
      | false =>
        rw [if_neg Bool.false_ne_true]
        show acc = ((ds.take (i + 1)).filter p).map f
        have ha : acc = ((ds.take i).filter p).map f := ha
        rw [ht, List.filter_append, List.map_append, ha]
        rw [hb] at hp
        simp [hp]⟩,
    fun acc _ ha l => by
      have ha : acc = ((ds.take ds.length).filter p).map f := ha
      rw [ha, List.take_length]
      exact he l⟩)
/-- .. of typed items -/
theorem wx_lcPa {α : Type} (m : Bool) (enc : α → PyData) (p : α → Bool) (f : α → PyData) (hv : wipeOk Γ vs) (hgw : Gw g vs)
    (h : WI K mi Γ wi fun ds => ∃ xs : List α, ds = xs.map enc ∧ xs.length ≤ 100000 ∧ (∀ (i : Nat) (x : α), xs[i]? = some x → GJ K mi (wipeG Γ vs) g (enc x) fun Γ2 => wipeG Γ2 vs = wipeG Γ vs ∧ WT K Γ2 tt fun b => b = p x ∧ (b = true → WD K m Γ2 te fun y => y = f x)) ∧ ∀ l, QX (.ml m l ((xs.filter p).map f))) : WX K Γ (tLc wi g tt te vs) QX :=
  wx_lc m hv hgw (h.mono fun ds ⟨xs, ed, hz, hs, he⟩ => by
    subst ed
    refine ⟨fun n acc => acc = ((xs.take n).filter p).map f, by simpa using hz, by simp, fun i d acc hd _ ha => ?_, fun acc _ ha l => ?_⟩
    · rw [List.getElem?_map] at hd
      cases hx : xs[i]? with
      | none => rw [hx] at hd; cases hd
      | some x =>
        rw [hx] at hd
        cases hd
        have ha : acc = ((xs.take i).filter p).map f := ha
        refine (hs i x hx).mono fun Γ2 ⟨e, w⟩ => ⟨e, w.mono fun b ⟨hb, hw⟩ => ?_⟩
        have ht : xs.take (i + 1) = xs.take i ++ [x] := by rw [List.take_add_one, hx]; rfl
        cases hp : b with
        | true =>
          rw [if_pos rfl]
          refine (hw hp).mono fun y hy => ?_
          show acc ++ [y] = ((xs.take (i + 1)).filter p).map f
          rw [ht, List.filter_append, List.map_append, ha, hy]
          rw [hb] at hp
          simp [hp]
        | false =>
          rw [if_neg Bool.false_ne_true]
          show acc = ((xs.take (i + 1)).filter p).map f
          rw [ht, List.filter_append, List.map_append, ha]
          rw [hb] at hp
          simp [hp]
    · have ha : acc = ((xs.take (xs.map enc).length).filter p).map f := ha
      rw [ha, List.length_map, List.take_length]
      exact he l)
theorem wx_lcMa {α : Type} (m : Bool) (enc : α → PyData) (f : α → PyData) (hv : wipeOk Γ vs) (hgw : Gw g vs)
    (h : WI K mi Γ wi fun ds => ∃ xs : List α, ds = xs.map enc ∧ xs.length ≤ 100000 ∧ (∀ (i : Nat) (x : α), xs[i]? = some x → GJ K mi (wipeG Γ vs) g (enc x) fun Γ2 => wipeG Γ2 vs = wipeG Γ vs ∧ WD K m Γ2 te fun y => y = f x) ∧ ∀ l, QX (.ml m l (xs.map f))) : WX K Γ (tLc wi g tYes te vs) QX :=
  wx_lcPa m enc (fun _ => true) f hv hgw (h.mono fun ds ⟨xs, ed, hz, hs, he⟩ => ⟨xs, ed, hz, fun i x hx => (hs i x hx).mono fun Γ2 ⟨e, w⟩ => ⟨e, wt_yes ⟨rfl, fun _ => w⟩⟩, fun l => by
    have : xs.filter (fun _ => true) = xs := by simp
    rw [this]
    exact he l⟩)
theorem wd_lcPa {α : Type} (enc : α → PyData) (p : α → Bool) (f : α → PyData) (hv : wipeOk Γ vs) (hgw : Gw g vs)
    (h : WI K mi Γ wi fun ds => ∃ xs : List α, ds = xs.map enc ∧ xs.length ≤ 100000 ∧ (∀ (i : Nat) (x : α), xs[i]? = some x → GJ K mi (wipeG Γ vs) g (enc x) fun Γ2 => wipeG Γ2 vs = wipeG Γ vs ∧ WT K Γ2 tt fun b => b = p x ∧ (b = true → WD K m Γ2 te fun y => y = f x)) ∧ Q (.list ((xs.filter p).map f))) : WD K m Γ (tLc wi g tt te vs) Q :=
  .ofX (wx_lcPa m enc p f hv hgw (h.mono fun ds ⟨xs, ed, hz, hs, q⟩ => ⟨xs, ed, hz, hs, fun l => ⟨_, toD_ml, q⟩⟩))
theorem wd_lcMa {α : Type} (enc : α → PyData) (f : α → PyData) (hv : wipeOk Γ vs) (hgw : Gw g vs)
    (h : WI K mi Γ wi fun ds => ∃ xs : List α, ds = xs.map enc ∧ xs.length ≤ 100000 ∧ (∀ (i : Nat) (x : α), xs[i]? = some x → GJ K mi (wipeG Γ vs) g (enc x) fun Γ2 => wipeG Γ2 vs = wipeG Γ vs ∧ WD K m Γ2 te fun y => y = f x) ∧ Q (.list (xs.map f))) : WD K m Γ (tLc wi g tYes te vs) Q :=
  .ofX (wx_lcMa m enc f hv hgw (h.mono fun ds ⟨xs, ed, hz, hs, q⟩ => ⟨xs, ed, hz, hs, fun l => ⟨_, toD_ml, q⟩⟩))
theorem wd_lcF (R : Nat → PyData → PyData → Prop) (hv : wipeOk Γ vs) (hgw : Gw g vs)
    (h : WI K mi Γ wi fun ds => ds.length ≤ 100000 ∧ (∀ (i : Nat) (d : PyData), ds[i]? = some d → GJ K mi (wipeG Γ vs) g d fun Γ2 => wipeG Γ2 vs = wipeG Γ vs ∧ WD K m Γ2 te (R i d)) ∧
      ∀ acc, acc.length = ds.length → (∀ (i : Nat) (d y : PyData), ds[i]? = some d → acc[i]? = some y → R i d y) → Q (.list acc)) : WD K m Γ (tLc wi g tYes te vs) Q :=
  .ofX (wx_lcF m R hv hgw (h.mono fun ds ⟨hz, hs, q⟩ => ⟨hz, hs, fun acc a b l => ⟨_, toD_ml, q acc a b⟩⟩))
/-- an item of a list at a drawn place -/
theorem rd_sel {ds : List PyData} {n : Int} (h0 : 0 ≤ n) (h1 : n < ds.length) (q : ∀ d ∈ ds, Q d) : RD K m Γ (rIx K) (.list ds) (.int n) Q := by
  have hl : n.toNat < ds.length := by omega
  exact rd_ixL (d := ds[n.toNat]) (atI_of (n := n.toNat) (by omega) (by simp [hl])) (q _ (List.getElem_mem hl))
theorem rd_selN {ds : List PyData} {n : Int} (j : Nat) (e : n = j) {d : PyData} (h : ds[j]? = some d) (q : Q d) : RD K m Γ (rIx K) (.list ds) (.int n) Q := rd_ixL (atI_of e h) q
theorem gwn {i : Nat} : Gw (gName i) [i] := gw_name (by simp)
/-- over range, the slot's own name -/
theorem wi_rng {mi : Bool} {ta : TE} {QI : List PyData → Prop} (h : WD K false Γ ta fun d => ∃ j : Int, d = .int j ∧ (-(2 ^ 62) ≤ j ∧ j < 2 ^ 62) ∧ QI (rangeD 0 j.toNat)) : WI K mi Γ (iRng1 (tCons ta tNil)) QI := wi_rng1 (wa_d (h.mono fun d ⟨j, e, hj, q⟩ => wa_nil ⟨j, by rw [e], hj, q⟩))
end
end Pk
end
section
set_option Elab.async false
set_option linter.all false
set_option maxRecDepth 100000
/-! The data layer, part 8: a told list of pairs, each with a list of its own. -/
namespace Pk
open PySem PySem.Spec PyProof.Rows L2
abbrev Prs := List (List PyData × PyData)
def pairsD (rs : Prs) : List PyData := rs.map fun r => .tuple [.list r.1, r.2]
def LfP (rs : Prs) : Prop := ∀ r ∈ rs, lfA r.1 = true ∧ lf r.2 = true
/-- the i-th: a tuple at t of the list at c and w -/
def PairAt (K : PySem.W.Frag) (F H : Hp) (r : List PyData × PyData) (t c : Addr) : Prop := ∃ w xs, SqT K F t [.ref c, w] ∧ Rp K F w r.2 ∧ H c = some (.lst xs) ∧ RpA K F xs r.1
def PairsP (K : PySem.W.Frag) (rs : Prs) (F H : Hp) (v : V) (S : Addr → Prop) : Prop := ∃ (l : Addr) (ts cs : List Addr), v = .ref l ∧ H l = some (.lst (ts.map V.ref)) ∧ ts.length = rs.length ∧ cs.length = rs.length ∧ (l :: cs).Nodup ∧ (∀ a, S a ↔ a = l ∨ a ∈ cs) ∧ LfP rs ∧
  ∀ (i : Nat) r t c, rs[i]? = some r → ts[i]? = some t → cs[i]? = some c → PairAt K F H r t c
theorem lay_tup {K : PySem.W.Frag} {F H : Hp} {S : Addr → Prop} (le : Le F H) (hS : ∀ a, S a → ∃ xs, H a = some (.lst xs)) : TupLe K F (lay S H F) := by
  refine ⟨fun a xs h => ?_, fun a fs h => by
    unfold lay
    rw [if_neg]
    · exact h
    · intro sa
      obtain ⟨ys, q⟩ := hS a sa
      rw [le _ _ h] at q; cases q⟩
  rcases h with (h | ⟨o, h⟩) | h
  · refine .inl (.inl ?_)
    unfold lay
    rw [if_neg]
    · exact h
    · intro sa
      obtain ⟨ys, q⟩ := hS a sa
      rw [le _ _ h] at q; cases q
  · refine .inl (.inr ⟨o, ?_⟩)
    unfold lay
    rw [if_neg]
    · exact h
    · intro sa
      obtain ⟨ys, q⟩ := hS a sa
      rw [le _ _ h] at q; cases q
  · exact .inr h
theorem lay_at {F H : Hp} {S : Addr → Prop} {a : Addr} (h : S a) : lay S H F a = H a := by unfold lay; rw [if_pos h]
theorem rpA_of {K : PySem.W.Frag} {F : Hp} : ∀ {xs : List V} {ds : List PyData}, xs.length = ds.length → (∀ (i : Nat) x d, xs[i]? = some x → ds[i]? = some d → Rp K F x d) → RpA K F xs ds
  | [], [], _, _ => .nil
  | [], _ :: _, h, _ => by simp at h
  | _ :: _, [], h, _ => by simp at h
  | x :: xs, d :: ds, h, k => .cons (k 0 x d rfl rfl) (rpA_of (by simpa using h) fun i y e h1 h2 => k (i + 1) y e (by simpa using h1) (by simpa using h2))
def PairsO (K : PySem.W.Frag) (rs : Prs) : Own where
  K := K
  p := PairsP K rs
  vw := some (.list (pairsD rs))
  keep := fun {F F' H H' v S} ⟨l, ts, cs, e, hl, h1, h2, nd, hS, hf, hp⟩ le k => by
    have tl : TupLe K F F' := le.tup
    refine ⟨l, ts, cs, e, (k l ((hS l).mpr (.inl rfl))).trans hl, h1, h2, nd, hS, hf, fun i r t c a b d => ?_⟩
    obtain ⟨w, xs, q1, q2, q3, q4⟩ := hp i r t c a b d
    have hm : r ∈ rs := List.mem_of_getElem? a
    exact ⟨w, xs, tl.1 _ _ q1, Rp.lfree tl _ (hf r hm).2 q2, (k c ((hS c).mpr (.inr (List.mem_of_getElem? d)))).trans q3, RpA.lfree tl _ (hf r hm).1 q4⟩
  keepT := fun e => nomatch e
  view := fun {F H v S d} le ⟨l, ts, cs, e, hl, h1, h2, nd, hS, hf, hp⟩ ed => by
    cases ed
    have hL : ∀ a, S a → ∃ xs, H a = some (.lst xs) := fun a sa => by
      rcases (hS a).mp sa with z | z
      · subst z; exact ⟨_, hl⟩
      · obtain ⟨i, hi⟩ := List.getElem?_of_mem z
        have hil : i < cs.length := (List.getElem?_eq_some_iff.mp hi).1
        obtain ⟨w, xs, _, _, q3, _⟩ := hp i rs[i] ts[i] a (by simp [show i < rs.length by omega]) (by simp [show i < ts.length by omega]) hi
        exact ⟨xs, q3⟩
    refine ⟨?_, hL⟩
    subst e
    have tl := lay_tup (K := K) le hL
    refine .lst (by rw [lay_at ((hS l).mpr (.inl rfl))]; exact hl) (rpA_of (by simp [pairsD, h1]) fun i x d hx hd => ?_)
    rw [List.getElem?_map] at hx
    unfold pairsD at hd
    rw [List.getElem?_map] at hd
    cases ht : ts[i]? with
    | none => rw [ht] at hx; cases hx
    | some t =>
      rw [ht] at hx
      cases hx
      cases hr : rs[i]? with
      | none => rw [hr] at hd; cases hd
      | some r =>
        rw [hr] at hd
        cases hd
        have hil : i < rs.length := (List.getElem?_eq_some_iff.mp hr).1
        have hc : cs[i]? = some cs[i] := by simp [show i < cs.length by omega]
        obtain ⟨w, xs, q1, q2, q3, q4⟩ := hp i r t _ hr ht hc
        have hm : r ∈ rs := List.mem_of_getElem? hr
        exact .tup (tl.1 _ _ q1) (.cons (.lst (by rw [lay_at ((hS _).mpr (.inr (List.mem_of_getElem? hc)))]; exact q3) (RpA.lfree tl _ (hf r hm).1 q4)) (.cons (Rp.lfree tl _ (hf r hm).2 q2) .nil))
/-- the slots of others' things alone -/
def Sl.exo : Sl → Sl
  | .ex v Φ => match Φ.vw with
    | none => .ex v Φ
    | some _ => .no
  | _ => .no
section
variable {K : PySem.W.Frag} {Γ : List Sl} {P : Po}
open Classical in
/-- return of such a list, all of it new; lists that are unlike are not one -/
theorem sjt_retPairs {i : Nat} {l : Addr} {rs : Prs} (hi : Γ[i]? = some (.ml true l (pairsD rs))) (hf : LfP rs) (hI : ∀ r ∈ rs, ∃ ns : List Int, r.1 = ns.map PyData.int) (nd : (rs.map Prod.fst).Nodup) (h : P.rt (.ex (.ref l) (PairsO K rs)) (Γ.map Sl.exo)) : SJt K Γ (tRet (tVar i)) P := fun X hK hT F H σ E D hD => by
  subst hK
  obtain ⟨xs, ev, hl, fl, rx⟩ := E.ml hi
  obtain ⟨S, hs, hdj, ho⟩ := id E.sl
  obtain ⟨_, _, hSi, _, _, nl⟩ := hs i _ hi
  refine ⟨_, ev, ?_⟩
  have hlen : xs.length = rs.length := by rw [rx.length]; simp [pairsD]
  -- each item
  have item : ∀ (j : Nat), j < rs.length → ∃ t c, xs[j]? = some (.ref t) ∧ ∃ w ys, SqT X.K (cutN X.N F) t [.ref c, w] ∧ Rp X.K (cutN X.N F) w (rs[j]?.getD ([], .none)).2 ∧ cutN X.N F c = some (.lst ys) ∧ RpA X.K (cutN X.N F) ys (rs[j]?.getD ([], .none)).1 := fun j hj => by
    have hd : (pairsD rs)[j]? = some (.tuple [.list rs[j].1, rs[j].2]) := by simp [pairsD, hj]
    obtain ⟨x, hx, r⟩ := rx.get hd
    cases r with
    | tup ht ra =>
      cases ra with
      | cons r1 rr =>
        cases rr with
        | cons r2 rn =>
          cases rn
          cases r1 with
          | lst hc ry =>
            refine ⟨_, _, hx, _, _, ht, ?_, hc, ?_⟩
            · simp only [List.getElem?_eq_getElem hj, Option.getD_some]; exact r2
            · simp only [List.getElem?_eq_getElem hj, Option.getD_some]; exact ry
  let tf : Nat → Addr := fun j => if hj : j < rs.length then (item j hj).choose else 0
  let cf : Nat → Addr := fun j => if hj : j < rs.length then (item j hj).choose_spec.choose else 0
  have hit : ∀ (j : Nat), j < rs.length → xs[j]? = some (.ref (tf j)) ∧ ∃ w ys, SqT X.K (cutN X.N F) (tf j) [.ref (cf j), w] ∧ Rp X.K (cutN X.N F) w (rs[j]?.getD ([], .none)).2 ∧ cutN X.N F (cf j) = some (.lst ys) ∧ RpA X.K (cutN X.N F) ys (rs[j]?.getD ([], .none)).1 := fun j hj => by
    have e1 : tf j = (item j hj).choose := by simp [tf, hj]
    have e2 : cf j = (item j hj).choose_spec.choose := by simp [cf, hj]
    rw [e1, e2]
    exact (item j hj).choose_spec.choose_spec
  let ts := (List.range rs.length).map tf
  let cs := (List.range rs.length).map cf
  have hxs : xs = ts.map V.ref := by
    apply List.ext_getElem?
    intro j
    by_cases hj : j < rs.length
    · rw [(hit j hj).1]; simp [ts, hj]
    · rw [List.getElem?_eq_none (by omega), List.getElem?_eq_none (by simp [ts]; omega)]
  have hcs : ∀ a, a ∈ cs → ∃ j, j < rs.length ∧ a = cf j := fun a ha => by
    obtain ⟨j, hj, e⟩ := List.mem_map.mp ha
    exact ⟨j, List.mem_range.mp hj, e.symm⟩
  have hcF : ∀ a, a ∈ cs → ¬ X.N a ∧ ∃ ys, F a = some (.lst ys) := fun a ha => by
    obtain ⟨j, hj, e⟩ := hcs a ha
    obtain ⟨_, w, ys, _, _, hc, _⟩ := hit j hj
    subst e
    exact ⟨(cutN_lst hc).1, ys, (cutN_lst hc).2⟩
  have lnc : l ∉ cs := fun hm => by
    obtain ⟨_, ys, q⟩ := hcF l hm
    rw [fl] at q; cases q
  have cnd : cs.Nodup := by
    refine List.pairwise_iff_getElem.mpr ?_
    intro a b ha hb hab heq
    simp only [cs, List.length_map, List.length_range] at ha hb
    simp only [cs, List.getElem_map, List.getElem_range] at heq
    obtain ⟨_, w1, ys1, _, _, c1, r1⟩ := hit a ha
    obtain ⟨_, w2, ys2, _, _, c2, r2⟩ := hit b hb
    rw [heq, c2] at c1
    have ey : ys2 = ys1 := by injection c1 with z; injection z
    subst ey
    -- the same list stands for both
    have same : (rs[a]?.getD ([], .none)).1 = (rs[b]?.getD ([], .none)).1 := by
      obtain ⟨n1, u1⟩ := hI _ (List.getElem_mem ha)
      obtain ⟨n2, u2⟩ := hI _ (List.getElem_mem hb)
      rw [List.getElem?_eq_getElem ha, Option.getD_some] at r1 ⊢
      rw [List.getElem?_eq_getElem hb, Option.getD_some] at r2 ⊢
      rw [u1] at r1 ⊢
      rw [u2] at r2 ⊢
      have e1 := ints_of r1
      have e2 := ints_of r2
      have : n1 = n2 := List.map_inj_right (fun x y z => V.int.inj z) |>.mp (e1.symm.trans e2)
      rw [this]
    rw [List.getElem?_eq_getElem ha, List.getElem?_eq_getElem hb, Option.getD_some, Option.getD_some] at same
    have h3 : (rs.map Prod.fst)[a]'(by simpa using ha) = (rs.map Prod.fst)[b]'(by simpa using hb) := by simpa using same
    have := (List.getElem_inj nd).mp h3
    omega
  let SS : Addr → Prop := fun a => a = l ∨ a ∈ cs
  let F' : Hp := fun a => if SS a then none else F a
  have fN : ∀ {a}, ¬ SS a → F' a = F a := fun h => if_neg h
  have fY : ∀ {a}, SS a → F' a = none := fun h => if_pos h
  have le' : Le F' F := fun a o q => by
    by_cases h : SS a
    · rw [fY h] at q; cases q
    · rw [fN h] at q; exact q
  have notN : ∀ a, SS a → ¬ X.N a := fun a sa => by
    rcases sa with z | z
    · subst z; exact nl rfl
    · exact (hcF a z).1
  have h0 : ∀ a, SS a → X.H0 a = none := fun a sa => by
    cases q : X.H0 a with
    | none => rfl
    | some o => exact absurd ((hT.1 a).mpr (by rw [q]; simp)) (notN a sa)
  have tl : TupLe X.K F F' := by
    have nS : ∀ {a : Addr} {o : HO}, F a = some o → (∀ zs, o ≠ .lst zs) → ¬ SS a := fun {a o} q no sa => by
      rcases sa with z | z
      · subst z; rw [fl] at q; cases q
      · obtain ⟨_, ws, q2⟩ := hcF a z
        rw [q] at q2; cases q2; exact no _ rfl
    refine ⟨fun a ys z => ?_, fun a fs z => by rw [fN (nS z fun _ w => nomatch w)]; exact z⟩
    rcases z with (z | ⟨o, z⟩) | z
    · exact .inl (.inl (by rw [fN (nS z fun _ w => nomatch w)]; exact z))
    · exact .inl (.inr ⟨o, by rw [fN (nS z fun _ w => nomatch w)]; exact z⟩)
    · exact .inr z
  have tl2 : TupLe X.K (cutN X.N F) F' := ⟨fun a ys z => tl.1 a ys (sqT_le (cutN_le X.N F) z), fun a fs z => tl.2 a fs (cutN_le X.N F a _ z)⟩
  refine hD.rt F' H σ (Γ.map Sl.exo) (.ref l) (.ex (.ref l) (PairsO X.K rs)) ⟨le'.tr E.le, by simp [E.len], ⟨fun j a => (j < Γ.length ∧ (∃ v Φ, Γ[j]? = some (.ex v Φ) ∧ Φ.vw = none) ∧ S j a) ∨ (j = Γ.length ∧ SS a), fun j u e => ?_, fun j k a q1 q2 => ?_, fun j a q => ?_⟩, fun a o e n => ?_, fun a o q => ?_, E.nn⟩ h
  · have hj : j < (Γ.map Sl.exo ++ [Sl.ex (.ref l) (PairsO X.K rs)]).length := (List.getElem?_eq_some_iff.mp e).1
    simp only [List.length_append, List.length_map, List.length_cons, List.length_nil] at hj
    by_cases hlt : j < Γ.length
    · rw [List.getElem?_append_left (by simpa using hlt), List.getElem?_map, List.getElem?_eq_getElem hlt] at e
      rw [getD_app (by rw [E.len]; exact hlt)]
      have hg : Γ[j]? = some Γ[j] := List.getElem?_eq_getElem hlt
      simp only [Option.map_some, Option.some.injEq] at e
      subst e
      cases hu : Γ[j] with
      | ex v Φ =>
        rw [hu] at hg
        cases hv : Φ.vw with
        | some dv =>
          simp only [Sl.exo, hv]
          intro a z
          rcases z with ⟨_, ⟨v', Φ', z, hz⟩, _⟩ | ⟨z, _⟩
          · rw [hg] at z
            cases z
            rw [hv] at hz
            cases hz
          · omega
        | none =>
        simp only [Sl.exo, hv]
        obtain ⟨e0, hk, p⟩ := hs j _ hg
        have eS : (fun a => (j < Γ.length ∧ (∃ v Φ, Γ[j]? = some (.ex v Φ) ∧ Φ.vw = none) ∧ S j a) ∨ (j = Γ.length ∧ SS a)) = S j := by
          funext a
          apply propext
          constructor
          · rintro (⟨_, _, z⟩ | ⟨z, _⟩)
            · exact z
            · omega
          · intro z; exact .inl ⟨hlt, ⟨v, Φ, hg, hv⟩, z⟩
        show SlOk X F' H _ (fun a => (j < Γ.length ∧ (∃ v Φ, Γ[j]? = some (.ex v Φ) ∧ Φ.vw = none) ∧ S j a) ∨ (j = Γ.length ∧ SS a)) (.ex v Φ)
        rw [eS]
        exact ⟨e0, hk, Φ.keepT hv p (by rw [hk]; exact tl) fun _ _ => rfl⟩
      | _ =>
        rw [hu] at hg
        intro a z
        rcases z with ⟨_, ⟨v, Φ, z, _⟩, _⟩ | ⟨z, _⟩
        · rw [hg] at z; cases z
        · omega
    · have hje : j = Γ.length := by omega
      subst hje
      have e' : (Γ.map Sl.exo ++ [Sl.ex (.ref l) (PairsO X.K rs)])[Γ.length]? = some (.ex (.ref l) (PairsO X.K rs)) := by
        have : Γ.length = (Γ.map Sl.exo).length := by simp
        rw [this]; simp
      rw [e'] at e
      cases e
      have eS : (fun a => (Γ.length < Γ.length ∧ (∃ v Φ, Γ[Γ.length]? = some (.ex v Φ) ∧ Φ.vw = none) ∧ S Γ.length a) ∨ (Γ.length = Γ.length ∧ SS a)) = SS := by
        funext a
        apply propext
        constructor
        · rintro (⟨z, _⟩ | ⟨_, z⟩)
          · omega
          · exact z
        · intro z; exact .inr ⟨rfl, z⟩
      show SlOk X F' H _ (fun a => (Γ.length < Γ.length ∧ (∃ v Φ, Γ[Γ.length]? = some (.ex v Φ) ∧ Φ.vw = none) ∧ S Γ.length a) ∨ (Γ.length = Γ.length ∧ SS a)) _
      rw [eS, ← E.len, getD_last]
      refine ⟨rfl, rfl, l, ts, cs, rfl, by rw [← hxs]; exact hl, by simp [ts], by simp [cs], List.nodup_cons.mpr ⟨lnc, cnd⟩, fun a => Iff.rfl, hf, fun j r t c e1 e2 e3 => ?_⟩
      have hj : j < rs.length := (List.getElem?_eq_some_iff.mp e1).1
      have et : t = tf j := by simpa [ts, hj] using e2.symm
      have ec : c = cf j := by simpa [cs, hj] using e3.symm
      obtain ⟨_, w, ys, q1, q2, q3, q4⟩ := hit j hj
      rw [e1, Option.getD_some] at q2 q4
      subst et ec
      have hm : r ∈ rs := List.mem_of_getElem? e1
      exact ⟨w, ys, tl2.1 _ _ q1, Rp.lfree tl2 _ (hf r hm).2 q2, E.le _ _ (cutN_le _ _ _ _ q3), RpA.lfree tl2 _ (hf r hm).1 q4⟩
  · have exS : ∀ j a, S j a → (∃ v Φ, Γ[j]? = some (Sl.ex v Φ) ∧ Φ.vw = none) → ¬ SS a := fun j a sa ⟨v, Φ, hg, _⟩ ss => by
      rcases ss with z | z
      · subst z
        have := hdj j i a sa ((hSi a).mpr rfl)
        subst this
        rw [hi] at hg; cases hg
      · obtain ⟨_, ys, q⟩ := hcF a z
        rw [(ho j a sa).1] at q; cases q
    rcases q1 with ⟨a1, b1, c1⟩ | ⟨a1, c1⟩ <;> rcases q2 with ⟨a2, b2, c2⟩ | ⟨a2, c2⟩
    · exact hdj j k a c1 c2
    · exact absurd c2 (exS j a c1 b1)
    · exact absurd c1 (exS k a c2 b2)
    · omega
  · rcases q with ⟨a1, b1, c1⟩ | ⟨a1, c1⟩
    · refine ⟨?_, (ho j a c1).2⟩
      by_cases z : SS a
      · exact fY z
      · rw [fN z]; exact (ho j a c1).1
    · refine ⟨fY c1, ?_, .inl (h0 a c1)⟩
      rcases c1 with z | z
      · subst z; rw [hl]; simp
      · obtain ⟨_, ys, q⟩ := hcF a z
        rw [E.le _ _ q]; simp
  · obtain ⟨q1, q2⟩ := E.fr a o e n
    refine ⟨q1, ?_⟩
    rw [fN fun sa => by rw [h0 a sa] at e; cases e]
    exact q2
  · have q' := E.f0 a o q
    rw [fN]
    · exact q'
    · intro sa
      have := hT.2 a o q
      rw [h0 a sa] at this
      cases this
end
end Pk
end
section
set_option Elab.async false
set_option linter.all false
set_option maxRecDepth 100000
/-! The data layer, part 9: such a list changed by its asker. -/
namespace Pk
open PySem PySem.Spec PyProof.Rows L2
def appP (c : Int) (rs : Prs) : Prs := rs.map fun r => (r.1 ++ [.int c], r.2)
section
variable {K : PySem.W.Frag} {Γ : List Sl} {P : Po}
theorem getD_set_ne {σ : L2.St} {a j : Nat} {o : Option V} (h : j ≠ a) : (σ.set a o).getD j none = σ.getD j none := by simp [List.getD_eq_getElem?_getD, List.getElem?_set_ne (Ne.symm h)]
/-- for choices, end in found: choices.append(c) -/
theorem sj_forApp {i a b : Nat} {v : V} {rs : Prs} {c0 : Int} (hi : Γ[i]? = some (.ex v (PairsO K rs))) (hia : i ≠ a) (hib : i ≠ b) (hab : a ≠ b) (hal : a < Γ.length) (hbl : b < Γ.length) (hz : ∀ r ∈ rs, r.1.length < 100000)
    (h : P.nx (((Γ.set i (.ex v (PairsO K (appP c0 rs)))).set a .no).set b .no)) : SJ K Γ (tFor (iList K (tVar i)) (gTup K 2 (gCons (gName a) (gCons (gName b) gNil))) (tDrop (tBM K "list" rAppend (tVar a) (tCons (tC (.int c0)) tNil)))) P := fun X hK F H σ E D hD => by
  subst hK
  have ev := E.ex hi
  obtain ⟨S, hs, hdj, ho⟩ := id E.sl
  obtain ⟨e0, hk, l, ts, cs, rfl, hl, h1, h2, nd, hS, hf, hp⟩ := hs i _ hi
  have lnc : l ∉ cs := (List.nodup_cons.mp nd).1
  have cnd : cs.Nodup := (List.nodup_cons.mp nd).2
  have fc : ∀ c, c ∈ cs → F c = none := fun c hc => (ho i c ((hS c).mpr (.inr hc))).1
  have pat : ∀ (j : Nat), j < rs.length → ∃ r t c, rs[j]? = some r ∧ ts[j]? = some t ∧ cs[j]? = some c ∧ PairAt X.K F H r t c := fun j hj => by
    refine ⟨rs[j], ts[j]'(by omega), cs[j]'(by omega), by simp [hj], by simp [show j < ts.length by omega], by simp [show j < cs.length by omega], ?_⟩
    exact hp j _ _ _ (by simp [hj]) (by simp [show j < ts.length by omega]) (by simp [show j < cs.length by omega])
  refine ⟨_, ev, l, rfl, ⟨_, SqL.of hl⟩, ?_⟩
  let Pv : Nat → L2.St → Hp → Prop := fun n σ' H' => σ'.length = σ.length ∧ (∀ (j : Nat), j ≠ a → j ≠ b → σ'[j]? = σ[j]?) ∧ (∀ x, x ∉ cs → H' x = H x) ∧ ∀ (j : Nat) c xs, cs[j]? = some c → H c = some (.lst xs) → H' c = some (.lst (if j < n then xs ++ [.int c0] else xs))
  have leP : ∀ {n σ' H'}, Pv n σ' H' → Le F H' := fun {n σ' H'} p x o q => by
    rw [p.2.2.1 x fun hc => by rw [fc x hc] at q; cases q]
    exact E.le x o q
  refine for_it (walk_list (K := X.K) (a := l) (xs := ts.map V.ref)) Pv ⟨rfl, fun _ _ _ => rfl, fun _ _ => rfl, fun j c xs _ q => by simpa using q⟩ (fun n σ' H' _ p => SqL.of (by rw [p.2.2.1 l lnc]; exact hl)) (fun n x σ' H' H3 hn p hy => ?_) (fun σ' H' p => ?_)
  · obtain ⟨rfl, hx⟩ := hy
    rw [List.length_map] at hn
    obtain ⟨r, t, c, hr, ht, hc, w, xs, q1, q2, q3, q4⟩ := pat n (by omega)
    have ex : x = .ref t := by
      rw [List.getElem?_map, ht] at hx
      exact (Option.some.inj hx).symm
    subst ex
    obtain ⟨pl, ps, ph, pc⟩ := id p
    have hcn := pc n c xs hc q3
    rw [if_neg (Nat.lt_irrefl n)] at hcn
    refine ⟨t, [.ref c, w], rfl, sqT_le (leP p) q1, rfl, .ref c, [w], rfl, w, [], rfl, rfl, ?_⟩
    have hrm : r ∈ rs := List.mem_of_getElem? hr
    refine ⟨.ref c, ?_, .inl ⟨rfl, _, SqL.of hcn⟩, c, xs, .int c0, rfl, rfl, hcn, sz_lt (by rw [q4.length]; exact hz r hrm), ?_, ?_, ?_, ?_⟩
    · rw [List.getElem?_set_ne (Ne.symm hab), List.getElem?_set_self (by rw [pl, E.len]; exact hal)]
    · simp [pl]
    · intro j ja jb
      rw [List.getElem?_set_ne (Ne.symm jb), List.getElem?_set_ne (Ne.symm ja)]
      exact ps j ja jb
    · intro x hx'
      rw [upd_ne fun z => hx' (by rw [z]; exact List.mem_of_getElem? hc)]
      exact ph x hx'
    · intro j c' xs' hc' hx'
      by_cases hj : j = n
      · subst hj
        rw [hc] at hc'
        cases hc'
        rw [q3] at hx'
        cases hx'
        rw [upd_same, if_pos (Nat.lt_succ_self _)]
      · have hne : c' ≠ c := fun z => hj (by
          subst z
          exact nd_ix cnd hc' hc)
        rw [upd_ne hne, pc j c' xs' hc' hx']
        by_cases hjn : j < n
        · rw [if_pos hjn, if_pos (by omega)]
        · rw [if_neg hjn, if_neg (by omega)]
  · obtain ⟨pl, ps, ph, pc⟩ := id p
    rw [List.length_map] at pc
    have S_l : ∀ a, S i a → a = l ∨ a ∈ cs := fun a sa => (hS a).mp sa
    have other : ∀ j x, j ≠ i → S j x → H' x = H x := fun j x hj sx => ph x fun hc => hj (hdj j i x sx ((hS x).mpr (.inr hc)))
    have hil : i < Γ.length := (List.getElem?_eq_some_iff.mp hi).1
    have some_ : ∀ x, H x ≠ none → H' x ≠ none := fun x hx => by
      by_cases hc : x ∈ cs
      · obtain ⟨j, hj⟩ := List.getElem?_of_mem hc
        have hjl : j < cs.length := (List.getElem?_eq_some_iff.mp hj).1
        obtain ⟨r, t, c, _, _, hc', w, xs, _, _, q3, _⟩ := pat j (by omega)
        rw [hj] at hc'
        cases hc'
        rw [pc j x xs hj q3]
        simp
      · rw [ph x hc]; exact hx
    refine hD.nx F H' σ' _ ⟨leP p, by simp [pl, E.len], ⟨fun j x => j ≠ a ∧ j ≠ b ∧ S j x, fun j u e => ?_, fun j k x q1 q2 => hdj j k x q1.2.2 q2.2.2, fun j x q => ⟨(ho j x q.2.2).1, some_ x (ho j x q.2.2).2.1, (ho j x q.2.2).2.2⟩⟩, fun x o e n => ?_, E.f0, fun x n => some_ x (E.nn x n)⟩ h
    · by_cases jb : j = b
      · subst jb
        rw [List.getElem?_set_self (by simpa using hbl)] at e
        cases e
        exact fun x z => z.2.1 rfl
      · rw [List.getElem?_set_ne (Ne.symm jb)] at e
        by_cases ja : j = a
        · subst ja
          rw [List.getElem?_set_self (by simpa using hal)] at e
          cases e
          exact fun x z => z.1 rfl
        · rw [List.getElem?_set_ne (Ne.symm ja)] at e
          have eS : (fun x => j ≠ a ∧ j ≠ b ∧ S j x) = S j := by
            funext x
            exact propext ⟨fun z => z.2.2, fun z => ⟨ja, jb, z⟩⟩
          have eσ : σ'.getD j none = σ.getD j none := by simp [List.getD_eq_getElem?_getD, ps j ja jb]
          show SlOk X F H' (σ'.getD j none) (fun x => j ≠ a ∧ j ≠ b ∧ S j x) u
          rw [eS, eσ]
          by_cases ji : j = i
          · subst ji
            rw [List.getElem?_set_self hil] at e
            cases e
            refine ⟨e0, rfl, l, ts, cs, rfl, by rw [ph l lnc]; exact hl, by simp [appP, h1], by simp [appP, h2], nd, hS, fun r hr => ?_, fun n r t c a1 a2 a3 => ?_⟩
            · obtain ⟨r0, hr0, rfl⟩ := List.mem_map.mp hr
              refine ⟨?_, (hf r0 hr0).2⟩
              have := (hf r0 hr0).1
              show lfA (r0.1 ++ [.int c0]) = true
              have lfa : ∀ xs ys : List PyData, lfA (xs ++ ys) = (lfA xs && lfA ys) := fun xs ys => by
                induction xs with
                | nil => simp [lfA]
                | cons x xs ih => simp [lfA, ih, Bool.and_assoc]
              rw [lfa, this]
              rfl
            · unfold appP at a1
              rw [List.getElem?_map] at a1
              cases hr : rs[n]? with
              | none => rw [hr] at a1; cases a1
              | some r0 =>
                rw [hr] at a1
                cases a1
                obtain ⟨w, xs, q1, q2, q3, q4⟩ := hp n r0 t c hr a2 a3
                have hnl : n < ts.length := (List.getElem?_eq_some_iff.mp a2).1
                refine ⟨w, xs ++ [.int c0], q1, q2, ?_, q4.append (RpA.one (.int c0))⟩
                rw [pc n c xs a3 q3, if_pos hnl]
          · rw [List.getElem?_set_ne (Ne.symm ji)] at e
            exact (hs j u e).mono Le.rfl' fun x sx => other j x ji sx
    · obtain ⟨r1, r2⟩ := E.fr x o e n
      refine ⟨?_, r2⟩
      rw [ph x]
      · exact r1
      · intro hc
        rcases (ho i x ((hS x).mpr (.inr hc))).2.2 with w | w
        · rw [w] at e; cases e
        · exact n w
/-- found.clear() of such a list -/
theorem sj_clearP {i : Nat} {v : V} {rs : Prs} (hi : Γ[i]? = some (.ex v (PairsO K rs))) (h : P.nx (Γ.set i .no)) : SJ K Γ (tDrop (tBM0 K "list" rClear (tVar i))) P := fun X hK F H σ E D hD => by
  subst hK
  have ev := E.ex hi
  obtain ⟨S, hs, hdj, ho⟩ := id E.sl
  obtain ⟨e0, hk, l, ts, cs, rfl, hl, h1, h2, nd, hS, hf, hp⟩ := hs i _ hi
  have sl : S i l := (hS l).mpr (.inl rfl)
  have hil : i < Γ.length := (List.getElem?_eq_some_iff.mp hi).1
  have fl : F l = none := (ho i l sl).1
  have some_ : ∀ x, H x ≠ none → upd H l (.lst []) x ≠ none := fun x hx => by
    by_cases z : x = l
    · subst z; rw [upd_same]; simp
    · rw [upd_ne z]; exact hx
  refine ⟨_, ev, .inl ⟨rfl, _, SqL.of hl⟩, l, _, rfl, rfl, hl, hD.nx F _ σ _ ⟨E.le.new fl, by simp [E.len], ⟨fun j x => j ≠ i ∧ S j x, fun j u e => ?_, fun j k x q1 q2 => hdj j k x q1.2 q2.2, fun j x q => ⟨(ho j x q.2).1, some_ x (ho j x q.2).2.1, (ho j x q.2).2.2⟩⟩, fun x o e n => ?_, E.f0, fun x n => some_ x (E.nn x n)⟩ h⟩
  · by_cases ji : j = i
    · subst ji
      rw [List.getElem?_set_self hil] at e
      cases e
      exact fun x z => z.1 rfl
    · rw [List.getElem?_set_ne (Ne.symm ji)] at e
      have eS : (fun x => j ≠ i ∧ S j x) = S j := by
        funext x
        exact propext ⟨fun z => z.2, fun z => ⟨ji, z⟩⟩
      show SlOk X F _ _ (fun x => j ≠ i ∧ S j x) u
      rw [eS]
      exact (hs j u e).mono Le.rfl' fun x sx => upd_ne fun z => ji (by subst z; exact hdj j i x sx sl)
  · obtain ⟨r1, r2⟩ := E.fr x o e n
    refine ⟨?_, r2⟩
    rw [upd_ne]
    · exact r1
    · intro z
      subst z
      rcases (ho i x sl).2.2 with w | w
      · rw [w] at e; cases e
      · exact n w
end
end Pk
end
section
set_option Elab.async false
set_option linter.all false
set_option maxRecDepth 100000
/-! The data layer, part 10: the law itself. -/
namespace Pk
open PySem PySem.Spec PyProof.Rows L2
section
variable {P : Program} {w : World} {K : PySem.W.Frag} {mg : Str → Option Value} {base : Heap}
theorem fnOk_g {x : Str} {st : Stmt} {N ps : List Str} {k : Nat} {f : Addr} {fd : FuncData} {T : List Sl → (Sl → Prop) → Prop} (F : Fun K x x st f fd) (S : FnScope N ps (defScope st)) (hT : ∀ Γ Qr, T Γ Qr → Γ.length = ps.length ∧ NoMl Γ)
    (hb : ∀ (f : Addr) (cdv : Value) (A : Around) (outer : List Env) (s : Shared) (H : Hp) (E : XK), Room k (A.deeper (envOfC x (defScope st) s.heap.objs.size f cdv)) →
      ∃ t, PSs (cxOf CX0 P w K mg base N x (defScope st) f cdv A outer s H E).nox (defBody st) t ∧ ∀ Γ Qr, T Γ Qr → SJ K (Γ ++ List.replicate (N.length - Γ.length) .no) t (retP Γ Qr)) : FnOk P w K mg base CX0 (k + 1) f fd ps (spG K T) := by
  refine F.ok S (len_g fun Γ Qr h => (hT Γ Qr h).1) fun cdv A outer s H vs Q E hr h => ?_
  obtain ⟨t, ht, hj⟩ := hb f cdv A outer s H E hr
  exact ⟨t, ht, body_g h (fun Γ Qr z => (hT Γ Qr z).2) fun Γ Qr z => (hj Γ Qr z).t⟩
/-- a law's promise over data: of a script, the truth -/
def T_law (K : PySem.W.Frag) : List Sl → (Sl → Prop) → Prop := fun Γ Q => ∃ v ns, Γ = [.ex v (ScriptO K ns)] ∧ ns.length ≤ 63 ∧ Q (.dat true (.bool true))
theorem law_start {H : Hp} {a : Addr} {ns : List Int} {Q : VK} {E : XK} (hn : ns.length ≤ 63) (hS : SqL K H a (ns.map V.int)) (q : ∀ H', Q (.bl true) H') : spG K (T_law K) [.ref a] H Q E := by
  refine ⟨⟨K, fun _ => none, H, fun b => b = a, fun b => H b ≠ none⟩, fun _ => none, [.ex (.ref a) (ScriptO K ns)], fun s => s = .dat true (.bool true), rfl, rfl, rfl, fun _ => Iff.rfl, ?_, ⟨_, ns, rfl, hn, rfl⟩, ?_⟩
  · have hf : ∀ (b : Addr) (o : HO), H b = some o → ¬ b = a → H b = some o ∧ (none : Option HO) = none := fun b o e _ => ⟨e, rfl⟩
    rcases hS with hS | hS
    · refine ⟨fun _ _ z => (by cases z), rfl, ⟨fun i b => i = 0 ∧ b = a, fun i s e => ?_, fun i j b z1 z2 => z1.1.trans z2.1.symm, fun i b z => ⟨rfl, ?_, .inr z.2⟩⟩, hf, fun _ _ z => z, fun _ z => z⟩
      · cases i with
        | zero =>
          cases e
          exact ⟨rfl, rfl, a, rfl, .inl hS, .inl fun b => ⟨fun z => z.2, fun z => ⟨rfl, z⟩⟩⟩
        | succ i => simp at e
      · rw [z.2]
        rcases hS with h | ⟨o, h⟩ <;> rw [h] <;> simp
    · refine ⟨fun _ _ z => (by cases z), rfl, ⟨fun i b => False, fun i s e => ?_, fun i j b z1 z2 => z1.elim, fun i b z => z.elim⟩, hf, fun _ _ z => z, fun _ z => z⟩
      cases i with
      | zero =>
        cases e
        exact ⟨rfl, rfl, a, rfl, .inr hS, .inr ⟨fun H' => .inr hS, fun b z => z⟩⟩
      | succ i => simp at e
  · rintro F' H' v s _ E' rfl
    obtain ⟨S, hs, _, _⟩ := E'.sl
    obtain ⟨⟨u, e, r⟩, _⟩ := hs 1 _ rfl
    cases e
    cases r
    exact q H'
end
end Pk
end
section
set_option Elab.async false
set_option linter.all false
set_option maxRecDepth 100000
/-! The data layer, part 11: exceptions. -/
namespace Pk
open PySem PySem.Spec PyProof.Rows L2
abbrev XW := Value → Option Addr → L2.St → Hp → Prop
abbrev XQ := Value → Option Fs → Prop
/-- a promise over data of a def that may raise -/
def spX (K : PySem.W.Frag) (T : List Sl → (Sl → Prop) → XQ → Prop) : Sp := fun vs H Q E => ∃ (X : Bs) (F : Hp) (Γ : List Sl) (Qr : Sl → Prop) (Qe : XQ), X.K = K ∧ X.F0 = F ∧ X.H0 = H ∧ (∀ a, X.N a ↔ H a ≠ none) ∧ En X F H (vs.map some) Γ ∧ T Γ Qr Qe ∧
  (∀ F' H' v s, Le F F' → En X F' H' (vs.map some ++ [some v]) (Γ ++ [s]) → Qr s → Q v H') ∧ ∀ F' H' c o d, Le F F' → En X F' H' (vs.map some) Γ → FsAt F' o d → Qe c o → E c d H'
def retX (Γ : List Sl) (Qr : Sl → Prop) (Qe : XQ) (E : XK) : Po := { nx := fun Γ' => Keep Γ Γ' ∧ Qr (.dat true .none), rt := fun s Γ' => Keep Γ Γ' ∧ Qr s, W := fun c d _ H => E c d H, ex := fun c d Γ' => Keep Γ Γ' ∧ Qe c d }
section
variable {P : Program} {w : World} {K : PySem.W.Frag} {mg : Str → Option Value} {base : Heap}
theorem len_x {T : List Sl → (Sl → Prop) → XQ → Prop} {n : Nat} (hl : ∀ Γ Qr Qe, T Γ Qr Qe → Γ.length = n) : ∀ vs H Q E, spX K T vs H Q E → vs.length = n := fun vs H Q E h => by
  obtain ⟨X, F, Γ, Qr, Qe, hK, hF, hH, hNN, E0, hT, k⟩ := h
  have := E0.len
  rw [List.length_map] at this
  rw [this]
  exact hl Γ Qr Qe hT
theorem body_x {N : List Str} {T : List Sl → (Sl → Prop) → XQ → Prop} {vs : List V} {H : Hp} {Q : VK} {E : XK} {t : TS} (h : spX K T vs H Q E) (hn : ∀ Γ Qr Qe, T Γ Qr Qe → NoMl Γ) (hj : ∀ Γ Qr Qe, T Γ Qr Qe → SJt K (Γ ++ List.replicate (N.length - Γ.length) .no) t (retX Γ Qr Qe E)) : t { nx := fun _ H' => Q .non H', rt := Q } (L2.start N vs) H := by
  obtain ⟨X, F, Γ, Qr, Qe, hK, hF, hH, hNN, E0, hT, k, kx⟩ := h
  have hl : vs.length = Γ.length := by simpa using E0.len
  have Ep := E0.pad (N.length - Γ.length)
  have es : L2.start N vs = vs.map some ++ List.replicate (N.length - Γ.length) none := by rw [L2.start, hl]
  rw [es]
  refine hj Γ Qr Qe hT X hK ⟨fun a => by rw [hH]; exact hNN a, by rw [hF, hH]; exact E0.le⟩ F H _ Ep _ ⟨fun F' H' σ' Γ' E' ⟨kp, q⟩ => ?_, fun F' H' σ' Γ' v s E' ⟨kp, q⟩ => ?_, fun _ _ _ _ _ z => z, fun _ _ _ _ _ z => z, fun F' H' σ' Γ' c o d E' ha ⟨kp, q⟩ => ?_⟩
  · exact k F' H' .non (.dat true .none) (by rw [← hF]; exact E'.f0) (E0.back hF (hn Γ Qr Qe hT) kp (E'.pushD .non)) q
  · exact k F' H' v s (by rw [← hF]; exact E'.drop.f0) (E0.back hF (hn Γ Qr Qe hT) kp E') q
  · exact kx F' H' c o d (by rw [← hF]; exact E'.f0) (E0.back (s := .dat true .none) hF (hn Γ Qr Qe hT) kp (E'.pushD .non)).drop ha q
/-- THE RULE for a def over data that may raise -/
theorem cal_x {x : Str} {st : Stmt} {N ps : List Str} {k : Nat} {T : List Sl → (Sl → Prop) → XQ → Prop} (D : Def K mg x st ps) (S : FnScope N ps (defScope st)) (hT : ∀ Γ Qr Qe, T Γ Qr Qe → Γ.length = ps.length ∧ NoMl Γ)
    (hb : ∀ (f : Addr) (cdv : Value) (A : Around) (outer : List Env) (s : Shared) (H : Hp) (E : XK), Room k (A.deeper (envOfC x (defScope st) s.heap.objs.size f cdv)) →
      ∃ t, PSs (cxOf (L2.CX P w) P w K mg base N x (defScope st) f cdv A outer s H E) (defBody st) t ∧ ∀ Γ Qr Qe, T Γ Qr Qe → SJt K (Γ ++ List.replicate (N.length - Γ.length) .no) t (retX Γ Qr Qe E)) : Cal P w K mg base (L2.CX P w) (k + 1) x ps (spX K T) := by
  obtain ⟨f, fd, a, F, b⟩ := D.ex
  refine ⟨f, fd, a, F.kp, b, F.okX S (len_x fun Γ Qr Qe h => (hT Γ Qr Qe h).1) fun cdv A outer s H vs Q E hr h => ?_⟩
  obtain ⟨t, ht, hj⟩ := hb f cdv A outer s H E hr
  exact ⟨t, ht, body_x h (fun Γ Qr Qe z => (hT Γ Qr Qe z).2) hj⟩
/-- asked where it does not raise -/
theorem Cal.noX {x : Str} {ps : List Str} {k : Nat} {T : List Sl → (Sl → Prop) → XQ → Prop} (c : Cal P w K mg base (L2.CX P w) k x ps (spX K T)) : Cal P w K mg base CX0 k x ps (spG K fun Γ Q => T Γ Q fun _ _ => False) := by
  obtain ⟨f, fd, a, b, d, F⟩ := c.ex
  have hx : ∀ {vs H Q E E'}, spG K (fun Γ Q => T Γ Q fun _ _ => False) vs H Q E → spX K T vs H Q E' := fun {vs H Q E E'} ⟨X, F, Γ, Qr, h1, h2, h3, h4, h5, h6, h7⟩ => ⟨X, F, Γ, Qr, _, h1, h2, h3, h4, h5, h6, h7, fun _ _ _ _ _ _ _ _ z => z.elim⟩
  refine ⟨f, fd, a, b, d, ⟨fun vs H Q E h => F.len vs H Q E (hx h), fun A outer s H args us vs Q E hr he hb hv hs => ?_⟩⟩
  refine codeAny_mono (F.run A outer s H args us vs Q (fun _ _ _ => False) hr he hb hv (hx hs)) fun r s' h => ?_
  cases r with
  | ok fl =>
    cases fl with
    | ret u => exact h
    | _ => exact h.elim
  | error e =>
    obtain ⟨_, _, _, _, _, _, _, _, _, _, _, _, z⟩ := h
    exact z.elim
end
/-! ### calls that may raise -/
/-- an expression, under what an exception is let out to -/
def WXw (K : PySem.W.Frag) (W : XW) (ex : Value → Option Fs → List Sl → Prop) (Γ : List Sl) (t : TE) (Q : Sl → Prop) : Prop := ∀ X : Bs, X.K = K → (∀ F H σ Γ c o d, En X F H σ Γ → FsAt F o d → ex c o Γ → W c d σ H) → ∀ F H σ, En X F H σ Γ → ∀ C : VK,
  (∀ v F' H' s, Le F F' → En X F' H' (σ ++ [some v]) (Γ ++ [s]) → Q s → C v H') → t σ H C
section
variable {K : PySem.W.Frag} {W : XW} {ex : Value → Option Fs → List Sl → Prop} {Γ : List Sl} {Q : Sl → Prop} {T : List Sl → (Sl → Prop) → XQ → Prop} {tr : TA} {te ta tb : TE} {P : Po}
theorem wxw_call (h : WA K false Γ tr fun as => AgsGood Γ as ∧ T (as.map (Ag.sl Γ)) Q fun c d => ex c d Γ) : WXw K W ex Γ (tCallS (spX K T) (WE W) tr) Q := fun X hK hx F H σ E C k =>
  h X hK F H σ E _ fun vs F1 H1 as l1 E1 r1 ⟨hg, hT⟩ => by
    obtain ⟨X1, a, b, c, d, e, f⟩ := call_sp hK E1 r1 hg
    exact ⟨X1, F1, _, Q, _, a, b, c, d, e, hT, fun F' H' v s lf E' q => k v F' H' s (l1.tr lf) (f F' H' v s lf E') q,
      fun F' H' cl o d lf E' ha q => hx F' H' σ Γ cl o d ((f F' H' .non (.dat true .none) lf (E'.pushD .non)).drop) ha q⟩
theorem wxw_call1 (h : WD K false Γ ta fun x => T [.dat false x] Q fun c d => ex c d Γ) : WXw K W ex Γ (tCallS (spX K T) (WE W) (tCons ta tNil)) Q := wxw_call (wa_d (h.mono fun x q => wa_nil ⟨agsGood_d rfl, q⟩))
theorem wxw_call2 (h : WD K false Γ ta fun x => WD K false Γ tb fun y => T [.dat false x, .dat false y] Q fun c d => ex c d Γ) : WXw K W ex Γ (tCallS (spX K T) (WE W) (tCons ta (tCons tb tNil))) Q := wxw_call (wa_d (h.mono fun x h => wa_d (h.mono fun y q => wa_nil ⟨agsGood_d rfl, q⟩)))
theorem sj_setW {i : Nat} (h : WXw K P.W P.ex Γ te fun s => P.nx (Γ.set i s)) : SJ K Γ (tAsg te (gName i)) P := fun X hK F H σ E D hD =>
  h X hK hD.xc F H σ E _ fun v F1 H1 s l1 E1 q => hD.nx F1 H1 _ _ (E1.put i) q
theorem sj_retW (h : WXw K P.W P.ex Γ te fun s => P.rt s Γ) : SJ K Γ (tRet te) P := fun X hK F H σ E D hD =>
  h X hK hD.xc F H σ E _ fun v F1 H1 s l1 E1 q => hD.rt F1 H1 _ _ v s E1 q
theorem sj_dropW (h : WXw K P.W P.ex Γ te fun _ => P.nx Γ) : SJ K Γ (tDrop te) P := fun X hK F H σ E D hD =>
  h X hK hD.xc F H σ E _ fun v F1 H1 s l1 E1 q => hD.nx F1 H1 _ _ E1.drop q
/-- raise C('..') -/
def tRaiseW (W : XW) (C : Addr) : TS := fun _ σ H => W (.ref C) none σ H
theorem sj_raise {C : Addr} (q : P.ex (.ref C) none Γ) : SJ K Γ (tRaiseW P.W C) P := fun X hK F H σ E D hD => hD.xc F H σ Γ _ none none E rfl q
/-- try: .. except X: .. -/
def tTryOnly (K : PySem.W.Frag) (c : Value) (tb : XW → TS) (ts : TS) (Wout : XW) : TS := fun D σ H => tb (wOnly K c (fun _ _ _ => ts) Wout D) D σ H
theorem sj_tryOnly {c : Value} {tb : XW → TS} {ts : TS} (h : ∀ W : XW, SJ K Γ (tb W) { P with W := W, ex := fun cls d Γ' => ∃ b, PySem.W.exmOne K cls c = some b ∧ (b = true → SJ K Γ' ts P) ∧ (b = false → P.ex cls d Γ') }) : SJ K Γ (tTryOnly K c tb ts P.W) P := fun X hK F H σ E D hD =>
  h (wOnly K c (fun _ _ _ => ts) P.W D) X hK F H σ E D ⟨hD.nx, hD.rt, hD.bk, hD.ct, fun F' H' σ' Γ' cls o d E' ha ⟨b, e, h1, h2⟩ => ⟨b, e, fun hb a _ => h1 hb X hK F' H' σ' E' D hD, fun hb => hD.xc F' H' σ' Γ' cls o d E' ha (h2 hb)⟩⟩
end
end Pk
end
section
set_option Elab.async false
set_option linter.all false
set_option maxRecDepth 100000
/-! The data layer, part 12: an exception that is caught and kept: try .. except X as n: .. whose exception is known behind the statement too. -/
namespace Pk
open PySem PySem.Spec PyProof.Rows L2
/-- an exception of the class cls that was caught -/
def ExH (cls : Value) (d : Option Addr) (a : Addr) : HO := .ext fun h => ∃ (oe : Obj) (vs : Array Value), h.get? a = some oe ∧ Zc cls d oe ∧ oe.data = .fields vs
theorem exH_ok {P : Program} {w : World} {H : Hp} {h : Heap} {a : Addr} {cls : Value} {d : Option Addr} {oe : Obj} {vs : Array Value} (e : h.get? a = some oe) (z : Zc cls d oe) (q : oe.data = .fields vs) : ObjOk P w H h a (ExH cls d a) :=
  ⟨⟨oe, vs, e, z, q⟩, ⟨oe, e⟩, fun h1 h2 ⟨o, v, q1, q2⟩ k => ⟨o, v, k o q1, q2⟩⟩
section
variable {X : Cx} {pins : List (Addr × Obj)} {σ : L2.St} {H : Hp} {s : Shared}
/-- a pinned exception, new since the entry, is told of in the abstract heap -/
theorem inv_track {a : Addr} {oe : Obj} {vs : Array Value} {cls : Value} {d : Option Addr} (I : Inv X pins σ H s) (ha : s.heap.get? a = some oe) (na : H a = none) (nl : a ≠ X.env.locals) (nc : ∀ v, oe.data ≠ .cell v) (n0 : X.s_0.heap.get? a = none) (np : ∀ p ∈ X.pn ++ pins, p.1 ≠ a)
    (z : Zc cls d oe) (hd : oe.data = .fields vs) : Inv X pins σ (upd H a (ExH cls d a)) s := by
  have ne : ∀ {b : Addr}, b ≠ a → upd H a (ExH cls d a) b = H b := fun h => upd_ne h
  have B := I.base
  refine ⟨I.ok, I.os, I.bare, ⟨B.keep, B.slot, fun b o q1 q2 q3 => ?_, B.there, fun b xs q => ?_, fun b o u q => ?_, fun b ps q => ?_⟩, I.loc, I.cell, ?_, fun x c q => ?_, fun p hp => ?_, ?_, I.len⟩
  · rw [ne fun z => by rw [z, n0] at q1; cases q1]; exact B.free b o q1 q2 q3
  · have := B.tups b xs q
    rw [ne fun z => by rw [z, na] at this; cases this]; exact this
  · have := B.frzs b o u q
    rw [ne fun z => by rw [z, na] at this; cases this]; exact this
  · obtain ⟨more, this⟩ := B.tbls b ps q
    exact ⟨more, by rw [ne fun z => by rw [z, na] at this; cases this]; exact this⟩
  · rw [ne (Ne.symm nl)]; exact I.free
  · obtain ⟨v, hv⟩ := I.cell x c q
    rw [ne fun z => by
      subst z
      obtain ⟨o, q1, q2⟩ := hv
      rw [ha] at q1
      cases q1
      exact nc _ q2]
    exact I.freeC x c q
  · obtain ⟨a1, a2, a3⟩ := I.pin p hp
    exact ⟨a1, by rw [ne (np p hp)]; exact a2, a3⟩
  · exact I.hok.laidN (fun _ _ q => q) na (exH_ok ha z hd)
end
/-- what the clause wishes; behind its suite the exception at a stands in the abstract heap -/
def wKeep (K : PySem.W.Frag) (c : Value) (i : Nat) (ts : Addr → TS) (Wout : XW) (D : Ends) : XW := fun cls d σ H =>
  ∃ b, PySem.W.exmOne K cls c = some b ∧ (b = true → ∀ a, H a = none → ts a { nx := fun σ' H' => H' a = none → D.nx (σ'.set i none) (upd H' a (ExH cls d a)), rt := fun _ _ => False } (σ.set i (some (.ref a))) H) ∧ (b = false → Wout cls d σ H)
section
variable {X : Cx} {x n : Str} {c : Value} {i : Nat} {body suite : List Stmt} {b₀ : Stmt} {np pos pos' : Pos} {tb : XW → TS} {ts : Addr → TS} {Wout : XW}
theorem ps_try_kept (hst : X.stack = X.env :: X.outer) (hfm : X.env.frame = some X.env.locals) (hex : X.ex = []) (hnd : X.N.Nodup) (hix : X.N[i]? = some n) (hkd : X.env.kindOf n = some .local) (hnm : Names X x c) (tko : Takes X Wout)
    (hbd : ∀ (W : XW) (pn : List (Addr × Obj)) (xe : Value → Shared → Prop), Takes (X.tr pn xe) W → PassesOwn (model X.prog X.w) X.A X.env xe → PSs (X.tr pn xe) body (tb W))
    (hsx : ∀ (a : Addr) (pn : List (Addr × Obj)), PSs (X.suite a pn) (b₀ :: suite) (ts a)) :
    PS X (.Try body [.ExceptHandler (some (.Name x np)) (some n) (b₀ :: suite) pos'] [] [] pos) (fun D σ H => tb (wKeep X.K c i ts Wout D) D σ H) := by
  refine ⟨fun pins s σ H D I hw => ?_⟩
  have fr : X.A.frames = some (X.env :: X.outer) := by rw [I.ok.frames, hst]
  refine wpAny_Try_except (wpAny_mono ((hbd (wKeep X.K c i ts Wout D) (X.pn ++ pins) (fun ev t₁ => wpAny (model X.prog X.w) X.A (noteFrame ev X.env) (fun _ t₂ => wpAny (model X.prog X.w) X.A (setFlight ev none)
    (fun _ t₃ => wpAny (model X.prog X.w) X.A (handleBy ev X.env [.ExceptHandler (some (.Name x np)) (some n) (b₀ :: suite) pos']) (SP X pins D) X.xe t₃) X.xe t₂) X.xe t₁) (fun u t ht => ?_) PassesOwn.looking).run [] s σ H D (I.toTry _) hw) (fun fl t ht => ?_) fun _ _ z => z)
  · obtain ⟨a, B, tI, qn, τ, G, cl, dd, rfl, JT, hB, hU, hY, nG, eO, eG, yes, eY, hY1, hN1⟩ := ht
    have J0 : Inv X pins τ G tI := JT.ofTry I.ok
    rw [hst] at hB
    have hY' : Sky B (X.env :: X.outer) a (Zc cl dd) X.env.locals t.heap := hst ▸ hY
    show wpAny (model X.prog X.w) X.A (noteFrame (.ref a) X.env) _ _ _
    refine Sky.land Zc.steady fr hfm hY' fun g fg ug => ?_
    have hBs : ∀ b o, tI.heap.get? b = some o → b ∉ frs X.stack → B.get? b = some o := fun b o q1 q2 => hB b o q1 (hst ▸ q2)
    have J1 : Inv X pins τ G { t with heap := g } := J0.landed hBs fg.1 (hU.trans ug) eO eG
    obtain ⟨og, vg, eg, zg, dg⟩ := fg.there
    have nfr : a ∉ frs (X.env :: X.outer) := fun hm => by
      obtain ⟨_, o', e', hnf⟩ := fg.2.2.1.mem hm
      rw [eg] at e'
      cases e'
      exact hnf _ dg
    have nLoc : a ≠ X.env.locals := fun z => nfr (List.mem_filterMap.mpr ⟨X.env, List.mem_cons_self, by rw [hfm, z]⟩)
    have nFs : a ∉ X.fs := fun hm => by
      obtain ⟨v, hv, q⟩ := List.mem_filterMap.mp hm
      exact nfr (List.mem_filterMap.mpr ⟨v, List.mem_cons_of_mem _ hv, q⟩)
    -- it is new
    have newI : tI.heap.get? a = none := by
      cases q : tI.heap.get? a with
      | none => rfl
      | some o =>
        have := hB a o q nfr
        rw [fg.2.1] at this
        cases this
    have new0 : X.s_0.heap.get? a = none := by
      cases q : X.s_0.heap.get? a with
      | none => rfl
      | some o =>
        obtain ⟨o', q'⟩ := J0.base.there a o q (by rw [hex]; exact fun z => by cases z)
        rw [newI] at q'
        cases q'
    have npin : ∀ p ∈ X.pn ++ pins, p.1 ≠ a := fun p hp z => by
      have := (J0.pin p hp).1
      rw [z, newI] at this
      cases this
    refine wpAny_handleBy_cons (codeAny_handlers_test ?_) (by intro q; cases q)
    have lk : PySem.W.Looks (model X.prog X.w) g (typeOf (.ref a)) cl := fun _ _ _ _ k q => wpAny_typeOf_ref (k _ _ eg) (by rw [zg.1]; exact q)
    have look := PySem.W.exm_one (M := model X.prog X.w) J1.kIn lk eY
    have S1 := J1.suite eg dg nG nLoc nFs
    have ask : ∀ {Q : Value → Shared → Prop} {E : Value → Shared → Prop}, Q c { t with heap := g } → wpAny (model X.prog X.w) (X.A.mark (some (.ref a))) (eval (.Name x np) X.env) Q E { t with heap := g } := fun {Q E} q => by
      obtain ⟨g1, g2, g3 | ⟨g3, g4, g5⟩⟩ := hnm
      · exact ld_glob (X := X.suite a ((a, og) :: (X.pn ++ pins))) S1 g1 g3 q g2
      · exact ld_blt (X := X.suite a ((a, og) :: (X.pn ++ pins))) S1 g1 g3 g4 q g5 g2
    refine ask (look.here ?_)
    cases yes with
    | true =>
      refine codeAny_handlers_suite_as (HandSPX.lands_againZ fg fun g2 f2 u2 => ?_)
      have J2 : Inv X pins τ G { t with heap := g2 } := J0.landed hBs f2.1 ((hU.trans ug).trans u2) eO eG
      obtain ⟨o2, v2, e2, z2, d2⟩ := f2.there
      refine store_ok (X := X.suite a ((a, o2) :: (X.pn ++ pins))) (v := .ref a) (J2.suite e2 d2 nG nLoc nFs) hnd hix (.inl hkd) rfl (fun t3 S3 => ?_) (.inr hkd)
      refine wpAny_mono ((hsx a ((a, o2) :: (X.pn ++ pins))).run [] t3 _ G _ S3 (hY1 rfl a nG)) (fun fl t4 h4 => ?_) fun _ _ z => z.elim
      cases fl with
      | next =>
        obtain ⟨τ4, G4, S4, q4⟩ := h4
        obtain ⟨p1, p2, p3, p4, p5⟩ := S4.pin (a, o2) (List.mem_append_left _ List.mem_cons_self)
        have K4 : Inv X ((a, o2) :: pins) τ4 G4 t4 := ⟨I.ok, S4.os, S4.bare, S4.base, S4.loc, S4.cell, S4.free, S4.freeC, fun p hp => S4.pin p (by
          rcases List.mem_append.mp hp with z | z
          · exact List.mem_append_left _ (List.mem_cons_of_mem _ (List.mem_append_left _ z))
          · rcases List.mem_cons.mp z with z | z
            · rw [z]; exact List.mem_append_left _ List.mem_cons_self
            · exact List.mem_append_left _ (List.mem_cons_of_mem _ (List.mem_append_right _ z))), S4.hok, S4.len⟩
        refine gone_ok K4 hnd hix hkd fun t5 K5 => ?_
        obtain ⟨r1, r2, r3, r4, r5⟩ := K5.pin (a, o2) (List.mem_append_right _ List.mem_cons_self)
        have K6 : Inv X pins (τ4.set i none) G4 t5 := ⟨K5.ok, K5.os, K5.bare, K5.base, K5.loc, K5.cell, K5.free, K5.freeC, fun p hp => K5.pin p (by
          rcases List.mem_append.mp hp with z | z
          · exact List.mem_append_left _ z
          · exact List.mem_append_right _ (List.mem_cons_of_mem _ z)), K5.hok, K5.len⟩
        exact ⟨_, _, inv_track K6 r1 r2 r3 r5 new0 npin z2 d2, q4 p2⟩
      | brk => obtain ⟨_, _, _, z⟩ := h4; exact z.elim
      | cont => obtain ⟨_, _, _, z⟩ := h4; exact z.elim
      | ret u => obtain ⟨_, _, _, _, _, z⟩ := h4; exact z.elim
    | false =>
      show wpAny _ X.A (handleBy (.ref a) X.env []) _ _ _
      refine wpAny_handleBy_nil ?_
      obtain ⟨k1, k2, k3, oz, vz, T, oT, tz, w1, w2, w3, w4, w5⟩ := id fg
      unfold PySem.passOn
      refine wpAny_bind (wpAny_field w1 w3 w4 ?_)
      rw [if_neg (show ¬ ((Value.ref T == Value.none) = true) by simp)]
      have last : wpAny (model X.prog X.w) X.A (setFlight (.ref a) X.env.frame) (fun _ t6 => wpAny (model X.prog X.w) X.A (throw (.ref a) : Sem Flow) (SP X pins D) X.xe t6) X.xe { t with heap := g } := by
        rw [hfm]
        refine HandSPX.setFlight_upZ fg fun g6 f6 u6 => wpAny_throw (tko _ _ ?_)
        exact ⟨a, B, tI, pins, τ, G, cl, dd, rfl, J0, hBs, (hU.trans ug).trans u6, .inr (.inr (by rw [hst]; exact f6)), nG, eO, eG, hN1 rfl⟩
      first
        | exact wpAny_bind (wpAny_pure (wpAny_bind last))
        | exact wpAny_bind last
  · cases fl with
    | next => obtain ⟨τ, G, J, q⟩ := ht; exact wpAny_execs_nil ⟨τ, G, J.ofTry I.ok, q⟩
    | brk => obtain ⟨τ, G, J, q⟩ := ht; exact ⟨τ, G, J.ofTry I.ok, q⟩
    | cont => obtain ⟨τ, G, J, q⟩ := ht; exact ⟨τ, G, J.ofTry I.ok, q⟩
    | ret u => obtain ⟨v, τ, G, J, r, q⟩ := ht; exact ⟨v, τ, G, J.ofTry I.ok, r, q⟩
end
end Pk
end
section
set_option Elab.async false
set_option linter.all false
set_option maxRecDepth 100000
/-! The data layer, part 13: caught exceptions as things of one's own; is None; isinstance with own classes. -/
namespace Pk
open PySem PySem.Spec PyProof.Rows L2
/-! ### is None -/
def dIsN : R2 := fun x y H Q => y = .non ∧ Q (.bl (decide (x = .non))) H
def dNotN : R2 := fun x y H Q => y = .non ∧ Q (.bl (!decide (x = .non))) H
def isNo : PyData → Bool
  | .none => true
  | _ => false
theorem isNo_of {K : PySem.W.Frag} {F : Hp} {v : V} {d : PyData} (r : Rp K F v d) : decide (v = .non) = isNo d := by
  cases r <;> simp [isNo]
section
variable {K : PySem.W.Frag} {m : Bool} {Γ : List Sl} {Q : PyData → Prop} {QT : Bool → Prop} {te : TE}
theorem wd_isN (h : WD K false Γ te fun d => Q (.bool (isNo d))) : WD K m Γ (tOp dIsN te (tC .non)) Q := fun X hK F H σ E C k =>
  h X hK F H σ E _ fun v F1 H1 d l1 E1 r q => ⟨rfl, k _ F1 H1 _ l1 E1 (by rw [isNo_of r]; exact .bl _) q⟩
theorem wd_notN (h : WD K false Γ te fun d => Q (.bool (!isNo d))) : WD K m Γ (tOp dNotN te (tC .non)) Q := fun X hK F H σ E C k =>
  h X hK F H σ E _ fun v F1 H1 d l1 E1 r q => ⟨rfl, k _ F1 H1 _ l1 E1 (by rw [isNo_of r]; exact .bl _) q⟩
/-- .. of a thing of one's own -/
theorem wd_isNo {i : Nat} {a : Addr} {Φ : Own} (hi : Γ[i]? = some (.ex (.ref a) Φ)) (q : Q (.bool false)) : WD K m Γ (tOp dIsN (tVar i) (tC .non)) Q := fun X hK F H σ E C k =>
  ⟨_, E.ex hi, rfl, k _ F H _ Le.rfl' E (.bl false) q⟩
theorem wd_notNo {i : Nat} {a : Addr} {Φ : Own} (hi : Γ[i]? = some (.ex (.ref a) Φ)) (q : Q (.bool true)) : WD K m Γ (tOp dNotN (tVar i) (tC .non)) Q := fun X hK F H σ E C k =>
  ⟨_, E.ex hi, rfl, k _ F H _ Le.rfl' E (.bl true) q⟩
end
/-! ### a caught exception -/
def ExcO (K : PySem.W.Frag) (D : Addr) : Own where
  K := K
  p := fun _ H v S => ∃ a, v = .ref a ∧ H a = some (ExH (.ref D) none a) ∧ ∀ b, S b ↔ b = a
  vw := none
  keep := fun {F F' H H' v S} ⟨a, e, h, c⟩ _ k => ⟨a, e, (k a ((c a).mpr rfl)).trans h, c⟩
  keepT := fun _ {F F' H H' v S} ⟨a, e, h, c⟩ _ k => ⟨a, e, (k a ((c a).mpr rfl)).trans h, c⟩
  view := fun _ _ e => nomatch e
/-- try: .. except X as n: y = n -/
def tTryKeep (K : PySem.W.Frag) (c : Value) (i j : Nat) (tb : XW → TS) (Wout : XW) : TS := fun D σ H => tb (wKeep K c i (fun _ => tAsg (tVar i) (gName j)) Wout D) D σ H
section
variable {K : PySem.W.Frag} {m : Bool} {Γ : List Sl} {P : Po} {Q : PyData → Prop}
theorem sj_tryKeep {c : Value} {i j : Nat} {tb : XW → TS} (hij : i ≠ j)
    (h : ∀ W : XW, SJ K Γ (tb W) { P with W := W, ex := fun cls d Γ' => ∃ b, PySem.W.exmOne K cls c = some b ∧ (b = true → ∃ D, cls = .ref D ∧ d = none ∧ j < Γ'.length ∧ Γ'[i]? = some .no ∧ ∀ a, P.nx (Γ'.set j (.ex (.ref a) (ExcO K D)))) ∧ (b = false → P.ex cls d Γ') }) : SJ K Γ (tTryKeep K c i j tb P.W) P := fun X hK F H σ E D hD =>
  h _ X hK F H σ E D ⟨hD.nx, hD.rt, hD.bk, hD.ct, fun F' H' σ' Γ' cls o d E' ha ⟨b, e, h1, h2⟩ => ⟨b, e, fun hb a na => by
    obtain ⟨C, rfl, rfl, hj, hi, q⟩ := h1 hb
    have ha' : d = none := ha
    subst ha'
    have hil : i < σ'.length := by rw [E'.len]; exact (List.getElem?_eq_some_iff.mp hi).1
    have push : En X F' (upd H' a (ExH (.ref C) none a)) (σ' ++ [some (.ref a)]) (Γ' ++ [.ex (.ref a) (ExcO K C)]) :=
      E'.pushG (T := fun b => b = a) Le.rfl' (E'.le.new (E'.le.nn na)) (fun b o q => by rw [upd_ne (ne_of_none q na)]; exact q) (fun _ _ _ => rfl)
        ⟨rfl, hK.symm, a, rfl, upd_same, fun _ => Iff.rfl⟩ (fun b e => by subst e; exact ⟨na, E'.le.nn na, by rw [upd_same]; simp⟩)
    have put := push.put j
    have back : En X F' (upd H' a (ExH (.ref C) none a)) ((σ'.set j (some (.ref a))).set i none) (Γ'.set j (.ex (.ref a) (ExcO K C))) := by
      have hset : Γ'.set j (.ex (.ref a) (ExcO K C)) = (Γ'.set j (.ex (.ref a) (ExcO K C))).set i .no := by
        apply List.ext_getElem?
        intro k
        by_cases hk : i = k
        · subst hk
          have hl : i < (Γ'.set j (.ex (.ref a) (ExcO K C))).length := by rw [List.length_set, ← E'.len]; exact hil
          rw [List.getElem?_set_self hl, List.getElem?_set_ne hij.symm, hi]
        · rw [List.getElem?_set_ne hk]
      rw [hset]
      have : En X F' (upd H' a (ExH (.ref C) none a)) (σ'.set j (some (.ref a)) ++ [none]) (Γ'.set j (.ex (.ref a) (ExcO K C)) ++ [.no]) :=
        put.pushG (T := fun _ => False) Le.rfl' put.le (fun _ _ q => q) (fun _ _ _ => rfl) (fun _ z => z) (fun _ z => z.elim)
      exact this.put i
    refine ⟨.ref a, by rw [List.getElem?_set_self hil], fun _ => ?_⟩
    have e2 : ((σ'.set i (some (V.ref a))).set j (some (V.ref a))).set i none = (σ'.set j (some (.ref a))).set i none := by
      rw [List.set_comm _ _ hij.symm, List.set_set, List.set_comm _ _ hij]
    show D.nx (((σ'.set i (some (V.ref a))).set j (some (V.ref a))).set i none) (upd H' a (ExH (.ref C) none a))
    rw [e2]
    exact hD.nx F' _ _ _ back (q a), fun hb => hD.xc F' H' σ' Γ' cls o d E' ha (h2 hb)⟩⟩
end
/-! ### isinstance -/
def rIsX (K : PySem.W.Frag) : List V → Hp → VK → Prop := fun xs H Q => ∃ (a D : Addr) (c : V) (u : Value) (b : Bool), xs = [.ref a, c] ∧ H a = some (ExH (.ref D) none a) ∧ ExcC K D ∧ ClsV c u ∧ PySem.W.kitOne K (.ref D) u = some b ∧ Q (.bl b) H
def rIsXT (K : PySem.W.Frag) : List V → Hp → VK → Prop := fun xs H Q => ∃ (a D tp : Addr) (cs : List V) (us : List Value) (b : Bool), xs = [.ref a, .ref tp] ∧ H tp = some (.tup cs) ∧ H a = some (ExH (.ref D) none a) ∧ ExcC K D ∧ Paired ClsV cs us ∧ PySem.W.kitAny K (.ref D) us = some b ∧ Q (.bl b) H
theorem inst_of {X : Cx} {pins : List (Addr × Obj)} {σ : L2.St} {H : Hp} {s : Shared} {a D : Addr} (I : Inv X pins σ H s) (h : H a = some (ExH (.ref D) none a)) : ∃ oe, PySem.W.InstAt s.heap a oe D none := by
  obtain ⟨⟨⟨oc, od, oda, osl⟩, vs, e, ⟨z1, z2⟩, d⟩, _⟩ := (show ObjOk X.prog X.w H s.heap a (ExH (.ref D) none a) from I.hok a _ h)
  dsimp only at z1 z2 d
  subst z1 z2 d
  exact ⟨_, e, rfl, rfl, trivial⟩
theorem call_isX {X : Cx} : CallR X (.builtin "isinstance") (rIsX X.K) := by
  intro pins s σ H xs us Q I r h
  obtain ⟨a, D, c, u, b, rfl, ha, C, k, e, q⟩ := h
  obtain ⟨u1, u2, rfl, r1, r2⟩ := vals2 r
  cases (show u1 = Value.ref a from r1)
  cases k.eq r2
  obtain ⟨oe, J⟩ := inst_of I ha
  exact PySem.W.kia_one (PySem.W.handS_kitx_exc C.hg C.hk C.hs C.hd C.ha C.hn C.ht C.hm) I.kIn J e (fun z => nomatch z) fun tk => ⟨.bl b, H, I.tok tk, rfl, q⟩
theorem call_isXT {X : Cx} : CallR X (.builtin "isinstance") (rIsXT X.K) := by
  intro pins s σ H xs us Q I r h
  obtain ⟨a, D, tp, cs, ws, b, rfl, hT, ha, C, k, e, q⟩ := h
  obtain ⟨u1, u2, rfl, r1, r2⟩ := vals2 r
  cases (show u1 = Value.ref a from r1)
  cases (show u2 = Value.ref tp from r2)
  obtain ⟨oe, J⟩ := inst_of I ha
  obtain ⟨_, its, rv, ⟨oc, od, dt, sl⟩, h1, h2, n, h3⟩ := (show ObjOk X.prog X.w H s.heap tp (.tup cs) from I.hok tp _ hT)
  cases ClsV.all k rv
  simp only at h2 h3
  subst h2 h3
  exact PySem.W.kia_tup (PySem.W.handS_kitx_exc C.hg C.hk C.hs C.hd C.ha C.hn C.ht C.hm) I.kIn J h1 e (fun z => nomatch z) fun tk => ⟨.bl b, H, I.tok tk, rfl, q⟩
/-- .. of data or of an exception -/
def rIs (K : PySem.W.Frag) : List V → Hp → VK → Prop := fun xs H Q => rIsi K xs H Q ∨ rIsX K xs H Q
def rIsT (K : PySem.W.Frag) : List V → Hp → VK → Prop := fun xs H Q => rIsiT K xs H Q ∨ rIsXT K xs H Q
theorem call_is {X : Cx} : CallR X (.builtin "isinstance") (rIs X.K) := CallR.or call_isi call_isX
theorem call_isT {X : Cx} : CallR X (.builtin "isinstance") (rIsT X.K) := CallR.or call_isiT call_isXT
section
variable {K : PySem.W.Frag} {m : Bool} {Γ : List Sl} {Q : PyData → Prop}
theorem wd_isX {i : Nat} {v : V} {D : Addr} {c : V} {u : Value} {b : Bool} (hi : Γ[i]? = some (.ex v (ExcO K D))) (C : ExcC K D) (hc : ClsV c u) (hk : PySem.W.kitOne K (.ref D) u = some b) (q : Q (.bool b)) : WD K m Γ (tCB (rIs K) (tCons (tVar i) (tCons (tC c) tNil))) Q := fun X hK F H σ E X' k => by
  obtain ⟨S, hs, _, _⟩ := E.sl
  obtain ⟨_, _, a, e, h, _⟩ := hs i _ hi
  subst e
  exact ⟨_, E.ex hi, .inr ⟨a, D, c, u, b, rfl, h, C, hc, hk, k _ F H _ Le.rfl' E (.bl b) q⟩⟩
theorem wd_isXT {i : Nat} {v : V} {D : Addr} {cs : List V} {us : List Value} {b : Bool} {tr : TA} (hi : Γ[i]? = some (.ex v (ExcO K D))) (C : ExcC K D) (htr : ∀ σ H C, tr σ H C = C cs H) (hz : cs.length ≤ 100000) (hc : Paired ClsV cs us) (hk : PySem.W.kitAny K (.ref D) us = some b) (q : Q (.bool b)) : WD K m Γ (tCB (rIsT K) (tCons (tVar i) (tCons (tTup tr) tNil))) Q := fun X hK F H σ E X' k => by
  obtain ⟨S, hs, _, _⟩ := E.sl
  obtain ⟨_, _, a, e, h, _⟩ := hs i _ hi
  subst e
  refine ⟨_, E.ex hi, ?_⟩
  show tr σ H _
  rw [htr]
  refine ⟨sz_le hz, fun p hp => .inr ⟨a, D, p, cs, us, b, rfl, upd_same, by rw [upd_ne (ne_of_none h hp)]; exact h, C, hc, hk, k _ F _ _ Le.rfl' (E.free hp) (.bl b) q⟩⟩
end
/-! ### what the top says of an exception's class -/
structure ExcT (K : PySem.W.Frag) (mg : Str → Option Value) (x : Str) (C : Addr) : Prop where
  g : mg x = some (.ref C)
  q : PySem.W.excIn K C He.veBase "ValueError.__new__" = true
  k : PySem.W.keepIn K (.ref C) = true
  s : PySem.W.subIn K (.ref C) (.type "BaseException") = some true
  t : PySem.W.typeIn K (.ref C) = some (.type "type")
  c : ExcC K C
end Pk
namespace Pk
open PySem PySem.Spec PyProof.Rows L2
section
variable {X : Cx} {k : Nat} {x : Str} {ps : List Str} {sp : Sp} {W : XW} {p pos : Pos} {e : Expr} {es : List Expr} {t : TA}
/-- f(e, ..), where f may raise -/
theorem pe_cx (c : Cal X.prog X.w X.K X.mg X.base (L2.CX X.prog X.w) k x ps sp) (hr : Room k X.A) (hg : Gl X x) (tk : Takes X W) (ha : PA X (e :: es) t) (hdb : (x == ("__debug__" : Str)) = false := by decide) (he : starEach (e :: es) X.env = (false, eval e X.env) :: starEach es X.env := by rfl) (hpl : ((backTo pos (starEach es X.env)).any fun x => x.fst) = false := by rfl) : PE X (.Call (.Name x p) (e :: es) [] pos) (tCallS sp (WE W) t) := by
  obtain ⟨f, fd, a, b, d, F⟩ := c.ex
  exact pe_callS F hr hg a b d (fun σ => passAt tk σ) ha hdb he hpl
/-- raise C('..') -/
theorem ps_rs {C : Addr} {m : Str} {j : Nat} {p2 : Pos} {pos' : Pos} (hc : X.calm = true) (tk : Takes X W) (T : ExcT X.K X.mg x C) (hg : Gl X x) (hdb : (x == ("__debug__" : Str)) = false := by decide) : PS X (.Raise (some (.Call (.Name x p) [.Constant (.str m) j p2] [] pos)) none pos') (tRaiseW W C) :=
  ps_raise hc tk (pmk_own PySem.F.excBase_ValueError T.q T.g T.k (raises_own T.s T.t) hg hdb)
end
/-! ### the head with one more Bool -/
def obsB (n : Nat) (fa : List He.Fa) (fn : List He.DefD) (ex : PySem.W.Frag → Bool) (g : Addr → Option Obj) : He.AlD × Bool := (He.obsDG n fa fn g, ex (He.frG g (He.asD g n)))
def hookB (n : Nat) (fa : List He.Fa) (fn : List He.DefD) (ex : PySem.W.Frag → Bool) : PySem.W.Hook where
  α := He.AlD × Bool
  obs := fun s => obsB n fa fn ex s.heap.get?
  val := fun _ => (He.valD fn, true)
  says := fun _ h => ∃ K : PySem.W.Frag, K.In h ∧ He.SaysD fa fn K ∧ ex K = true
  of := fun _ s e => ⟨He.frG s.heap.get? (He.asD s.heap.get? n), He.frG_in, by have h := congrArg Prod.fst e; exact h, by have h := congrArg Prod.snd e; exact h⟩
  keeps := fun _ _ _ ⟨K, hK, c⟩ k => ⟨K, PySem.W.Frag.In.keeps hK k, c⟩
theorem obsB_eq {n : Nat} {fa : List He.Fa} {fn : List He.DefD} {ex : PySem.W.Frag → Bool} {g : Addr → Option Obj} {s : Shared} (h : ∀ a, g a = s.heap.get? a) : obsB n fa fn ex g = (hookB n fa fn ex).obs s := by
  have e : g = s.heap.get? := funext h
  rw [e]
  rfl
/-- an exception's class, as a Bool -/
def excB (K : PySem.W.Frag) (x : Str) : Bool := PySem.W.excIn K (He.ga K x) He.veBase "ValueError.__new__" && PySem.W.keepIn K (.ref (He.ga K x)) && decide (PySem.W.subIn K (.ref (He.ga K x)) (.type "BaseException") = some true) && decide (PySem.W.typeIn K (.ref (He.ga K x)) = some (.type "type")) &&
  He.eqO (PySem.W.findIn K (.ref (He.ga K x)) "__getattribute__") (some (some (.builtin "BaseException.__getattribute__"))) && He.eqO (PySem.W.findIn K (.ref (He.ga K x)) "__getattr__") (some none) && PySem.W.hasDictIn K (He.ga K x) && He.eqO (PySem.W.findIn K (.ref (He.ga K x)) "__class__") (some (some (.builtin "object.__class__"))) &&
  He.eqO (PySem.W.specialIn K (.builtin "object.__class__") "__get__") (some (some (.builtin "getset_descriptor.__get__"))) && decide (PySem.W.takesIn K (.builtin "object.__class__") = some true) && decide (PySem.W.mroIn K (He.ga K x) (.type "object") = some true)
theorem excB_ok {K : PySem.W.Frag} {mg : Str → Option Value} {x : Str} (h : excB K x = true) (g : mg x = some (.ref (He.ga K x))) : ExcT K mg x (He.ga K x) := by
  simp only [excB, Bool.and_eq_true, decide_eq_true_eq] at h
  obtain ⟨⟨⟨⟨⟨⟨⟨⟨⟨⟨h1, h2⟩, h3⟩, h4⟩, h5⟩, h6⟩, h7⟩, h8⟩, h9⟩, h10⟩, h11⟩ := h
  exact ⟨g, h1, h2, h3, h4, ⟨He.eqO_ok h5, He.eqO_ok h6, h3, h7, He.eqO_ok h8, He.eqO_ok h9, h10, h11⟩⟩
end Pk
end
section
set_option Elab.async false
set_option linter.all false
set_option maxRecDepth 100000
/-! The data layer, part 14: a pair of data and a list of one's own. -/
namespace Pk
open PySem PySem.Spec PyProof.Rows L2
def TupL (K : PySem.W.Frag) (d : PyData) (ds : List PyData) : Own where
  K := K
  p := fun F H v S => ∃ (t l : Addr) (w : V) (xs : List V), v = .ref t ∧ SqT K F t [w, .ref l] ∧ Rp K F w d ∧ H l = some (.lst xs) ∧ RpA K F xs ds ∧ ∀ a, S a ↔ a = l
  vw := some (.tuple [d, .list ds])
  keep := fun {F F' H H' v S} ⟨t, l, w, xs, e, h1, h2, h3, h4, h5⟩ le k => ⟨t, l, w, xs, e, sqT_le le h1, h2.mono le, (k l ((h5 l).mpr rfl)).trans h3, h4.mono le, h5⟩
  keepT := fun e => nomatch e
  view := fun {F H v S d'} le ⟨t, l, w, xs, e, h1, h2, h3, h4, h5⟩ ed => by
    cases ed
    subst e
    have ll : Le F (lay S H F) := fun a o q => by
      unfold lay
      by_cases h : S a
      · rw [if_pos h]; exact le a o q
      · rw [if_neg h]; exact q
    exact ⟨.tup (sqT_le ll h1) (.cons (h2.mono ll) (.cons (.lst (by rw [lay_at ((h5 l).mpr rfl)]; exact h3) (h4.mono ll)) .nil)), fun a sa => by rw [(h5 a).mp sa]; exact ⟨xs, h3⟩⟩
section
variable {X : Bs} {F H : Hp} {σ : L2.St} {Γ : List Sl}
/-- the last slot told otherwise -/
theorem En.swapLast {ov : Option V} {s : Sl} (E : En X F H (σ ++ [ov]) (Γ ++ [s])) : ∃ S : Addr → Prop, SlOk X F H ov S s ∧ ∀ ov' s', SlOk X F H ov' S s' → En X F H (σ ++ [ov']) (Γ ++ [s']) := by
  have hl : σ.length = Γ.length := by
    have := E.len
    simp at this
    exact this
  obtain ⟨S, hs, hdj, ho⟩ := id E.sl
  have q0 := hs Γ.length s (by simp)
  rw [← hl, getD_last] at q0
  refine ⟨S σ.length, q0, fun ov' s' h => ⟨E.le, by simp [hl], ⟨S, fun i u e => ?_, hdj, ho⟩, E.fr, E.f0, E.nn⟩⟩
  by_cases hi : i < Γ.length
  · rw [List.getElem?_append_left hi] at e
    have q := hs i u (by rw [List.getElem?_append_left hi]; exact e)
    rw [getD_app (by rw [hl]; exact hi)] at q ⊢
    exact q
  · have hi2 : i < (Γ ++ [s']).length := (List.getElem?_eq_some_iff.mp e).1
    simp at hi2
    have : i = Γ.length := by omega
    subst this
    simp at e
    subst e
    rw [← hl, getD_last]
    exact h
end
section
variable {K : PySem.W.Frag} {m : Bool} {Γ : List Sl} {P : Po} {Q : PyData → Prop} {te : TE}
/-- return (d, own list) -/
theorem sj_retTL {i : Nat} {l : Addr} {ds : List PyData} (hi : Γ[i]? = some (.ml m l ds)) (h : WD K false Γ te fun d => ∀ v, P.rt (.ex v (TupL K d ds)) (Γ.set i .no)) : SJ K Γ (tRet (tTup (tCons te (tCons (tVar i) tNil)))) P := fun X hK F H σ E D hD =>
  h X hK F H σ E _ fun v F1 H1 d l1 E1 r q => by
    subst hK
    obtain ⟨xs, e, hl, fl, rx⟩ := E1.ml hi
    refine ⟨.ref l, e, sz_le (n := 2) (by decide), fun p hp => ?_⟩
    have E2 := (E1.take hi).alloc (o := .tup [v, .ref l]) hp
    have lf : Le F1 (upd F1 p (.tup [v, .ref l])) := Le.up (E1.le.nn hp)
    obtain ⟨S, ⟨ys, e1, hS, hl2, r2, _⟩, sw⟩ := E2.swapLast
    exact hD.rt _ _ σ _ (.ref p) _ (sw (some (.ref p)) (.ex (.ref p) (TupL X.K d ds)) ⟨rfl, rfl, p, l, v, ys, rfl, .inl (.inl upd_same), r.mono lf, hl2, r2.mono (Bs.ff_le _ _ _), hS⟩) (q _)
/-- a, b = .. of such a pair -/
theorem sj_unTL {a b : Nat} (hab : a ≠ b) (h : WX K Γ te fun s => ∃ v d ds, s = .ex v (TupL K d ds) ∧ ∀ l, P.nx ((Γ.set a (.dat false d)).set b (.ml false l ds))) : SJ K Γ (tAsg te (gTup K 2 (gCons (gName a) (gCons (gName b) gNil)))) P := fun X hK F H σ E D hD =>
  h X hK F H σ E _ fun v F1 H1 s l1 E1 ⟨v', d, ds, es, q⟩ => by
    subst hK
    subst es
    obtain ⟨S, ⟨e0, _, t, l, w, xs, ev, h1, h2, h3, h4, h5⟩, sw⟩ := E1.swapLast
    cases e0
    subst ev
    refine ⟨t, [w, .ref l], rfl, sqT_le E1.le h1, rfl, w, [.ref l], rfl, .ref l, [], rfl, rfl, ?_⟩
    have E2 : En X F1 H1 (σ ++ [some (.ref l)]) (Γ ++ [.ml false l ds]) := sw _ _ ⟨xs, rfl, h5, h3, h4, fun z => nomatch z⟩
    have E3 := ((E2.put b).pushD (m := false) (d := d) h2).put a
    rw [List.set_comm _ _ hab.symm, List.set_comm _ _ hab.symm] at E3
    exact hD.nx F1 H1 _ _ E3 (q l)
theorem wd_lenM {i : Nat} {m' : Bool} {l : Addr} {ds : List PyData} (hi : Γ[i]? = some (.ml m' l ds)) (q : Q (.int ds.length)) : WD K m Γ (tCB (dLen K) (tCons (tVar i) tNil)) Q := fun X hK F H σ E C k => by
  subst hK
  obtain ⟨xs, e, hl, fl, rx⟩ := E.ml hi
  exact ⟨_, e, _, ds.length, rfl, .inl ⟨_, SqL.of hl, rx.length.symm⟩, k _ F H _ Le.rfl' E (.int _) q⟩
/-- f(own list just made), the list f's to change -/
theorem wx_callTmp {T : List Sl → (Sl → Prop) → Prop} {QX : Sl → Prop} {EE : XK} {PL : List Int → Prop} (h : WX K Γ te fun s => ∃ m l ns, s = .ml m l (ns.map PyData.int) ∧ PL ns ∧ T [.ex (.ref l) (OwnL K PL)] QX) : WX K Γ (tCall (spG K T) [] EE (tCons te tNil)) QX := fun X hK F H σ E C k =>
  h X hK F H σ E _ fun v F1 H1 s l1 E1 ⟨m, l, ns, es, hp, hT⟩ => by
    subst es
    obtain ⟨S, ⟨xs, e0, hS, hl, r, _⟩, sw⟩ := E1.swapLast
    cases e0
    rw [ints_of r] at hl
    have E2 := sw (some (.ref l)) (.ex (.ref l) (OwnL K PL)) ⟨rfl, hK.symm, l, ns, rfl, hS, hl, hp⟩
    have hlen : σ.length = Γ.length := by
      have := E1.len
      simp at this
      exact this
    have hi : (Γ ++ [Sl.ex (.ref l) (OwnL K PL)])[Γ.length]? = some (.ex (.ref l) (OwnL K PL)) := by simp
    have hv : (σ ++ [some (V.ref l)])[Γ.length]? = some (some (.ref l)) := by rw [← hlen]; simp
    obtain ⟨X1, a, b, c, d, e, f⟩ := call_sp hK E2 (vs := [.ref l]) (as := [.o Γ.length]) (.cons hv .nil) (agsGood_1 hi rfl)
    have hsl : ([Ag.o Γ.length].map (Ag.sl (Γ ++ [Sl.ex (.ref l) (OwnL K PL)]))) = [.ex (.ref l) (OwnL K PL)] := by rw [List.map_cons, ag_ex hi]; rfl
    rw [hsl] at e f
    refine ⟨X1, F1, _, QX, a, b, c, d, e, hT, fun F' H' u s lf E' q => ?_⟩
    have E3 := (f F' H' u s lf E').put Γ.length
    have e1 : (σ ++ [some (V.ref l)]).set Γ.length (some u) = σ ++ [some u] := by rw [← hlen]; simp
    have e2 : (Γ ++ [Sl.ex (.ref l) (OwnL K PL)]).set Γ.length s = Γ ++ [s] := by simp
    rw [e1, e2] at E3
    exact k u F' H' s (l1.tr lf) E3 q
end
end Pk
end
section
set_option Elab.async false
set_option linter.all false
set_option maxRecDepth 100000
/-! The data layer, part 15: texts: times, join; places in lists. -/
namespace Pk
open PySem PySem.Spec PyProof.Rows L2
/-! ### text * int -/
def rMulS : R2 := fun x y H Q => ∃ (a : Str) (n : Int), x = .str a ∧ y = .int n ∧ MulOk a n ∧ Q (.str (Txt.mul a n)) H
theorem op_mulS {X : Cx} : OpR X (binaryOp .Mult) rMulS := by
  intro pins s σ H x y v u Q I rx ry h
  obtain ⟨a, n, rfl, rfl, hm, q⟩ := h
  obtain ⟨t, rfl⟩ := rx
  obtain ⟨t', rfl⟩ := ry
  exact PySem.SB.mul hm fun _ k => ⟨.str _, H, I.tok k, ⟨_, rfl⟩, q⟩
section
variable {K : PySem.W.Frag} {m : Bool} {Γ : List Sl} {Q : PyData → Prop} {ta tb : TE}
theorem rd_mulS {a : Str} {n : Int} (hm : MulOk a n) (q : Q (.str (Txt.mul a n))) : RD K m Γ rMulS (.str a) (.int n) Q := rd_plain (d := .str (Txt.mul a n)) (fun F H v u C le rv ru k => by
  cases rv; cases ru
  exact ⟨a, n, rfl, rfl, hm, k _ (.str _)⟩) q
end
end Pk
end
section
set_option Elab.async false
set_option linter.all false
set_option maxRecDepth 100000
set_option maxHeartbeats 1000000
/-! The data layer, part 16: zip over two things of unlike kinds; dict(zip(..)). -/
namespace Pz
open PySem PySem.Spec PyProof.Rows L2
/-- an iterator over the things at l, at turn k -/
structure Nx (prog : Program) (w : World) (it l : Addr) (its : Array Value) (St : Nat → Heap → Prop) : Prop where
  item : ∀ {A : Around} {E : Value → Shared → Prop} {s : Shared} {k : Nat} {x : Value} {Q : Value → Shared → Prop}, St k s.heap → its[k]? = some x → (∀ g, St (k + 1) g → Heap.SameBut it s.heap g → Q x { s with heap := g }) → wpAny (model prog w) A (Builtin.SmallTypes.nextOf (.ref it)) Q E s
  stop : ∀ {A : Around} {E : Value → Shared → Prop} {s : Shared} {k : Nat} {Q : Value → Shared → Prop}, A.handled = none → St k s.heap → its[k]? = none → (∀ g e, Heap.ExtBut it s.heap g → (∃ o, g.get? e = some o ∧ o.cls = .type "StopIteration") → E (.ref e) { s with heap := g }) → wpAny (model prog w) A (Builtin.SmallTypes.nextOf (.ref it)) Q E s
  fr : ∀ {k : Nat} {h g : Heap}, St k h → (∀ c o, c = it ∨ c = l → h.get? c = some o → g.get? c = some o) → St k g
  obj : ∀ {k : Nat} {h : Heap}, St k h → ∃ o, h.get? it = some o ∧ ∀ v, o.data ≠ .cell v
  seq : ∀ {k : Nat} {h : Heap}, St k h → ∃ o, h.get? l = some o
section
variable {prog : Program} {w : World} {A : Around} {E : Value → Shared → Prop} {s : Shared}
theorem Nx.sb {it l a : Addr} {its : Array Value} {St : Nat → Heap → Prop} (n : Nx prog w it l its St) {k : Nat} {h g : Heap} (q : St k h) (e : Heap.SameBut a h g) (hi : it ≠ a) (hl : l ≠ a) : St k g :=
  n.fr q fun c o hc z => e.extBut c o (by rcases hc with r | r <;> rw [r] <;> assumption) z
theorem nxL {it l : Addr} {its : Array Value} (ne : l ≠ it) : Nx prog w it l its (fun k h => h.IsListIter it l k ∧ h.IsList l its) where
  item := fun q hx k => wpAny_nextOf_list_item q.1 q.2 hx fun g a b => k g ⟨a, q.2.extBut b.extBut ne⟩ b
  stop := fun hh q hx k => wpAny_nextOf_list_end hh q.1 q.2 hx k
  fr := fun q k => ⟨q.1.at fun o z => k _ o (.inl rfl) z, q.2.at fun o z => k _ o (.inr rfl) z⟩
  obj := fun q => by
    obtain ⟨⟨o, e, _, d⟩, _⟩ := q
    exact ⟨o, e, fun v z => by rw [d] at z; cases z⟩
  seq := fun q => by
    obtain ⟨_, o, e, _⟩ := q
    exact ⟨o, e⟩
theorem nxT {it l : Addr} {its : Array Value} (ne : l ≠ it) : Nx prog w it l its (fun k h => h.IsTupleIter it l k ∧ h.IsTuple l its) where
  item := fun q hx k => RZ.nextOf_tuple_item q.1 q.2 hx fun g a b => k g ⟨a, q.2.extBut b.extBut ne⟩ b
  stop := fun hh q hx k => RZ.nextOf_tuple_end hh q.1 q.2 hx k
  fr := fun q k => ⟨q.1.at fun o z => k _ o (.inl rfl) z, q.2.at fun o z => k _ o (.inr rfl) z⟩
  obj := fun q => by
    obtain ⟨⟨o, e, _, d⟩, _⟩ := q
    exact ⟨o, e, fun v z => by rw [d] at z; cases z⟩
  seq := fun q => by
    obtain ⟨_, o, e, _⟩ := q
    exact ⟨o, e⟩
variable {z TI TO i1 i2 l1 l2 : Addr} {m n : Nat} {xs ys : Array Value} {x y : Value} {S1 S2 : Nat → Heap → Prop}
theorem next_item {a b : Value} {Q : Value → Shared → Prop} (D : ZipApart z TI TO i1 i2 l1 l2) (N1 : Nx prog w i1 l1 xs S1) (N2 : Nx prog w i2 l2 ys S2)
    (pz : IsZip s.heap z TI TO .none) (pI : IsPair s.heap TI (.ref i1) (.ref i2)) (pO : IsPair s.heap TO a b) (p1 : S1 m s.heap) (p2 : S2 n s.heap) (ex : xs[m]? = some x) (ey : ys[n]? = some y)
    (k : ∀ g, IsZip g z TI TO (rawInt s.heap.objs.size) → IsPair g TO x y → S1 (m + 1) g → S2 (n + 1) g → IsPair g s.heap.objs.size x y → g.objs.size = s.heap.objs.size + 1 →
      (∀ c o, c ≠ z → c ≠ TO → c ≠ i1 → c ≠ i2 → s.heap.get? c = some o → g.get? c = some o) → Q (.ref s.heap.objs.size) { s with heap := g }) :
    wpAny (model prog w) A (Builtin.«zip.__next__» ⟨[.ref z], []⟩) (fun fin s' => ∃ v, fin = .done (.ret v) ∧ Q v s') E s := by
  show wpAny _ _ (field (.ref z) 2 >>= _) _ _ _; refine wpAny_bind (wpAny_field pz rfl (x := .bool false) rfl ?_)
  show wpAny _ _ (field (.ref z) 3 >>= _) _ _ _; refine wpAny_bind (wpAny_field pz rfl (x := .ref TI) rfl ?_); refine wpAny_bind (wpAny_seqItems pI rfl ?_)
  show wpAny _ _ (Builtin.SmallTypes.ownedTupleIsFree (.ref z) >>= _) _ _ _; refine wpAny_bind ?_; unfold Builtin.SmallTypes.ownedTupleIsFree
  refine wpAny_bind (wpAny_field pz rfl (x := .none) rfl (wpAny_pure ?_)); simp only [if_true]; refine wpAny_bind (wpAny_rule ?_)
  refine wpAny_bind (wpAny_field pz rfl (x := .ref TO) rfl ?_); refine wpAny_bind (wpAny_setField_rec pz (by simp) fun g1 z1 b1 => ?_)
  replace z1 : IsZip g1 z TI TO .ellipsis := z1
  refine wpAny_bind ?_; simp only [List.zipIdx_nil, List.zipIdx_cons, List.forIn_nil, List.forIn_cons]
  refine wpAny_bind (wpAny_bind (wpAny_onRaise ?_)); show wpAny _ _ (Builtin.SmallTypes.nextOf (.ref i1) >>= _) _ _ _
  refine wpAny_bind (N1.item (s := { s with heap := g1 }) (N1.sb p1 b1 D.i1z D.l1z) ex fun g2 q1 b2 => wpAny_pure ?_)
  have o2 : IsPair g2 TO a b := b2.extBut _ _ D.TOi1 (b1.extBut _ _ D.TOz pO)
  refine wpAny_bind (wpAny_seqItems o2 rfl ?_); refine wpAny_bind (wpAny_updateSeq_pair o2 fun g3 o3 b3 => ?_)
  replace o3 : IsPair g3 TO x b := o3
  refine wpAny_bind (wpAny_letGo (wpAny_pure ?_)); refine wpAny_bind (wpAny_bind (wpAny_onRaise ?_)); show wpAny _ _ (Builtin.SmallTypes.nextOf (.ref i2) >>= _) _ _ _
  refine wpAny_bind (N2.item (s := { s with heap := g3 }) (N2.sb (N2.sb (N2.sb p2 b1 D.i2z D.l2z) b2 D.i12.symm D.l2i1) b3 D.TOi2.symm D.l2TO) ey fun g4 q2 b4 => wpAny_pure ?_)
  have o4 : IsPair g4 TO x b := b4.extBut _ _ D.TOi2 o3
  refine wpAny_bind (wpAny_seqItems o4 rfl ?_); refine wpAny_bind (wpAny_updateSeq_pair o4 fun g5 o5 b5 => ?_)
  replace o5 : IsPair g5 TO x y := o5
  refine wpAny_bind (wpAny_letGo (wpAny_pure (wpAny_pure ?_))); refine wpAny_bind (wpAny_seqItems o5 rfl ?_); refine wpAny_bind (wpAny_newTuple ?_)
  have sz : g5.objs.size = s.heap.objs.size := by rw [b5.1, b4.1, b3.1, b2.1, b1.1]
  have z5 : IsZip g5 z TI TO .ellipsis := b5.extBut _ _ D.TOz.symm (b4.extBut _ _ D.i2z.symm (b3.extBut _ _ D.TOz.symm (b2.extBut _ _ D.i1z.symm z1)))
  have k5 : ∀ c o, c ≠ z → c ≠ TO → c ≠ i1 → c ≠ i2 → s.heap.get? c = some o → g5.get? c = some o := fun c o c1 c2 c3 c4 e => b5.extBut _ _ c2 (b4.extBut _ _ c4 (b3.extBut _ _ c2 (b2.extBut _ _ c3 (b1.extBut _ _ c1 e))))
  have t1 : S1 (m + 1) g5 := N1.sb (N1.sb (N1.sb q1 b3 D.TOi1.symm D.l1TO) b4 D.i12 D.l1i2) b5 D.TOi1.symm D.l1TO
  have t2 : S2 (n + 1) g5 := N2.sb q2 b5 D.TOi2.symm D.l2TO
  have zl : z < g5.objs.size := Heap.lt_size z5
  show wpAny _ _ (Builtin.SmallTypes.ownedTupleHandOut (.ref z) (.ref g5.objs.size) >>= _) _ _ _; refine wpAny_bind ?_; unfold Builtin.SmallTypes.ownedTupleHandOut
  have z6 : IsZip (g5.push { cls := .type "tuple", data := .seq #[x, y] }) z TI TO .ellipsis := Heap.get?_push_of_some _ z5
  refine wpAny_bind (wpAny_setField_rec z6 (by simp) fun g7 z7 b7 => ?_)
  replace z7 : IsZip g7 z TI TO (rawInt g5.objs.size) := z7
  refine wpAny_setField_rec z7 (by simp) fun g8 z8 b8 => ?_
  replace z8 : IsZip g8 z TI TO (rawInt g5.objs.size) := z8
  have up : ∀ c o, c ≠ z → g5.get? c = some o → g8.get? c = some o := fun c o c1 e => b8.extBut _ _ c1 (b7.extBut _ _ c1 (Heap.get?_push_of_some _ e))
  have t8 : IsPair g8 g5.objs.size x y := b8.extBut _ _ (Nat.ne_of_gt zl) (b7.extBut _ _ (Nat.ne_of_gt zl) (Heap.get?_push_size _ rfl))
  have s8 : g8.objs.size = g5.objs.size + 1 := by rw [b8.1, b7.1, Heap.size_push]
  rw [sz] at z8 t8 s8; refine wpAny_pure ⟨_, rfl, ?_⟩
  show Q (.ref g5.objs.size) _
  rw [sz]
  exact k g8 z8 (up _ _ D.TOz o5) (N1.fr t1 fun c o hc e => up c o (by rcases hc with r | r <;> rw [r]; exact D.i1z; exact D.l1z) e) (N2.fr t2 fun c o hc e => up c o (by rcases hc with r | r <;> rw [r]; exact D.i2z; exact D.l2z) e) t8 s8 fun c o c1 c2 c3 c4 e => up c o c1 (k5 c o c1 c2 c3 c4 e)
theorem next_end {a b : Value} {Q : Fin → Shared → Prop} (ca : A.handled = none) (D : ZipApart z TI TO i1 i2 l1 l2) (N1 : Nx prog w i1 l1 xs S1) (N2 : Nx prog w i2 l2 ys S2)
    (pz : IsZip s.heap z TI TO .none) (pI : IsPair s.heap TI (.ref i1) (.ref i2)) (pO : IsPair s.heap TO a b) (p1 : S1 m s.heap) (p2 : S2 n s.heap) (en : xs[m]? = none ∨ ys[n]? = none)
    (k : ∀ g e, (∀ c o, c ≠ z → c ≠ TO → c ≠ i1 → c ≠ i2 → s.heap.get? c = some o → g.get? c = some o) → (∃ o, g.get? e = some o ∧ o.cls = .type "StopIteration") → E (.ref e) { s with heap := g }) :
    wpAny (model prog w) A (Builtin.«zip.__next__» ⟨[.ref z], []⟩) Q E s := by
  show wpAny _ _ (field (.ref z) 2 >>= _) _ _ _; refine wpAny_bind (wpAny_field pz rfl (x := .bool false) rfl ?_)
  show wpAny _ _ (field (.ref z) 3 >>= _) _ _ _; refine wpAny_bind (wpAny_field pz rfl (x := .ref TI) rfl ?_); refine wpAny_bind (wpAny_seqItems pI rfl ?_)
  show wpAny _ _ (Builtin.SmallTypes.ownedTupleIsFree (.ref z) >>= _) _ _ _; refine wpAny_bind ?_; unfold Builtin.SmallTypes.ownedTupleIsFree
  refine wpAny_bind (wpAny_field pz rfl (x := .none) rfl (wpAny_pure ?_)); simp only [if_true]; refine wpAny_bind (wpAny_rule ?_)
  refine wpAny_bind (wpAny_field pz rfl (x := .ref TO) rfl ?_); refine wpAny_bind (wpAny_setField_rec pz (by simp) fun g1 z1 b1 => ?_)
  replace z1 : IsZip g1 z TI TO .ellipsis := z1
  refine wpAny_bind ?_; simp only [List.zipIdx_nil, List.zipIdx_cons, List.forIn_nil, List.forIn_cons]
  refine wpAny_bind (wpAny_bind (wpAny_onRaise ?_)); show wpAny _ _ (Builtin.SmallTypes.nextOf (.ref i1) >>= _) _ _ _
  cases ex : xs[m]? with
  | none =>
    refine wpAny_bind (N1.stop (s := { s with heap := g1 }) ca (N1.sb p1 b1 D.i1z D.l1z) ex fun g2 e b2 he => ?_)
    obtain ⟨oe, ho, hc⟩ := he
    have z2 : IsZip g2 z TI TO .ellipsis := b2 _ _ D.i1z.symm z1
    have ez : e ≠ z := fun r => by subst r; rw [z2] at ho; cases ho; simp at hc
    exact wpAny_setField_rec z2 (by simp) fun g3 _ b3 => k g3 e (fun c o c1 _ c3 _ r => b3.extBut _ _ c1 (b2 _ _ c3 (b1.extBut _ _ c1 r))) ⟨oe, b3.extBut _ _ ez ho, hc⟩
  | some x =>
    have ey : ys[n]? = none := by rcases en with r | r; rw [ex] at r; cases r; exact r
    refine wpAny_bind (N1.item (s := { s with heap := g1 }) (N1.sb p1 b1 D.i1z D.l1z) ex fun g2 q1 b2 => wpAny_pure ?_)
    have o2 : IsPair g2 TO a b := b2.extBut _ _ D.TOi1 (b1.extBut _ _ D.TOz pO)
    refine wpAny_bind (wpAny_seqItems o2 rfl ?_); refine wpAny_bind (wpAny_updateSeq_pair o2 fun g3 o3 b3 => ?_)
    refine wpAny_bind (wpAny_letGo (wpAny_pure ?_)); refine wpAny_bind (wpAny_bind (wpAny_onRaise ?_)); show wpAny _ _ (Builtin.SmallTypes.nextOf (.ref i2) >>= _) _ _ _
    refine wpAny_bind (N2.stop (s := { s with heap := g3 }) ca (N2.sb (N2.sb (N2.sb p2 b1 D.i2z D.l2z) b2 D.i12.symm D.l2i1) b3 D.TOi2.symm D.l2TO) ey fun g4 e b4 he => ?_)
    obtain ⟨oe, ho, hc⟩ := he
    have z4 : IsZip g4 z TI TO .ellipsis := b4 _ _ D.i2z.symm (b3.extBut _ _ D.TOz.symm (b2.extBut _ _ D.i1z.symm z1))
    have ez : e ≠ z := fun r => by subst r; rw [z4] at ho; cases ho; simp at hc
    exact wpAny_setField_rec z4 (by simp) fun g5 _ b5 => k g5 e (fun c o c1 c2 c3 c4 r => b5.extBut _ _ c1 (b4 _ _ c4 (b3.extBut _ _ c2 (b2.extBut _ _ c3 (b1.extBut _ _ c1 r))))) ⟨oe, b5.extBut _ _ ez ho, hc⟩
theorem held_item {T : Addr} {f : Bool} {oT : Obj} {Q : Value → Shared → Prop} (D : ZipApart z TI TO i1 i2 l1 l2) (N1 : Nx prog w i1 l1 xs S1) (N2 : Nx prog w i2 l2 ys S2)
    (pz : IsZipHeld s.heap z TI TO T f) (pT : s.heap.get? T = some oT) (pI : IsPair s.heap TI (.ref i1) (.ref i2)) (p1 : S1 m s.heap) (p2 : S2 n s.heap) (ex : xs[m]? = some x) (ey : ys[n]? = some y)
    (k : ∀ g, IsZipHeld g z TI TO T true → S1 (m + 1) g → S2 (n + 1) g → IsPair g s.heap.objs.size x y → g.objs.size = s.heap.objs.size + 1 →
      (∀ c o, c ≠ z → c ≠ i1 → c ≠ i2 → s.heap.get? c = some o → g.get? c = some o) → Q (.ref s.heap.objs.size) { s with heap := g }) :
    wpAny (model prog w) A (Builtin.«zip.__next__» ⟨[.ref z], []⟩) (fun fin s' => ∃ v, fin = .done (.ret v) ∧ Q v s') E s := by
  show wpAny _ _ (field (.ref z) 2 >>= _) _ _ _; refine wpAny_bind (wpAny_field pz rfl (x := .bool false) rfl ?_)
  show wpAny _ _ (field (.ref z) 3 >>= _) _ _ _; refine wpAny_bind (wpAny_field pz rfl (x := .ref TI) rfl ?_); refine wpAny_bind (wpAny_seqItems pI rfl ?_)
  show wpAny _ _ (Builtin.SmallTypes.ownedTupleIsFree (.ref z) >>= _) _ _ _; refine wpAny_bind (wpAny_tupleHeld_zip pz pT fun g1 z1 b1 => ?_)
  simp only [Bool.false_eq_true, if_false]; refine wpAny_bind ?_; rw [← Array.forIn_toList]; simp only [List.forIn_nil, List.forIn_cons]
  refine wpAny_bind (wpAny_bind (wpAny_holding ?_)); show wpAny _ _ (Builtin.SmallTypes.nextOf (.ref i1) >>= _) _ _ _
  refine wpAny_bind (N1.item (s := { s with heap := g1 }) (N1.sb p1 b1 D.i1z D.l1z) ex fun g2 q1 b2 => wpAny_pure ?_)
  refine wpAny_pure ?_; refine wpAny_bind (wpAny_bind (wpAny_holding ?_)); show wpAny _ _ (Builtin.SmallTypes.nextOf (.ref i2) >>= _) _ _ _
  refine wpAny_bind (N2.item (s := { s with heap := g2 }) (N2.sb (N2.sb p2 b1 D.i2z D.l2z) b2 D.i12.symm D.l2i1) ey fun g3 q2 b3 => wpAny_pure ?_)
  refine wpAny_pure (wpAny_pure ?_); show wpAny _ _ (newTuple [x, y] >>= _) _ _ _; refine wpAny_bind (wpAny_newTuple ?_)
  have sz : g3.objs.size = s.heap.objs.size := by rw [b3.1, b2.1, b1.1]
  have z3 : IsZipHeld g3 z TI TO T true := b3.extBut _ _ D.i2z.symm (b2.extBut _ _ D.i1z.symm z1)
  have k3 : ∀ c o, c ≠ z → c ≠ i1 → c ≠ i2 → s.heap.get? c = some o → g3.get? c = some o := fun c o c1 c2 c3 e => b3.extBut _ _ c3 (b2.extBut _ _ c2 (b1.extBut _ _ c1 e))
  have t1 : S1 (m + 1) g3 := N1.sb q1 b3 D.i12 D.l1i2
  refine wpAny_pure ⟨_, rfl, ?_⟩
  show Q (.ref g3.objs.size) _
  have hp : IsPair (g3.push { cls := .type "tuple", data := .seq #[x, y] }) g3.objs.size x y := Heap.get?_push_size _ rfl
  have s4 : (g3.push { cls := .type "tuple", data := .seq #[x, y] }).objs.size = g3.objs.size + 1 := Heap.size_push ..
  rw [sz] at hp s4 ⊢
  exact k _ (Heap.get?_push_of_some _ z3) (N1.fr t1 fun c o _ e => Heap.get?_push_of_some _ e) (N2.fr q2 fun c o _ e => Heap.get?_push_of_some _ e) hp s4 fun c o c1 c2 c3 e => Heap.get?_push_of_some _ (k3 c o c1 c2 c3 e)
theorem held_end {T : Addr} {f : Bool} {oT : Obj} {Q : Fin → Shared → Prop} (ca : A.handled = none) (D : ZipApart z TI TO i1 i2 l1 l2) (N1 : Nx prog w i1 l1 xs S1) (N2 : Nx prog w i2 l2 ys S2)
    (pz : IsZipHeld s.heap z TI TO T f) (pT : s.heap.get? T = some oT) (pI : IsPair s.heap TI (.ref i1) (.ref i2)) (p1 : S1 m s.heap) (p2 : S2 n s.heap) (en : xs[m]? = none ∨ ys[n]? = none)
    (k : ∀ g e, (∀ c o, c ≠ z → c ≠ i1 → c ≠ i2 → s.heap.get? c = some o → g.get? c = some o) → (∃ o, g.get? e = some o ∧ o.cls = .type "StopIteration") → E (.ref e) { s with heap := g }) :
    wpAny (model prog w) A (Builtin.«zip.__next__» ⟨[.ref z], []⟩) Q E s := by
  show wpAny _ _ (field (.ref z) 2 >>= _) _ _ _; refine wpAny_bind (wpAny_field pz rfl (x := .bool false) rfl ?_)
  show wpAny _ _ (field (.ref z) 3 >>= _) _ _ _; refine wpAny_bind (wpAny_field pz rfl (x := .ref TI) rfl ?_); refine wpAny_bind (wpAny_seqItems pI rfl ?_)
  show wpAny _ _ (Builtin.SmallTypes.ownedTupleIsFree (.ref z) >>= _) _ _ _; refine wpAny_bind (wpAny_tupleHeld_zip pz pT fun g1 z1 b1 => ?_)
  simp only [Bool.false_eq_true, if_false]; refine wpAny_bind ?_; rw [← Array.forIn_toList]; simp only [List.forIn_nil, List.forIn_cons]
  refine wpAny_bind (wpAny_bind (wpAny_holding ?_)); show wpAny _ _ (Builtin.SmallTypes.nextOf (.ref i1) >>= _) _ _ _
  cases ex : xs[m]? with
  | none => exact wpAny_bind (N1.stop (s := { s with heap := g1 }) ca (N1.sb p1 b1 D.i1z D.l1z) ex fun g2 e b2 he => k g2 e (fun c o c1 c2 _ r => b2 _ _ c2 (b1.extBut _ _ c1 r)) he)
  | some x =>
    have ey : ys[n]? = none := by rcases en with r | r; rw [ex] at r; cases r; exact r
    refine wpAny_bind (N1.item (s := { s with heap := g1 }) (N1.sb p1 b1 D.i1z D.l1z) ex fun g2 q1 b2 => wpAny_pure ?_)
    refine wpAny_pure ?_; refine wpAny_bind (wpAny_bind (wpAny_holding ?_)); show wpAny _ _ (Builtin.SmallTypes.nextOf (.ref i2) >>= _) _ _ _
    exact wpAny_bind (N2.stop (s := { s with heap := g2 }) ca (N2.sb (N2.sb p2 b1 D.i2z D.l2z) b2 D.i12.symm D.l2i1) ey fun g3 e b3 he => k g3 e (fun c o c1 c2 c3 r => b3 _ _ c3 (b2.extBut _ _ c2 (b1.extBut _ _ c1 r))) he)
/-- next(z) by what zip.__next__ does -/
theorem py_item {Q : Option Value → Shared → Prop} (hT : s.TypeIs (.ref z) "zip") (h : wpAny (model prog w) A.in1 (Builtin.«zip.__next__» ⟨[.ref z], []⟩) (fun fin s' => ∃ v, fin = .done (.ret v) ∧ Q (some v) s') (fun _ _ => False) s) : wpAny (model prog w) A (pyNext (.ref z)) Q E s := by
  unfold pyNext
  refine wpAny_bind (wpAny_attempt (wpAny_callSpecial?_slot (name := Str.ofString "__next__") hT F.slot_zip_next (wpAny_call_entry F.slot_zip_next hT F.entry_zip_next ?_ (F.args_zip_next_1 _))))
  refine wpAny_mono h (fun fin s' ⟨v, e, q⟩ => ⟨v, e, wpAny_pure q⟩) fun _ _ q => q.elim
end
end Pz
end
section
set_option Elab.async false
set_option linter.all false
set_option maxRecDepth 100000
/-! The data layer, part 17: things of one's own made of others. -/
namespace Pk
open PySem PySem.Spec PyProof.Rows L2
section
variable {X : Bs} {F H : Hp} {σ : L2.St} {Γ : List Sl}
/-- slot i and the last one become slot i -/
theorem En.merge {ov : Option V} {s1 s2 : Sl} {i : Nat} (E : En X F H (σ ++ [ov]) (Γ ++ [s2])) (hi : Γ[i]? = some s1) :
    ∃ S1 S2 : Addr → Prop, SlOk X F H (σ.getD i none) S1 s1 ∧ SlOk X F H ov S2 s2 ∧ (∀ a, S1 a → ¬ S2 a) ∧ (∀ a, S1 a ∨ S2 a → F a = none ∧ H a ≠ none) ∧
      ∀ (H' : Hp) (s' : Sl) (S' : Addr → Prop), (∀ a o, H a = some o → ¬ S1 a → ¬ S2 a → H' a = some o) → (∀ a, S1 a ∨ S2 a → H' a ≠ none) → (∀ a, S' a → S1 a ∨ S2 a) → SlOk X F H' (σ.getD i none) S' s' → En X F H' σ (Γ.set i s') := by
  have hl : σ.length = Γ.length := by
    have := E.len
    simp at this
    exact this
  have hil : i < Γ.length := (List.getElem?_eq_some_iff.mp hi).1
  obtain ⟨S, hs, hdj, ho⟩ := id E.sl
  have q1 := hs i s1 (by rw [List.getElem?_append_left hil]; exact hi)
  rw [getD_app (by rw [hl]; exact hil)] at q1
  have q2 := hs Γ.length s2 (by simp)
  rw [← hl, getD_last] at q2
  have ow : ∀ a, S i a ∨ S σ.length a → F a = none ∧ H a ≠ none ∧ X.own a := fun a h => by
    rcases h with h | h
    · exact ho _ a h
    · exact ho _ a h
  refine ⟨S i, S σ.length, q1, q2, fun a h1 h2 => ?_, fun a h => ⟨(ow a h).1, (ow a h).2.1⟩, fun H' s' S' hk hn hS q => ?_⟩
  · have := hdj _ _ a h1 h2
    omega
  · have keep : ∀ (j : Nat) (a : Addr), j < Γ.length → j ≠ i → S j a → H' a = H a := fun j a hj ji sa => by
      cases z : H a with
      | none => exact absurd z (ho j a sa).2.1
      | some o => exact hk a o z (fun w => ji (hdj j i a sa w)) (fun w => by have := hdj j _ a sa w; omega)
    have some_ : ∀ a, H a ≠ none → H' a ≠ none := fun a h => by
      by_cases w1 : S i a
      · exact hn a (.inl w1)
      · by_cases w2 : S σ.length a
        · exact hn a (.inr w2)
        · cases z : H a with
          | none => exact absurd z h
          | some o => rw [hk a o z w1 w2]; simp
    refine ⟨fun a o z => ?_, by simp [hl], ⟨fun j a => (j = i ∧ S' a) ∨ (j ≠ i ∧ j < Γ.length ∧ S j a), fun j u e => ?_, fun j k a h1 h2 => ?_, fun j a h1 => ?_⟩, fun a o e n => ?_, E.f0, fun a n => some_ a (E.nn a n)⟩
    · have hz := E.le a o z
      refine hk a o hz (fun w => ?_) (fun w => ?_)
      · rw [(ho _ a w).1] at z; cases z
      · rw [(ho _ a w).1] at z; cases z
    · by_cases hj : j = i
      · subst hj
        rw [List.getElem?_set_self hil] at e
        cases e
        have eS : (fun a => (j = j ∧ S' a) ∨ (j ≠ j ∧ j < Γ.length ∧ S j a)) = S' := by
          funext a
          exact propext ⟨fun z => by rcases z with z | z; exact z.2; exact absurd rfl z.1, fun z => .inl ⟨rfl, z⟩⟩
        show SlOk X F H' _ (fun a => (j = j ∧ S' a) ∨ (j ≠ j ∧ j < Γ.length ∧ S j a)) _
        rw [eS]
        exact q
      · rw [List.getElem?_set_ne (Ne.symm hj)] at e
        have hjl : j < Γ.length := (List.getElem?_eq_some_iff.mp e).1
        have eS : (fun a => (j = i ∧ S' a) ∨ (j ≠ i ∧ j < Γ.length ∧ S j a)) = S j := by
          funext a
          exact propext ⟨fun z => by rcases z with z | z; exact absurd z.1 hj; exact z.2.2, fun z => .inr ⟨hj, hjl, z⟩⟩
        show SlOk X F H' _ (fun a => (j = i ∧ S' a) ∨ (j ≠ i ∧ j < Γ.length ∧ S j a)) _
        rw [eS]
        have z := hs j u (by rw [List.getElem?_append_left hjl]; exact e)
        rw [getD_app (by rw [hl]; exact hjl)] at z
        exact z.mono Le.rfl' fun a sa => keep j a hjl hj sa
    · rcases h1 with ⟨e1, h1⟩ | ⟨n1, l1, h1⟩ <;> rcases h2 with ⟨e2, h2⟩ | ⟨n2, l2, h2⟩
      · omega
      · rcases hS a h1 with w | w
        · exact absurd (hdj _ _ a h2 w) n2
        · have := hdj _ _ a h2 w; omega
      · rcases hS a h2 with w | w
        · exact absurd (hdj _ _ a h1 w) n1
        · have := hdj _ _ a h1 w; omega
      · exact hdj j k a h1 h2
    · rcases h1 with ⟨e1, h1⟩ | ⟨n1, l1, h1⟩
      · have := ow a (hS a h1)
        exact ⟨this.1, hn a (hS a h1), this.2.2⟩
      · have := ho j a h1
        exact ⟨this.1, some_ a this.2.1, this.2.2⟩
    · obtain ⟨r1, r2⟩ := E.fr a o e n
      have nS : ∀ j, S j a → False := fun j sj => by
        rcases (ho j a sj).2.2 with w | w
        · rw [w] at e; cases e
        · exact n w
      exact ⟨hk a o r1 (nS _) (nS _), r2⟩
/-- slot i changes -/
theorem En.reown {s1 : Sl} {i : Nat} (E : En X F H σ Γ) (hi : Γ[i]? = some s1) :
    ∃ S1 : Addr → Prop, SlOk X F H (σ.getD i none) S1 s1 ∧ (∀ a, S1 a → F a = none ∧ H a ≠ none) ∧
      ∀ (H' : Hp) (s' : Sl) (S' : Addr → Prop), (∀ a o, H a = some o → ¬ S1 a → H' a = some o) → (∀ a, S1 a → H' a ≠ none) → (∀ a, S' a → S1 a) → SlOk X F H' (σ.getD i none) S' s' → En X F H' σ (Γ.set i s') := by
  obtain ⟨S1, S2, q1, q2, hd, ho, k⟩ := (E.pushD (v := .non) (m := false) .non).merge hi
  refine ⟨S1, q1, fun a h => ho a (.inl h), fun H' s' S' h1 h2 h3 h4 => k H' s' S' (fun a o z w _ => h1 a o z w) (fun a h => ?_) (fun a h => .inl (h3 a h)) h4⟩
  rcases h with h | h
  · exact h2 a h
  · exact absurd h (q2.2 a)
/-- slot i is given out, changed, with what is new -/
theorem En.takeX {s1 : Sl} {i : Nat} (E : En X F H σ Γ) (hi : Γ[i]? = some s1) :
    ∃ S1 : Addr → Prop, SlOk X F H (σ.getD i none) S1 s1 ∧ (∀ a, S1 a → F a = none ∧ H a ≠ none) ∧
      ∀ (H' : Hp) (v' : V) (s' : Sl) (S' : Addr → Prop), (∀ a o, H a = some o → ¬ S1 a → H' a = some o) → (∀ a, S1 a → H' a ≠ none) → (∀ a, S' a → (S1 a ∨ H a = none) ∧ H' a ≠ none) → SlOk X F H' (some v') S' s' → En X F H' (σ ++ [some v']) (Γ.set i .no ++ [s']) := by
  have hil : i < Γ.length := (List.getElem?_eq_some_iff.mp hi).1
  obtain ⟨S, hs, hdj, ho⟩ := id E.sl
  refine ⟨S i, hs i s1 hi, fun a h => ⟨(ho i a h).1, (ho i a h).2.1⟩, fun H' v' s' S' hk hn hS q => ?_⟩
  have keep : ∀ (j : Nat) (a : Addr), j ≠ i → S j a → H' a = H a := fun j a ji sa => by
    cases z : H a with
    | none => exact absurd z (ho j a sa).2.1
    | some o => exact hk a o z fun w => ji (hdj j i a sa w)
  have some_ : ∀ a, H a ≠ none → H' a ≠ none := fun a h => by
    by_cases w1 : S i a
    · exact hn a w1
    · cases z : H a with
      | none => exact absurd z h
      | some o => rw [hk a o z w1]; simp
  have hS' : ∀ j a, j ≠ i → S j a → ¬ S' a := fun j a ji sa w => by
    rcases (hS a w).1 with z | z
    · exact ji (hdj j i a sa z)
    · exact (ho j a sa).2.1 z
  refine ⟨fun a o z => hk a o (E.le a o z) fun w => (by rw [(ho _ a w).1] at z; cases z), by simp [E.len], ⟨fun j a => (j = Γ.length ∧ S' a) ∨ (j ≠ i ∧ j < Γ.length ∧ S j a), fun j u e => ?_, fun j k a h1 h2 => ?_, fun j a h1 => ?_⟩, fun a o e n => ?_, E.f0, fun a n => some_ a (E.nn a n)⟩
  · have hj : j < (Γ.set i .no ++ [s']).length := (List.getElem?_eq_some_iff.mp e).1
    simp only [List.length_append, List.length_set, List.length_cons, List.length_nil] at hj
    by_cases hlt : j < Γ.length
    · rw [List.getElem?_append_left (by simpa using hlt)] at e
      rw [getD_app (by rw [E.len]; exact hlt)]
      by_cases ji : j = i
      · subst ji
        rw [List.getElem?_set_self hil] at e
        cases e
        exact fun a z => by
          rcases z with z | z
          · omega
          · exact z.1 rfl
      · rw [List.getElem?_set_ne (Ne.symm ji)] at e
        have eS : (fun a => (j = Γ.length ∧ S' a) ∨ (j ≠ i ∧ j < Γ.length ∧ S j a)) = S j := by
          funext a
          exact propext ⟨fun z => by rcases z with z | z; omega; exact z.2.2, fun z => .inr ⟨ji, hlt, z⟩⟩
        show SlOk X F H' _ (fun a => (j = Γ.length ∧ S' a) ∨ (j ≠ i ∧ j < Γ.length ∧ S j a)) _
        rw [eS]
        exact (hs j u e).mono Le.rfl' fun a sa => keep j a ji sa
    · have hje : j = Γ.length := by omega
      subst hje
      rw [List.getElem?_append_right (by simp)] at e
      simp at e
      subst e
      have eS : (fun a => (Γ.length = Γ.length ∧ S' a) ∨ (Γ.length ≠ i ∧ Γ.length < Γ.length ∧ S Γ.length a)) = S' := by
        funext a
        exact propext ⟨fun z => by rcases z with z | z; exact z.2; omega, fun z => .inl ⟨rfl, z⟩⟩
      show SlOk X F H' _ (fun a => (Γ.length = Γ.length ∧ S' a) ∨ (Γ.length ≠ i ∧ Γ.length < Γ.length ∧ S Γ.length a)) _
      rw [eS, ← E.len, getD_last]
      exact q
  · rcases h1 with ⟨e1, h1⟩ | ⟨n1, l1, h1⟩ <;> rcases h2 with ⟨e2, h2⟩ | ⟨n2, l2, h2⟩
    · omega
    · exact absurd h1 (hS' k a n2 h2)
    · exact absurd h2 (hS' j a n1 h1)
    · exact hdj j k a h1 h2
  · rcases h1 with ⟨e1, h1⟩ | ⟨n1, l1, h1⟩
    · obtain ⟨z, w⟩ := hS a h1
      rcases z with z | z
      · exact ⟨(ho i a z).1, w, (ho i a z).2.2⟩
      · exact ⟨E.le.nn z, w, E.ownN z⟩
    · have := ho j a h1
      exact ⟨this.1, some_ a this.2.1, this.2.2⟩
  · obtain ⟨r1, r2⟩ := E.fr a o e n
    refine ⟨hk a o r1 fun sj => ?_, r2⟩
    rcases (ho _ a sj).2.2 with w | w
    · rw [w] at e; cases e
    · exact n w
/-- what stands in a slot of nobody's may be any -/
theorem En.noset (E : En X F H σ Γ) {i : Nat} (hi : Γ[i]? = some .no) (ov : Option V) : En X F H (σ.set i ov) Γ := by
  have := E.set_no i ov
  have e : Γ.set i .no = Γ := by
    apply List.ext_getElem?
    intro j
    by_cases h : j = i
    · subst h
      rw [List.getElem?_set_self (List.getElem?_eq_some_iff.mp hi).1, hi]
    · rw [List.getElem?_set_ne (Ne.symm h)]
  rw [e] at this
  exact this
end
/-! ### lists of lists of ints, all of one's own -/
def PoolsP (K : PySem.W.Frag) (PP : List (List Int) → Prop) (H : Hp) (l : Addr) (qs : List Addr) : Prop := ∃ nss : List (List Int), H l = some (.lst (qs.map V.ref)) ∧ qs.length = nss.length ∧ (l :: qs).Nodup ∧ PP nss ∧ ∀ (i : Nat) (q : Addr) (ns : List Int), qs[i]? = some q → nss[i]? = some ns → H q = some (.lst (ns.map V.int))
theorem PoolsP.keep {K : PySem.W.Frag} {PP : List (List Int) → Prop} {H H' : Hp} {l : Addr} {qs : List Addr} (h : PoolsP K PP H l qs) (k : ∀ a, a = l ∨ a ∈ qs → H' a = H a) : PoolsP K PP H' l qs := by
  obtain ⟨nss, h1, h2, h3, h4, h5⟩ := h
  exact ⟨nss, (k l (.inl rfl)).trans h1, h2, h3, h4, fun i q ns a b => (k q (.inr (List.mem_of_getElem? a))).trans (h5 i q ns a b)⟩
def PoolsO (K : PySem.W.Frag) (PP : List (List Int) → Prop) : Own where
  K := K
  p := fun _ H v S => ∃ (l : Addr) (qs : List Addr), v = .ref l ∧ PoolsP K PP H l qs ∧ ∀ a, S a ↔ a = l ∨ a ∈ qs
  vw := none
  keep := fun {F F' H H' v S} ⟨l, qs, e, h, hS⟩ _ k => ⟨l, qs, e, h.keep fun a ha => k a ((hS a).mpr ha), hS⟩
  keepT := fun _ {F F' H H' v S} ⟨l, qs, e, h, hS⟩ _ k => ⟨l, qs, e, h.keep fun a ha => k a ((hS a).mpr ha), hS⟩
  view := fun _ _ e => nomatch e
/-- [pools, n] -/
def DeckO (K : PySem.W.Frag) (PP : List (List Int) → Prop) : Own where
  K := K
  p := fun _ H v S => ∃ (t l : Addr) (qs : List Addr) (n : Int), v = .ref t ∧ H t = some (.lst [.ref l, .int n]) ∧ t ≠ l ∧ t ∉ qs ∧ PoolsP K PP H l qs ∧ ∀ a, S a ↔ a = t ∨ a = l ∨ a ∈ qs
  vw := none
  keep := fun {F F' H H' v S} ⟨t, l, qs, n, e, ht, h1, h2, h, hS⟩ _ k => ⟨t, l, qs, n, e, (k t ((hS t).mpr (.inl rfl))).trans ht, h1, h2, h.keep fun a ha => k a ((hS a).mpr (.inr ha)), hS⟩
  keepT := fun _ {F F' H H' v S} ⟨t, l, qs, n, e, ht, h1, h2, h, hS⟩ _ k => ⟨t, l, qs, n, e, (k t ((hS t).mpr (.inl rfl))).trans ht, h1, h2, h.keep fun a ha => k a ((hS a).mpr (.inr ha)), hS⟩
  view := fun _ _ e => nomatch e
section
variable {K : PySem.W.Frag} {Γ : List Sl} {P : Po} {te : TE} {ts : TS}
/-- an empty list is a list of none -/
theorem sj_pools0 (i : Nat) {m : Bool} {l : Addr} {PP : List (List Int) → Prop} (hi : Γ[i]? = some (.ml m l [])) (hp : PP []) (k : SJ K (Γ.set i (.ex (.ref l) (PoolsO K PP))) ts P) : SJ K Γ ts P :=
  sj_retell hi (fun X F H ov S hK q => by
    obtain ⟨xs, e, hS, hl, r, _⟩ := q
    cases r
    exact ⟨e, hK.symm, l, [], rfl, ⟨[], hl, rfl, by simp, hp, fun i q ns a _ => by simp at a⟩, fun a => by rw [hS]; simp⟩) k
/-- pools.append([ints]) -/
theorem sj_appPool {i : Nat} {l : Addr} {PP PP' : List (List Int) → Prop} (hi : Γ[i]? = some (.ex (.ref l) (PoolsO K PP))) (hz : ∀ nss, PP nss → nss.length < 100000)
    (h : WX K Γ te fun s => ∃ m q ns, s = .ml m q (ns.map PyData.int) ∧ (∀ nss, PP nss → PP' (nss ++ [ns])) ∧ P.nx (Γ.set i (.ex (.ref l) (PoolsO K PP')))) : SJ K Γ (tDrop (tBM K "list" rAppend (tVar i) (tCons te tNil))) P := fun X hK F H σ E D hD => by
  subst hK
  have ev := E.ex hi
  obtain ⟨S0, q0, _, _⟩ := E.reown hi
  obtain ⟨_, _, l0, qs0, e0, ⟨nss0, hl0, _⟩, _⟩ := q0
  cases e0
  refine ⟨.ref l, ev, .inl ⟨rfl, _, SqL.of hl0⟩, h X rfl F H σ E _ fun v F1 H1 s l1 E1 ⟨m, q, ns, es, hpp, qn⟩ => ?_⟩
  subst es
  obtain ⟨S1, S2, q1, q2, hd, ho, k⟩ := E1.merge hi
  obtain ⟨e1, hk, l', qs, er, ⟨nss, hl, hn, nd, hp, hq⟩, hS⟩ := q1
  cases er
  obtain ⟨xs, e2, hS2, hql, r, _⟩ := q2
  cases e2
  have s2q : S2 q := (hS2 q).mpr rfl
  have ql : q ≠ l := fun z => hd l ((hS l).mpr (.inl rfl)) (z ▸ s2q)
  have qn' : q ∉ qs := fun z => hd q ((hS q).mpr (.inr z)) s2q
  refine ⟨l, qs.map V.ref, .ref q, rfl, rfl, hl, sz_lt (by rw [List.length_map, hn]; exact hz nss hp), ?_⟩
  refine hD.nx F1 _ σ _ (k _ (.ex (.ref l) (PoolsO X.K PP')) (fun a => S1 a ∨ S2 a) (fun a o z w1 w2 => ?_) (fun a w => ?_) (fun _ w => w) ⟨e1, rfl, l, qs ++ [q], rfl, ⟨nss ++ [ns], ?_, by simp [hn], ?_, hpp nss hp, fun j b bs hb hbs => ?_⟩, fun a => ?_⟩) qn
  · rw [upd_ne fun z => w1 (by rw [z]; exact (hS l).mpr (.inl rfl))]; exact z
  · by_cases z : a = l
    · subst z; rw [upd_same]; simp
    · rw [upd_ne z]; exact (ho a w).2
  · rw [upd_same, List.map_append]; rfl
  · rw [← List.cons_append]
    refine List.nodup_append.mpr ⟨nd, by simp, fun a ha b hb => ?_⟩
    simp at hb
    subst hb
    rcases List.mem_cons.mp ha with z | z
    · rw [z]; exact fun w => ql w.symm
    · exact fun w => qn' (w ▸ z)
  · by_cases hj : j < qs.length
    · rw [List.getElem?_append_left hj] at hb
      rw [List.getElem?_append_left (by omega)] at hbs
      have hm := List.mem_of_getElem? hb
      have bl : b ≠ l := fun z => (List.nodup_cons.mp nd).1 (by rw [← z]; exact hm)
      rw [upd_ne bl]
      exact hq j b bs hb hbs
    · have hjl := (List.getElem?_eq_some_iff.mp hb).1
      simp at hjl
      have hje : j = qs.length := by omega
      subst hje
      rw [hn] at hbs
      simp at hb hbs
      subst hb hbs
      rw [upd_ne ql, hql, ints_of r]
  · show S1 a ∨ S2 a ↔ _
    rw [hS, hS2, List.mem_append, List.mem_singleton, or_assoc]
/-- return [pools, n] -/
theorem sj_retDeck {i : Nat} {l : Addr} {n : Int} {PP : List (List Int) → Prop} (hi : Γ[i]? = some (.ex (.ref l) (PoolsO K PP))) (h : ∀ v, P.rt (.ex v (DeckO K PP)) (Γ.set i .no)) : SJ K Γ (tRet (tLst (tCons (tVar i) (tCons (tC (.int n)) tNil)))) P := fun X hK F H σ E D hD => by
  subst hK
  refine ⟨.ref l, E.ex hi, sz_le (n := 2) (by decide), fun p hp => ?_⟩
  obtain ⟨S1, q1, ho, k⟩ := E.takeX hi
  obtain ⟨e1, hk, l', qs, er, hP, hS⟩ := q1
  cases er
  have nin : ∀ a, S1 a → a ≠ p := fun a sa z => (ho a sa).2 (z ▸ hp)
  refine hD.rt F _ σ _ (.ref p) _ (k _ (.ref p) (.ex (.ref p) (DeckO X.K PP)) (fun a => a = p ∨ S1 a) (fun a o z w => ?_) (fun a w => ?_) (fun a w => ?_) ⟨rfl, rfl, p, l, qs, n, rfl, upd_same, ?_, ?_, hP.keep fun a ha => upd_ne (nin a ((hS a).mpr ha)), fun a => ?_⟩) (h _)
  · rw [upd_ne (ne_of_none z hp)]; exact z
  · rw [upd_ne (nin a w)]; exact (ho a w).2
  · rcases w with w | w
    · subst w; exact ⟨.inr hp, by rw [upd_same]; simp⟩
    · exact ⟨.inl w, by rw [upd_ne (nin a w)]; exact (ho a w).2⟩
  · exact fun z => nin l ((hS l).mpr (.inl rfl)) z.symm
  · exact fun z => nin p ((hS p).mpr (.inr z)) rfl
  · show a = p ∨ S1 a ↔ _
    rw [hS]
/-- a deck laid open: its parts, and how it is closed again, changed in its own lists -/
theorem En.deck {X : Bs} {F H : Hp} {σ : L2.St} (E : En X F H σ Γ) {i : Nat} {v : V} {PP : List (List Int) → Prop} (hi : Γ[i]? = some (.ex v (DeckO X.K PP))) :
    ∃ (t l : Addr) (qs : List Addr) (n : Int) (nss : List (List Int)), v = .ref t ∧ σ[i]? = some (some v) ∧ H t = some (.lst [.ref l, .int n]) ∧ H l = some (.lst (qs.map V.ref)) ∧ qs.length = nss.length ∧ (t :: l :: qs).Nodup ∧ PP nss ∧ (∀ (i : Nat) (q : Addr) (ns : List Int), qs[i]? = some q → nss[i]? = some ns → H q = some (.lst (ns.map V.int))) ∧
      ∀ (H' : Hp) (n' : Int) (nss' : List (List Int)), (∀ a, a ≠ t → a ∉ qs → H' a = H a) → H' t = some (.lst [.ref l, .int n']) → qs.length = nss'.length → PP nss' → (∀ (i : Nat) (q : Addr) (ns : List Int), qs[i]? = some q → nss'[i]? = some ns → H' q = some (.lst (ns.map V.int))) → En X F H' σ Γ := by
  obtain ⟨S1, q1, ho, k⟩ := E.reown hi
  obtain ⟨e1, hk, t, l, qs, n, er, ht, ntl, ntq, ⟨nss, hl, hn, nd, hp, hq⟩, hS⟩ := q1
  refine ⟨t, l, qs, n, nss, er, E.ex hi, ht, hl, hn, List.nodup_cons.mpr ⟨by simp [ntl, ntq], nd⟩, hp, hq, fun H' n' nss' h1 h2 h3 h4 h5 => ?_⟩
  have nl : l ∉ qs := (List.nodup_cons.mp nd).1
  have hl' : H' l = some (.lst (qs.map V.ref)) := (h1 l (Ne.symm ntl) nl).trans hl
  have eΓ : Γ.set i (.ex v (DeckO X.K PP)) = Γ := by
    apply List.ext_getElem?
    intro j
    by_cases h : j = i
    · subst h
      rw [List.getElem?_set_self (List.getElem?_eq_some_iff.mp hi).1, hi]
    · rw [List.getElem?_set_ne (Ne.symm h)]
  have := k H' (.ex v (DeckO X.K PP)) S1 (fun a o z w => ?_) (fun a w => ?_) (fun _ w => w) ⟨e1, rfl, t, l, qs, n', er, h2, ntl, ntq, ⟨nss', hl', h3, nd, h4, h5⟩, hS⟩
  · rw [eΓ] at this
    exact this
  · rw [h1 a (fun z => w ((hS a).mpr (.inl z))) (fun z => w ((hS a).mpr (.inr (.inr z))))]; exact z
  · rcases (hS a).mp w with z | z | z
    · rw [z, h2]; simp
    · rw [z, hl']; simp
    · obtain ⟨j, hj⟩ := List.getElem?_of_mem z
      have hjl := (List.getElem?_eq_some_iff.mp hj).1
      rw [h5 j a (nss'[j]'(by omega)) hj (by simp [show j < nss'.length by omega])]
      simp
end
end Pk
end
section
set_option Elab.async false
set_option linter.all false
set_option maxRecDepth 100000
set_option maxHeartbeats 1000000
/-! The data layer, part 18: zip of a list and a tuple, made and walked; dict(zip(..)). -/
namespace Pz
open PySem PySem.Spec PyProof.Rows L2
/-! ### made -/
abbrev g1 (h : Heap) (a : Addr) : Heap := h.push { cls := .type "list_iterator", data := .fields #[.ref a, .int 0 0] }
abbrev g2 (h : Heap) (a b : Addr) : Heap := (g1 h a).push { cls := .type "tuple_iterator", data := .fields #[.ref b, .int 0 0] }
abbrev g3 (h : Heap) (a b : Addr) : Heap := (g2 h a b).push { cls := .type "tuple", data := .seq #[.ref h.objs.size, .ref (g1 h a).objs.size] }
abbrev g4 (h : Heap) (a b : Addr) : Heap := (g3 h a b).push { cls := .type "tuple", data := .seq #[.none, .none] }
abbrev g5 (h : Heap) (a b : Addr) : Heap := (g4 h a b).push { cls := .type "zip", data := .fields #[.none, .bool false, .bool false, .ref (g2 h a b).objs.size, .ref (g3 h a b).objs.size] }
theorem meetsNew (a b : Addr) (xs ys : Array Value) : Meets (Builtin.«zip.__new__» ⟨[.type "zip", .ref a, .ref b], []⟩) (fun _ R s => s.heap.IsList a xs ∧ s.heap.IsTuple b ys ∧ R (.ok (.ret (.ref (g4 s.heap a b).objs.size))) { s with heap := g5 s.heap a b }) :=
  .of_wp fun prog w A R s h => by
    obtain ⟨hp, g, d, tk, os⟩ := s; obtain ⟨p1, p2, h⟩ := h
    have hsub := sub_zip
    have q1 : Heap.IsList (Shared.heap ⟨hp, g, d, tk, os⟩) a xs := p1
    have q2 : Heap.IsTuple (Shared.heap ⟨g1 hp a, g, d, tk, os⟩) b ys := Heap.IsTuple.push p2 _
    wp_walk using wpAny_pyIter_list q1, wpAny_pyIter_tuple q2
    exact ⟨_, rfl, h⟩
section
variable {prog : Program} {w : World} {A : Around} {E : Value → Shared → Prop} {s : Shared}
theorem callNew {a b : Addr} {xs ys : Array Value} {Q : Value → Shared → Prop} (p1 : s.heap.IsList a xs) (p2 : s.heap.IsTuple b ys)
    (k : ∀ g, IsZip g (s.heap.objs.size + 4) (s.heap.objs.size + 2) (s.heap.objs.size + 3) .none → IsPair g (s.heap.objs.size + 2) (.ref s.heap.objs.size) (.ref (s.heap.objs.size + 1)) → IsPair g (s.heap.objs.size + 3) .none .none →
      g.IsListIter s.heap.objs.size a 0 → g.IsTupleIter (s.heap.objs.size + 1) b 0 → g.objs.size = s.heap.objs.size + 5 → (∀ c o, s.heap.get? c = some o → g.get? c = some o) → Q (.ref (s.heap.objs.size + 4)) { s with heap := g }) :
    wpAny (model prog w) A (call (.type "zip") [.ref a, .ref b]) Q E s := by
  refine callType_new F.called_zip (by decide) (F.typeCall_zip_2 _ _) (F.newCall_zip_2 _ _) (fun obj => F.args_object_init_3 obj _ _) F.entry_zip_new (meetsNew a b xs ys) ⟨p1, p2, ?_⟩
  have z1 : (g1 s.heap a).objs.size = s.heap.objs.size + 1 := Heap.size_push ..
  have z2 : (g2 s.heap a b).objs.size = s.heap.objs.size + 2 := by rw [Heap.size_push, z1]
  have z3 : (g3 s.heap a b).objs.size = s.heap.objs.size + 3 := by rw [Heap.size_push, z2]
  have z4 : (g4 s.heap a b).objs.size = s.heap.objs.size + 4 := by rw [Heap.size_push, z3]
  have z5 : (g5 s.heap a b).objs.size = s.heap.objs.size + 5 := by rw [Heap.size_push, z4]
  have e5 : (g5 s.heap a b).get? (g4 s.heap a b).objs.size = some _ := Heap.get?_push_size _ rfl
  have e4 : (g5 s.heap a b).get? (g3 s.heap a b).objs.size = some _ := Heap.get?_push_of_some _ (Heap.get?_push_size _ rfl)
  have e3 : (g5 s.heap a b).get? (g2 s.heap a b).objs.size = some _ := Heap.get?_push_of_some _ (Heap.get?_push_of_some _ (Heap.get?_push_size _ rfl))
  have e2 : (g5 s.heap a b).get? (g1 s.heap a).objs.size = some _ := Heap.get?_push_of_some _ (Heap.get?_push_of_some _ (Heap.get?_push_of_some _ (Heap.get?_push_size _ rfl)))
  have e1 : (g5 s.heap a b).get? s.heap.objs.size = some _ := Heap.get?_push_of_some _ (Heap.get?_push_of_some _ (Heap.get?_push_of_some _ (Heap.get?_push_of_some _ (Heap.get?_push_size _ rfl))))
  show _ ∧ _
  rw [z2, z3, z4] at e5; rw [z1, z2] at e3; rw [z3] at e4; rw [z1] at e2; rw [z4]
  exact ⟨⟨_, e5, rfl⟩, k _ e5 e3 e4 ⟨_, e1, rfl, rfl⟩ ⟨_, e2, rfl, rfl⟩ z5 fun c o x => Heap.get?_push_of_some _ (Heap.get?_push_of_some _ (Heap.get?_push_of_some _ (Heap.get?_push_of_some _ (Heap.get?_push_of_some _ x))))⟩
variable {z TI TO i1 i2 l1 l2 : Addr} {m n : Nat} {xs ys : Array Value} {x y a b : Value} {S1 S2 : Nat → Heap → Prop}
theorem pyItem {Q : Option Value → Shared → Prop} (D : ZipApart z TI TO i1 i2 l1 l2) (N1 : Nx prog w i1 l1 xs S1) (N2 : Nx prog w i2 l2 ys S2)
    (pz : IsZip s.heap z TI TO .none) (pI : IsPair s.heap TI (.ref i1) (.ref i2)) (pO : IsPair s.heap TO a b) (p1 : S1 m s.heap) (p2 : S2 n s.heap) (ex : xs[m]? = some x) (ey : ys[n]? = some y)
    (k : ∀ g, IsZip g z TI TO (rawInt s.heap.objs.size) → IsPair g TO x y → S1 (m + 1) g → S2 (n + 1) g → IsPair g s.heap.objs.size x y → g.objs.size = s.heap.objs.size + 1 →
      (∀ c o, c ≠ z → c ≠ TO → c ≠ i1 → c ≠ i2 → s.heap.get? c = some o → g.get? c = some o) → Q (some (.ref s.heap.objs.size)) { s with heap := g }) : wpAny (model prog w) A (pyNext (.ref z)) Q E s :=
  py_item ⟨_, pz, rfl⟩ (next_item D N1 N2 pz pI pO p1 p2 ex ey (Q := fun v s' => Q (some v) s') k)
theorem pyHeld {T : Addr} {f : Bool} {oT : Obj} {Q : Option Value → Shared → Prop} (D : ZipApart z TI TO i1 i2 l1 l2) (N1 : Nx prog w i1 l1 xs S1) (N2 : Nx prog w i2 l2 ys S2)
    (pz : IsZipHeld s.heap z TI TO T f) (pT : s.heap.get? T = some oT) (pI : IsPair s.heap TI (.ref i1) (.ref i2)) (p1 : S1 m s.heap) (p2 : S2 n s.heap) (ex : xs[m]? = some x) (ey : ys[n]? = some y)
    (k : ∀ g, IsZipHeld g z TI TO T true → S1 (m + 1) g → S2 (n + 1) g → IsPair g s.heap.objs.size x y → g.objs.size = s.heap.objs.size + 1 →
      (∀ c o, c ≠ z → c ≠ i1 → c ≠ i2 → s.heap.get? c = some o → g.get? c = some o) → Q (some (.ref s.heap.objs.size)) { s with heap := g }) : wpAny (model prog w) A (pyNext (.ref z)) Q E s :=
  py_item ⟨_, pz, rfl⟩ (held_item D N1 N2 pz pT pI p1 p2 ex ey (Q := fun v s' => Q (some v) s') k)
theorem pyEnd {Q : Option Value → Shared → Prop} (ca : A.handled = none) (D : ZipApart z TI TO i1 i2 l1 l2) (N1 : Nx prog w i1 l1 xs S1) (N2 : Nx prog w i2 l2 ys S2)
    (pz : IsZip s.heap z TI TO .none) (pI : IsPair s.heap TI (.ref i1) (.ref i2)) (pO : IsPair s.heap TO a b) (p1 : S1 m s.heap) (p2 : S2 n s.heap) (en : xs[m]? = none ∨ ys[n]? = none)
    (k : ∀ g, (∀ c o, c ≠ z → c ≠ TO → c ≠ i1 → c ≠ i2 → s.heap.get? c = some o → g.get? c = some o) → Q none { s with heap := g }) : wpAny (model prog w) A (pyNext (.ref z)) Q E s := by
  have hT : s.TypeIs (.ref z) "zip" := ⟨_, pz, rfl⟩
  unfold pyNext
  refine wpAny_bind (wpAny_attempt (wpAny_callSpecial?_slot (name := Str.ofString "__next__") hT F.slot_zip_next (wpAny_call_entry F.slot_zip_next hT F.entry_zip_next (next_end ca D N1 N2 pz pI pO p1 p2 en fun g e hk he => ?_) (F.args_zip_next_1 _))))
  obtain ⟨o, ho, hc⟩ := he
  exact wpAny_bind (wpAny_isInstance (T := "StopIteration") (b := true) ⟨o, ho, hc⟩ isSubtype_stop (wpAny_pure (k _ hk)))
theorem pyHeldEnd {T : Addr} {f : Bool} {oT : Obj} {Q : Option Value → Shared → Prop} (ca : A.handled = none) (D : ZipApart z TI TO i1 i2 l1 l2) (N1 : Nx prog w i1 l1 xs S1) (N2 : Nx prog w i2 l2 ys S2)
    (pz : IsZipHeld s.heap z TI TO T f) (pT : s.heap.get? T = some oT) (pI : IsPair s.heap TI (.ref i1) (.ref i2)) (p1 : S1 m s.heap) (p2 : S2 n s.heap) (en : xs[m]? = none ∨ ys[n]? = none)
    (k : ∀ g, (∀ c o, c ≠ z → c ≠ i1 → c ≠ i2 → s.heap.get? c = some o → g.get? c = some o) → Q none { s with heap := g }) : wpAny (model prog w) A (pyNext (.ref z)) Q E s := by
  have hT : s.TypeIs (.ref z) "zip" := ⟨_, pz, rfl⟩
  unfold pyNext
  refine wpAny_bind (wpAny_attempt (wpAny_callSpecial?_slot (name := Str.ofString "__next__") hT F.slot_zip_next (wpAny_call_entry F.slot_zip_next hT F.entry_zip_next (held_end ca D N1 N2 pz pT pI p1 p2 en fun g e hk he => ?_) (F.args_zip_next_1 _))))
  obtain ⟨o, ho, hc⟩ := he
  exact wpAny_bind (wpAny_isInstance (T := "StopIteration") (b := true) ⟨o, ho, hc⟩ isSubtype_stop (wpAny_pure (k _ hk)))
end
/-! ### walked -/
section
variable {prog : Program} {w : World} {z TI TO i1 i2 l1 l2 : Addr} {xs ys : Array Value} {S1 S2 : Nat → Heap → Prop}
theorem pairArg (D : ZipApart z TI TO i1 i2 l1 l2) (N1 : Nx prog w i1 l1 xs S1) (N2 : Nx prog w i2 l2 ys S2) :
    PairArg prog w "zip" z [z, TI, TO, i1, i2, l1, l2] [z, TO, i1, i2] (min xs.size ys.size) (fun i k v => xs[i]? = some k ∧ ys[i]? = some v)
      (fun h => IsZip h z TI TO .none ∧ IsPair h TI (.ref i1) (.ref i2) ∧ (∃ a b, IsPair h TO a b) ∧ S1 0 h ∧ S2 0 h) where
  type := fun s ok => ⟨_, ok.1, rfl⟩
  notDict := by decide
  keep := fun h g ok hk => by
    obtain ⟨q1, q2, ⟨a, b, q3⟩, q4, q5⟩ := ok
    exact ⟨hk _ _ q1, hk _ _ q2, ⟨a, b, hk _ _ q3⟩, N1.fr q4 fun c o _ e => hk _ o e, N2.fr q5 fun c o _ e => hk _ o e⟩
  there := fun h ok c hc => by
    obtain ⟨q1, q2, ⟨a, b, q3⟩, q4, q5⟩ := ok
    obtain ⟨o1, r1, _⟩ := N1.obj q4
    obtain ⟨o2, r2, _⟩ := N2.obj q5
    obtain ⟨o3, r3⟩ := N1.seq q4
    obtain ⟨o4, r4⟩ := N2.seq q5
    have e : c = z ∨ c = TI ∨ c = TO ∨ c = i1 ∨ c = i2 ∨ c = l1 ∨ c = l2 := by simpa using hc
    rcases e with e | e | e | e | e | e | e <;> rw [e]
    · exact ⟨_, q1⟩
    · exact ⟨_, q2⟩
    · exact ⟨_, q3⟩
    · exact ⟨_, r1⟩
    · exact ⟨_, r2⟩
    · exact ⟨_, r3⟩
    · exact ⟨_, r4⟩
  sub := fun c hc => by
    have e : c = z ∨ c = TO ∨ c = i1 ∨ c = i2 := by simpa using hc
    rcases e with e | e | e | e <;> simp [e]
  noKeys := fun A s Q E hA ok h => getAttrOr_miss_zip ok.1 rfl rfl rfl zip_no_keys (by decide +kernel) hA h
  iter := fun A s d Q E hA ok hd hdf h => by
    obtain ⟨q1, q2, ⟨a, b, q3⟩, q4, q5⟩ := ok
    have nd : d ≠ z ∧ d ≠ TI ∧ d ≠ TO ∧ d ≠ i1 ∧ d ≠ i2 ∧ d ≠ l1 ∧ d ≠ l2 := by simpa using hdf
    obtain ⟨dz, dTI, dTO, di1, di2, dl1, dl2⟩ := nd
    have f1 : ∀ {k : Nat} {h g : Heap}, S1 k h → (∀ c o, c ≠ d → h.get? c = some o → g.get? c = some o) → S1 k g := fun q kk => N1.fr q fun c o hc e => kk c o (by rcases hc with r | r <;> rw [r]; exact Ne.symm di1; exact Ne.symm dl1) e
    have f2 : ∀ {k : Nat} {h g : Heap}, S2 k h → (∀ c o, c ≠ d → h.get? c = some o → g.get? c = some o) → S2 k g := fun q kk => N2.fr q fun c o hc e => kk c o (by rcases hc with r | r <;> rw [r]; exact Ne.symm di2; exact Ne.symm dl2) e
    refine wpAny_pyIter_zip q1 (h z [z, TO, i1, i2] (fun i h => IsPair h TI (.ref i1) (.ref i2) ∧ S1 i h ∧ S2 i h ∧
      ((IsZip h z TI TO .none ∧ ∃ a b, IsPair h TO a b) ∨ ∃ T f oT, IsZipHeld h z TI TO T f ∧ h.get? T = some oT ∧ T ≠ z ∧ T ≠ i1 ∧ T ≠ i2 ∧ T ≠ d)) s.heap s.toks ?_ ⟨q2, q4, q5, .inl ⟨q1, a, b, q3⟩⟩ (fun _ _ e => e) fun b hb => .inl hb)
    exact {
      off := fun hm => by
        have e : d = z ∨ d = TO ∨ d = i1 ∨ d = i2 := by simpa using hm
        rcases e with e | e | e | e
        · exact dz e
        · exact dTO e
        · exact di1 e
        · exact di2 e
      frame := fun i h g st hk => by
        obtain ⟨r1, r2, r3, r4⟩ := st
        refine ⟨hk _ _ (Ne.symm dTI) r1, f1 r2 hk, f2 r3 hk, ?_⟩
        rcases r4 with ⟨pz, a, b, pO⟩ | ⟨T, f, oT, pz, pT, t1, t2, t3, t4⟩
        · exact .inl ⟨hk _ _ (Ne.symm dz) pz, a, b, hk _ _ (Ne.symm dTO) pO⟩
        · exact .inr ⟨T, f, oT, hk _ _ (Ne.symm dz) pz, hk _ _ t4 pT, t1, t2, t3, t4⟩
      item := fun i s1 Q1 E1 hi st hds hQ => by
        obtain ⟨r1, r2, r3, r4⟩ := st
        have ex := Array.getElem?_eq_getElem (Nat.lt_of_lt_of_le hi (Nat.min_le_left xs.size ys.size))
        have ey := Array.getElem?_eq_getElem (Nat.lt_of_lt_of_le hi (Nat.min_le_right xs.size ys.size))
        have lt : ∀ {c o}, s1.heap.get? c = some o → s1.heap.objs.size ≠ c := fun e => Nat.ne_of_gt (Heap.lt_size e)
        have n1 : s1.heap.objs.size ≠ i1 := let ⟨_, e, _⟩ := N1.obj r2; lt e
        have n2 : s1.heap.objs.size ≠ i2 := let ⟨_, e, _⟩ := N2.obj r3; lt e
        rcases r4 with ⟨pz, a, b, pO⟩ | ⟨T, f, oT, pz, pT, t1, t2, t3, t4⟩
        · refine pyItem D N1 N2 pz r1 pO r2 r3 ex ey fun g a1 a2 a3 a4 a5 a6 hk => ?_
          exact hQ s1.heap.objs.size _ _ g s1.toks ⟨ex, ey⟩ (.inl ⟨_, a5, rfl, _, rfl⟩) ⟨hk _ _ D.TIz D.TITO D.TIi1 D.TIi2 r1, a3, a4, .inr ⟨s1.heap.objs.size, false, _, a1, a5, lt pz, n1, n2, Nat.ne_of_gt hds⟩⟩
            fun c o hc e => hk c o (fun q => hc (by simp [q])) (fun q => hc (by simp [q])) (fun q => hc (by simp [q])) (fun q => hc (by simp [q])) e
        · refine pyHeld D N1 N2 pz pT r1 r2 r3 ex ey fun g a1 a3 a4 a5 a6 hk => ?_
          exact hQ s1.heap.objs.size _ _ g s1.toks ⟨ex, ey⟩ (.inl ⟨_, a5, rfl, _, rfl⟩) ⟨hk _ _ D.TIz D.TIi1 D.TIi2 r1, a3, a4, .inr ⟨T, true, oT, a1, hk _ _ t1 t2 t3 pT, t1, t2, t3, t4⟩⟩
            fun c o hc e => hk c o (fun q => hc (by simp [q])) (fun q => hc (by simp [q])) (fun q => hc (by simp [q])) e
      done := fun s1 Q1 E1 st hQ => by
        obtain ⟨r1, r2, r3, r4⟩ := st
        have en : xs[min xs.size ys.size]? = none ∨ ys[min xs.size ys.size]? = none := by
          rcases Nat.le_total xs.size ys.size with q | q
          · rw [Nat.min_eq_left q]; exact .inl (Array.getElem?_eq_none (Nat.le_refl _))
          · rw [Nat.min_eq_right q]; exact .inr (Array.getElem?_eq_none (Nat.le_refl _))
        rcases r4 with ⟨pz, a, b, pO⟩ | ⟨T, f, oT, pz, pT, t1, t2, t3, t4⟩
        · exact pyEnd hA D N1 N2 pz r1 pO r2 r3 en fun g hk => hQ g s1.toks fun c o hc e => hk c o (fun q => hc (by simp [q])) (fun q => hc (by simp [q])) (fun q => hc (by simp [q])) (fun q => hc (by simp [q])) e
        · exact pyHeldEnd hA D N1 N2 pz pT r1 r2 r3 en fun g hk => hQ g s1.toks fun c o hc e => hk c o (fun q => hc (by simp [q])) (fun q => hc (by simp [q])) (fun q => hc (by simp [q])) e }
end
/-! ### in a def's body -/
structure Zst (X : Cx) (pins : List (Addr × Obj)) (H : Hp) (h : Heap) (z TI TO i1 i2 a b : Addr) : Prop where
  D : ZipApart z TI TO i1 i2 a b
  zz : IsZip h z TI TO .none
  I : IsPair h TI (.ref i1) (.ref i2)
  O : ∃ x y, IsPair h TO x y
  p1 : h.IsListIter i1 a 0
  p2 : h.IsTupleIter i2 b 0
  fp : ∀ c ∈ [z, TI, TO, i1, i2], FpOk X pins H c
theorem zipMade {X : Cx} {e e2 : Expr} {ta : TA} {p pos : Pos} (hg : Gl X "zip") (hm : X.mg "zip" = none) (ha : PA X [e, e2] ta) (hs : starEach [e, e2] X.env = (false, eval e X.env) :: starEach [e2] X.env) (hpl : (backTo pos (starEach [e2] X.env)).any (·.1) = false)
    {pins : List (Addr × Obj)} {s : Shared} {σ : L2.St} {H : Hp} {R : Addr → Addr → List V → List V → Hp → Prop} (I : Inv X pins σ H s) (h : ta σ H fun vs H1 => ∃ a b xs ys, vs = [.ref a, .ref b] ∧ SqL X.K H1 a xs ∧ SqT X.K H1 b ys ∧ R a b xs ys H1) :
    wpAny (model X.prog X.w) X.A (eval (.Call (.Name "zip" p) [e, e2] [] pos) X.env) (fun u s2 => ∃ z TI TO i1 i2 a b xs ys H1, u = .ref z ∧ Inv X pins σ H1 s2 ∧ Zst X pins H1 s2.heap z TI TO i1 i2 a b ∧ SqL X.K H1 a xs ∧ SqT X.K H1 b ys ∧ R a b xs ys H1) X.xe s := by
  refine Call_ (ld_blt I hg hm PyProof.Rows.boot_zip (PyProof.Rows.callWith_type1 (thn (ha.run pos pins s σ H _ I h) fun us s1 ⟨vs, H1, I1, r1, a, b, xs, ys, ex, hqx, hqy, q⟩ => ?_) hs hpl))
  subst ex
  cases r1 with
  | cons r rr =>
    cases rr with
    | cons r' rr =>
      cases rr; cases r; cases r'
      obtain ⟨its, rv, p1, _⟩ := I1.list hqx
      obtain ⟨its2, rv2, p2, _⟩ := I1.tuple hqy
      obtain ⟨o2, ho2, _⟩ := id p2
      refine callNew p1.isList (show s1.heap.IsTuple b its2.toArray from p2) fun g gz gI gO g1 g2 gs gk => ?_
      refine ⟨_, _, _, _, _, a, b, xs, ys, H1, rfl, I1.kept (t' := s1.toks) gk, ⟨PySem.W.ktu_apart s1.heap.objs.size a b p1.lt (Heap.lt_size ho2), gz, gI, ⟨_, _, gO⟩, g1, g2, fun c hc => ?_⟩, hqx, hqy, q⟩
      have le : s1.heap.objs.size ≤ c := by
        have e' : c = s1.heap.objs.size + 4 ∨ c = s1.heap.objs.size + 2 ∨ c = s1.heap.objs.size + 3 ∨ c = s1.heap.objs.size ∨ c = s1.heap.objs.size + 1 := by simpa using hc
        rcases e' with q | q | q | q | q <;> rw [q]
        all_goals first | exact Nat.le_refl _ | exact Nat.le_add_right _ _
      exact I1.fpOk le (I1.hok.fresh le)
theorem iter_ne {h : Heap} {it l : Addr} {k : Nat} {xs : Array Value} (a : h.IsListIter it l k) (b : h.IsList l xs) : l ≠ it := by
  rintro rfl
  obtain ⟨o, e, c, _⟩ := a
  obtain ⟨o', e', c', _⟩ := b
  rw [e] at e'; cases e'; rw [c] at c'; simp at c'
theorem iterT_ne {h : Heap} {it l : Addr} {k : Nat} {xs : Array Value} (a : h.IsTupleIter it l k) (b : h.IsTuple l xs) : l ≠ it := by
  rintro rfl
  obtain ⟨o, e, c, _⟩ := a
  obtain ⟨o', e', c', _⟩ := b
  rw [e] at e'; cases e'; rw [c] at c'; simp at c'
/-! dict(zip(names, numbers)) -/
def kvZ (ks : List Str) (ys : List V) : List (Key × V) := List.zipWith (fun k y => (Sum.inr k, y)) ks ys
def tDictZip (K : PySem.W.Frag) (ta : TA) : TE := fun σ H Q => ta σ H fun vs H1 => ∃ (a b : Addr) (xs ys : List V), vs = [.ref a, .ref b] ∧ SqL K H1 a xs ∧ SqT K H1 b ys ∧ ∃ ks : List Str, xs = ks.map V.str ∧ ∀ p, H1 p = none → Q (.ref p) (upd H1 p (.dK (mergeK [] (kvZ ks ys))))
theorem kvZ_rel : ∀ {ks : List Str} {ys : List V} {us ws : List Value}, Vals (ks.map V.str) us → Vals ys ws → ∃ kvs : List (Key × Value), KV (kvZ ks ys) kvs ∧ kvs.length = min us.length ws.length ∧ ∀ (i : Nat) (k v : Value), us[i]? = some k → ws[i]? = some v → ∃ x : Key, kvs[i]? = some (x, v) ∧ keyIs x k = true
  | [], ys, us, ws, h1, h2 => by
    cases h1
    refine ⟨[], by unfold kvZ; rw [List.zipWith_nil_left]; exact .nil, by simp, fun i k v e => by simp at e⟩
  | k :: ks, [], us, ws, h1, h2 => by
    cases h2
    refine ⟨[], by unfold kvZ; rw [List.zipWith_nil_right]; exact .nil, by simp, fun i k v _ e => by simp at e⟩
  | k :: ks, y :: ys, _, _, h1, h2 => by
    cases h1 with
    | cons a t =>
      cases h2 with
      | cons b u =>
        obtain ⟨kvs, q1, q2, q3⟩ := kvZ_rel t u
        refine ⟨(Sum.inr k, _) :: kvs, .cons ⟨rfl, b⟩ q1, by simp only [List.length_cons]; rw [q2]; omega, fun i x v e1 e2 => ?_⟩
        cases i with
        | zero =>
          simp at e1 e2
          subst e1 e2
          obtain ⟨t, rfl⟩ := a
          exact ⟨Sum.inr k, rfl, by simp [keyIs, Value.isStrOf]⟩
        | succ i => simpa using q3 i x v (by simpa using e1) (by simpa using e2)
theorem pe_dictZip {X : Cx} {e e2 : Expr} {ta : TA} {p p2 pos pos2 : Pos} (hc : X.calm = true) (hd : Gl X "dict") (md : X.mg "dict" = none) (hg : Gl X "zip") (hm : X.mg "zip" = none) (ha : PA X [e, e2] ta)
    (hs : starEach [e, e2] X.env = (false, eval e X.env) :: starEach [e2] X.env := by rfl) (hpl : (backTo pos2 (starEach [e2] X.env)).any (·.1) = false := by rfl)
    (na : starEach [.Call (.Name "zip" p2) [e, e2] [] pos2] X.env = (false, eval (.Call (.Name "zip" p2) [e, e2] [] pos2) X.env) :: starEach [] X.env := by rfl) :
    PE X (.Call (.Name "dict" p) [.Call (.Name "zip" p2) [e, e2] [] pos2] [] pos) (tDictZip X.K ta) := by
  refine ⟨fun pins s σ H Q I h => ?_⟩
  refine Call_ (ld_blt I hd md PyProof.Rows.boot_dict (PyProof.Rows.callWith_type1 (args_cons (thn (zipMade hg hm ha hs hpl I h) fun u s1 ⟨z, TI, TO, i1, i2, a, b, xs, ys, H1, eu, I1, Z, hqx, hqy, ks, ek, q⟩ => args_nil ?_) na) na))
  subst eu ek
  obtain ⟨its, rv, p1, hz1⟩ := I1.list hqx
  obtain ⟨its2, rv2, p2, hz2⟩ := I1.tuple hqy
  obtain ⟨kvs, k1, k2, k3⟩ := kvZ_rel rv rv2
  have q1 : s1.heap.IsList a its.toArray := p1.isList
  have q2 : s1.heap.IsTuple b its2.toArray := p2
  have l1 := rv.length
  have l2 := rv2.length
  have hn : min its.toArray.size its2.toArray.size ≤ sizeLine := by
    simp only [List.size_toArray]
    omega
  refine call_dict_pairs (knd := mixKind X.prog X.w) (kvs := kvs) (pairArg Z.D (nxL (iter_ne Z.p1 q1)) (nxT (iterT_ne Z.p2 q2))) (I1.ok.hd hc) ⟨Z.zz, Z.I, Z.O, ⟨Z.p1, q1⟩, ⟨Z.p2, q2⟩⟩ ⟨by simpa using k2, fun i k v hr => ?_⟩ hn fun g tk gd gk => ?_
  · obtain ⟨x, e1, e2⟩ := k3 i k v (by simpa using hr.1) (by simpa using hr.2)
    exact ⟨x, e1, e2⟩
  · have hb : (s1.heap.objs.size == sysModules) = false := beq_eq_false_iff_ne.mpr (Nat.ne_of_gt I1.big)
    have hlen : (mergeK [] (kvZ ks ys)).length ≤ sizeLine := by
      refine Nat.le_trans (length_mergeK (kvZ ks ys) []) ?_
      rw [k1.length, k2]
      simp only [List.length_nil]
      simp only [List.size_toArray] at hn
      omega
    have I2 : Inv X pins σ (upd H1 s1.heap.objs.size (.dK (mergeK [] (kvZ ks ys)))) { s1 with heap := g, toks := tk } :=
      I1.turnedNew (ch := [z, TI, TO, i1, i2]) (fun c o hc e => gk c o (fun w => hc (by simp at w ⊢; rcases w with w | w | w | w <;> simp [w])) e) Z.fp (Nat.le_refl _) (show ObjOk X.prog X.w _ _ _ (.dK (mergeK [] (kvZ ks ys))) from ⟨hlen, hb, merged [] kvs, KV.merge k1 .nil, gd⟩)
    exact ⟨.ref s1.heap.objs.size, _, I2, rfl, q _ (I1.hok.fresh (Nat.le_refl _))⟩
/-! for .., .. in zip(list, tuple) -/
def ItzM (K : PySem.W.Frag) (a b : Addr) : It :=
  ⟨fun i H => ∃ (xs ys : List V) (x y : V), SqL K H a xs ∧ SqT K H b ys ∧ xs[i]? = some x ∧ ys[i]? = some y,
    fun i H v H' => ∃ T x y, v = .ref T ∧ H T = none ∧ H' = upd H T (.tup [x, y]) ∧ (∀ xs, SqL K H a xs → xs[i]? = some x) ∧ ∀ ys, SqT K H b ys → ys[i]? = some y,
    fun i H => ∃ xs ys : List V, SqL K H a xs ∧ SqT K H b ys ∧ (xs.length ≤ i ∨ ys.length ≤ i)⟩
theorem turnM {P : Program} {w : World} {K : PySem.W.Frag} {elts : List Expr} {kk : Nat} {tpos : Pos} {a b z TI TO i1 i2 : Addr} (D : ZipApart z TI TO i1 i2 a b) :
    Turn P w K (.Tuple elts kk tpos) (ItzM K a b) [z, TI, TO, i1, i2] z (fun i h => IsZip h z TI TO .none ∧ IsPair h TI (.ref i1) (.ref i2) ∧ (∃ x y, IsPair h TO x y) ∧ h.IsListIter i1 a i ∧ h.IsTupleIter i2 b i) where
  mem := by simp
  obj := fun i h st c hc => by
    obtain ⟨q1, q2, ⟨x, y, q3⟩, ⟨o1, e1, _, d1⟩, ⟨o2, e2, _, d2⟩⟩ := st
    have e' : c = z ∨ c = TI ∨ c = TO ∨ c = i1 ∨ c = i2 := by simpa using hc
    rcases e' with q | q | q | q | q <;> rw [q]
    · exact ⟨_, q1, fun v r => nomatch r⟩
    · exact ⟨_, q2, fun v r => nomatch r⟩
    · exact ⟨_, q3, fun v r => nomatch r⟩
    · exact ⟨o1, e1, fun v r => by rw [d1] at r; cases r⟩
    · exact ⟨o2, e2, fun v r => by rw [d2] at r; cases r⟩
  keep := fun i h g st k => by
    obtain ⟨q1, q2, ⟨x, y, q3⟩, q4, q5⟩ := st
    exact ⟨k z (by simp) _ q1, k TI (by simp) _ q2, ⟨x, y, k TO (by simp) _ q3⟩, q4.at fun o r => k i1 (by simp) o r, q5.at fun o r => k i2 (by simp) o r⟩
  item := by
    intro X hP hw hK hc i pins s σ H E I hf st hgo
    subst hP hw hK
    obtain ⟨q1, q2, ⟨x0, y0, q3⟩, q4, q5⟩ := st
    obtain ⟨xs, ys, x, y, hqx, hqy, hx, hy⟩ := hgo
    obtain ⟨its, rv, p, _⟩ := I.list hqx
    obtain ⟨its2, rv2, p2, _⟩ := I.tuple hqy
    obtain ⟨u, hu, ru⟩ := rv.get hx
    obtain ⟨u2, hu2, ru2⟩ := rv2.get hy
    have r1 : s.heap.IsList a its.toArray := p.isList
    have r2 : s.heap.IsTuple b its2.toArray := p2
    have zl : z < s.heap.objs.size := Heap.lt_size q1
    refine pyItem D (nxL (iter_ne q4 r1)) (nxT (iterT_ne q5 r2)) q1 q2 q3 ⟨q4, r1⟩ ⟨q5, r2⟩ (x := u) (y := u2) (by simpa using hu) (by simpa using hu2) fun g gz gO g1 g2 gT gs gk => ?_
    refine ⟨_, rfl, wpAny_letOwnedTupleGo_zip (s := { s with heap := g }) gz fun f fz sb => ?_⟩
    have fT : f.get? s.heap.objs.size = some { cls := .type "tuple", data := .seq #[u, u2] } := (sb.2 _ (Nat.ne_of_gt zl)).trans gT
    have new : ObjOk X.prog X.w (upd H s.heap.objs.size (.tup [x, y])) f s.heap.objs.size (.tup [x, y]) := ⟨by show 2 ≤ sizeLine; decide, [u, u2], .cons ru (.cons ru2 .nil), ⟨_, fT, rfl, _, rfl⟩⟩
    have I1 : Inv X pins σ (upd H s.heap.objs.size (.tup [x, y])) { s with heap := f } :=
      I.turnedNew (t' := s.toks) (ch := [z, TI, TO, i1, i2]) (fun c o hb q => (sb.2 c (fun r => hb (by simp [r]))).trans (gk c o (fun r => hb (by simp [r])) (fun r => hb (by simp [r])) (fun r => hb (by simp [r])) (fun r => hb (by simp [r])) q)) hf (Nat.le_refl _) new
    refine ⟨.ref s.heap.objs.size, _, I1, rfl, ⟨_, x, y, rfl, I.hok.fresh (Nat.le_refl _), rfl, fun l hl => by rw [I.list_inj hl hqx]; exact hx, fun l hl => by rw [I.tuple_inj hl hqy]; exact hy⟩, ⟨fz, ?_, ⟨u, u2, ?_⟩, ?_, ?_⟩, fun c hcm => ?_⟩
    · exact (sb.2 _ D.TIz).trans (gk _ _ D.TIz D.TITO D.TIi1 D.TIi2 q2)
    · exact (sb.2 _ D.TOz).trans gO
    · exact g1.1.at fun o r => (sb.2 _ D.i1z).trans r
    · exact g2.1.at fun o r => (sb.2 _ D.i2z).trans r
    · have lt : c < s.heap.objs.size := by
        have e' : c = z ∨ c = TI ∨ c = TO ∨ c = i1 ∨ c = i2 := by simpa using hcm
        rcases e' with q | q | q | q | q <;> rw [q]
        · exact zl
        · exact Heap.lt_size q2
        · exact Heap.lt_size q3
        · obtain ⟨_, e1, _⟩ := q4; exact Heap.lt_size e1
        · obtain ⟨_, e2, _⟩ := q5; exact Heap.lt_size e2
      rw [upd_ne (Nat.ne_of_lt lt)]
      exact (hf c hcm).1
  done := by
    intro X hP hw hK hc i pins s σ H E I hf st hgo
    subst hP hw hK
    obtain ⟨q1, q2, ⟨x0, y0, q3⟩, q4, q5⟩ := st
    obtain ⟨xs, ys, hqx, hqy, hend⟩ := hgo
    obtain ⟨its, rv, p, _⟩ := I.list hqx
    obtain ⟨its2, rv2, p2, _⟩ := I.tuple hqy
    have r1 : s.heap.IsList a its.toArray := p.isList
    have r2 : s.heap.IsTuple b its2.toArray := p2
    have l1 := rv.length
    have l2 := rv2.length
    have en : its.toArray[i]? = none ∨ its2.toArray[i]? = none := by
      rcases hend with q | q
      · exact .inl (by simp; omega)
      · exact .inr (by simp; omega)
    exact pyEnd (I.ok.hd hc) D (nxL (iter_ne q4 r1)) (nxT (iterT_ne q5 r2)) q1 q2 q3 ⟨q4, r1⟩ ⟨q5, r2⟩ en fun g gk => ⟨rfl, I.turnedL (t' := s.toks) (ch := [z, TI, TO, i1, i2]) (fun c o hb q => gk c o (fun r => hb (by simp [r])) (fun r => hb (by simp [r])) (fun r => hb (by simp [r])) (fun r => hb (by simp [r])) q) hf⟩
  self := fun A i s Q E st h => wpAny_pyIter_zip st.1 h
def iZipM (K : PySem.W.Frag) (ta : TA) : TI := fun σ H R => ta σ H fun vs H1 => ∃ a b xs ys, vs = [.ref a, .ref b] ∧ SqL K H1 a xs ∧ SqT K H1 b ys ∧ R (ItzM K a b) H1
theorem pi_zipM {X : Cx} {e e2 : Expr} {ta : TA} {p pos tpos : Pos} {elts : List Expr} {kk : Nat} (hg : Gl X "zip") (hm : X.mg "zip" = none) (ha : PA X [e, e2] ta)
    (hs : starEach [e, e2] X.env = (false, eval e X.env) :: starEach [e2] X.env := by rfl) (hpl : (backTo pos (starEach [e2] X.env)).any (·.1) = false := by rfl) :
    PI X (.Tuple elts kk tpos) (.Call (.Name "zip" p) [e, e2] [] pos) (iZipM X.K ta) := by
  refine ⟨fun pins s σ H R I h => ?_⟩
  refine thn (zipMade hg hm ha hs hpl I h) fun u s1 ⟨z, TI, TO, i1, i2, a, b, xs, ys, H1, eu, I1, Z, hqx, hqy, q⟩ => ?_
  subst eu
  exact wpAny_pyIter_zip Z.zz ⟨z, [z, TI, TO, i1, i2], _, _, H1, rfl, I1, turnM Z.D, ⟨Z.zz, Z.I, Z.O, Z.p1, Z.p2⟩, Z.fp, q⟩
theorem walkM {K : PySem.W.Frag} {a b : Addr} {xs ys : List V} {n : Nat} (hn : n = min xs.length ys.length) : Walk (ItzM K a b) n (fun H => SqL K H a xs ∧ SqT K H b ys) (YPair (fun i => xs[i]?) (fun i => ys[i]?)) := by
  subst hn
  refine ⟨fun i _ hi q => ?_, fun _ q => ⟨xs, ys, q.1, q.2, by omega⟩, fun i H v H' _ q r => ?_⟩
  · have h1 : i < xs.length := by omega
    have h2 : i < ys.length := by omega
    exact ⟨xs, ys, xs[i], ys[i], q.1, q.2, by simp [h1], by simp [h2]⟩
  · obtain ⟨T, x, z, r1, r2, r3, r4, r5⟩ := r
    exact ⟨T, x, z, r1, r2, r3, r4 xs q.1, r5 ys q.2⟩
end Pz
namespace Pk
open PySem PySem.Spec PyProof.Rows L2 Pz
section
variable {K : PySem.W.Frag} {m : Bool} {Γ : List Sl} {ta : TA} {QI : List PyData → Prop}
theorem wi_zipM (h : WA K m Γ ta fun as => ∃ xs ys, as = [.d (.list xs), .d (.tuple ys)] ∧ QI (List.zipWith pairD xs ys)) : WI K m Γ (iZipM K ta) QI := fun X hK F H σ E C k =>
  h X hK F H σ E _ fun vs F1 H1 as l1 E1 r ⟨xs, ys, e, q⟩ => by
    subst e
    cases r with
    | cons a b =>
      cases b with
      | cons b c =>
        cases c
        have a' : Rp X.K (X.ff F1 m) _ (.list xs) := a
        have b' : Rp X.K (X.ff F1 m) _ (.tuple ys) := b
        cases a' with
        | lst ha ra =>
          cases b' with
          | tup hb rb =>
            rename_i pa us pb ws
            rw [hK] at hb
            refine ⟨pa, pb, us, ws, rfl, SqL.of (E1.lef m _ _ ha), sqT_le (E1.lef m) hb, k (ItzM K pa pb) F1 H1 _ _ (List.zipWith pairD xs ys) l1 E1 (walkM (xs := us) (ys := ws) (by rw [List.length_zipWith, ra.length, rb.length])) (fun H2 l2 => ⟨SqL.of (l2 _ _ (X.ff_le F1 m _ _ ha)), sqT_le ((X.ff_le F1 m).tr l2) hb⟩) (yPair (fun i hi => zip_get hi) (fun i x hx v hv => ?_) (fun i x hx v hv => ?_)) q⟩
            · obtain ⟨u, hu, ru⟩ := ra.get hx
              rw [hv] at hu; cases hu; rw [← hK]; exact ru
            · obtain ⟨u, hu, ru⟩ := rb.get hx
              rw [hv] at hu; cases hu; rw [← hK]; exact ru
end
end Pk
end
section
set_option Elab.async false
set_option linter.all false
set_option maxRecDepth 100000
/-! The data layer, part 19: join, places in lists, dicts by texts. -/
namespace Pk
open PySem PySem.Spec PyProof.Rows L2 Pz
def rJoin (K : PySem.W.Frag) : V → List V → Hp → VK → Prop := fun x xs H Q => ∃ a p, ∃ ys : List Str, x = .str a ∧ xs = [.ref p] ∧ (SqL K H p (ys.map V.str) ∨ SqT K H p (ys.map V.str)) ∧ (ys.map (·.length)).sum + ys.length * a.length ≤ 16777216 ∧ Q (.str (Txt.join a ys)) H
section
variable {K : PySem.W.Frag} {m : Bool} {Γ : List Sl} {Q : PyData → Prop} {QX : Sl → Prop} {te ti ta tb : TE} {tr : TA}
theorem strs_of {F : Hp} : ∀ {xs : List V} {ns : List Str}, RpA K F xs (ns.map PyData.str) → xs = ns.map V.str
  | [], [], _ => rfl
  | _ :: _, [], h => by cases h
  | [], _ :: _, h => by cases h
  | x :: xs, n :: ns, h => by
    cases h with
    | cons a b => cases a; rw [strs_of b]; rfl
theorem wd_join {sep : Str} (h : WD K false Γ te fun d => ∃ ys : List Str, d = .list (ys.map PyData.str) ∧ (ys.map (·.length)).sum + ys.length * sep.length ≤ 16777216 ∧ Q (.str (Txt.join sep ys))) : WD K m Γ (tBM K "str" (rJoin K) (tC (.str sep)) (tCons te tNil)) Q := fun X hK F H σ E C k => by
  subst hK
  refine ⟨rfl, h X rfl F H σ E _ fun v F1 H1 d l1 E1 r ⟨ys, e, hz, q⟩ => ?_⟩
  subst e
  cases r with
  | lst ha ra => exact ⟨sep, _, ys, rfl, rfl, .inl (by rw [← strs_of ra]; exact SqL.of (E1.le _ _ ha)), hz, k _ F1 H1 _ l1 E1 (.str _) q⟩
/-- xs.index(e) -/
theorem wd_index (h : WD K false Γ te fun d => ∃ ds, d = .list ds ∧ WD K false Γ ti fun x => ∃ (j : Nat) (z : PyData), SeqAt.shaped (.list ds) = true ∧ SeqAt.shaped x = true ∧ ds[j]? = some z ∧ PyData.eqv z x = true ∧ (∀ (m : Nat) (z' : PyData), m < j → ds[m]? = some z' → PyData.eqv z' x = false) ∧ Q (.int j)) : WD K m Γ (tBM K "list" (rIndexD K) te (tCons ti tNil)) Q := fun X hK F H σ E C k => by
  subst hK
  refine h X rfl F H σ E _ fun v F1 H1 d l1 E1 r ⟨ds, e, h2⟩ => ?_
  subst e
  cases r with
  | lst ha ra =>
    rename_i a xs
    refine ⟨.inl ⟨rfl, _, SqL.of (E1.le _ _ ha)⟩, h2 X rfl F1 H1 σ E1 _ fun u F2 H2 x l2 E2 ru ⟨j, z, s1, s2, hj, he, hn, q⟩ => ?_⟩
    have r2 : Rp X.K H2 (.ref a) (.list ds) := (Rp.lst (ha) ra).mono (l2.tr E2.le)
    exact ⟨a, u, x, ds, j, z, rfl, rfl, Rp.dp _ (SeqAt.canLay_of_shaped s1) r2, Rp.dp _ (SeqAt.canLay_of_shaped s2) (ru.mono E2.le), s1, s2, hj, he, hn, k _ F2 H2 _ (l1.tr l2) E2 (.int _) q⟩
/-! ### a thing that is at hand for a while -/
def AnyO (K : PySem.W.Frag) (p : Addr) (o : HO) : Own where
  K := K
  p := fun _ H v S => v = .ref p ∧ H p = some o ∧ ∀ a, S a ↔ a = p
  vw := none
  keep := fun {F F' H H' v S} ⟨e, h, hS⟩ _ k => ⟨e, (k p ((hS p).mpr rfl)).trans h, hS⟩
  keepT := fun _ {F F' H H' v S} ⟨e, h, hS⟩ _ k => ⟨e, (k p ((hS p).mpr rfl)).trans h, hS⟩
  view := fun _ _ e => nomatch e
theorem En.temp {X : Bs} {F H : Hp} {σ : L2.St} (E : En X F H σ Γ) {p : Addr} (hp : H p = none) (o : HO) :
    ∃ X' : Bs, X'.K = X.K ∧ X'.N = X.N ∧ En X' F (upd H p o) σ Γ ∧ ∀ F' H', Le F F' → En X' F' H' σ Γ → H' p = some o ∧ En X F' H' (σ ++ [some (.ref p)]) (Γ ++ [.ex (.ref p) (AnyO X.K p o)]) := by
  have Ep : En X F (upd H p o) (σ ++ [some (.ref p)]) (Γ ++ [.ex (.ref p) (AnyO X.K p o)]) :=
    E.pushG (T := fun a => a = p) Le.rfl' (E.le.new (E.le.nn hp)) (fun a u q => by rw [upd_ne (ne_of_none q hp)]; exact q) (fun _ _ _ => rfl)
      ⟨rfl, rfl, rfl, upd_same, fun _ => Iff.rfl⟩ (fun a e => by subst e; exact ⟨hp, E.le.nn hp, by rw [upd_same]; simp⟩)
  obtain ⟨X', hK, hN, E', back⟩ := Ep.frame
  refine ⟨X', hK, hN, E', fun F' H' lf E2 => ?_⟩
  have E3 := back F' H' σ Γ rfl lf E2
  obtain ⟨S, hs, _⟩ := E3.sl
  obtain ⟨_, _, _, q, _⟩ := hs Γ.length (.ex (.ref p) (AnyO X.K p o)) (by simp)
  exact ⟨q, E3⟩
theorem En.lastMut {X : Bs} {F H : Hp} {σ : L2.St} {ov : Option V} {s : Sl} (E : En X F H (σ ++ [ov]) (Γ ++ [s])) : ∃ S : Addr → Prop, SlOk X F H ov S s ∧ (∀ a, S a → F a = none) ∧ ∀ H' s', (∀ a o, H a = some o → ¬ S a → H' a = some o) → (∀ a, S a → H' a ≠ none) → SlOk X F H' ov S s' → En X F H' (σ ++ [ov]) (Γ ++ [s']) := by
  have hl : σ.length = Γ.length := by
    have := E.len
    simp at this
    exact this
  obtain ⟨S, q, ho, k⟩ := E.reown (i := Γ.length) (s1 := s) (by simp)
  rw [← hl, getD_last] at q
  refine ⟨S, q, fun a h => (ho a h).1, fun H' s' h1 h2 h3 => ?_⟩
  have := k H' s' S h1 h2 (fun _ h => h) (by rw [← hl, getD_last]; exact h3)
  have e : (Γ ++ [s]).set Γ.length s' = Γ ++ [s'] := by simp
  rw [e] at this
  exact this
/-! ### {text: value, ..} -/
/-- a dict by texts, its values data without lists -/
def DkO (K : PySem.W.Frag) (kvs : List (Str × PyData)) : Own where
  K := K
  p := fun F H v S => ∃ (a : Addr) (vs : List V), v = .ref a ∧ (∀ b, S b ↔ b = a) ∧ H a = some (.dK (kvZ (kvs.map Prod.fst) vs)) ∧ RpA K F vs (kvs.map Prod.snd) ∧ lfA (kvs.map Prod.snd) = true
  vw := none
  keep := fun {F F' H H' v S} ⟨a, vs, e, hS, h, r, f⟩ le k => ⟨a, vs, e, hS, (k a ((hS a).mpr rfl)).trans h, r.mono le, f⟩
  keepT := fun _ {F F' H H' v S} ⟨a, vs, e, hS, h, r, f⟩ tl k => ⟨a, vs, e, hS, (k a ((hS a).mpr rfl)).trans h, RpA.lfree tl _ f r, f⟩
  view := fun _ _ e => nomatch e
theorem ff_eq {X X' : Bs} (h : X'.N = X.N) (F : Hp) (m : Bool) : X'.ff F m = X.ff F m := by cases m <;> simp [Bs.ff, h]
theorem wx_disp2 {k1 k2 : Str} (hne : k1 ≠ k2) (h : WD K false Γ ta fun d1 => WD K false Γ tb fun d2 => lf d1 = true ∧ lf d2 = true ∧ ∀ v, QX (.ex v (DkO K [(k1, d1), (k2, d2)]))) : WX K Γ (tDisp [(tC (.str k1), ta), (tC (.str k2), tb)]) QX := fun X hK F H σ E C k => by
  subst hK
  intro p hp
  obtain ⟨X', hK', hN, E', back⟩ := E.temp hp (.dK [])
  refine h X' hK' F _ σ E' _ fun v1 F1 H1 d1 l1 E1 r1 h1 => h1 X' hK' F1 H1 σ E1 _ fun v2 F2 H2 d2 l2 E2 r2 ⟨f1, f2, q⟩ => ?_
  obtain ⟨hp2, E3⟩ := back F2 H2 (l1.tr l2) E2
  refine ⟨hp2, [(Sum.inr k1, v1), (Sum.inr k2, v2)], rfl, (show 2 ≤ 15 by decide), ?_⟩
  obtain ⟨S, ⟨_, _, _, _, hS⟩, _, km⟩ := E3.lastMut
  have em : mergeK [] [(Sum.inr k1, v1), (Sum.inr k2, v2)] = kvZ [k1, k2] [v1, v2] := by
    have hk : (Sum.inr k1 : Key) ≠ Sum.inr k2 := fun z => hne (by injection z)
    simp [mergeK, putK, kvZ, hk]
  rw [em]
  refine k (.ref p) F2 _ _ (l1.tr l2) (km _ (.ex (.ref p) (DkO X.K [(k1, d1), (k2, d2)])) (fun a o z w => ?_) (fun a w => ?_) ⟨rfl, rfl, p, [v1, v2], rfl, hS, upd_same, .cons (r1.mono l2) (.cons r2 .nil), by simp [lfA, f1, f2]⟩) (q _)
  · rw [upd_ne fun z => w ((hS a).mpr z)]; exact z
  · rw [(hS a).mp w, upd_same]; simp
/-- d.get(text, other) -/
def getOr (kvs : List (Str × PyData)) (x : Str) (d : PyData) : PyData := match kvs.find? (fun kv => decide (kv.1 = x)) with
  | some kv => kv.2
  | none => d
theorem valV_kvZ {x : Str} : ∀ {ks : List Str} {vs : List V} {ds : List PyData} {F : Hp}, RpA K F vs ds → ks.length = ds.length → (∀ d, ((ks.zip ds).find? fun kv => decide (kv.1 = x)) = some (x, d) → ∃ v, valV (kvZ ks vs) (.inr x) = some v ∧ Rp K F v d) ∧ (((ks.zip ds).find? fun kv => decide (kv.1 = x)) = none → valV (kvZ ks vs) (.inr x) = none)
  | [], _, _, _, _, _ => ⟨fun d e => by simp at e, fun _ => by simp [kvZ, valV]⟩
  | k :: ks, vs, [], F, r, hl => by simp at hl
  | k :: ks, vs, d :: ds, F, r, hl => by
    cases r with
    | cons a b =>
      obtain ⟨h1, h2⟩ := valV_kvZ (x := x) (ks := ks) b (by simpa using hl)
      by_cases e : k = x
      · subst e
        refine ⟨fun d' e' => ?_, fun e' => by simp at e'⟩
        simp at e'
        subst e'
        exact ⟨_, by simp [kvZ, valV_pos], a⟩
      · have e2 : (Sum.inr k : Key) ≠ Sum.inr x := fun z => e (by injection z)
        refine ⟨fun d' e' => ?_, fun e' => ?_⟩
        · simp only [List.zip_cons_cons, List.find?_cons, e, decide_false] at e'
          obtain ⟨v, q1, q2⟩ := h1 d' e'
          exact ⟨v, by simp only [kvZ, List.zipWith_cons_cons]; rw [valV_neg e2]; exact q1, q2⟩
        · simp only [List.zip_cons_cons, List.find?_cons, e, decide_false] at e'
          simp only [kvZ, List.zipWith_cons_cons]
          rw [valV_neg e2]
          exact h2 e'
theorem zip_fs {α β : Type} (l : List (α × β)) : (l.map Prod.fst).zip (l.map Prod.snd) = l := by
  induction l with
  | nil => rfl
  | cons a l ih => simp [ih]
theorem find_fst {kvs : List (Str × PyData)} {x : Str} {kv : Str × PyData} (h : kvs.find? (fun kv => decide (kv.1 = x)) = some kv) : kv.1 = x := by
  have := List.find?_some h
  simpa using this
theorem lfA_mem {d : PyData} : ∀ {ds : List PyData}, lfA ds = true → d ∈ ds → lf d = true
  | [], _, h => by cases h
  | a :: l, f, h => by
    have f' : lf a = true ∧ lfA l = true := by simpa [lfA] using f
    rcases List.mem_cons.mp h with z | z
    · rw [z]; exact f'.1
    · exact lfA_mem f'.2 z
theorem zip_find {z : Str} {y : PyData} : ∀ {ks : List Str} {ys : List PyData} {j : Nat}, ks.Nodup → ks[j]? = some z → ys[j]? = some y → ((ks.zip ys).find? fun kv => decide (kv.1 = z)) = some (z, y)
  | [], _, _, _, hj, _ => by simp at hj
  | _ :: _, [], _, _, _, hy => by simp at hy
  | k0 :: ks, y0 :: ys, 0, nd, hj, hy => by simp at hj hy; subst hj hy; simp
  | k0 :: ks, y0 :: ys, j + 1, nd, hj, hy => by
    simp at hj hy
    have hne : k0 ≠ z := fun w => (List.nodup_cons.mp nd).1 (w ▸ List.mem_of_getElem? hj)
    simp only [List.zip_cons_cons, List.find?_cons, hne, decide_false]
    exact zip_find (List.nodup_cons.mp nd).2 hj hy
theorem wd_dget2 {i : Nat} {v : V} {kvs : List (Str × PyData)} (hi : Γ[i]? = some (.ex v (DkO K kvs))) (h : WD K false Γ ta fun k => ∃ x, k = .str x ∧ WD K false Γ tb fun d => lf d = true ∧ Q (getOr kvs x d)) : WD K m Γ (tDGet2 (tVar i) ta tb) Q := fun X hK F H σ E C k => by
  subst hK
  obtain ⟨S0, q0, _, _⟩ := E.reown hi
  obtain ⟨_, _, a0, vs0, e0, _, hd0, _, _⟩ := q0
  subst e0
  refine ⟨_, E.ex hi, a0, rfl, .inl ⟨_, .inl hd0⟩, h X rfl F H σ E _ fun y F1 H1 ky l1 E1 ry ⟨x, ek, h2⟩ => ?_⟩
  subst ek
  cases ry
  refine h2 X rfl F1 H1 σ E1 _ fun z F2 H2 d l2 E2 rz ⟨fd, q⟩ => ?_
  obtain ⟨S2, q2, _, _⟩ := E2.reown hi
  obtain ⟨_, _, a2, vs2, e2, _, hd2, r2, f2⟩ := q2
  cases e2
  refine ⟨valV (kvZ (kvs.map Prod.fst) vs2) (.inr x), .inl ⟨_, .inr x, .inl hd2, rfl, rfl⟩, ?_⟩
  obtain ⟨g1, g2⟩ := valV_kvZ (x := x) (ks := kvs.map Prod.fst) r2 (by simp)
  rw [zip_fs] at g1 g2
  unfold getOr at q
  cases hf : kvs.find? (fun kv => decide (kv.1 = x)) with
  | none =>
    rw [hf] at q
    rw [g2 hf]
    exact k _ F2 H2 d (l1.tr l2) E2 (Rp.lfree Bs.ff_tup d fd rz) q
  | some kv =>
    rw [hf] at q
    have hx := find_fst hf
    obtain ⟨k0, d0⟩ := kv
    simp only at hx q
    subst hx
    obtain ⟨u, hu, ru⟩ := g1 d0 hf
    rw [hu]
    have fl : lf d0 = true := lfA_mem f2 (List.mem_map.mpr ⟨_, List.mem_of_find?_eq_some hf, rfl⟩)
    exact k _ F2 H2 d0 (l1.tr l2) E2 (Rp.lfree Bs.ff_tup d0 fl ru) q
/-! ### dict(zip(names, numbers))[name] -/
theorem merge_kvZ : ∀ {ks : List Str} {vs : List V} {acc : List (Key × V)}, ks.Nodup → (∀ k ∈ ks, valV acc (.inr k) = none) → mergeK acc (kvZ ks vs) = acc ++ kvZ ks vs
  | [], vs, acc, _, _ => by simp [kvZ, mergeK]
  | k :: ks, [], acc, _, _ => by simp [kvZ, mergeK]
  | k :: ks, v :: vs, acc, nd, h => by
    have h0 := h k List.mem_cons_self
    have e : kvZ (k :: ks) (v :: vs) = (Sum.inr k, v) :: kvZ ks vs := rfl
    rw [e]
    show mergeK (putK acc (.inr k) v) (kvZ ks vs) = _
    rw [putK_new v h0, merge_kvZ (List.nodup_cons.mp nd).2 fun k' hk' => ?_, List.append_assoc]
    · rfl
    · rw [valV_snoc _ _ _ _ h0, if_neg, h k' (List.mem_cons_of_mem _ hk')]
      intro z
      injection z with z
      subst z
      exact (List.nodup_cons.mp nd).1 hk'
theorem wd_dzip (h : WA K false Γ tr fun as => ∃ (ks : List Str) (ys : List PyData), as = [.d (.list (ks.map PyData.str)), .d (.tuple ys)] ∧ ks.Nodup ∧ ks.length = ys.length ∧ WD K false Γ ti fun x => ∃ (j : Nat) (z : Str) (y : PyData), x = .str z ∧ ks[j]? = some z ∧ ys[j]? = some y ∧ lf y = true ∧ Q y) : WD K m Γ (tDGet (tDictZip K tr) ti) Q := fun X hK F H σ E C k => by
  subst hK
  refine h X rfl F H σ E _ fun vs F1 H1 as l1 E1 r ⟨ks, ys, e, nd, hl, h2⟩ => ?_
  subst e
  cases r with
  | cons a b =>
    cases b with
    | cons b c =>
      cases c
      have a' : Rp X.K F1 _ (.list (ks.map PyData.str)) := a
      have b' : Rp X.K F1 _ (.tuple ys) := b
      cases a' with
      | lst ha ra =>
        cases b' with
        | tup hb rb =>
          rename_i pa us pb ws
          refine ⟨pa, pb, us, ws, rfl, SqL.of (E1.le _ _ ha), sqT_le E1.le hb, ks, strs_of ra, fun p hp => ?_⟩
          rw [merge_kvZ nd (fun _ _ => rfl), List.nil_append]
          obtain ⟨X', hK', hN, E', back⟩ := E1.temp hp (.dK (kvZ ks ws))
          refine h2 X' hK' F1 _ σ E' _ fun u F2 H2 x l2 E2 ru ⟨j, z, y, ex, hj, hy, fy, q⟩ => ?_
          subst ex
          cases ru
          obtain ⟨hp2, E3⟩ := back F2 H2 l2 E2
          have hfind := zip_find nd hj hy
          obtain ⟨v, hv, rv⟩ := (valV_kvZ (x := z) (ks := ks) (rb.mono l2) hl).1 y hfind
          exact ⟨p, v, rfl, .inl ⟨_, .inr z, .inl hp2, rfl, hv.symm⟩, k v F2 H2 y (l1.tr l2) E3.drop (Rp.lfree Bs.ff_tup y fy rv) q⟩
end
end Pk
end
section
set_option Elab.async false
set_option linter.all false
set_option maxRecDepth 100000
/-! The data layer, part 20: tuples of texts that the module holds. -/
namespace Pk
open PySem PySem.Spec PyProof.Rows L2
def strsB : List Value → List Str → Bool
  | [], [] => true
  | .str x _ :: us, y :: ys => decide (x = y) && strsB us ys
  | _, _ => false
theorem strsB_ok : ∀ {us : List Value} {ys : List Str}, strsB us ys = true → Vals (ys.map V.str) us
  | [], [], _ => .nil
  | .str x t :: us, y :: ys, h => by
    simp only [strsB, Bool.and_eq_true, decide_eq_true_eq] at h
    exact .cons ⟨t, by rw [h.1]⟩ (strsB_ok h.2)
  | [], _ :: _, h => by cases h
  | .none :: _, _, h => by cases h
  | .bool _ :: _, _, h => by cases h
  | .str _ _ :: _, [], h => by cases h
def isTupB : Value → Bool
  | .type t => t == "tuple"
  | _ => false
theorem isTupB_ok {v : Value} (h : isTupB v = true) : v = .type "tuple" := by
  cases v <;> simp [isTupB] at h ⊢
  exact h
/-- the module's x is a tuple of these texts -/
def kTupB (K : PySem.W.Frag) (x : Str) (ys : List Str) : Bool := match K.lookup (He.ga K x) with
  | some o => isTupB o.cls && (match o.data with
    | .seq its _ => decide (its.size ≤ 1000) && strsB its.toList ys
    | _ => false)
  | none => false
theorem kTupB_ok {K : PySem.W.Frag} {x : Str} {ys : List Str} (h : kTupB K x ys = true) (F : Hp) : SqT K F (He.ga K x) (ys.map V.str) := by
  unfold kTupB at h
  cases hk : K.lookup (He.ga K x) with
  | none => rw [hk] at h; cases h
  | some o =>
    rw [hk] at h
    simp only [Bool.and_eq_true] at h
    obtain ⟨h1, h2⟩ := h
    cases hd : o.data with
    | seq its n =>
      rw [hd] at h2
      simp only [Bool.and_eq_true, decide_eq_true_eq] at h2
      exact .inr ⟨o, its, n, hk, isTupB_ok h1, hd, sz_le (by omega), strsB_ok h2.2⟩
    | _ => rw [hd] at h2; cases h2
/-- .. as data -/
def TupK (K : PySem.W.Frag) (a : Addr) (ys : List Str) : Prop := ∀ F : Hp, Rp K F (.ref a) (.tuple (ys.map PyData.str))
theorem strs_rp {K : PySem.W.Frag} {F : Hp} : ∀ ys : List Str, RpA K F (ys.map V.str) (ys.map PyData.str)
  | [] => .nil
  | y :: ys => .cons (.str y) (strs_rp ys)
theorem kTup_data {K : PySem.W.Frag} {x : Str} {ys : List Str} (h : kTupB K x ys = true) : TupK K (He.ga K x) ys := fun F => .tup (kTupB_ok h F) (strs_rp ys)
theorem wd_tupK {K : PySem.W.Frag} {m : Bool} {Γ : List Sl} {Q : PyData → Prop} {a : Addr} {ys : List Str} (h : TupK K a ys) (q : Q (.tuple (ys.map PyData.str))) : WD K m Γ (tC (.ref a)) Q := wd_c (fun F => h F) q
end Pk
end
section
set_option Elab.async false
set_option linter.all false
set_option maxRecDepth 100000
/-! The data layer, part 21: len(set(texts)). -/
namespace Ps
open PySem PySem.Spec PyProof.Rows L2
/-- how many unlike ones among the first i -/
def dc (xs : List Str) : Nat → Nat
  | 0 => 0
  | i + 1 => dc xs i + if xs.getD i Str.empty ∈ xs.take i then 0 else 1
theorem dc_le (xs : List Str) : ∀ i, dc xs i ≤ i
  | 0 => Nat.le_refl _
  | i + 1 => by
    have := dc_le xs i
    unfold dc
    split <;> omega
theorem dc_nd {xs : List Str} (nd : xs.Nodup) : ∀ i, i ≤ xs.length → dc xs i = i
  | 0, _ => rfl
  | i + 1, h => by
    have hi : i < xs.length := h
    unfold dc
    rw [dc_nd nd i (by omega), if_neg]
    intro hm
    obtain ⟨j, hj⟩ := List.mem_iff_getElem?.mp hm
    rw [List.getElem?_take] at hj
    split at hj
    · rename_i hji
      have e : xs[j]? = xs[i]? := by
        rw [hj, List.getD_eq_getElem?_getD, List.getElem?_eq_getElem hi]
        rfl
      have := (List.getElem?_inj (by omega) nd).mp e
      omega
    · cases hj
section
variable {prog : Program} {w : World} {A : Around} {R : Result → Shared → Prop} {I : Addr} {fp wr : List Addr} {G : Array GenState → Array GenState → Prop} {n : Nat} {P : Nat → Value → Prop} {St : Nat → Shared → Prop}
theorem loop (W : WalksS prog w A.in1 I fp wr G n P St) (S : Addr) (nS : S ∉ fp) (xs : List Str) (hz : xs.length = n) (hb : n ≤ 1000) (hv : ∀ i v, P i v → ∃ t, v = .str (xs.getD i Str.empty) t) :
    ∀ (k i : Nat) (s : Shared), n - i = k → i ≤ n → St i s → s.heap.SetOf (PySem.strKind prog w) S (fun y => (xs.take i).any (· == y)) (dc xs i) →
      (∀ s', Moved (S :: wr) G s s' → s'.heap.SetOf (PySem.strKind prog w) S (fun y => (xs.take n).any (· == y)) (dc xs n) → R (.ok (.ret .none)) s') → codeAny (model prog w) A (.builtin "set.update.loop" ⟨[.ref S, .ref I], []⟩) R s := by
  have nw : S ∉ wr := fun h => nS (W.sub _ h)
  have sub : ∀ b ∈ wr, b ∈ S :: wr := fun b h => List.mem_cons_of_mem _ h
  intro k
  induction k with
  | zero =>
    intro i s hk hi st hS kR
    have e : i = n := by omega
    subst e
    refine codeAny_builtin PyProof.Rows.F.entry_set_update_loop ?_; rw [Around.under_plainId PyProof.Rows.F.plain_set_update_loop _]
    show wpAny _ A.in1 (pyNext (.ref I) >>= _) _ _ s; refine wpAny_bind (W.done s _ _ st fun s' mv => ?_)
    show wpAny _ A.in1 (ret Value.none) _ _ s'
    refine wpAny_pure (kR s' (mv.mono sub) ?_)
    obtain ⟨o, es, ep, t, ho, rest⟩ := hS
    exact ⟨o, es, ep, t, mv.heap S _ nw ho, rest⟩
  | succ k ih =>
    intro i s hk hi st hS kR
    have lt : i < n := by omega
    refine codeAny_builtin PyProof.Rows.F.entry_set_update_loop ?_; rw [Around.under_plainId PyProof.Rows.F.plain_set_update_loop _]
    show wpAny _ A.in1 (pyNext (.ref I) >>= _) _ _ s; refine wpAny_bind (W.item i s _ _ lt st fun v s' hP st' mv => ?_)
    obtain ⟨t, rfl⟩ := hv i v hP
    have hS1 : s'.heap.SetOf (PySem.strKind prog w) S (fun y => (xs.take i).any (· == y)) (dc xs i) := by
      obtain ⟨o, es, ep, tb, ho, rest⟩ := hS
      exact ⟨o, es, ep, tb, mv.heap S _ nw ho, rest⟩
    show wpAny _ A.in1 (holding [Value.str (xs.getD i Str.empty) t] (setAdd S (.str (xs.getD i Str.empty) t)) >>= _) _ _ s'
    refine wpAny_bind (wpAny_holding ?_); unfold setAdd; refine wpAny_holding ?_
    refine wpAny_bind ((PySem.strKind prog w).pyHash (k := xs.getD i Str.empty) (strKind_is _ _ _ _) ?_)
    have hd := dc_le xs i
    refine wpAny_setAddHashed_of (knd := PySem.strKind prog w) (s := { s' with toks := s'.toks + 1 }) (strKind_is _ _ _ _) rfl hS1 (by unfold scanBound; omega) fun g sb hS2 => ?_
    have ex : xs[i]? = some (xs.getD i Str.empty) := by
      rw [List.getD_eq_getElem?_getD, List.getElem?_eq_getElem (by omega)]
      rfl
    have et : xs.take (i + 1) = xs.take i ++ [xs.getD i Str.empty] := by rw [List.take_add_one, ex]; rfl
    have hS3 : g.SetOf (PySem.strKind prog w) S (fun y => (xs.take (i + 1)).any (· == y)) (dc xs (i + 1)) := by
      refine SetOf_congr hS2 (fun y => ?_) ?_
      · show ((xs.take i).any (· == y) || decide (y = xs.getD i Str.empty)) = (xs.take (i + 1)).any (· == y)
        rw [et, List.any_append]
        congr 1
        by_cases e : y = xs.getD i Str.empty
        · show _ = ((xs.getD i Str.empty == y) || false)
          rw [decide_eq_true e, e, beq_self_eq_true]; rfl
        · have e' : (xs.getD i Str.empty == y) = false := beq_eq_false_iff_ne.mpr fun z => e z.symm
          show _ = ((xs.getD i Str.empty == y) || false)
          rw [decide_eq_false e, e']; rfl
      · show (if (xs.take i).any (· == xs.getD i Str.empty) = true then dc xs i else dc xs i + 1) = dc xs (i + 1)
        have ea : ((xs.take i).any (· == xs.getD i Str.empty) = true) ↔ xs.getD i Str.empty ∈ xs.take i := by
          rw [List.any_eq_true]
          exact ⟨fun ⟨z, hz, ez⟩ => by rw [← eq_of_beq ez]; exact hz, fun h => ⟨_, h, beq_self_eq_true _⟩⟩
        show _ = dc xs i + if xs.getD i Str.empty ∈ xs.take i then 0 else 1
        by_cases hm : xs.getD i Str.empty ∈ xs.take i
        · rw [if_pos (ea.mpr hm), if_pos hm]; rfl
        · rw [if_neg (fun z => hm (ea.mp z)), if_neg hm]
    refine wpAny_pure ⟨plainId_quiet PyProof.Rows.F.plain_set_update_loop _, ih (i + 1) _ (by omega) lt (W.frame _ s' _ _ st' (Nat.le_succ _) fun b hb o e => ?_) hS3 fun s2 m2 hS4 => ?_⟩
    · have bS : b ≠ S := fun h => nS (by rw [← h]; exact hb)
      rw [sb.2 b bS]; exact e
    · refine kR s2 (Moved.trans W.gtrans ((mv.mono sub).then_heap (Nat.le_succ _) fun b o hb e => ?_) m2) hS4
      have bS : b ≠ S := fun h => hb (by rw [h]; exact List.mem_cons_self)
      rw [sb.2 b bS]; exact e
end
abbrev fr0 (h : Heap) (led : Bool) : Heap := h.push { cls := .type "set", dict := none, data := .set #[] 0 (.fresh 0 0 led) }
section
variable {prog : Program} {w : World} {A : Around} {E : Value → Shared → Prop} {s : Shared}
set_option maxHeartbeats 3200000 in
theorem callSet {l : Addr} {its : Array Value} {xs : List Str} {Q : Value → Shared → Prop} (hh : A.handled = none) (hl : s.heap.IsList l its) (hi : PyProof.Rows.StrsAre its.toList xs) (hb : xs.length ≤ 1000)
    (k : ∀ (g : Heap) (tk : Nat), g.SetOf (PySem.strKind prog w) s.heap.objs.size (fun y => (xs.take its.size).any (· == y)) (dc xs its.size) → (∀ b o, b < s.heap.objs.size → s.heap.get? b = some o → g.get? b = some o) → Q (.ref s.heap.objs.size) { s with heap := g, toks := tk }) :
    wpAny (model prog w) A (call (.type "set") [.ref l]) Q E s := by
  obtain ⟨c, tl, hmro⟩ := PySem.F.called_set.mro
  have hmade := PySem.F.called_set.made
  have hsub := PySem.F.called_set.sub
  refine wpAny_call (codeAny_of_tree ?_)
  show wpAny _ _ (callAny (.type "set") _) _ _ _
  refine wpAny_pure ⟨Code.quiet_builtin _ (by decide +kernel), codeAny_builtin PySem.F.entry_type_call ?_⟩; rw [Around.under_plain (weight_type_call_type "set" [.ref l] []) rfl]
  have h1 := PySem.F.called_set.notType
  have h2 := PySem.F.called_set.canCreate
  have hct := PySem.F.typeCall_set_1 (.ref l)
  repeat (any_goals (first | assumption | wp_step))
  refine codeAny_mono (code_set_new_1 (.ref l) (E := E) (Q₁ := fun obj t => ∃ led : Bool, obj = .ref s.heap.objs.size ∧ t = { s with heap := fr0 s.heap led }) fun led => ⟨led, rfl, rfl⟩) fun r t hr => ?_
  cases r with
  | error e => exact hr
  | ok fl =>
    cases fl with
    | ret obj =>
      obtain ⟨led, rfl, rfl⟩ := hr
      have gS : (fr0 s.heap led).get? s.heap.objs.size = some { cls := .type "set", dict := none, data := .set #[] 0 (.fresh 0 0 led) } := Heap.get?_push_size _ rfl
      have gT : Shared.TypeIs { s with heap := fr0 s.heap led } (.ref s.heap.objs.size) "set" := ⟨_, gS, rfl⟩
      have hli := PySem.F.called_set.init.lookup
      have hbi := PySem.F.called_set.init.bind (.ref s.heap.objs.size)
      repeat (any_goals (first | assumption | wp_step))
      refine codeAny_mono (codeAny_call_builtin (R := wants (fun r t => r = .none ∧ ∃ g tk, t = { s with heap := g, toks := tk } ∧ g.SetOf (PySem.strKind prog w) s.heap.objs.size (fun y => (xs.take its.size).any (· == y)) (dc xs its.size) ∧
          (∀ b o, b < s.heap.objs.size → s.heap.get? b = some o → g.get? b = some o)) E) PySem.F.called_set.init.plain PySem.F.entry_set_init (check_set_init_1 gT ?_)) fun r2 t2 hr2 => ?_
      · obtain ⟨ol, hol, hcl, nl, hdl⟩ := hl
        obtain ⟨ocls, odict, odata, oslots⟩ := ol
        simp only at hcl hdl
        subst hcl hdl
        have hol' : (fr0 s.heap led).get? l = some { cls := .type "list", dict := odict, data := .seq its nl, slots := oslots } := Heap.get?_push_of_some _ hol
        have hsls := PySem.F.sub_list_set
        have hslf := PySem.F.sub_list_frozenset
        have hne : (Value.type "list" == Value.type "dict") = false := by decide
        have hl1 : (fr0 s.heap led).IsList l its := ⟨_, hol', rfl, nl, rfl⟩
        unfold Builtin.«set.__init__» noKeywords Builtin.Frozenset.updateFrom
        generalize hPI : pyIter = PI
        wp_walk
        subst hPI
        refine wpAny_pyIter_list hl1 ?_; refine wpAny_bind (wpAny_runValue ?_)
        have lS : l < s.heap.objs.size := Heap.lt_size hol
        have h3 : A.in1.in1.in1.handled = none := by simp [hh]
        have nI : l ≠ (fr0 s.heap led).objs.size := by rw [Heap.size_push]; exact Nat.ne_of_lt (Nat.lt_succ_of_lt lS)
        have nS : s.heap.objs.size ∉ [(fr0 s.heap led).objs.size, l] := by
          rw [Heap.size_push]
          intro hm
          have e : s.heap.objs.size = s.heap.objs.size + 1 ∨ s.heap.objs.size = l := by simpa using hm
          rcases e with e | e
          · exact absurd e (Nat.ne_of_lt (Nat.lt_succ_self _))
          · exact absurd e (Nat.ne_of_gt lS)
        have hz : xs.length = its.size := by rw [← StrsAre.len_eq hi, Array.length_toList]
        have hv : ∀ (i : Nat) (v : Value), its[i]? = some v → ∃ t, v = .str (xs.getD i Str.empty) t := fun i v q => SS.strs_at hi i v (by rw [Array.getElem?_toList]; exact q)
        refine loop ((Walks.list h3 _ l nI its).toS) s.heap.objs.size nS xs hz (by rw [← hz]; exact hb) hv (its.size - 0) 0 _ (by omega) (Nat.zero_le _) ⟨⟨_, Heap.get?_push_size _ rfl, rfl, rfl⟩, (hl1.push _)⟩ ?hS0 ?hR
        case hS0 =>
          exact PyProof.Rows.SetOf_congr ((PyProof.Rows.setObjOf_fresh (knd := PySem.strKind prog w) led).setOf (Heap.get?_push_of_some _ gS) (by unfold scanBound; omega)) (fun _ => rfl) rfl
        case hR =>
          intro t mv hS'
          obtain ⟨g, g', d', tk', os'⟩ := t
          have eg : g' = s.gens := mv.gens
          have ed : d' = s.drawn := mv.drawn
          have eo : os' = s.os := mv.os
          subst eg ed eo
          show wpAny _ _ _ _ _ _
          refine wpAny_pure ?_
          show wpAny _ _ (ret Value.none) _ _ _
          refine wpAny_pure ⟨rfl, g, tk', rfl, hS', fun b o hb e => ?_⟩
          have b1 : b ≠ s.heap.objs.size := Nat.ne_of_lt hb
          have b2 : b ≠ (fr0 s.heap led).objs.size := by rw [Heap.size_push]; exact Nat.ne_of_lt (Nat.lt_succ_of_lt hb)
          refine mv.heap b o (fun hm => ?_) (Heap.get?_push_of_some _ (Heap.get?_push_of_some _ e))
          have e' : b = s.heap.objs.size ∨ b = (fr0 s.heap led).objs.size := by simpa using hm
          rcases e' with e' | e'
          · exact b1 e'
          · exact b2 e'
      · cases r2 with
        | error e => exact hr2
        | ok fl2 =>
          cases fl2 with
          | ret r =>
            obtain ⟨rfl, g, tk, rfl, hS', hk⟩ := hr2
            repeat (any_goals (first | assumption | wp_step))
            exact k _ _ hS' hk
          | _ => exact hr2.elim
    | _ => exact hr.elim
end
/-! len(set(texts)) in a def's body -/
def tLenSetS (K : PySem.W.Frag) (ta : TE) : TE := fun σ H Q => ta σ H fun x H1 => ∃ (l : Addr) (xs : List Str), x = .ref l ∧ SqL K H1 l (xs.map V.str) ∧ xs.length ≤ 1000 ∧ Q (.int (dc xs xs.length : Nat)) H1
theorem pe_lenSetS {X : Cx} {a : Expr} {ta : TE} {p p2 q pos : Pos} (hc : X.calm = true) (hg : Gl X "len") (hm : X.mg "len" = none) (hg2 : Gl X "set") (hm2 : X.mg "set" = none) (ha : PE X a ta)
    (na : starEach [a] X.env = (false, eval a X.env) :: starEach [] X.env := by rfl) : PE X (.Call (.Name "len" p) [.Call (.Name "set" p2) [a] [] q] [] pos) (tLenSetS X.K ta) := by
  refine ⟨fun pins s σ H Q I h => ?_⟩
  refine Call_ (ld_blt I hg hm boot_len ?_); refine PyProof.Rows.callWith_builtin1 (PyProof.Rows.args_cons ?_ rfl) rfl rfl
  refine Call_ (ld_blt I hg2 hm2 boot_set ?_); refine PyProof.Rows.callWith_type1 (PyProof.Rows.args_cons (thn (ha.run pins s σ H _ I h) fun v s1 ⟨x, H1, I1, r1, q1⟩ => PyProof.Rows.args_nil ?_) na) na rfl
  obtain ⟨l, xs, rfl, hq, hb, q1⟩ := q1
  cases r1
  obtain ⟨its, r, pl, hz⟩ := I1.list hq
  have hl : its.toArray.size = xs.length := by rw [List.size_toArray, ← r.length, List.length_map]
  refine callSet (I1.ok.hd hc) pl.isList (by simpa using strsAre_of r) hb fun g tk hS hk => ?_
  refine PyProof.Rows.args_nil ?_
  rw [hl] at hS
  obtain ⟨o, es, ep, t, ho, hex, hd, _, _, _, hf, hn⟩ := hS
  have I2 : Inv X pins σ H1 { s1 with heap := g, toks := tk } := I1.kept fun b o e => hk b o (Heap.lt_size e) e
  have hd' := dc_le xs xs.length
  exact call_len_set ho hex hd hf (by rw [hn] <;> omega) ⟨.int (dc xs xs.length : Nat), H1, I2.tok _, ⟨_, by rw [hn]⟩, q1⟩
end Ps
namespace Pk
open PySem PySem.Spec PyProof.Rows L2 Ps
theorem wd_lenSetS {K : PySem.W.Frag} {m : Bool} {Γ : List Sl} {Q : PyData → Prop} {te : TE} (h : WD K false Γ te fun d => ∃ xs : List Str, d = .list (xs.map PyData.str) ∧ xs.length ≤ 1000 ∧ Q (.int (dc xs xs.length : Nat))) : WD K m Γ (tLenSetS K te) Q := fun X hK F H σ E C k => by
  subst hK
  refine h X rfl F H σ E _ fun v F1 H1 d l1 E1 r ⟨xs, e, hb, q⟩ => ?_
  subst e
  cases r with
  | lst ha ra => exact ⟨_, xs, rfl, by rw [← strs_of ra]; exact SqL.of (E1.le _ _ ha), hb, k _ F1 H1 _ l1 E1 (.int _) q⟩
end Pk
end
section
set_option Elab.async false
set_option linter.all false
set_option maxRecDepth 100000
/-! The data layer, part 20: dicts of which nothing is told; calls that never come back. -/
namespace Pk
open PySem PySem.Spec PyProof.Rows L2
theorem Bs.ff_dct {X : Bs} {F : Hp} {m : Bool} {a : Addr} {kvs : List (Key × V)} (h : F a = some (.dK kvs)) : X.ff F m a = some (.dK kvs) := by
  cases m with
  | false => exact h
  | true =>
    show cutN X.N F a = _
    unfold cutN
    rw [h]
theorem En.newD {X : Bs} {Γ : List Sl} {m : Bool} {F H : Hp} {σ : L2.St} (E : En X F H σ Γ) {p : Addr} {kvs : List (Key × V)} (hp : H p = none) {ds : List (PyData × PyData)} (t : flatDs ds = true → kvs.map kvD = ds) : Le F (upd F p (.dK kvs)) ∧ En X (upd F p (.dK kvs)) (upd H p (.dK kvs)) σ Γ ∧ Rp X.K (X.ff (upd F p (.dK kvs)) m) (.ref p) (.dict ds) :=
  ⟨Le.up (E.le.nn hp), E.alloc hp, .dct (Bs.ff_dct upd_same) t⟩
/-- a dict of which nothing is told -/
abbrev odD : List (PyData × PyData) := [(.none, .list [])]
/-- dict(xs) of a list of pairs -/
def rDictP (K : PySem.W.Frag) : List V → Hp → VK → Prop := fun xs H Q => ∃ (a : Addr) (ps : List Addr) (kvs : List (Key × V)), xs = [.ref a] ∧ SqL K H a (ps.map V.ref) ∧ Paired (fun p kv => SqT K H p [kV kv.1, kv.2]) ps kvs ∧
    ∀ p, H p = none → Q (.ref p) (upd H p (.dK (mergeK [] kvs)))
theorem o_dictP {X : Cx} (hc : X.calm = true) : CallR X (.type "dict") (rDictP X.K) := call_dictP hc
theorem pairs_rp {K : PySem.W.Frag} {F : Hp} : ∀ {vs : List V} {ps : List (Str × PyData)}, RpA K F vs (ps.map fun z => .tuple [.str z.1, z.2]) → ∃ (as : List Addr) (kvs : List (Key × V)), vs = as.map V.ref ∧ Paired (fun p kv => SqT K F p [kV kv.1, kv.2]) as kvs
  | vs, [], h => by
    cases h
    exact ⟨[], [], rfl, .nil⟩
  | vs, z :: ps, h => by
    cases h with
    | cons a b =>
      obtain ⟨as, kvs, e, q⟩ := pairs_rp b
      cases a with
      | tup ha ra =>
        cases ra with
        | cons r1 r2 =>
          cases r1
          cases r2 with
          | cons r3 r4 =>
            cases r4
            rename_i p v
            exact ⟨p :: as, (.inr z.1, v) :: kvs, by rw [e]; rfl, .cons ha q⟩
theorem paired_mono {α β : Type} {R R' : α → β → Prop} (h : ∀ a b, R a b → R' a b) : ∀ {xs : List α} {ys : List β}, Paired R xs ys → Paired R' xs ys
  | _, _, .nil => .nil
  | _, _, .cons a b => .cons (h _ _ a) (paired_mono h b)
section
variable {K : PySem.W.Frag} {m : Bool} {Γ : List Sl} {Q : PyData → Prop} {te : TE}
theorem wd_dict0 (ds : List (PyData × PyData)) (q : Q (.dict ds)) (t : flatDs ds = true → ([] : List (PyData × PyData)) = ds := by intro _; rfl) : WD K m Γ tDNewK Q := fun X hK F H σ E C k => fun p hp => by
  subst hK
  obtain ⟨a, b, c⟩ := E.newD (m := m) (kvs := []) hp (ds := ds) t
  exact k _ _ _ _ a b c q
theorem wd_dictP (ds : List (PyData × PyData)) (hds : flatDs ds = false) (h : WD K false Γ te fun d => ∃ ps : List (Str × PyData), d = .list (ps.map fun z => .tuple [.str z.1, z.2]) ∧ Q (.dict ds)) : WD K m Γ (tCB (rDictP K) (tCons te tNil)) Q := fun X hK F H σ E C k => by
  subst hK
  refine h X rfl F H σ E _ fun v F1 H1 d l1 E1 r ⟨ps, e, q⟩ => ?_
  subst e
  cases r with
  | lst ha ra =>
    rename_i a vs
    obtain ⟨as, kvs, ev, hp⟩ := pairs_rp ra
    subst ev
    refine ⟨a, as, kvs, rfl, SqL.of (E1.le _ _ ha), paired_mono (fun _ _ z => sqT_le E1.le z) hp, fun p hn => ?_⟩
    obtain ⟨x, y, z⟩ := E1.newD (m := m) (kvs := mergeK [] kvs) hn (ds := ds) (fun t => by rw [hds] at t; cases t)
    exact k _ _ _ _ (l1.tr x) y z q
end
section
variable {K : PySem.W.Frag} {Γ : List Sl} {W : XW} {ex : Value → Option Fs → List Sl → Prop} {T : List Sl → (Sl → Prop) → XQ → Prop} {Q : Sl → Prop} {ta tb tc : TE} {r : R2}
theorem wxw_call3 (h : WD K false Γ ta fun x => WD K false Γ tb fun y => WD K false Γ tc fun z => T [.dat false x, .dat false y, .dat false z] Q fun c d => ex c d Γ) : WXw K W ex Γ (tCallS (spX K T) (WE W) (tCons ta (tCons tb (tCons tc tNil)))) Q := wxw_call (wa_d (h.mono fun x h => wa_d (h.mono fun y h => wa_d (h.mono fun z q => wa_nil ⟨agsGood_d rfl, q⟩))))
/-- .. of what never comes back -/
theorem wxw_opN (h : WXw K W ex Γ ta fun _ => False) : WXw K W ex Γ (tOp r ta tb) Q := fun X hK hx F H σ E C k => h X hK hx F H σ E _ fun _ _ _ _ _ _ z => z.elim
end
end Pk
end
section
set_option Elab.async false
set_option linter.all false
set_option maxRecDepth 100000
/-! The data layer, part 21: range downwards, pop at a place. -/
namespace Pk
open PySem PySem.Spec PyProof.Rows L2
/-- lo, lo - 1, .. -/
def downD (lo : Int) (n : Nat) : List PyData := (List.range n).map fun (i : Nat) => PyData.int (lo + (i : Nat) * (-1))
theorem downD_len {lo : Int} {n : Nat} : (downD lo n).length = n := by simp [downD]
theorem downD_get {lo : Int} {n i : Nat} (h : i < n) : (downD lo n)[i]? = some (.int (lo + (i : Nat) * (-1))) := by simp [downD, h]
theorem downD_of {lo : Int} {n i : Nat} {d : PyData} (h : (downD lo n)[i]? = some d) : i < n ∧ d = .int (lo - i) := by
  have hi : i < (downD lo n).length := (List.getElem?_eq_some_iff.mp h).1
  rw [downD_len] at hi
  rw [downD_get hi] at h
  refine ⟨hi, ?_⟩
  rw [← Option.some.inj h]
  congr 1
  omega
section
variable {K : PySem.W.Frag} {m : Bool} {Γ : List Sl} {P : Po} {te : TE} {ta : TA} {QI : List PyData → Prop}
theorem wi_down (h : WA K false Γ ta fun as => ∃ i j : Int, as = [.d (.int i), .d (.int j), .d (.int (-1))] ∧ (-(2 ^ 62) ≤ i ∧ i < 2 ^ 62 ∧ -(2 ^ 62) ≤ j ∧ j < 2 ^ 62) ∧ QI (downD i (i - j).toNat)) : WI K m Γ (iRng3 ta) QI := fun X hK F H σ E C k =>
  h X hK F H σ E _ fun vs F1 H1 as l1 E1 r ⟨i, j, e, hj, q⟩ => by
    subst e
    cases r with
    | cons a b =>
      cases b with
      | cons b c =>
        cases c with
        | cons c d =>
          cases d
          have a' : Rp X.K (X.ff F1 false) _ (.int i) := a
          have b' : Rp X.K (X.ff F1 false) _ (.int j) := b
          have c' : Rp X.K (X.ff F1 false) _ (.int (-1)) := c
          cases a'
          cases b'
          cases c'
          refine ⟨i, j, -1, (i - j).toNat, rfl, RgC.neg hj.1 hj.2.1 hj.2.2.1 hj.2.2.2, k (Itc i (-1) (i - j).toNat) F1 H1 (fun _ => True) _ (downD i (i - j).toNat) l1 E1 (by rw [downD_len]; exact walk_rangeC) (fun _ _ => trivial) (fun n F2 H2 x H3 l2 le hi hy => ?_) q⟩
          obtain ⟨rfl, rfl⟩ := hy
          rw [downD_len] at hi
          exact ⟨_, F2, downD_get hi, Gr.same le, .int _⟩
theorem RpA.eraseIdx {F : Hp} : ∀ {vs : List V} {ds : List PyData} (n : Nat), RpA K F vs ds → RpA K F (vs.eraseIdx n) (ds.eraseIdx n)
  | [], [], _, _ => .nil
  | _ :: _, [], _, h => by cases h
  | [], _ :: _, _, h => by cases h
  | _ :: _, _ :: _, 0, h => by
    cases h with
    | cons a b => exact b
  | _ :: _, _ :: _, n + 1, h => by
    cases h with
    | cons a b => exact .cons a (RpA.eraseIdx n b)
/-- x = xs.pop(i), of one's own -/
theorem sj_popAt {i : Nat} {l : Addr} {ds : List PyData} {g : TG} (hi : Γ[i]? = some (.ml m l ds)) (h : WD K false Γ te fun x => ∃ (n : Nat) (d : PyData), x = .int n ∧ n < 100000 ∧ ds[n]? = some d ∧ GJ K m (Γ.set i (.ml m l (ds.eraseIdx n))) g d P.nx) : SJ K Γ (tAsg (tBM K "list" rPopAt (tVar i) (tCons te tNil)) g) P := fun X hK F H σ E D hD => by
  subst hK
  obtain ⟨xs, e, hl, fl, r⟩ := E.ml hi
  refine ⟨.ref l, e, .inl ⟨rfl, _, SqL.of hl⟩, h X rfl F H σ E _ fun v F1 H1 d l1 E1 rv ⟨n, y, ev, hn, hy, hg⟩ => ?_⟩
  subst ev
  have rv' : Rp X.K (X.ff F1 false) v (.int (n : Int)) := rv
  cases rv'
  obtain ⟨xs1, e1, hl1, fl1, r1⟩ := E1.ml hi
  have el : V.ref l = V.ref l := rfl
  obtain ⟨u, hu, ru⟩ := r1.get hy
  have hlt : n < xs1.length := by rw [r1.length]; exact (List.getElem?_eq_some_iff.mp hy).1
  refine ⟨l, xs1, n, n, u, rfl, rfl, hl1, by omega, by omega, ?_, hu, ?_⟩
  · unfold seqIndex?
    have h0 : ¬ ((n : Int) < 0) := by omega
    simp [h0]
    omega
  · exact hg X rfl F1 _ σ (E1.mut hi (r1.eraseIdx n)) u ru _ fun F2 H2 σ2 Γ2 l2 E2 q2 => hD.nx F2 H2 σ2 Γ2 E2 q2
end
end Pk
end
section
set_option Elab.async false
set_option linter.all false
set_option maxRecDepth 100000
/-! The data layer, part 22: exceptions with a field. -/
namespace Pk
open PySem PySem.Spec PyProof.Rows L2
/-- what __init__(self, f): self.f = f promises -/
def spIni (K : PySem.W.Frag) (C : Addr) (f : Str) : Sp := fun vs H Q _ => ∃ (a : Addr) (y : V), vs = [.ref a, y] ∧ H a = some (exo a C none) ∧ ∀ dx, H dx = none → dx ≠ a → Q .non (upd (upd H dx (exd dx [(f, y)])) a (exo a C (some dx)))
/-- raise C(e), the exception's field f -/
def tRaiseF (K : PySem.W.Frag) (W : XW) (C : Addr) (f : Str) (te : TE) : TS := fun _ σ H => tMkO C (spIni K C f) [] (tCons te tNil) σ H fun cls d H' => W cls d σ H'
theorem upd_back {H1 : Hp} {a d : Addr} {o1 o2 o3 : HO} {fs : HO} (ha : H1 a = none) (hd : d ≠ a) : upd (del (upd (upd (upd H1 a o1) d o2) a o3) a) d fs = upd H1 d fs := by
  funext b
  by_cases h1 : b = d
  · subst h1; rw [upd_same, upd_same]
  · rw [upd_ne h1, upd_ne h1]
    by_cases h2 : b = a
    · subst h2; rw [del_same, ha]
    · rw [del_ne h2, upd_ne h2, upd_ne h1, upd_ne h2]
section
variable {K : PySem.W.Frag} {m : Bool} {Γ : List Sl} {P : Po} {te : TE} {Q : PyData → Prop}
theorem sj_raiseF {C : Addr} {f : Str} (h : WD K false Γ te fun x => ∃ n : Int, x = .int n ∧ P.ex (.ref C) (some [(f, .int n)]) Γ) : SJ K Γ (tRaiseF K P.W C f te) P := fun X hK F H σ E D hD =>
  h X hK F H σ E _ fun v F1 H1 x l1 E1 r ⟨n, e, q⟩ => by
    subst e
    have r' : Rp K (X.ff F1 false) v (.int n) := r
    cases r'
    refine ⟨by simp, fun a na => ⟨a, .int n, rfl, upd_same, fun dx hdx hne => ⟨rfl, dx, [(f, .int n)], upd_same, by rw [upd_ne hne, upd_same], ?_, ?_⟩⟩⟩
    · rw [upd_ne hne] at hdx; exact hdx
    · rw [upd_ne hne] at hdx
      rw [upd_back na hne]
      exact hD.xc _ _ σ Γ (.ref C) (some [(f, .int n)]) (some dx) (E1.alloc hdx) ⟨dx, rfl, upd_same⟩ q
end
/-- such a class, as the top tells it -/
structure IniT (P : Program) (w : World) (K : PySem.W.Frag) (mg : Str → Option Value) (base : Heap) (k : Nat) (x : Str) (C : Addr) (f : Str) : Prop where
  g : mg x = some (.ref C)
  o : OexC K C
  i : ∃ (fI : Addr) (fd : FuncData), PySem.W.findIn K (.ref C) "__init__" = some (some (.ref fI)) ∧ PySem.W.typeIn K (.ref fI) = some (.type "function") ∧ FnOk P w K mg base CX0 k fI fd ["self", f] (spIni K C f) ∧ Binds K fd ["self", f] []
section
variable {X : Cx} {W : XW} {x f : Str} {C : Addr} {k : Nat} {e : Expr} {te : TE} {p pos pos' : Pos}
theorem ps_rsF (hc : X.calm = true) (tk : Takes X W) (T : IniT X.prog X.w X.K X.mg X.base k x C f) (hr : Room (k + 1) X.A) (hx : Passes CX0 X (fun _ _ _ => False)) (hg : Gl X x) (he : PE X e te) (hdb : (x == ("__debug__" : Str)) = false := by decide)
    (hst : starEach [e] X.env = (false, eval e X.env) :: starEach [] X.env := by rfl) : PS X (.Raise (some (.Call (.Name x p) [e] [] pos)) none pos') (tRaiseF X.K W C f te) := by
  obtain ⟨fI, fd, h1, h2, F1, hb⟩ := T.i
  exact ps_raise (pos := pos') hc tk (pmk_oex T.o h1 h2 F1 hr hb .nil hx hg T.g (pa_cons he pa_nil (hs := hst)) hdb hst)
end
end Pk
end
section
set_option Elab.async false
set_option linter.all false
set_option maxRecDepth 100000
/-! The data layer, part 23: an own exception class with a field: its __init__, a caught one, its field read; order of data. -/
namespace Pk
open PySem PySem.Spec PyProof.Rows L2
/-! ### the class -/
def clsB (K : PySem.W.Frag) (C : Addr) : Bool := match K.lookup C with
  | some ⟨.type "type", _, .cls cd, sl⟩ => (match cd.mro, sl.toList with
    | .ref C' :: bm, [_, _, _, _, some (.builtin n), _] => C' == C && n == "ValueError.__new__" && !cd.hasDel && cd.hasDict && PySem.HandSPX.refsVE bm
    | _, _ => false)
  | _ => false
theorem clsB_ok {K : PySem.W.Frag} {C : Addr} (q : clsB K C = true) : ∃ nm q N bs bm sn sub ab col dd k0 k1 k2 k3 k5, K.lookup C = some (PySem.excClassObj nm q C N bs bm true sn sub ab col dd k0 k1 k2 k3 k5 "ValueError.__new__") ∧ PySem.HandSPX.refsVE bm = true := by
  unfold clsB at q
  split at q
  · rename_i dd cd sl ho
    split at q
    · rename_i C' bm k0 k1 k2 k3 n k5 hm hs
      simp only [Bool.and_eq_true, beq_iff_eq, Bool.not_eq_true'] at q
      obtain ⟨⟨⟨⟨rfl, rfl⟩, hdel⟩, hdi⟩, ht⟩ := q
      obtain ⟨nm, bs, mro, ns, qn, hd, sn, sub, ab, col, del⟩ := cd
      dsimp only at hm hdel hdi
      subst hm hdel hdi
      have hsl : sl = #[k0, k1, k2, k3, some (.builtin "ValueError.__new__"), k5] := by
        obtain ⟨l⟩ := sl
        simp only at hs
        rw [hs]
      subst hsl
      exact ⟨nm, qn, ns, bs, bm, sn, sub, ab, col, dd, k0, k1, k2, k3, k5, ho, ht⟩
    · cases q
  · cases q
def clsBody (s : Stmt) : List Stmt := match s with
  | .ClassDef _ _ _ b _ _ _ _ _ _ _ => b
  | _ => []
/-- such a class, as the head tells it -/
structure IniD (K : PySem.W.Frag) (mg : Str → Option Value) (x : Str) (C : Addr) (qual f : Str) (st : Stmt) : Prop where
  g : mg x = some (.ref C)
  o : OexC K C
  n : PySem.W.findIn K (.ref C) f = some none
  x : XfC K C
  c : ExcC K C
  i : ∃ (fI : Addr) (fd : FuncData), PySem.W.findIn K (.ref C) "__init__" = some (some (.ref fI)) ∧ PySem.W.typeIn K (.ref fI) = some (.type "function") ∧ Fun K "__init__" qual st fI fd ∧ Binds K fd ["self", f] []
def iniB (K : PySem.W.Frag) (x : Str) (f : Str) : Bool := [clsB K (He.ga K x), He.eqO (PySem.W.findIn K (.ref (He.ga K x)) "__setattr__") (some (some (.builtin "object.__setattr__"))), decide (PySem.W.subIn K (.ref (He.ga K x)) (.type "BaseException") = some true),
  decide (PySem.W.typeIn K (.ref (He.ga K x)) = some (.type "type")), PySem.W.keepIn K (.ref (He.ga K x)), He.eqO (PySem.W.findIn K (.ref (He.ga K x)) f) (some none), xfB K (He.ga K x),
  He.eqO (PySem.W.findIn K (.ref (He.ga K x)) "__init__") (some (some (.ref (He.fAd K (x, some "__init__"))))), decide (PySem.W.typeIn K (.ref (He.fAd K (x, some "__init__"))) = some (.type "function")),
  He.eqO (PySem.W.findIn K (.ref (He.ga K x)) "__class__") (some (some (.builtin "object.__class__"))), He.eqO (PySem.W.specialIn K (.builtin "object.__class__") "__get__") (some (some (.builtin "getset_descriptor.__get__"))), decide (PySem.W.takesIn K (.builtin "object.__class__") = some true), decide (PySem.W.mroIn K (He.ga K x) (.type "object") = some true)].all id
theorem iniB_ok {K : PySem.W.Frag} {mg : Str → Option Value} {x f qual : Str} {st : Stmt} {fd : FuncData} (h : iniB K x f = true) (g : mg x = some (.ref (He.ga K x))) (F : Fun K "__init__" qual st (He.fAd K (x, some "__init__")) fd) (b : Binds K fd ["self", f] []) : IniD K mg x (He.ga K x) qual f st := by
  simp only [iniB, List.all_cons, List.all_nil, Bool.and_eq_true, id, decide_eq_true_eq] at h
  obtain ⟨h1, h2, h3, h4, h5, h6, h7, h8, h9, h10, h11, h12, h13, _⟩ := h
  have xf := xfB_ok h7
  exact ⟨g, ⟨clsB_ok h1, He.eqO_ok h2, h3, h4, h5⟩, He.eqO_ok h6, xf, ⟨xf.ga, xf.gg, xf.exC, xf.hdC, He.eqO_ok h10, He.eqO_ok h11, h12, h13⟩, _, fd, He.eqO_ok h8, h9, F, b⟩
section
variable {P : Program} {w : World} {K : PySem.W.Frag} {mg : Str → Option Value} {base : Heap}
theorem ini_ok {x qual f : Str} {C : Addr} {st : Stmt} {k : Nat} (D : IniD K mg x C qual f st) (S : FnScope ["self", f] ["self", f] (defScope st))
    (hb : ∀ (fa : Addr) (cdv : Value) (A : Around) (outer : List Env) (s : Shared) (H : Hp) (E : XK), PSs (cxOf CX0 P w K mg base ["self", f] qual (defScope st) fa cdv A outer s H E).nox (defBody st) (tOst K f (tVar 0) (tVar 1))) : IniT P w K mg base (k + 1) x C f := by
  obtain ⟨fI, fd, h1, h2, F, b⟩ := D.i
  refine ⟨D.g, D.o, fI, fd, h1, h2, F.ok S (fun vs H Q E ⟨a, y, e, _⟩ => by subst e; rfl) fun cdv A outer s H vs Q E hr ⟨a, y, e, ha, q⟩ => ⟨_, hb fI cdv A outer s H E, ?_⟩, b⟩
  subst e
  exact ⟨y, rfl, .ref a, rfl, a, C, rfl, D.o, D.n, .inl ⟨ha, fun dx n ne => q dx n ne⟩⟩
end
/-! ### a caught one -/
def ExcFO (K : PySem.W.Frag) (D : Addr) (fs : Fs) : Own where
  K := K
  p := fun F H v S => ∃ a d, v = .ref a ∧ H a = some (ExH (.ref D) (some d) a) ∧ F d = some (.xd fs) ∧ ∀ b, S b ↔ b = a
  vw := none
  keep := fun {F F' H H' v S} ⟨a, d, e, h, f, c⟩ le k => ⟨a, d, e, (k a ((c a).mpr rfl)).trans h, le _ _ f, c⟩
  keepT := fun _ {F F' H H' v S} ⟨a, d, e, h, f, c⟩ tl k => ⟨a, d, e, (k a ((c a).mpr rfl)).trans h, tl.2 _ _ f, c⟩
  view := fun _ _ e => nomatch e
section
variable {K : PySem.W.Frag} {m : Bool} {Γ : List Sl} {P : Po} {Q : PyData → Prop}
theorem sj_tryKeepF {c : Value} {i j : Nat} {tb : XW → TS} (hij : i ≠ j)
    (h : ∀ W : XW, SJ K Γ (tb W) { P with W := W, ex := fun cls o Γ' => ∃ b, PySem.W.exmOne K cls c = some b ∧ (b = true → ∃ D fs, cls = .ref D ∧ o = some fs ∧ j < Γ'.length ∧ Γ'[i]? = some .no ∧ ∀ a, P.nx (Γ'.set j (.ex (.ref a) (ExcFO K D fs)))) ∧ (b = false → P.ex cls o Γ') }) : SJ K Γ (tTryKeep K c i j tb P.W) P := fun X hK F H σ E D hD =>
  h _ X hK F H σ E D ⟨hD.nx, hD.rt, hD.bk, hD.ct, fun F' H' σ' Γ' cls o d E' ha ⟨b, e, h1, h2⟩ => ⟨b, e, fun hb a na => by
    obtain ⟨C, fs, rfl, rfl, hj, hi, q⟩ := h1 hb
    obtain ⟨dd, rfl, hdd⟩ := (show ∃ dd, d = some dd ∧ F' dd = some (.xd fs) from ha)
    have hil : i < σ'.length := by rw [E'.len]; exact (List.getElem?_eq_some_iff.mp hi).1
    have push : En X F' (upd H' a (ExH (.ref C) (some dd) a)) (σ' ++ [some (.ref a)]) (Γ' ++ [.ex (.ref a) (ExcFO K C fs)]) :=
      E'.pushG (T := fun b => b = a) Le.rfl' (E'.le.new (E'.le.nn na)) (fun b o q => by rw [upd_ne (ne_of_none q na)]; exact q) (fun _ _ _ => rfl)
        ⟨rfl, hK.symm, a, dd, rfl, upd_same, hdd, fun _ => Iff.rfl⟩ (fun b e => by subst e; exact ⟨na, E'.le.nn na, by rw [upd_same]; simp⟩)
    have put := push.put j
    have back : En X F' (upd H' a (ExH (.ref C) (some dd) a)) ((σ'.set j (some (.ref a))).set i none) (Γ'.set j (.ex (.ref a) (ExcFO K C fs))) := by
      have hset : Γ'.set j (.ex (.ref a) (ExcFO K C fs)) = (Γ'.set j (.ex (.ref a) (ExcFO K C fs))).set i .no := by
        apply List.ext_getElem?
        intro k
        by_cases hk : i = k
        · subst hk
          have hl : i < (Γ'.set j (.ex (.ref a) (ExcFO K C fs))).length := by rw [List.length_set, ← E'.len]; exact hil
          rw [List.getElem?_set_self hl, List.getElem?_set_ne hij.symm, hi]
        · rw [List.getElem?_set_ne hk]
      rw [hset]
      have : En X F' (upd H' a (ExH (.ref C) (some dd) a)) (σ'.set j (some (.ref a)) ++ [none]) (Γ'.set j (.ex (.ref a) (ExcFO K C fs)) ++ [.no]) :=
        put.pushG (T := fun _ => False) Le.rfl' put.le (fun _ _ q => q) (fun _ _ _ => rfl) (fun _ z => z) (fun _ z => z.elim)
      exact this.put i
    refine ⟨.ref a, by rw [List.getElem?_set_self hil], fun _ => ?_⟩
    have e2 : ((σ'.set i (some (V.ref a))).set j (some (V.ref a))).set i none = (σ'.set j (some (.ref a))).set i none := by
      rw [List.set_comm _ _ hij.symm, List.set_set, List.set_comm _ _ hij]
    show D.nx (((σ'.set i (some (V.ref a))).set j (some (V.ref a))).set i none) (upd H' a (ExH (.ref C) (some dd) a))
    rw [e2]
    exact hD.nx F' _ _ _ back (q a), fun hb => hD.xc F' H' σ' Γ' cls o d E' ha (h2 hb)⟩⟩
end
/-! ### its field -/
def tXfH (K : PySem.W.Frag) (f : Str) (te : TE) : TE := fun σ H Q => te σ H fun x H1 => ∃ (a C dd : Addr) (fs : Fs) (v : V), x = .ref a ∧ H1 a = some (ExH (.ref C) (some dd) a) ∧ XfC K C ∧ PySem.W.findIn K (.ref C) f = some none ∧ H1 dd = some (.xd fs) ∧ fs.lookup f = some v ∧ Q v H1
theorem pe_xfH {X : Cx} {e : Expr} {te : TE} {pos : Pos} {n : Str} (he : PE X e te) (hb : attributeBase e n X.env (eval e X.env) = eval e X.env := by rfl) : PE X (.Attribute e n pos) (tXfH X.K n te) := by
  refine ⟨fun pins s σ H Q I h => ?_⟩
  refine attr_of hb (thn (he.run pins s σ H _ I h) fun u s1 hh => ?_)
  obtain ⟨x, H1, I1, rx, a, C, dd, fs, v, ex, ha, T, hno, ea, l, q⟩ := hh
  subst ex
  obtain rfl : u = Value.ref a := rx
  obtain ⟨⟨oe, vs, hoe, hz, hd⟩, _⟩ := (show ObjOk X.prog X.w H1 s1.heap a (ExH (.ref C) (some dd) a) from I1.hok a _ ha)
  have hx : ObjOk X.prog X.w H1 s1.heap dd (.xd fs) := I1.hok dd _ ea
  obtain ⟨mA, hns, hr⟩ := hx
  obtain ⟨od, ho, hl⟩ := lookIn_ns hns
  obtain ⟨u, hu, ru⟩ := RelO.some_of (v := v) (o := mA n) (by rw [← l]; exact hr n)
  have J : PySem.W.InstAt s1.heap a oe C (some od) := ⟨hoe, hz.1, by unfold PySem.W.notCls; rw [hd] <;> rfl, by rw [hz.2]; exact ho⟩
  exact HandSPX.exc_get I1.kIn J T.ga T.gg T.exC (PySem.W.findObj_own T.hdC hno rfl (by rw [hl, hu])) (handed_of ru) ⟨v, H1, I1.tok _, ru, q⟩
section
variable {K : PySem.W.Frag} {m : Bool} {Γ : List Sl} {Q : PyData → Prop}
theorem wd_xf {i : Nat} {v : V} {D : Addr} {f : Str} {n : Int} (hi : Γ[i]? = some (.ex v (ExcFO K D [(f, .int n)]))) (T : XfC K D) (hno : PySem.W.findIn K (.ref D) f = some none) (q : Q (.int n)) : WD K m Γ (tXfH K f (tVar i)) Q := fun X hK F H σ E C k => by
  obtain ⟨S, hs, _, _⟩ := E.sl
  obtain ⟨e0, _, a, d, e, h, hf, _⟩ := hs i _ hi
  subst e
  exact ⟨_, E.ex hi, a, D, d, [(f, .int n)], .int n, rfl, h, T, hno, E.le _ _ hf, by simp [List.lookup], k _ F H _ Le.rfl' E (.int n) q⟩
end
/-! ### order of data -/
def rGeD (K : PySem.W.Frag) : R2 := fun x y H Q => ∃ d e, Dp K H x d ∧ Dp K H y e ∧ PySem.W.alike d e = true ∧ d ≠ .none ∧ d.depth ≤ 60 ∧ Q (.bl (!PySem.W.dataLt d e)) H
theorem op_geD {X : Cx} (hu : X.A.units + 64 < cLine) : OpR X (compareOp .GtE) (rGeD X.K) := by
  intro pins s σ H x y v u Q I rx ry ⟨d, e, hd, he, ha, hn, hdp, q⟩
  obtain ⟨as, r1⟩ := Dp.reads I d x v hd rx
  obtain ⟨bs, r2⟩ := Dp.reads I e y u he ry
  exact PySem.W.ge_data r1 r2 ha hn (by have := Nat.min_le_left d.depth e.depth; omega) ⟨.bl _, H, I, rfl, q⟩
def rLtD (K : PySem.W.Frag) : R2 := fun x y H Q => ∃ d e, Dp K H x d ∧ Dp K H y e ∧ PySem.W.alike d e = true ∧ d ≠ .none ∧ d.depth ≤ 60 ∧ Q (.bl (PySem.W.dataLt d e)) H
theorem op_ltD {X : Cx} (hu : X.A.units + 64 < cLine) : OpR X (compareOp .Lt) (rLtD X.K) := by
  intro pins s σ H x y v u Q I rx ry ⟨d, e, hd, he, ha, hn, hdp, q⟩
  obtain ⟨as, r1⟩ := Dp.reads I d x v hd rx
  obtain ⟨bs, r2⟩ := Dp.reads I e y u he ry
  exact PySem.W.lt_data r1 r2 ha hn (by have := Nat.min_le_left d.depth e.depth; omega) ⟨.bl _, H, I, rfl, q⟩
section
variable {K : PySem.W.Frag} {m : Bool} {Γ : List Sl} {Q : PyData → Prop}
theorem rd_geD {x y : PyData} (sx : SeqAt.shaped x = true) (sy : SeqAt.shaped y = true) (ha : PySem.W.alike x y = true) (hn : x ≠ .none) (hd : x.depth ≤ 60) (q : Q (.bool (!PySem.W.dataLt x y))) : RD K m Γ (rGeD K) x y Q := rd_plain (d := .bool (!PySem.W.dataLt x y)) (fun F H v u C le rv ru k =>
  ⟨x, y, Rp.dp x (SeqAt.canLay_of_shaped sx) (rv.mono le), Rp.dp y (SeqAt.canLay_of_shaped sy) (ru.mono le), ha, hn, hd, k _ (.bl _)⟩) q
theorem rd_ltD {x y : PyData} (sx : SeqAt.shaped x = true) (sy : SeqAt.shaped y = true) (ha : PySem.W.alike x y = true) (hn : x ≠ .none) (hd : x.depth ≤ 60) (q : Q (.bool (PySem.W.dataLt x y))) : RD K m Γ (rLtD K) x y Q := rd_plain (d := .bool (PySem.W.dataLt x y)) (fun F H v u C le rv ru k =>
  ⟨x, y, Rp.dp x (SeqAt.canLay_of_shaped sx) (rv.mono le), Rp.dp y (SeqAt.canLay_of_shaped sy) (ru.mono le), ha, hn, hd, k _ (.bl _)⟩) q
end
/-! ### what a call that may raise tells, gone on with -/
section
variable {K : PySem.W.Frag} {m : Bool} {W : XW} {ex : Value → Option Fs → List Sl → Prop} {Γ : List Sl} {Q : Sl → Prop} {ta tb : TE} {r : R2}
theorem wxw_opD (h : WXw K W ex Γ ta (asD m fun x => WD K m Γ tb fun y => RD K m Γ r x y fun d => Q (.dat m d))) : WXw K W ex Γ (tOp r ta tb) Q := fun X hK hx F H σ E C k =>
  h X hK hx F H σ E _ fun v F1 H1 s l1 E1 ⟨x, hs, h1⟩ => by
    obtain ⟨F2, l2, E2, r2⟩ := lastFreeze hs E1
    subst hK
    exact h1 X rfl F2 H1 σ E2 _ fun u F3 H3 y l3 E3 r3 h3 => h3 X rfl F3 H3 σ E3 v u (Bs.mo r2 l3) r3 C fun z F4 H4 d l4 E4 r4 q => k z F4 H4 _ (l1.tr (l2.tr (l3.tr l4))) (E4.pushD r4) q
/-- list-free: as new -/
theorem wxw_opF (h : WXw K W ex Γ ta (asD false fun x => WD K false Γ tb fun y => RD K false Γ r x y fun d => lf d = true ∧ Q (.dat true d))) : WXw K W ex Γ (tOp r ta tb) Q := fun X hK hx F H σ E C k =>
  h X hK hx F H σ E _ fun v F1 H1 s l1 E1 ⟨x, hs, h1⟩ => by
    obtain ⟨F2, l2, E2, r2⟩ := lastFreeze hs E1
    subst hK
    exact h1 X rfl F2 H1 σ E2 _ fun u F3 H3 y l3 E3 r3 h3 => h3 X rfl F3 H3 σ E3 v u (Bs.mo r2 l3) r3 C fun z F4 H4 d l4 E4 r4 ⟨f, q⟩ => k z F4 H4 _ (l1.tr (l2.tr (l3.tr l4))) (E4.pushD (Rp.lfree Bs.ff_tup d f r4)) q
end
end Pk
end
section
set_option Elab.async false
set_option linter.all false
set_option maxRecDepth 100000
/-! The data layer, part 24: sorted. -/
namespace Pk
open PySem PySem.Spec PyProof.Rows L2
theorem each_zip {h : Heap} : ∀ {ys : List V} {us : List Value} {ds : List PyData} {as : List Addr}, Vals ys us → ReadsAll h us ds as → PySem.W.EachIs (fun v (b : V × PyData) => RelV b.1 v ∧ ∃ as, Reads h v b.2 as) us (ys.zip ds)
  | [], _, _, _, .nil, .nil => .nil
  | _ :: _, _, _, _, .cons a b, .cons c d => .cons ⟨a, _, c⟩ (each_zip b d)
theorem vals_each : ∀ {out : List Value} {zs : List (V × PyData)}, PySem.W.EachIs (fun v (b : V × PyData) => RelV b.1 v) out zs → Vals (zs.map (·.1)) out
  | _, _, .nil => .nil
  | _, _, .cons a b => .cons a (vals_each b)
/-- sorted(xs) of data that can be compared -/
def rSortD (K : PySem.W.Frag) : List V → Hp → VK → Prop := fun xs H Q => ∃ (l : Addr) (ys : List V) (ds : List PyData), xs = [.ref l] ∧ SqL K H l ys ∧ DpAll K H ys ds ∧ ys.length = ds.length ∧ PySem.W.AllAlike ds ∧ PySem.W.Sortable ds ∧ ds.length ≤ 100000 ∧ (∀ d ∈ ds, d.depth ≤ 60) ∧
  ∀ (a : Addr) (zs : List (V × PyData)), H a = none → zs.Perm (ys.zip ds) → zs.Pairwise (fun p q => PySem.W.dataLt q.2 p.2 = false) → Q (.ref a) (upd H a (.lst (zs.map (·.1))))
theorem call_sortD {X : Cx} (hu : X.A.units + 64 < cLine) : CallR X (.builtin "sorted") (rSortD X.K) := by
  intro pins s σ H xs us Q I r ⟨l, ys, ds, ex, hs, hd, hlen, hal, hk, hL, hdp, q⟩
  subst ex
  obtain ⟨its, rv, hl, _⟩ := I.list hs
  rw [Vals.ref1 r]
  obtain ⟨as, ra⟩ := Dp.readsAll I ds ys its hd rv
  have e := each_zip rv ra
  have hm : (ys.zip ds).map Prod.snd = ds := List.map_snd_zip (by omega)
  have hz : (ys.zip ds).length = ds.length := by rw [List.length_zip]; omega
  refine PySem.W.sorted_data (enc := Prod.snd) (R := fun v b => RelV b.1 v) (bs := ys.zip ds) hl.isList (e.mono fun _ _ z => z.1) (e.mono fun _ _ z => z.2) (by rw [hm]; exact hal) (by rw [hm]; exact hk) (by rw [hz, sizeLine_eq]; omega) (fun b hb => ?_) fun out ho he => ?_
  · have := hdp b.2 (by rw [← hm]; exact List.mem_map.mpr ⟨b, hb, rfl⟩)
    omega
  · have hn : H (s.heap.objs.size + 1) = none := I.hok.fresh (Nat.le_succ _)
    obtain ⟨e1, h1⟩ := sortedAll_at s.heap its out.toArray
    have hv := vals_each he
    have hl2 : ((ys.zip ds).mergeSort (PySem.W.dataLe false Prod.snd)).length ≤ sizeLine := by rw [List.length_mergeSort, hz, sizeLine_eq]; omega
    refine ⟨.ref (s.heap.objs.size + 1), _, I.laid (t' := s.toks) (a := s.heap.objs.size + 1) (o := .lst (((ys.zip ds).mergeSort (PySem.W.dataLe false Prod.snd)).map (·.1))) (fun b u z => sortedAll_old z) (Nat.le_succ _) ⟨by rw [List.length_map]; exact hl2, out, e1, hv, h1⟩, rfl, q _ _ hn (List.mergeSort_perm _ _) ?_⟩
    refine (PySem.W.sort_pairwise (PySem.W.sortLe_total _ _ _) (ys.zip ds)).imp fun {a b} z => ?_
    have z' : (!PySem.W.dataLt b.2 a.2) = true := z
    simpa using z'
theorem dp_le {K : PySem.W.Frag} {F H : Hp} (le : Le F H) {vs : List V} {ds : List PyData} (c : PyData.canLayAll0 ds = true) (r : RpA K F vs ds) : DpAll K H vs ds := RpA.dp ds c (r.mono le)
theorem rpA_perm {K : PySem.W.Frag} {F : Hp} {ys : List V} {ds : List PyData} (r : RpA K F ys ds) {zs : List (V × PyData)} (h : zs.Perm (ys.zip ds)) : RpA K F (zs.map (·.1)) (zs.map (·.2)) := by
  have hz : ∀ {ys : List V} {ds : List PyData}, RpA K F ys ds → ∀ z ∈ ys.zip ds, Rp K F z.1 z.2 := by
    intro ys
    induction ys with
    | nil => intro ds _ z hz; cases hz
    | cons y ys ih =>
      intro ds r z hz
      cases r with
      | cons a b =>
        rcases List.mem_cons.mp hz with rfl | h
        · exact a
        · exact ih b z h
  have key : ∀ z ∈ zs, Rp K F z.1 z.2 := fun z hz' => hz r z (h.mem_iff.mp hz')
  clear h
  induction zs with
  | nil => exact .nil
  | cons z zs ih => exact .cons (key z List.mem_cons_self) (ih fun x hx => key x (List.mem_cons_of_mem _ hx))
section
variable {K : PySem.W.Frag} {m : Bool} {Γ : List Sl} {Q : PyData → Prop} {QX : Sl → Prop} {ta : TE}
theorem rcx_sorted {ds : List PyData} (hs : SeqAt.shaped (.list ds) = true) (hal : PySem.W.AllAlike ds) (hk : PySem.W.Sortable ds) (hL : ds.length ≤ 100000) (hdp : ∀ d ∈ ds, d.depth ≤ 60) (q : ∀ es : List PyData, es.Perm ds → es.Pairwise (fun a b => PySem.W.dataLt b a = false) → ∀ l, QX (.ml m l es)) : RCX K m Γ (rSortD K) [.list ds] QX := fun X hK F H σ E vs rv C k => by
  have c : (PyData.list ds).canLay0 = true := SeqAt.canLay_of_shaped hs
  cases rv with
  | cons a b =>
    cases b
    cases a with
    | lst h1 r1 =>
      rename_i l ys
      have hlen : ys.length = ds.length := r1.length
      refine ⟨l, ys, ds, rfl, SqL.of (E.lef m _ _ h1), RpA.dp ds (by simpa [PyData.canLay0] using c) (r1.mono (E.lef m)), hlen, hal, hk, hL, hdp, fun p zs hp pm pw => ?_⟩
      refine k (.ref p) F _ _ Le.rfl' (E.pushM hp (by rw [hK]; exact rpA_perm r1 pm)) (q _ ?_ ?_ p)
      · have := pm.map (·.2)
        rwa [List.map_snd_zip (by omega)] at this
      · exact List.pairwise_map.mpr pw
theorem rc_sorted {ds : List PyData} (hs : SeqAt.shaped (.list ds) = true) (hal : PySem.W.AllAlike ds) (hk : PySem.W.Sortable ds) (hL : ds.length ≤ 100000) (hdp : ∀ d ∈ ds, d.depth ≤ 60) (q : ∀ es : List PyData, es.Perm ds → es.Pairwise (fun a b => PySem.W.dataLt b a = false) → Q (.list es)) : RC K m Γ (rSortD K) [.list ds] Q := .ofX (rcx_sorted hs hal hk hL hdp fun es h1 h2 l => ⟨_, toD_ml, q es h1 h2⟩)
end
end Pk
end
section
set_option Elab.async false
set_option linter.all false
set_option maxRecDepth 100000
/-! The data layer, part 25: isinstance of an exception that has fields; flat dicts as data; a list times a number. -/
namespace PkI
open PySem PySem.W PySem.Spec PySem.Calls PyProof.Rows
section
variable {prog : Program} {w : World} {A : Around} {E : Value → Shared → Prop} {s : Shared} {K : Frag} {x D : Addr} {ox : Obj} {od : Option Obj}
theorem find_data {C : Addr} {name : Str} {a g : Value} (hc : (clsIn K C).isSome = true) (ha : findIn K (.ref C) name = some (some a)) (hg : specialIn K a "__get__" = some (some g)) (ht : takesIn K a = some true) : findObj K C od name = some (.bind g a) := by
  obtain ⟨cd, hc⟩ := Option.isSome_iff_exists.mp hc
  unfold findObj
  rw [hc, Option.bind_some, ha, Option.bind_some]
  simp [hg, ht]
/-- x.__class__ of an own exception, whatever dict it has -/
theorem class_of {Q : Option Value → Shared → Prop} (hga : findIn K (.ref D) "__getattribute__" = some (some (.builtin "BaseException.__getattribute__"))) (hgt : findIn K (.ref D) "__getattr__" = some none) (hsub : subIn K (.ref D) (.type "BaseException") = some true)
    (hdct : hasDictIn K D = true) (ha : findIn K (.ref D) "__class__" = some (some (.builtin "object.__class__"))) (hn : specialIn K (.builtin "object.__class__") "__get__" = some (some (.builtin "getset_descriptor.__get__"))) (htk : takesIn K (.builtin "object.__class__") = some true) (hm : mroIn K D (.type "object") = some true)
    (X : K.In s.heap) (I : InstAt s.heap x ox D od) (h : Q (some (.ref D)) { s with toks := s.toks + 1 }) : wpAny (model prog w) A (getAttr? (.ref x) "__class__") Q E s := by
  have hf : findObj K D od "__class__" = some (.bind (.builtin "getset_descriptor.__get__") (.builtin "object.__class__")) := find_data (by obtain ⟨cd, hc, _⟩ := any_some hdct; rw [hc]; rfl) ha hn htk
  obtain ⟨hp, g, d, t, os⟩ := s
  have L0 := I.type (M := model prog w)
  have L1 := looks_findIn (M := model prog w) X hga
  have L2 := looks_findIn (M := model prog w) X hgt
  have L3 := looks_find (M := model prog w) X I hf
  have sub : Looks (model prog w) hp (isInstance (.ref x) (.type "BaseException")) true := L0.andThen (looks_subIn X hsub)
  have no1 : (Value.builtin "BaseException.__getattribute__" == Value.builtin "object.__getattribute__") = false := by decide +kernel
  have no2 : (onTheHeap (Value.ref D) && Value.builtin "BaseException.__getattribute__" == Value.builtin "object.__getattribute__") = false := by rw [no1]; rfl
  unfold getAttr? getAttrBy? getAttrBy
  refine wpAny_bind (wpAny_mkText (wpAny_bind (wpAny_attempt (wpAny_holding (wpAny_bind (L0.at (wpAny_bind (L1.at ?_))))))))
  show wpAny _ _ (if (onTheHeap (Value.ref D) && Value.builtin "BaseException.__getattribute__" == Value.builtin "object.__getattribute__") = true then _ else _) _ _ _
  rw [no2, if_neg Bool.false_ne_true]
  unfold getAttrByItsOwn hookBefore
  refine wpAny_bind ?_
  rw [if_pos (show onTheHeap (Value.ref D) = true from rfl)]
  refine L2.at (wpAny_bind (wpAny_attempt (wpAny_holding ?_)))
  unfold callGetattribute
  rw [show (false && onTheHeap (Value.builtin "BaseException.__getattribute__")) = false from rfl, if_neg Bool.false_ne_true]
  unfold boundAndCalled
  rw [PySem.F.excAttr_ValueError.ga.bind (.ref x)]
  refine wpAny_bind (wpAny_pure ?_)
  show wpAny _ _ (call (.builtin "BaseException.__getattribute__") [.ref x, .str "__class__" t]) _ _ _
  refine wpAny_call (codeAny_call_builtin PySem.F.excAttr_ValueError.ga.plain PySem.F.entry_bexc_ga ?_)
  refine @check_slot (model prog w) _ _ ⟨hp, g, d, t + 1, os⟩ "BaseException.__getattribute__" "BaseException" "__getattribute__" (.ref x) [.str "__class__" t] [] _ (by decide +kernel) (by decide +kernel) sub (PySem.F.args_bexc_ga (.ref x) (.str "__class__" t)) ?_
  unfold Builtin.«object.__getattribute__»
  refine wpAny_bind (wpAny_of_eq (a := ((Value.ref x : Value), [Value.str "__class__" t])) (by first | rfl | (simp only [slotArgs]; rfl)) ?_)
  refine wpAny_bind (wpAny_pure (wpAny_bind (L0.at (wpAny_bind (L3.at ?_)))))
  show wpAny _ _ (holding [Value.builtin "object.__class__"] (call (.builtin "getset_descriptor.__get__") [.builtin "object.__class__", .ref x, .ref D]) >>= ret) _ _ _
  refine wpAny_bind (wpAny_holding (wpAny_call (class_get (s := ⟨hp, g, d, t + 1, os⟩) (ox := ox) (od := od) X I hm ?_)))
  refine wpAny_pure ?_
  show wpAny _ _ (handedOut (.ref D)) _ _ _
  rw [handedOut_of (v := .ref D) rfl]
  first
    | exact wpAny_pure (wpAny_pure h)
    | exact wpAny_pure h
    | exact wpAny_pure (wpAny_bind (wpAny_pure (wpAny_pure h)))
theorem kitx (hga : findIn K (.ref D) "__getattribute__" = some (some (.builtin "BaseException.__getattribute__"))) (hgt : findIn K (.ref D) "__getattr__" = some none) (hsub : subIn K (.ref D) (.type "BaseException") = some true) (hdct : hasDictIn K D = true) (ha : findIn K (.ref D) "__class__" = some (some (.builtin "object.__class__")))
    (hn : specialIn K (.builtin "object.__class__") "__get__" = some (some (.builtin "getset_descriptor.__get__"))) (htk : takesIn K (.builtin "object.__class__") = some true) (hm : mroIn K D (.type "object") = some true) : KitX K (.ref x) (.ref D) (fun h => InstAt h x ox D od) where
  ty := fun _ _ _ I => I.type
  it := fun _ _ X _ => by
    obtain ⟨cdD, hcD, _⟩ := any_some hdct
    unfold clsIn at hcD
    split at hcD
    · rename_i ho
      intro A' Q' E' s' k q
      unfold isType loadHead
      exact wpAny_bind (wpAny_loadPart (k _ _ (X _ _ ho)) (wpAny_pure q))
    · cases hcD
  ne := (handS_kitx_exc (x := x) (ox := ox) hga hgt hsub hdct ha hn htk hm).ne
  ca := fun X I k => class_of hga hgt hsub hdct ha hn htk hm X I k
end
end PkI
namespace Pk
open PySem PySem.Spec PyProof.Rows L2
/-! ### isinstance -/
def rIsXF (K : PySem.W.Frag) : List V → Hp → VK → Prop := fun xs H Q => ∃ (a D d : Addr) (fs : Fs) (c : V) (u : Value) (b : Bool), xs = [.ref a, c] ∧ H a = some (ExH (.ref D) (some d) a) ∧ H d = some (.xd fs) ∧ ExcC K D ∧ ClsV c u ∧ PySem.W.kitOne K (.ref D) u = some b ∧ Q (.bl b) H
theorem call_isXF {X : Cx} : CallR X (.builtin "isinstance") (rIsXF X.K) := by
  intro pins s σ H xs us Q I r h
  obtain ⟨a, D, d, fs, c, u, b, rfl, ha, hd, C, k, e, q⟩ := h
  obtain ⟨u1, u2, rfl, r1, r2⟩ := vals2 r
  cases (show u1 = Value.ref a from r1)
  cases k.eq r2
  obtain ⟨⟨oe, vs, hoe, hz, hdt⟩, _⟩ := (show ObjOk X.prog X.w H s.heap a (ExH (.ref D) (some d) a) from I.hok a _ ha)
  obtain ⟨mA, hns, _⟩ := (show ObjOk X.prog X.w H s.heap d (.xd fs) from I.hok d _ hd)
  obtain ⟨od, ho, _⟩ := lookIn_ns hns
  have J : PySem.W.InstAt s.heap a oe D (some od) := ⟨hoe, hz.1, by unfold PySem.W.notCls; rw [hdt] <;> rfl, by rw [hz.2]; exact ho⟩
  exact PySem.W.kia_one (PkI.kitx C.hg C.hk C.hs C.hd C.ha C.hn C.ht C.hm) I.kIn J e (fun z => nomatch z) fun tk => ⟨.bl b, H, I.tok tk, rfl, q⟩
def rIs3 (K : PySem.W.Frag) : List V → Hp → VK → Prop := fun xs H Q => rIs K xs H Q ∨ rIsXF K xs H Q
theorem call_is3 {X : Cx} : CallR X (.builtin "isinstance") (rIs3 X.K) := CallR.or call_is call_isXF
section
variable {K : PySem.W.Frag} {m : Bool} {Γ : List Sl} {Q : PyData → Prop}
theorem wd_isXF {i : Nat} {v : V} {D : Addr} {fs : Fs} {c : V} {u : Value} {b : Bool} (hi : Γ[i]? = some (.ex v (ExcFO K D fs))) (C : ExcC K D) (hc : ClsV c u) (hk : PySem.W.kitOne K (.ref D) u = some b) (q : Q (.bool b)) : WD K m Γ (tCB (rIs3 K) (tCons (tVar i) (tCons (tC c) tNil))) Q := fun X hK F H σ E X' k => by
  obtain ⟨S, hs, _, _⟩ := E.sl
  obtain ⟨_, _, a, d, e, h, hf, _⟩ := hs i _ hi
  subst e
  exact ⟨_, E.ex hi, .inr ⟨a, D, d, fs, c, u, b, rfl, h, E.le _ _ hf, C, hc, hk, k _ F H _ Le.rfl' E (.bl b) q⟩⟩
end
/-! ### flat dicts -/
section
variable {K : PySem.W.Frag} {m : Bool} {Γ : List Sl} {Q : PyData → Prop}
theorem wd_disp1 (i j : Int) (q : Q (.dict [(.int i, .int j)])) : WD K m Γ (tDisp [(tC (.int i), tC (.int j))]) Q := fun X hK F H σ E C k => fun p hp => by
  subst hK
  obtain ⟨a, b, c⟩ := E.newD (m := m) (kvs := [(.inl i, .int j)]) hp (ds := [(.int i, .int j)]) (fun _ => rfl)
  refine ⟨upd_same, [(.inl i, .int j)], rfl, (show 1 ≤ 15 by decide), ?_⟩
  have e : upd (upd H p (.dK [])) p (.dK (mergeK [] [(Sum.inl i, V.int j)])) = upd H p (.dK [(Sum.inl i, V.int j)]) := by
    funext z
    by_cases hz : z = p
    · subst hz; rw [upd_same, upd_same]; rfl
    · rw [upd_ne hz, upd_ne hz, upd_ne hz]
  rw [e]
  exact k _ _ _ _ a b c q
end
/-- != of two dicts that have the same in them -/
def rNeK : R2 := fun x y H Q => ∃ (a b : Addr) (kvs : List (Key × V)), x = .ref a ∧ y = .ref b ∧ H a = some (.dK kvs) ∧ H b = some (.dK kvs) ∧ (kvs = [] ∨ ∃ i j : Int, kvs = [(.inl i, .int j)]) ∧ Q (.bl false) H
theorem op_neK {X : Cx} (hu : X.A.units + 65 < cLine) : OpR X (compareOp .NotEq) rNeK := by
  intro pins s σ H x y v u Q I rx ry ⟨a, b, kvs, e1, e2, ha, hb, hk, q⟩
  subst e1 e2
  obtain rfl : v = Value.ref a := rx
  obtain rfl : u = Value.ref b := ry
  obtain ⟨_, na, va, ra, da⟩ := dk_of I.hok ha
  obtain ⟨_, nb, vb, rb, db⟩ := dk_of I.hok hb
  rcases hk with rfl | ⟨i, j, rfl⟩
  · cases ra
    cases rb
    exact PySem.W.keq_ne (r := true) na nb da db (by omega) (fun _ => .nil) ⟨.bl false, H, I, rfl, q⟩
  · cases ra with
    | cons p1 p2 =>
      cases p2
      cases rb with
      | cons q1 q2 =>
        cases q2
        rename_i z1 z2
        obtain ⟨k1, w1⟩ := z1
        obtain ⟨k2, w2⟩ := z2
        obtain ⟨rfl, r1⟩ := p1
        obtain ⟨rfl, r2⟩ := q1
        obtain ⟨as, g1⟩ := Dp.reads I (.int j) (.int j) w1 (.int j) r1
        obtain ⟨bs, g2⟩ := Dp.reads I (.int j) (.int j) w2 (.int j) r2
        have eq := PySem.W.keq_at (A := X.A) g1 g2 (show SeqAt.shaped (.int j) = true from sh_int) (show SeqAt.shaped (.int j) = true from sh_int) (by show X.A.units + 1 + 64 < cLine; omega)
        have e0 : PyData.eqv (.int j) (.int j) = true := by simp [PyData.eqv]
        rw [e0] at eq
        refine PySem.W.keq_ne (r := true) na nb da db (by omega) (fun _ => .hit (e := true) (b := true) (y := w2) (by simp [valueAt]) eq .nil) ⟨.bl false, H, I, rfl, q⟩
def dNeO (K : PySem.W.Frag) : R2 := fun x y H Q => dNe K x y H Q ∨ rNeK x y H Q
theorem o_neO {X : Cx} (hu : X.A.units + 65 < cLine) : OpR X (compareOp .NotEq) (dNeO X.K) := (o_ne (by omega)).or (op_neK hu)
theorem kvD_one {kvs : List (Key × V)} {i j : Int} (h : kvs.map kvD = [(.int i, .int j)]) : kvs = [(.inl i, .int j)] := by
  cases kvs with
  | nil => cases h
  | cons p r =>
    cases r with
    | cons _ _ => simp at h
    | nil =>
      obtain ⟨k, v⟩ := p
      simp only [List.map_cons, List.map_nil, List.cons.injEq, and_true] at h
      unfold kvD at h
      simp only [Prod.mk.injEq] at h
      obtain ⟨h1, h2⟩ := h
      cases k with
      | inr x => cases h1
      | inl i' =>
        cases h1
        cases v with
        | int j' => cases h2; rfl
        | _ => cases h2
section
variable {K : PySem.W.Frag} {m : Bool} {Γ : List Sl} {Q : PyData → Prop}
theorem rd_neO {x y : PyData} (h : RD K m Γ (dNe K) x y Q) : RD K m Γ (dNeO K) x y Q := fun X hK F H σ E v u rv ru C k => .inl (h X hK F H σ E v u rv ru C k)
theorem rd_neD0 (q : Q (.bool false)) : RD K m Γ (dNeO K) (.dict []) (.dict []) Q := rd_plain (d := .bool false) (fun F H v u C le rv ru k => by
  cases rv with
  | dct h1 t1 =>
    cases ru with
    | dct h2 t2 =>
      have e1 := t1 rfl
      have e2 := t2 rfl
      rw [List.map_eq_nil_iff] at e1 e2
      subst e1 e2
      exact .inr ⟨_, _, [], rfl, rfl, le _ _ h1, le _ _ h2, .inl rfl, k _ (.bl _)⟩) q
theorem rd_neD1 {i j : Int} (q : Q (.bool false)) : RD K m Γ (dNeO K) (.dict [(.int i, .int j)]) (.dict [(.int i, .int j)]) Q := rd_plain (d := .bool false) (fun F H v u C le rv ru k => by
  cases rv with
  | dct h1 t1 =>
    cases ru with
    | dct h2 t2 =>
      have e1 := kvD_one (t1 rfl)
      have e2 := kvD_one (t2 rfl)
      subst e1 e2
      exact .inr ⟨_, _, _, rfl, rfl, le _ _ h1, le _ _ h2, .inr ⟨i, j, rfl⟩, k _ (.bl _)⟩) q
end
end Pk
end
section
set_option Elab.async false
set_option linter.all false
set_option maxRecDepth 100000
/-! The data layer, part 26: dicts of texts as data; a comprehension that takes out of an own list. -/
namespace Pk
open PySem PySem.Spec PyProof.Rows L2 Pz
/-! ### dict(zip(names, names)) -/
def tDictZipL (K : PySem.W.Frag) (ta : TA) : TE := fun σ H Q => ta σ H fun vs H1 => ∃ (a b : Addr) (xs ys : List V), vs = [.ref a, .ref b] ∧ SqL K H1 a xs ∧ SqL K H1 b ys ∧ ∃ ks : List Str, xs = ks.map V.str ∧ ∀ p, H1 p = none → Q (.ref p) (upd H1 p (.dK (mergeK [] (kvZ ks ys))))
theorem pe_dictZipL {X : Cx} {e e2 : Expr} {ta : TA} {p p2 pos pos2 : Pos} (hc : X.calm = true) (hd : Gl X "dict") (md : X.mg "dict" = none) (hg : Gl X "zip") (hm : X.mg "zip" = none) (ha : PA X [e, e2] ta)
    (hs : starEach [e, e2] X.env = (false, eval e X.env) :: starEach [e2] X.env := by rfl) (hpl : (backTo pos2 (starEach [e2] X.env)).any (·.1) = false := by rfl)
    (na : starEach [.Call (.Name "zip" p2) [e, e2] [] pos2] X.env = (false, eval (.Call (.Name "zip" p2) [e, e2] [] pos2) X.env) :: starEach [] X.env := by rfl) :
    PE X (.Call (.Name "dict" p) [.Call (.Name "zip" p2) [e, e2] [] pos2] [] pos) (tDictZipL X.K ta) := by
  refine ⟨fun pins s σ H Q I h => ?_⟩
  refine Call_ (ld_blt I hd md PyProof.Rows.boot_dict (PyProof.Rows.callWith_type1 (args_cons (thn (Q := fun u s2 => ∃ (z TI TO i1 i2 a b : Addr) (xs ys : List V) (H1 : Hp), u = .ref z ∧ Inv X pins σ H1 s2 ∧ (ZipApart z TI TO i1 i2 a b ∧ IsZip s2.heap z TI TO .none ∧ IsPair s2.heap TI (.ref i1) (.ref i2) ∧ (∃ x y, IsPair s2.heap TO x y) ∧ s2.heap.IsListIter i1 a 0 ∧ s2.heap.IsListIter i2 b 0 ∧ ∀ c ∈ [z, TI, TO, i1, i2], FpOk X pins H1 c) ∧ SqL X.K H1 a xs ∧ SqL X.K H1 b ys ∧ ∃ ks : List Str, xs = ks.map V.str ∧ ∀ p, H1 p = none → Q (.ref p) (upd H1 p (.dK (mergeK [] (kvZ ks ys))))) ?_ fun u s1 ⟨z, TI, TO, i1, i2, a, b, xs, ys, H1, eu, I1, ⟨ZD, Zz, ZI, ZO, Z1, Z2, Zf⟩, hqx, hqy, ks, ek, q⟩ => args_nil ?_) na) na))
  · refine Call_ (ld_blt I hg hm PyProof.Rows.boot_zip (PyProof.Rows.callWith_type1 (thn (ha.run pos2 pins s σ H _ I h) fun us s1 ⟨vs, H1, I1, r1, a, b, xs, ys, ex, hqx, hqy, q⟩ => ?_) hs hpl))
    subst ex
    cases r1 with
    | cons r rr =>
      cases rr with
      | cons r' rr =>
        cases rr; cases r; cases r'
        obtain ⟨its, rv, p1, _⟩ := I1.list hqx
        obtain ⟨its2, rv2, p2, _⟩ := I1.list hqy
        refine call_zip_2 p1.isList p2.isList fun g gz gI gO g1 g2 gs gk => ?_
        refine ⟨_, _, _, _, _, a, b, xs, ys, H1, rfl, I1.kept (t' := s1.toks) gk, ⟨PySem.W.ktu_apart s1.heap.objs.size a b p1.lt p2.lt, gz, gI, ⟨_, _, gO⟩, g1, g2, fun c hc => ?_⟩, hqx, hqy, q⟩
        have le : s1.heap.objs.size ≤ c := by
          have e' : c = s1.heap.objs.size + 4 ∨ c = s1.heap.objs.size + 2 ∨ c = s1.heap.objs.size + 3 ∨ c = s1.heap.objs.size ∨ c = s1.heap.objs.size + 1 := by simpa using hc
          rcases e' with q | q | q | q | q <;> rw [q]
          all_goals first | exact Nat.le_refl _ | exact Nat.le_add_right _ _
        exact I1.fpOk le (I1.hok.fresh le)
  · subst eu ek
    obtain ⟨its, rv, p1, hz1⟩ := I1.list hqx
    obtain ⟨its2, rv2, p2, hz2⟩ := I1.list hqy
    obtain ⟨kvs, k1, k2, k3⟩ := kvZ_rel rv rv2
    have l1 := rv.length
    have l2 := rv2.length
    have hn : min its.toArray.size its2.toArray.size ≤ sizeLine := by
      simp only [List.size_toArray]
      omega
    refine call_dict_pairs (knd := mixKind X.prog X.w) (kvs := kvs) (PairArg.zip z TI TO i1 i2 a b ZD its.toArray its2.toArray) (I1.ok.hd hc) ⟨Zz, ZI, ZO, Z1, Z2, p1.isList, p2.isList⟩ ⟨by simpa using k2, fun i k v hr => ?_⟩ hn fun g tk gd gk => ?_
    · obtain ⟨x, e1, e2⟩ := k3 i k v (by simpa using hr.1) (by simpa using hr.2)
      exact ⟨x, e1, e2⟩
    · have hb : (s1.heap.objs.size == sysModules) = false := beq_eq_false_iff_ne.mpr (Nat.ne_of_gt I1.big)
      have hlen : (mergeK [] (kvZ ks ys)).length ≤ sizeLine := by
        refine Nat.le_trans (length_mergeK (kvZ ks ys) []) ?_
        rw [k1.length, k2]
        simp only [List.length_nil]
        simp only [List.size_toArray] at hn
        omega
      have I2 : Inv X pins σ (upd H1 s1.heap.objs.size (.dK (mergeK [] (kvZ ks ys)))) { s1 with heap := g, toks := tk } :=
        I1.turnedNew (ch := [z, TI, TO, i1, i2]) (fun c o hc e => gk c o (fun w => hc (by simp at w ⊢; rcases w with w | w | w | w <;> simp [w])) e) Zf (Nat.le_refl _) (show ObjOk X.prog X.w _ _ _ (.dK (mergeK [] (kvZ ks ys))) from ⟨hlen, hb, merged [] kvs, k1.merge .nil, gd⟩)
      exact ⟨.ref s1.heap.objs.size, _, I2, rfl, q _ (I1.hok.fresh (Nat.le_refl _))⟩
/-! ### texts to texts -/
def txD (ss : List (Str × Str)) : List (PyData × PyData) := ss.map fun z => (.str z.1, .str z.2)
def txK (ss : List (Str × Str)) : List (Key × V) := ss.map fun z => (.inr z.1, .str z.2)
def lkp (ss : List (Str × Str)) (k : Str) : Option Str := (ss.find? fun z => decide (z.1 = k)).map (·.2)
theorem tx_flat (ss : List (Str × Str)) : flatDs (txD ss) = true := by
  unfold flatDs txD
  rw [List.all_map, List.all_eq_true]
  intro z _
  rfl
theorem txK_D (ss : List (Str × Str)) : (txK ss).map kvD = txD ss := by
  unfold txK txD
  rw [List.map_map]
  rfl
theorem tx_inj : ∀ {kvs : List (Key × V)} {ss : List (Str × Str)}, kvs.map kvD = txD ss → kvs = txK ss
  | [], [], _ => rfl
  | [], _ :: _, h => by cases h
  | p :: r, [], h => by simp [txD] at h
  | p :: r, z :: ss, h => by
    have h' : kvD p :: r.map kvD = (.str z.1, .str z.2) :: txD ss := h
    obtain ⟨h1, h2⟩ := List.cons.inj h'
    have e2 := tx_inj h2
    obtain ⟨k, v⟩ := p
    unfold kvD at h1
    simp only [Prod.mk.injEq] at h1
    obtain ⟨h3, h4⟩ := h1
    rw [e2]
    cases k with
    | inl i => cases h3
    | inr x =>
      have e3 : x = z.1 := by injection h3
      cases v with
      | str y =>
        have e4 : y = z.2 := by injection h4
        rw [e3, e4]
        rfl
      | _ => cases h4
theorem lkp_val : ∀ (ss : List (Str × Str)) (k : Str), valV (txK ss) (.inr k) = (lkp ss k).map V.str
  | [], k => rfl
  | z :: ss, k => by
    by_cases h : z.1 = k
    · rw [show txK (z :: ss) = (Sum.inr z.1, V.str z.2) :: txK ss from rfl, valV_pos (by rw [h])]
      simp [lkp, h]
    · rw [show txK (z :: ss) = (Sum.inr z.1, V.str z.2) :: txK ss from rfl, valV_neg (by intro e; injection e with e; exact h e), lkp_val ss k]
      simp [lkp, h]
theorem txK_Z (ss : List (Str × Str)) : txK ss = kvZ (ss.map (·.1)) (ss.map fun z => V.str z.2) := by
  induction ss with
  | nil => rfl
  | cons z ss ih =>
    show (Sum.inr z.1, V.str z.2) :: txK ss = (Sum.inr z.1, V.str z.2) :: kvZ (ss.map (·.1)) (ss.map fun z => V.str z.2)
    rw [ih]
theorem kvZ_tx : ∀ (ks vs : List Str), kvZ ks (vs.map V.str) = txK (ks.zip vs)
  | [], vs => by simp [kvZ, txK]
  | k :: ks, [] => by simp [kvZ, txK]
  | k :: ks, v :: vs => by
    show (Sum.inr k, V.str v) :: kvZ ks (vs.map V.str) = (Sum.inr k, V.str v) :: txK (ks.zip vs)
    rw [kvZ_tx ks vs]
theorem pairs_tx {K : PySem.W.Frag} {F : Hp} : ∀ {vs : List V} {ss : List (Str × Str)}, RpA K F vs (ss.map fun z => .tuple [.str z.1, .str z.2]) → ∃ as : List Addr, vs = as.map V.ref ∧ Paired (fun p kv => SqT K F p [kV kv.1, kv.2]) as (txK ss)
  | vs, [], h => by
    cases h
    exact ⟨[], rfl, .nil⟩
  | vs, z :: ss, h => by
    cases h with
    | cons a b =>
      obtain ⟨as, e, q⟩ := pairs_tx b
      cases a with
      | tup ha ra =>
        cases ra with
        | cons r1 r2 =>
          cases r1
          cases r2 with
          | cons r3 r4 =>
            cases r4
            cases r3
            rename_i p
            exact ⟨p :: as, by rw [e]; rfl, .cons ha q⟩
section
variable {K : PySem.W.Frag} {m : Bool} {Γ : List Sl} {Q : PyData → Prop} {te ti : TE} {tr : TA}
theorem wd_dictZipL (h : WA K false Γ tr fun as => ∃ ks vs : List Str, as = [.d (.list (ks.map PyData.str)), .d (.list (vs.map PyData.str))] ∧ ks.Nodup ∧ Q (.dict (txD (ks.zip vs)))) : WD K m Γ (tDictZipL K tr) Q := fun X hK F H σ E C k => by
  subst hK
  refine h X rfl F H σ E _ fun vs F1 H1 as l1 E1 r ⟨ks, zs, ea, nd, q⟩ => ?_
  subst ea
  cases r with
  | cons a r =>
    cases r with
    | cons b r =>
      cases r
      have a' : Rp X.K (X.ff F1 false) _ (.list (ks.map PyData.str)) := a
      have b' : Rp X.K (X.ff F1 false) _ (.list (zs.map PyData.str)) := b
      cases a' with
      | lst ha ra =>
        cases b' with
        | lst hb rb =>
          refine ⟨_, _, _, _, rfl, SqL.of (E1.le _ _ ha), SqL.of (E1.le _ _ hb), ks, strs_of ra, fun p hp => ?_⟩
          rw [strs_of rb, merge_kvZ nd (fun _ _ => rfl), List.nil_append, kvZ_tx]
          obtain ⟨x, y, z⟩ := E1.newD (m := m) (kvs := txK (ks.zip zs)) hp (ds := txD (ks.zip zs)) (fun _ => txK_D _)
          exact k _ _ _ _ (l1.tr x) y z q
theorem wd_dictPT (h : WD K false Γ te fun d => ∃ ss : List (Str × Str), d = .list (ss.map fun z => .tuple [.str z.1, .str z.2]) ∧ (ss.map (·.1)).Nodup ∧ Q (.dict (txD ss))) : WD K m Γ (tCB (rDictP K) (tCons te tNil)) Q := fun X hK F H σ E C k => by
  subst hK
  refine h X rfl F H σ E _ fun v F1 H1 d l1 E1 r ⟨ss, e, nd, q⟩ => ?_
  subst e
  cases r with
  | lst ha ra =>
    rename_i a vs
    obtain ⟨as, ev, hp⟩ := pairs_tx ra
    subst ev
    refine ⟨a, as, txK ss, rfl, SqL.of (E1.le _ _ ha), paired_mono (fun _ _ z => sqT_le E1.le z) hp, fun p hn => ?_⟩
    rw [txK_Z, merge_kvZ nd (fun _ _ => rfl), List.nil_append, ← txK_Z]
    obtain ⟨x, y, z⟩ := E1.newD (m := m) (kvs := txK ss) hn (ds := txD ss) (fun _ => txK_D _)
    exact k _ _ _ _ (l1.tr x) y z q
theorem wd_dgetT (h : WD K false Γ te fun x => ∃ ss : List (Str × Str), x = .dict (txD ss) ∧ WD K false Γ ti fun y => ∃ k v : Str, y = .str k ∧ lkp ss k = some v ∧ Q (.str v)) : WD K m Γ (tDGet te ti) Q := fun X hK F H σ E C k =>
  h X hK F H σ E _ fun v F1 H1 x l1 E1 r1 ⟨ss, ex, h1⟩ => h1 X hK F1 H1 σ E1 _ fun u F2 H2 y l2 E2 r2 ⟨kk, vv, ey, hl, q⟩ => by
    subst hK ex ey
    have r2' : Rp X.K (X.ff F2 false) u (.str kk) := r2
    cases r2'
    have r1' : Rp X.K (X.ff F1 false) v (.dict (txD ss)) := r1
    cases r1' with
    | dct ha t =>
      have e := tx_inj (t (tx_flat ss))
      subst e
      refine ⟨_, .str vv, rfl, ?_, k _ F2 H2 _ (l1.tr l2) E2 (.str vv) q⟩
      have hv : valV (txK ss) (.inr kk) = some (.str vv) := by rw [lkp_val, hl]; rfl
      rw [← hv]
      exact DGet.k (k := .inr kk) (E2.le _ _ (l2 _ _ ha))
end
/-! ### a comprehension that takes out of an own list -/
/-- an expression that may change an own list -/
def WDg (K : PySem.W.Frag) (m : Bool) (Γ : List Sl) (t : TE) (Q : PyData → List Sl → Prop) : Prop := ∀ X : Bs, X.K = K → ∀ F H σ, En X F H σ Γ → ∀ C : VK,
  (∀ v F' H' d Γ', Le F F' → En X F' H' σ Γ' → Rp K (X.ff F' m) v d → Q d Γ' → C v H') → t σ H C
def WXg (K : PySem.W.Frag) (Γ : List Sl) (t : TE) (Q : List Sl → Sl → Prop) : Prop := ∀ X : Bs, X.K = K → ∀ F H σ, En X F H σ Γ → ∀ C : VK,
  (∀ v F' H' Γ' s, Le F F' → En X F' H' (σ ++ [some v]) (Γ' ++ [s]) → Q Γ' s → C v H') → t σ H C
theorem wipeG_no {Γ : List Sl} : ∀ {vs : List Nat}, (∀ i ∈ vs, Γ[i]? = some .no) → wipeG Γ vs = Γ
  | [], _ => rfl
  | v :: vs, h => by
    show (wipeG Γ vs).set v .no = Γ
    rw [wipeG_no fun i hi => h i (List.mem_cons_of_mem _ hi)]
    have hv := h v List.mem_cons_self
    apply List.ext_getElem?
    intro i
    by_cases hi : v = i
    · subst hi
      rw [List.getElem?_set_self (List.getElem?_eq_some_iff.mp hv).1, hv]
    · rw [List.getElem?_set_ne hi]
theorem En.unwipeN {X : Bs} {F H : Hp} {σ : L2.St} {Γ : List Sl} {ov : Option V} {s : Sl} {vs : List Nat} (hl : σ.length = Γ.length) (hv : ∀ i ∈ vs, Γ[i]? = some .no) (E : En X F H (L2.wipe σ vs ++ [ov]) (Γ ++ [s])) : En X F H (σ ++ [ov]) (Γ ++ [s]) := by
  obtain ⟨S, hs, hdj, ho⟩ := id E.sl
  refine ⟨E.le, by simp [hl], ⟨S, fun i u e => ?_, hdj, ho⟩, E.fr, E.f0, E.nn⟩
  have q := hs i u e
  have hi : i < (Γ ++ [s]).length := (List.getElem?_eq_some_iff.mp e).1
  simp only [List.length_append, List.length_cons, List.length_nil] at hi
  by_cases hlt : i < Γ.length
  · rw [getD_app (by rw [wipe_length, hl]; exact hlt)] at q
    rw [getD_app (by rw [hl]; exact hlt)]
    by_cases hin : i ∈ vs
    · rw [List.getElem?_append_left hlt, hv i hin] at e
      cases e
      exact q
    · have : (L2.wipe σ vs).getD i none = σ.getD i none := by simp [List.getD_eq_getElem?_getD, wipe_out hin]
      rw [this] at q
      exact q
  · have hie : i = Γ.length := by omega
    subst hie
    have e1 : (L2.wipe σ vs ++ [ov]).getD Γ.length none = ov := by rw [← hl, ← wipe_length σ vs, getD_last]
    have e2 : (σ ++ [ov]).getD Γ.length none = ov := by rw [← hl, getD_last]
    rw [e1] at q
    rw [e2]
    exact q
section
variable {K : PySem.W.Frag} {Γ : List Sl} {g : TG} {wi : TI} {te : TE} {vs : List Nat} {P : Po}
theorem wxg_lc {mi : Bool} (m : Bool) {j : Nat} {mj : Bool} {l : Addr} {ds0 : List PyData} {QX : List Sl → Sl → Prop} (hj : Γ[j]? = some (.ml mj l ds0)) (hv : ∀ i ∈ vs, Γ[i]? = some .no) (hgw : Gw g vs)
    (h : WI K mi Γ wi fun ds => ∃ I : Nat → List PyData → List PyData → Prop, ds.length ≤ 100000 ∧ I 0 [] ds0 ∧ (∀ i d acc lv, ds[i]? = some d → acc.length ≤ i → I i acc lv → GJ K mi (Γ.set j (.ml mj l lv)) g d fun Γ2 => WDg K m Γ2 te fun y Γ3 => ∃ lv', wipeG Γ3 vs = Γ.set j (.ml mj l lv') ∧ I (i + 1) (acc ++ [y]) lv') ∧
      ∀ acc lv, acc.length ≤ ds.length → I ds.length acc lv → ∀ la, QX (Γ.set j (.ml mj l lv)) (.ml m la acc)) : WXg K Γ (tLc wi g tYes te vs) QX := fun X hK F H σ E C k => by
  have hset : ∀ lv i, i ∈ vs → (Γ.set j (.ml mj l lv))[i]? = some .no := fun lv i hi => by
    have hne : j ≠ i := fun z => by subst z; rw [hv j hi] at hj; cases hj
    rw [List.getElem?_set_ne hne]
    exact hv i hi
  have h00 : Γ.set j (.ml mj l ds0) = Γ := by
    apply List.ext_getElem?
    intro i
    by_cases hi : j = i
    · subst hi
      rw [List.getElem?_set_self (List.getElem?_eq_some_iff.mp hj).1, hj]
    · rw [List.getElem?_set_ne hi]
  refine h X hK F H σ E _ fun J F1 H1 G Y ds lf E1 wk hG hY ⟨I, hz, h0, hs, he⟩ Da hD => ?_
  obtain ⟨X1, k1, n1, f1, _, Er, back⟩ := E1.rebase
  have ffe : ∀ F, X1.ff F m = X.ff F m := fun F => by cases m <;> simp [Bs.ff, n1]
  have hK1 : X1.K = K := k1.trans hK
  have lef : ∀ {F' H' σ' Γ'}, En X1 F' H' σ' Γ' → Le F1 F' := fun E' => by rw [← f1]; exact E'.f0
  have hlen0 : σ.length = Γ.length := E1.len
  refine lc_it wk (fun i H' => ∃ F' acc lv, En X1 F' H' (L2.wipe σ vs ++ [some (.ref Da)]) (Γ.set j (.ml mj l lv) ++ [.ml m Da acc]) ∧ acc.length ≤ i ∧ I i acc lv) ⟨F1, [], ds0, ?_, Nat.le_refl _, h0⟩ (fun i H' _ ⟨F', acc, lv, E', _⟩ => hG H' ((lef E').tr E'.le)) (fun i x H' H3 hi ⟨F', acc, lv, E', hacc, hI⟩ hy => ?_) (fun H' ⟨F', acc, lv, E', hacc, hI⟩ => ?_)
  · have := (Er.wipe vs).pushM (m := m) hD .nil
    rw [wipeG_no hv] at this
    rw [h00]
    exact this
  · obtain ⟨d, F3, hd, gr, r⟩ := hY i F' H' x H3 (lef E') E'.le hi hy
    have E3 := E'.gr gr
    obtain ⟨X2, k2, n2, Ef, fb⟩ := E3.frame
    have ff2 : ∀ F m, X2.ff F m = X.ff F m := fun F m => by cases m <;> simp [Bs.ff, n2, n1]
    have hK2 : X2.K = K := k2.trans hK1
    refine hgw x _ H3 (fun σ2 H2 => L2.wipe σ2 vs = L2.wipe σ vs → _) _ σ wipe_wipe (fun σ2 H2 e2 q => ⟨e2, q e2⟩) ?_
    refine hs i d acc lv hd hacc hI X2 hK2 F3 H3 _ Ef x (by rw [ff2]; exact r) _ fun F4 H4 σ4 Γ4 l4 E4 wt eσ => ?_
    show (tYes : TT) σ4 H4 _
    refine (show WT K Γ4 tYes fun b => b = true from wt_yes rfl) X2 hK2 F4 H4 σ4 E4 _ fun b F5 H5 l5 E5 q5 => ?_
    subst q5
    rw [if_pos rfl]
    refine wt X2 hK2 F5 H5 σ4 E5 _ fun y F6 H6 dy Γ6 l6 E6 ry ⟨lv', eΓ, q6⟩ => ?_
    have hlen : (wipeG Γ6 vs).length = (Γ.set j (.ml mj l lv)).length := by rw [eΓ, List.length_set, List.length_set]
    have E7 : En X1 F6 H6 (L2.wipe σ vs ++ [some (.ref Da)]) (Γ.set j (.ml mj l lv') ++ [.ml m Da acc]) := by
      have := fb F6 H6 _ _ hlen (l4.tr (l5.tr l6)) (E6.wipe vs)
      rw [eΓ, eσ] at this
      exact this
    obtain ⟨xs, _, hl, _, rx⟩ := E7.ml (i := (Γ.set j (.ml mj l lv')).length) (m := m) (l := Da) (ds := acc) (by simp)
    have e8 := E7.mut (i := (Γ.set j (.ml mj l lv')).length) (m := m) (l := Da) (ds := acc) (es := acc ++ [dy]) (ys := xs ++ [y]) (by simp) (rx.append (RpA.one (by rw [hK1, ffe, ← ff2]; exact ry)))
    have es : (Γ.set j (.ml mj l lv') ++ [Sl.ml m Da acc]).set (Γ.set j (.ml mj l lv')).length (.ml m Da (acc ++ [dy])) = Γ.set j (.ml mj l lv') ++ [.ml m Da (acc ++ [dy])] := by simp
    rw [es] at e8
    exact ⟨xs, hl, sz_lt (by rw [rx.length]; omega), F6, acc ++ [dy], lv', e8, by simp; omega, q6⟩
  · have hE := back _ _ _ _ (En.unwipeN (by rw [List.length_set]; exact hlen0) (hset lv) E')
    exact k (.ref Da) F' H' _ _ (lf.tr (lef E')) hE (he acc lv hacc hI Da)
theorem sj_retG (h : WXg K Γ te fun Γ' s => P.rt s Γ') : SJ K Γ (tRet te) P := fun X hK F H σ E D hD =>
  h X hK F H σ E _ fun v F1 H1 Γ1 s l1 E1 q => hD.rt F1 H1 _ _ v s E1 q
theorem wdg_popAt {m : Bool} {i : Nat} {l : Addr} {ds : List PyData} {Q : PyData → List Sl → Prop} (hi : Γ[i]? = some (.ml m l ds)) (h : WD K false Γ te fun x => ∃ (n : Nat) (d : PyData), x = .int n ∧ n < 100000 ∧ ds[n]? = some d ∧ Q d (Γ.set i (.ml m l (ds.eraseIdx n)))) : WDg K m Γ (tBM K "list" rPopAt (tVar i) (tCons te tNil)) Q := fun X hK F H σ E C k => by
  subst hK
  obtain ⟨xs, e, hl, fl, r⟩ := E.ml hi
  refine ⟨.ref l, e, .inl ⟨rfl, _, SqL.of hl⟩, h X rfl F H σ E _ fun v F1 H1 d l1 E1 rv ⟨n, y, ev, hn, hy, q⟩ => ?_⟩
  subst ev
  have rv' : Rp X.K (X.ff F1 false) v (.int (n : Int)) := rv
  cases rv'
  obtain ⟨xs1, e1, hl1, fl1, r1⟩ := E1.ml hi
  obtain ⟨u, hu, ru⟩ := r1.get hy
  have hlt : n < xs1.length := by rw [r1.length]; exact (List.getElem?_eq_some_iff.mp hy).1
  refine ⟨l, xs1, n, n, u, rfl, rfl, hl1, by omega, by omega, ?_, hu, ?_⟩
  · unfold seqIndex?
    have h0 : ¬ ((n : Int) < 0) := by omega
    simp [h0]
    omega
  · exact k u F1 _ y _ l1 (E1.mut hi (r1.eraseIdx n)) ru q
end
end Pk
end
section
set_option Elab.async false
set_option linter.all false
set_option maxRecDepth 100000
/-! The data layer, part 27: one told list is changed in place. -/
namespace Pk
open PySem PySem.Spec PyProof.Rows L2
section
variable {K : PySem.W.Frag} {Γ : List Sl} {P : Po}
theorem lfA_app : ∀ xs ys : List PyData, lfA (xs ++ ys) = (lfA xs && lfA ys) := fun xs ys => by
  induction xs with
  | nil => simp [lfA]
  | cons x xs ih => simp [lfA, ih, Bool.and_assoc]
/-- found[k][0].append(c) -/
theorem sj_appAt {i j k : Nat} {v : V} {m : Bool} {rs : Prs} {r : List PyData × PyData} {c0 : Int} (hi : Γ[i]? = some (.ex v (PairsO K rs))) (hj : Γ[j]? = some (.dat m (.int k))) (hk : rs[k]? = some r) (hz : r.1.length < 100000)
    (h : P.nx (Γ.set i (.ex v (PairsO K (rs.set k (r.1 ++ [.int c0], r.2)))))) : SJ K Γ (tDrop (tBM K "list" rAppend (tOp (rIx K) (tOp (rIx K) (tVar i) (tVar j)) (tC (.int 0))) (tCons (tC (.int c0)) tNil))) P := fun X hK F H σ E D hD => by
  subst hK
  have ev := E.ex hi
  obtain ⟨S, hs, hdj, ho⟩ := id E.sl
  obtain ⟨e0, hkk, l, ts, cs, rfl, hl, h1, h2, nd, hS, hf, hp⟩ := hs i _ hi
  obtain ⟨u, hu, ru⟩ := E.dat hj
  have ru' : Rp X.K (X.ff F m) u (.int (k : Int)) := ru
  cases ru'
  have lnc : l ∉ cs := (List.nodup_cons.mp nd).1
  have cnd : cs.Nodup := (List.nodup_cons.mp nd).2
  have hkl : k < rs.length := (List.getElem?_eq_some_iff.mp hk).1
  have ht : ts[k]? = some (ts[k]'(by omega)) := List.getElem?_eq_getElem (by omega)
  have hc : cs[k]? = some (cs[k]'(by omega)) := List.getElem?_eq_getElem (by omega)
  obtain ⟨t, et⟩ : ∃ t, t = ts[k]'(by omega) := ⟨_, rfl⟩
  obtain ⟨c, ec⟩ : ∃ c, c = cs[k]'(by omega) := ⟨_, rfl⟩
  rw [← et] at ht
  rw [← ec] at hc
  obtain ⟨w, xs, q1, q2, q3, q4⟩ := hp k r t c hk ht hc
  have hcm : c ∈ cs := List.mem_of_getElem? hc
  have fc : F c = none := (ho i c ((hS c).mpr (.inr hcm))).1
  have hlc : l ≠ c := fun z => lnc (by rw [z]; exact hcm)
  have hil : i < Γ.length := (List.getElem?_eq_some_iff.mp hi).1
  have at0 : atI (ts.map V.ref) (k : Int) = some (.ref t) := atI_of (n := k) rfl (by rw [List.getElem?_map, ht]; rfl)
  refine ⟨_, ev, _, hu, .inl ⟨l, ts.map V.ref, k, .ref t, rfl, rfl, SqL.of hl, at0, .inr (.inl ⟨t, [.ref c, w], 0, .ref c, rfl, rfl, sqT_le E.le q1, rfl, .inl ⟨rfl, _, SqL.of q3⟩, c, xs, .int c0, rfl, rfl, q3, sz_lt (by rw [q4.length]; exact hz), ?_⟩)⟩⟩
  have other : ∀ j' x, j' ≠ i → S j' x → upd H c (.lst (xs ++ [.int c0])) x = H x := fun j' x hj' sx => upd_ne fun z => hj' (hdj j' i x sx (by rw [z]; exact (hS c).mpr (.inr hcm)))
  have some_ : ∀ x, H x ≠ none → upd H c (.lst (xs ++ [V.int c0])) x ≠ none := fun x hx => by
    by_cases z : x = c
    · subst z; rw [upd_same]; simp
    · rw [upd_ne z]; exact hx
  refine hD.nx F _ σ _ ⟨fun a o q => ?_, by simp [E.len], ⟨S, fun j' u' e => ?_, hdj, fun j' x q => ⟨(ho j' x q).1, some_ x (ho j' x q).2.1, (ho j' x q).2.2⟩⟩, fun x o e n => ?_, E.f0, fun x n => some_ x (E.nn x n)⟩ h
  · rw [upd_ne fun z => by rw [z, fc] at q; cases q]
    exact E.le a o q
  · by_cases ji : j' = i
    · subst ji
      rw [List.getElem?_set_self hil] at e
      cases e
      refine ⟨e0, rfl, l, ts, cs, rfl, by rw [upd_ne hlc]; exact hl, by simp [h1], by simp [h2], nd, hS, fun r' hr' => ?_, fun n r' t' c' a1 a2 a3 => ?_⟩
      · rcases List.mem_or_eq_of_mem_set hr' with z | z
        · exact hf r' z
        · rw [z]
          have := hf r (List.mem_of_getElem? hk)
          exact ⟨by rw [lfA_app, this.1]; rfl, this.2⟩
      · by_cases hn : k = n
        · subst hn
          rw [List.getElem?_set_self hkl] at a1
          cases a1
          rw [ht] at a2
          rw [hc] at a3
          cases a2
          cases a3
          exact ⟨w, xs ++ [.int c0], q1, q2, upd_same, q4.append (RpA.one (.int c0))⟩
        · rw [List.getElem?_set_ne hn] at a1
          obtain ⟨w', xs', p1, p2, p3, p4⟩ := hp n r' t' c' a1 a2 a3
          refine ⟨w', xs', p1, p2, ?_, p4⟩
          rw [upd_ne]
          · exact p3
          · intro z
            subst z
            exact hn (nd_ix cnd hc a3)
    · rw [List.getElem?_set_ne (Ne.symm ji)] at e
      exact (hs j' u' e).mono Le.rfl' fun x sx => other j' x ji sx
  · obtain ⟨r1, r2⟩ := E.fr x o e n
    refine ⟨?_, r2⟩
    rw [upd_ne]
    · exact r1
    · intro z
      subst z
      rcases (ho i x ((hS x).mpr (.inr hcm))).2.2 with w' | w'
      · rw [w'] at e; cases e
      · exact n w'
theorem En.takeE {X : Bs} {F H : Hp} {σ : L2.St} (E : En X F H σ Γ) {i : Nat} {v : V} {Φ : Own} (hi : Γ[i]? = some (.ex v Φ)) : En X F H (σ ++ [some v]) (Γ.set i .no ++ [.ex v Φ]) := by
  obtain ⟨S, hs, hdj, ho⟩ := id E.sl
  have hil : i < Γ.length := (List.getElem?_eq_some_iff.mp hi).1
  refine ⟨E.le, by simp [E.len], ⟨fun j a => (j < Γ.length ∧ j ≠ i ∧ S j a) ∨ (j = Γ.length ∧ S i a), fun j u e => ?_, fun j k a h1 h2 => ?_, fun j a h1 => ?_⟩, E.fr, E.f0, E.nn⟩
  · have hj : j < (Γ.set i .no ++ [Sl.ex v Φ]).length := (List.getElem?_eq_some_iff.mp e).1
    simp only [List.length_append, List.length_cons, List.length_nil, List.length_set] at hj
    by_cases hlt : j < Γ.length
    · rw [List.getElem?_append_left (by simpa using hlt)] at e
      rw [getD_app (by rw [E.len]; exact hlt)]
      by_cases z : j = i
      · subst z
        rw [List.getElem?_set_self hil] at e
        cases e
        intro a q
        rcases q with ⟨_, q, _⟩ | ⟨q, _⟩
        · exact q rfl
        · omega
      · rw [List.getElem?_set_ne (Ne.symm z)] at e
        have eS : (fun a => (j < Γ.length ∧ j ≠ i ∧ S j a) ∨ (j = Γ.length ∧ S i a)) = S j := by
          funext a
          apply propext
          constructor
          · rintro (⟨_, _, q⟩ | ⟨q, _⟩)
            · exact q
            · omega
          · intro q; exact .inl ⟨hlt, z, q⟩
        show SlOk X F H _ (fun a => (j < Γ.length ∧ j ≠ i ∧ S j a) ∨ (j = Γ.length ∧ S i a)) _
        rw [eS]
        exact hs j u e
    · have hje : j = Γ.length := by omega
      subst hje
      have e' : (Γ.set i .no ++ [Sl.ex v Φ])[Γ.length]? = some (.ex v Φ) := by
        have : Γ.length = (Γ.set i Sl.no).length := by simp
        rw [this]; simp
      rw [e'] at e
      cases e
      have eS : (fun a => (Γ.length < Γ.length ∧ Γ.length ≠ i ∧ S Γ.length a) ∨ (Γ.length = Γ.length ∧ S i a)) = S i := by
        funext a
        apply propext
        constructor
        · rintro (⟨q, _⟩ | ⟨_, q⟩)
          · omega
          · exact q
        · intro q; exact .inr ⟨rfl, q⟩
      show SlOk X F H _ (fun a => (Γ.length < Γ.length ∧ Γ.length ≠ i ∧ S Γ.length a) ∨ (Γ.length = Γ.length ∧ S i a)) _
      rw [eS, ← E.len, getD_last]
      obtain ⟨e0, r⟩ := hs i _ hi
      exact ⟨rfl, r⟩
  · rcases h1 with ⟨a1, b1, c1⟩ | ⟨a1, c1⟩ <;> rcases h2 with ⟨a2, b2, c2⟩ | ⟨a2, c2⟩
    · exact hdj j k a c1 c2
    · exact absurd (hdj _ _ a c1 c2) b1
    · exact absurd (hdj _ _ a c2 c1) b2
    · omega
  · rcases h1 with ⟨_, _, c1⟩ | ⟨_, c1⟩
    · exact ho j a c1
    · exact ho i a c1
/-- return of a thing of one's own -/
theorem sj_retEx {i : Nat} {v : V} {Φ : Own} (hi : Γ[i]? = some (.ex v Φ)) (h : P.rt (.ex v Φ) (Γ.set i .no)) : SJ K Γ (tRet (tVar i)) P := fun X hK F H σ E D hD =>
  ⟨_, E.ex hi, hD.rt F H σ _ v _ (E.takeE hi) h⟩
end
end Pk
end
section
set_option Elab.async false
set_option linter.all false
set_option maxRecDepth 100000
/-! Programs of rows: data, worths. -/
namespace Dk
open PySem PySem.Spec PyProof.Rows L2 Pk
inductive Op where
  | plus | times | less | same
  deriving DecidableEq
def Op.w : Op → Str
  | .plus => "plus" | .times => "times" | .less => "less" | .same => "same"
inductive Th where
  | num (n : Nat)
  | box (x : Str)
  | op (o : Op) (a b : Th)
def Th.d : Th → PyData
  | .num n => .tuple [.str "number", .int n]
  | .box x => .tuple [.str "box", .str x]
  | .op o a b => .tuple [.str o.w, a.d, b.d]
/-- at most so deep, of numbers below m and of the boxes -/
def Th.Ok (m : Nat) (bs : List Str) : Nat → Th → Prop
  | 0, _ => False
  | _ + 1, .num k => k < m
  | _ + 1, .box x => x ∈ bs
  | n + 1, .op _ a b => a.Ok m bs n ∧ b.Ok m bs n
theorem Th.Ok.up {m : Nat} {bs : List Str} : ∀ {n : Nat} {t : Th}, t.Ok m bs n → t.Ok m bs (n + 1)
  | 0, _, h => by cases h
  | n + 1, .num k, h => h
  | n + 1, .box x, h => h
  | n + 1, .op o a b, h => ⟨Th.Ok.up (n := n) h.1, Th.Ok.up (n := n) h.2⟩
theorem Th.Ok.mono {m : Nat} {bs : List Str} {n k : Nat} {t : Th} (h : t.Ok m bs n) (le : n ≤ k) : t.Ok m bs k := by
  obtain ⟨j, rfl⟩ := Nat.exists_eq_add_of_le le
  induction j with
  | zero => exact h
  | succ j ih => exact (ih (by omega)).up
def ltr (c : Nat) : Prop := 97 ≤ c ∧ c ≤ 122
def NameOk (x : Str) : Prop := 1 ≤ x.length ∧ x.length ≤ 8 ∧ ∀ c ∈ x.cps.toList, ltr c
theorem NameOk.strOk {x : Str} (h : NameOk x) : PyData.strOk x = true := by
  unfold PyData.strOk
  rw [← Array.all_toList, List.all_eq_true]
  intro c hc
  have := (h.2.2 c hc).2
  exact decide_eq_true (by omega)
structure BsOk (bs : List Str) : Prop where
  len0 : 1 ≤ bs.length
  len5 : bs.length ≤ 5
  nd : bs.Nodup
  nm : ∀ x ∈ bs, NameOk x
abbrev bsD (bs : List Str) : PyData := .list (bs.map PyData.str)
inductive Rw where
  | set (x : Str) (t : Th)
  | pick (x : Str) (ts : List Th)
  | need (t : Th)
  | skip (t : Th) (k : Nat)
  | give (t : Th)
def Rw.d : Rw → PyData
  | .set x t => .tuple [.str "set", .str x, t.d]
  | .pick x ts => .tuple [.str "pick", .str x, .list (ts.map Th.d)]
  | .need t => .tuple [.str "need", t.d]
  | .skip t k => .tuple [.str "skip", t.d, .int k]
  | .give t => .tuple [.str "give", t.d]
def Rw.Ok (m : Nat) (bs : List Str) : Rw → Prop
  | .set x t => x ∈ bs ∧ t.Ok m bs 4
  | .pick x ts => x ∈ bs ∧ 1 ≤ ts.length ∧ ts.length ≤ 5 ∧ ∀ t ∈ ts, t.Ok m bs 4
  | .need t => t.Ok m bs 4
  | .skip t k => t.Ok m bs 4 ∧ 1 ≤ k ∧ k ≤ 30
  | .give t => t.Ok m bs 4
structure Pg where
  m : Nat
  bs : List Str
  rows : List Rw
def Pg.d (p : Pg) : PyData := .tuple [.int p.m, bsD p.bs, .list (p.rows.map Rw.d)]
structure Pg.Ok (p : Pg) : Prop where
  m2 : 2 ≤ p.m
  m16 : p.m ≤ 16
  bs : BsOk p.bs
  r30 : p.rows.length ≤ 30
  rows : ∀ r ∈ p.rows, r.Ok p.m p.bs
abbrev stD (st : List Nat) : PyData := .tuple (st.map fun (n : Nat) => PyData.int n)
structure StOk (m : Nat) (bs : List Str) (st : List Nat) : Prop where
  len : st.length = bs.length
  lt : ∀ n ∈ st, n < m
/-! ### worths -/
def Op.v (m : Nat) : Op → Nat → Nat → Nat
  | .plus, a, b => (a + b) % m
  | .times, a, b => a * b % m
  | .less, a, b => if a < b then 1 else 0
  | .same, a, b => if a = b then 1 else 0
def at_ (bs : List Str) (st : List Nat) (x : Str) : Nat := st.getD (bs.idxOf x) 0
def Th.v (m : Nat) (bs : List Str) (st : List Nat) : Th → Nat
  | .num n => n
  | .box x => at_ bs st x
  | .op o a b => o.v m (a.v m bs st) (b.v m bs st)
theorem idx_lt {bs : List Str} {x : Str} (h : x ∈ bs) : bs.idxOf x < bs.length := List.idxOf_lt_length_of_mem h
theorem at_get {m : Nat} {bs : List Str} {st : List Nat} (s : StOk m bs st) {x : Str} (h : x ∈ bs) : st[bs.idxOf x]? = some (at_ bs st x) := by
  have := idx_lt h
  have hl : bs.idxOf x < st.length := by rw [s.len]; exact this
  simp [at_, List.getD_eq_getElem?_getD, hl]
theorem at_lt {m : Nat} {bs : List Str} {st : List Nat} (s : StOk m bs st) {x : Str} (h : x ∈ bs) : at_ bs st x < m := s.lt _ (List.mem_of_getElem? (at_get s h))
theorem Op.v_lt {m : Nat} (h2 : 2 ≤ m) (o : Op) (a b : Nat) : o.v m a b < m := by
  cases o with
  | plus => exact Nat.mod_lt _ (by omega)
  | times => exact Nat.mod_lt _ (by omega)
  | less => show (if a < b then 1 else 0) < m; split <;> omega
  | same => show (if a = b then 1 else 0) < m; split <;> omega
theorem Th.v_lt {m : Nat} {bs : List Str} {st : List Nat} (h2 : 2 ≤ m) (s : StOk m bs st) : ∀ {n : Nat} {t : Th}, t.Ok m bs n → t.v m bs st < m
  | 0, _, h => by cases h
  | n + 1, .num k, h => h
  | n + 1, .box x, h => at_lt s h
  | n + 1, .op o a b, h => Op.v_lt h2 o _ _
/-! ### shapes of data -/
theorem sh_of {n : Nat} {d : PyData} (h : dep n d) (hn : n ≤ 63) : SeqAt.shaped d = true := dep_shaped h hn
end Dk
end
section
set_option Elab.async false
set_option linter.all false
set_option maxRecDepth 100000
/-! Names, shapes of programs. -/
namespace Dk
open PySem PySem.Spec PyProof.Rows L2 Pk
abbrev LET : Str := "abcdefghijklmnopqrstuvwxyz"
theorem let_len : LET.length = 26 := by decide +kernel
theorem let_tab : ∀ r ∈ List.range 26, LET.cps.toList[r]? = some (97 + r) := by decide +kernel
theorem let_at {r : Nat} (h : r < 26) : LET.cps.toList[r]? = some (97 + r) := let_tab r (List.mem_range.mpr h)
def one (c : Nat) : Str := ⟨#[c]⟩
theorem one_len (c : Nat) : (one c).length = 1 := rfl
theorem one_name {c : Nat} (h : ltr c) : NameOk (one c) := ⟨Nat.le_refl _, by rw [one_len]; decide, fun x hx => by simp [one] at hx; subst hx; exact h⟩
theorem str_len (x : Str) : x.length = x.cps.toList.length := by simp [Str.length]
theorem app_cps (x y : Str) : (x ++ y).cps.toList = x.cps.toList ++ y.cps.toList := by
  show (x.cps ++ y.cps).toList = _
  simp
/-- "".join(..) -/
theorem join_cps (ys : List Str) : (Txt.join "" ys).cps.toList = ys.flatMap fun y => y.cps.toList := by
  have hf : ∀ (ps : List Str) (acc : Array Nat), ((ps.foldl (fun acc p => acc ++ ("" : Str).cps ++ p.cps) acc)).toList = acc.toList ++ ps.flatMap fun y => y.cps.toList := by
    intro ps
    induction ps with
    | nil => intro acc; simp
    | cons p ps ih =>
      intro acc
      rw [List.foldl_cons, ih]
      have : ("" : Str).cps = #[] := by decide +kernel
      rw [this]
      simp
  show (Builtin.Str.glued "" ys).cps.toList = _
  unfold Builtin.Str.glued
  cases ys with
  | nil => simp [Str.empty]
  | cons y ys =>
    refine (hf ys y.cps).trans ?_
    simp
theorem join_name {cs : List Nat} (h1 : 1 ≤ cs.length) (h8 : cs.length ≤ 8) (hl : ∀ c ∈ cs, ltr c) : NameOk (Txt.join "" (cs.map one)) := by
  have e : (Txt.join "" (cs.map one)).cps.toList = cs := by
    rw [join_cps]
    clear h1 h8 hl
    induction cs with
    | nil => rfl
    | cons c cs ih => rw [List.map_cons, List.flatMap_cons, ih]; rfl
  refine ⟨?_, ?_, fun c hc => ?_⟩
  · rw [str_len, e]; exact h1
  · rw [str_len, e]; exact h8
  · rw [e] at hc; exact hl c hc
theorem join_sum (cs : List Nat) : ((cs.map one).map (·.length)).sum = cs.length := by
  induction cs with
  | nil => rfl
  | cons c cs ih =>
    rw [List.map_cons, List.map_cons, List.sum_cons, ih, one_len, List.length_cons]
    omega
theorem cut_name {x : Str} {n c : Nat} (hx : NameOk x) (h1 : 1 ≤ n) (h7 : n ≤ 7) (hc : ltr c) : NameOk (cutS x none (some (n : Int)) ++ one c) := by
  have e : (cutS x none (some (n : Int)) ++ one c).cps.toList = x.cps.toList.take (min n x.length) ++ [c] := by
    rw [app_cps]
    unfold cutS
    have h0 : ¬ ((n : Int) < 0) := by omega
    simp [HT.sIx, h0, one]
  obtain ⟨a, b, d⟩ := hx
  have hl : x.cps.toList.length = x.length := (str_len x).symm
  refine ⟨?_, ?_, fun y hy => ?_⟩
  · rw [str_len, e, List.length_append]; simp
  · rw [str_len, e, List.length_append, List.length_take, hl]; simp; omega
  · rw [e] at hy
    rcases List.mem_append.mp hy with z | z
    · exact d y (List.mem_of_mem_take z)
    · simp at z; subst z; exact hc
/-- letters[t] * 8 -/
def rep8 (t : Nat) : Str := ⟨#[97 + t, 97 + t, 97 + t, 97 + t, 97 + t, 97 + t, 97 + t, 97 + t]⟩
theorem mul8 (c : Nat) : Txt.mul (one c) 8 = ⟨#[c, c, c, c, c, c, c, c]⟩ := by
  simp [Txt.mul, one, Str.length, List.replicate]
theorem mulOk8 (c : Nat) : MulOk (one c) 8 := by
  refine ⟨by decide, fun _ _ => ?_, fun _ _ => ?_⟩
  · rw [one_len]; decide
  · rw [one_len]; decide
theorem rep8_inj {s t : Nat} (h : rep8 s = rep8 t) : s = t := by
  simp [rep8] at h
  omega
theorem rep8_name {t : Nat} (h : t < 26) : NameOk (rep8 t) := ⟨by simp [rep8, Str.length], by simp [rep8, Str.length], fun c hc => by
  simp [rep8] at hc
  subst hc
  exact ⟨by omega, by omega⟩⟩
theorem nd_sub {α : Type} [DecidableEq α] : ∀ {as bs : List α}, as.Nodup → (∀ a ∈ as, a ∈ bs) → as.length ≤ bs.length
  | [], _, _, _ => Nat.zero_le _
  | a :: as, bs, nd, h => by
    obtain ⟨h1, h2⟩ := List.nodup_cons.mp nd
    have ha := h a List.mem_cons_self
    have ih := nd_sub (as := as) (bs := bs.erase a) h2 fun b hb => (List.mem_erase_of_ne (fun z => h1 (by rw [← z]; exact hb))).mpr (h b (List.mem_cons_of_mem _ hb))
    rw [List.length_erase_of_mem ha] at ih
    have : 0 < bs.length := List.length_pos_of_mem ha
    rw [List.length_cons]
    omega
theorem rep_le {bs : List Str} {t : Nat} (h : ∀ i, i < t → rep8 i ∈ bs) : t ≤ bs.length := by
  have := nd_sub (as := (List.range t).map rep8) (bs := bs) (List.nodup_iff_pairwise_ne.mpr (List.pairwise_map.mpr ((List.nodup_iff_pairwise_ne.mp List.nodup_range).imp fun {a b} hab z => hab (rep8_inj z)))) fun a ha => by
    obtain ⟨i, hi, rfl⟩ := List.mem_map.mp ha
    exact h i (List.mem_range.mp hi)
  simpa using this
/-! ### shapes -/
theorem op_ok (o : Op) : PyData.strOk o.w = true := by cases o <;> decide +kernel
theorem ok_w {x : Str} (h : x ∈ [("number" : Str), "box", "set", "pick", "need", "skip", "give", "nothing", "gives"]) : PyData.strOk x = true := by
  have : ∀ y ∈ [("number" : Str), "box", "set", "pick", "need", "skip", "give", "nothing", "gives"], PyData.strOk y = true := by decide +kernel
  exact this x h
theorem Th.dep {m : Nat} {bs : List Str} (hb : ∀ x ∈ bs, NameOk x) : ∀ {n : Nat} {t : Th}, t.Ok m bs n → Pk.dep n t.d
  | 0, _, h => by cases h
  | n + 1, .num k, h => by
    intro x hx
    simp at hx
    rcases hx with rfl | rfl
    · cases n <;> exact ok_w (by simp)
    · cases n <;> exact True.intro
  | n + 1, .box y, h => by
    intro x hx
    simp at hx
    rcases hx with rfl | rfl
    · cases n <;> exact ok_w (by simp)
    · have := (hb y h).strOk
      cases n <;> exact this
  | n + 1, .op o a b, h => by
    intro x hx
    simp at hx
    rcases hx with rfl | rfl | rfl
    · have := op_ok o
      cases n <;> exact this
    · exact Th.dep hb h.1
    · exact Th.dep hb h.2
theorem dep_up {n k : Nat} {d : PyData} (h : Pk.dep n d) (le : n ≤ k) : Pk.dep k d := by
  induction n generalizing k d with
  | zero => cases d <;> cases k <;> first | exact h | exact h.elim
  | succ n ih =>
    cases k with
    | zero => omega
    | succ k =>
      cases d with
      | list xs => exact fun x hx => ih (h x hx) (by omega)
      | tuple xs => exact fun x hx => ih (h x hx) (by omega)
      | none => exact h
      | bool _ => exact h
      | int _ => exact h
      | str _ => exact h
      | dict _ => exact h
theorem dep_str {n : Nat} {x : Str} (h : PyData.strOk x = true) : Pk.dep n (.str x) := by cases n <;> exact h
theorem dep_int {n : Nat} {i : Int} : Pk.dep n (.int i) := by cases n <;> exact True.intro
theorem Rw.dep {m : Nat} {bs : List Str} (hb : ∀ x ∈ bs, NameOk x) {r : Rw} (h : r.Ok m bs) : Pk.dep 6 r.d := by
  cases r with
  | set y t =>
    intro x hx
    simp at hx
    rcases hx with rfl | rfl | rfl
    · exact dep_str (ok_w (by simp))
    · exact dep_str (hb y h.1).strOk
    · exact dep_up (Th.dep hb h.2) (by decide)
  | pick y ts =>
    intro x hx
    simp at hx
    rcases hx with rfl | rfl | rfl
    · exact dep_str (ok_w (by simp))
    · exact dep_str (hb y h.1).strOk
    · intro z hz
      obtain ⟨t, ht, rfl⟩ := List.mem_map.mp hz
      exact dep_up (Th.dep hb (h.2.2.2 t ht)) (by decide)
  | need t =>
    intro x hx
    simp at hx
    rcases hx with rfl | rfl
    · exact dep_str (ok_w (by simp))
    · exact dep_up (Th.dep hb h) (by decide)
  | skip t k =>
    intro x hx
    simp at hx
    rcases hx with rfl | rfl | rfl
    · exact dep_str (ok_w (by simp))
    · exact dep_up (Th.dep hb h.1) (by decide)
    · exact dep_int
  | give t =>
    intro x hx
    simp at hx
    rcases hx with rfl | rfl
    · exact dep_str (ok_w (by simp))
    · exact dep_up (Th.dep hb h) (by decide)
theorem bs_dep {bs : List Str} (hb : ∀ x ∈ bs, NameOk x) (n : Nat) : Pk.dep (n + 1) (bsD bs) := fun x hx => by
  obtain ⟨y, hy, rfl⟩ := List.mem_map.mp hx
  exact dep_str (hb y hy).strOk
theorem bs_sh {bs : List Str} (hb : ∀ x ∈ bs, NameOk x) : SeqAt.shaped (bsD bs) = true := sh_of (bs_dep hb 0) (by decide)
theorem Pg.dep {p : Pg} (h : p.Ok) : Pk.dep 8 p.d := by
  intro x hx
  simp at hx
  rcases hx with rfl | rfl | rfl
  · exact dep_int
  · exact bs_dep h.bs.nm 6
  · intro y hy
    obtain ⟨r, hr, rfl⟩ := List.mem_map.mp hy
    exact Rw.dep h.bs.nm (h.rows r hr)
theorem Pg.sh {p : Pg} (h : p.Ok) : SeqAt.shaped p.d = true := sh_of (Pg.dep h) (by decide)
/-! no truths in it -/
theorem Th.nb : ∀ t : Th, NB t.d
  | .num n => .tup fun x hx => by
    simp at hx
    rcases hx with rfl | rfl
    · exact .str _
    · exact .int _
  | .box y => .tup fun x hx => by
    simp at hx
    rcases hx with rfl | rfl
    · exact .str _
    · exact .str _
  | .op o a b => .tup fun x hx => by
    simp at hx
    rcases hx with rfl | rfl | rfl
    · exact .str _
    · exact Th.nb a
    · exact Th.nb b
theorem Rw.nb (r : Rw) : NB r.d := by
  cases r <;> refine .tup fun x hx => ?_ <;> simp at hx
  · rcases hx with rfl | rfl | rfl
    · exact .str _
    · exact .str _
    · exact Th.nb _
  · rcases hx with rfl | rfl | rfl
    · exact .str _
    · exact .str _
    · refine .lst fun z hz => ?_
      obtain ⟨t, _, rfl⟩ := List.mem_map.mp hz
      exact Th.nb t
  · rcases hx with rfl | rfl
    · exact .str _
    · exact Th.nb _
  · rcases hx with rfl | rfl | rfl
    · exact .str _
    · exact Th.nb _
    · exact .int _
  · rcases hx with rfl | rfl
    · exact .str _
    · exact Th.nb _
theorem Pg.nb (p : Pg) : NB p.d := .tup fun x hx => by
  simp at hx
  rcases hx with rfl | rfl | rfl
  · exact .int _
  · refine .lst fun z hz => ?_
    obtain ⟨t, _, rfl⟩ := List.mem_map.mp hz
    exact .str t
  · refine .lst fun z hz => ?_
    obtain ⟨t, _, rfl⟩ := List.mem_map.mp hz
    exact Rw.nb t
theorem Th.lf : ∀ t : Th, Pk.lf t.d = true
  | .num n => rfl
  | .box y => rfl
  | .op o a b => by
    show Pk.lfA [.str o.w, a.d, b.d] = true
    simp [Pk.lfA, Th.lf a, Th.lf b, Pk.lf]
theorem st_lf (st : List Nat) : Pk.lf (stD st) = true := by
  show Pk.lfA _ = true
  induction st with
  | nil => rfl
  | cons n st ih => simp [Pk.lfA, ih, Pk.lf]
def Rw.w : Rw → Str
  | .set _ _ => "set" | .pick _ _ => "pick" | .need _ => "need" | .skip _ _ => "skip" | .give _ => "give"
def Rw.isPick : Rw → Bool
  | .pick _ _ => true | _ => false
theorem Rw.w_ok (r : Rw) : PyData.strOk r.w = true := by cases r <;> exact ok_w (by simp [Rw.w])
theorem s_sp : ("set" : Str) ≠ "pick" := by decide +kernel
theorem s_np : ("need" : Str) ≠ "pick" := by decide +kernel
theorem s_kp : ("skip" : Str) ≠ "pick" := by decide +kernel
theorem s_gp : ("give" : Str) ≠ "pick" := by decide +kernel
theorem Rw.eqP (r : Rw) : PyData.eqv (.str r.w) (.str "pick") = r.isPick := by
  rw [eqv_str]
  cases r with
  | set x t => exact decide_eq_false s_sp
  | pick x t => exact decide_eq_true rfl
  | need t => exact decide_eq_false s_np
  | skip t k => exact decide_eq_false s_kp
  | give t => exact decide_eq_false s_gp
section
variable {K : PySem.W.Frag} {m : Bool} {Γ : List Sl} {Q : PyData → Prop}
theorem rd_row0 {r : Rw} (q : Q (.str r.w)) : RD K m Γ (rIx K) r.d (.int 0) Q := by cases r <;> exact rd_ixT rfl q
theorem rd_neSelf {d : PyData} (hs : SeqAt.shaped d = true) (nb : NB d) (q : Q (.bool false)) : RD K m Γ (dNe K) d d Q := rd_ne hs hs (by rw [eqv_self nb]; exact q)
theorem rd_eqSelf {d : PyData} (hs : SeqAt.shaped d = true) (nb : NB d) (q : Q (.bool true)) : RD K m Γ (dEq K) d d Q := rd_eq hs hs (by rw [eqv_self nb]; exact q)
end
end Dk
end
section
set_option Elab.async false
set_option linter.all false
set_option maxRecDepth 100000
/-! Copies, places of names, sums over words. -/
namespace Dk
open PySem PySem.Spec PyProof.Rows L2 Pk
/-- what may be copied: so deep at most, no list too long -/
def cpy : Nat → PyData → Prop
  | _, .none => True
  | _, .bool _ => True
  | _, .int _ => True
  | _, .str _ => True
  | 0, .list _ => False
  | 0, .tuple _ => False
  | n + 1, .list xs => xs.length ≤ 100000 ∧ ∀ x ∈ xs, cpy n x
  | n + 1, .tuple xs => xs.length ≤ 100000 ∧ ∀ x ∈ xs, cpy n x
  | _, .dict _ => False
theorem cpy_str {n : Nat} {x : Str} : cpy n (.str x) := by cases n <;> exact True.intro
theorem cpy_int {n : Nat} {i : Int} : cpy n (.int i) := by cases n <;> exact True.intro
theorem cpy_up {n k : Nat} {d : PyData} (h : cpy n d) (le : n ≤ k) : cpy k d := by
  induction n generalizing k d with
  | zero => cases d <;> cases k <;> first | exact h | exact h.elim
  | succ n ih =>
    cases k with
    | zero => omega
    | succ k =>
      cases d with
      | list xs => exact ⟨h.1, fun x hx => ih (h.2 x hx) (by omega)⟩
      | tuple xs => exact ⟨h.1, fun x hx => ih (h.2 x hx) (by omega)⟩
      | none => exact h
      | bool _ => exact h
      | int _ => exact h
      | str _ => exact h
      | dict _ => exact h
theorem cpy_2 {n : Nat} {a b : PyData} (ha : cpy n a) (hb : cpy n b) : cpy (n + 1) (.tuple [a, b]) := ⟨le_lit rfl, fun x hx => by
  simp at hx
  rcases hx with rfl | rfl
  · exact ha
  · exact hb⟩
theorem cpy_3 {n : Nat} {a b c : PyData} (ha : cpy n a) (hb : cpy n b) (hc : cpy n c) : cpy (n + 1) (.tuple [a, b, c]) := ⟨le_lit rfl, fun x hx => by
  simp at hx
  rcases hx with rfl | rfl | rfl
  · exact ha
  · exact hb
  · exact hc⟩
theorem cpy_map {α : Type} {f : α → PyData} {xs : List α} {n : Nat} (hl : xs.length ≤ 100000) (h : ∀ x ∈ xs, cpy n (f x)) : cpy (n + 1) (.list (xs.map f)) := ⟨by rw [List.length_map]; exact hl, fun y hy => by
  obtain ⟨x, hx, rfl⟩ := List.mem_map.mp hy
  exact h x hx⟩
theorem Th.cpy {m : Nat} {bs : List Str} : ∀ {n : Nat} {t : Th}, t.Ok m bs n → Dk.cpy n t.d
  | 0, _, h => by cases h
  | n + 1, .num k, h => cpy_2 cpy_str cpy_int
  | n + 1, .box y, h => cpy_2 cpy_str cpy_str
  | n + 1, .op o a b, h => cpy_3 cpy_str (Th.cpy h.1) (Th.cpy h.2)
theorem Rw.cpy {m : Nat} {bs : List Str} {r : Rw} (h : r.Ok m bs) : Dk.cpy 6 r.d := by
  cases r with
  | set y t => exact cpy_3 cpy_str cpy_str (cpy_up (Th.cpy h.2) (by decide))
  | pick y ts => exact cpy_3 cpy_str cpy_str (cpy_map (n := 4) (by have := h.2.2.1; omega) fun t ht => Th.cpy (h.2.2.2 t ht))
  | need t => exact cpy_2 cpy_str (cpy_up (Th.cpy h) (by decide))
  | skip t k => exact cpy_3 cpy_str (cpy_up (Th.cpy h.1) (by decide)) cpy_int
  | give t => exact cpy_2 cpy_str (cpy_up (Th.cpy h) (by decide))
theorem Pg.cpy {p : Pg} (h : p.Ok) : Dk.cpy 8 p.d := cpy_3 cpy_int (cpy_map (n := 6) (by have := h.bs.len5; omega) fun _ _ => cpy_str) (cpy_map (by have := h.r30; omega) fun r hr => Rw.cpy (h.rows r hr))
/-! ### the place of a name -/
theorem idx_at {bs : List Str} {x : Str} (h : x ∈ bs) : bs[bs.idxOf x]? = some x := by
  have hl := List.idxOf_lt_length_of_mem h
  rw [List.getElem?_eq_getElem hl]
  simp
theorem idx_first : ∀ {bs : List Str} {x y : Str} {j : Nat}, j < bs.idxOf x → bs[j]? = some y → y ≠ x
  | [], x, y, j, _, h => by simp at h
  | b :: bs, x, y, j, hj, h => by
    rw [List.idxOf_cons] at hj
    by_cases e : b = x
    · subst e; simp at hj
    · have e' : (b == x) = false := by simp [e]
      rw [e'] at hj
      cases j with
      | zero => simp at h; subst h; exact e
      | succ j => exact idx_first (j := j) (by simpa using hj) (by simpa using h)
section
variable {K : PySem.W.Frag} {m : Bool} {Γ : List Sl} {Q : PyData → Prop} {te ti : TE}
/-- names.index(name) -/
theorem wd_nameIx {bs : List Str} {x : Str} (hb : ∀ y ∈ bs, NameOk y) (hx : x ∈ bs) (h : WD K false Γ te fun d => d = bsD bs ∧ WD K false Γ ti fun z => z = .str x ∧ Q (.int (bs.idxOf x : Nat))) : WD K m Γ (tBM K "list" (rIndexD K) te (tCons ti tNil)) Q :=
  wd_index (h.mono fun d ⟨e, h2⟩ => ⟨bs.map PyData.str, e, h2.mono fun z ⟨ez, q⟩ => ⟨bs.idxOf x, .str x, bs_sh hb, by rw [ez]; exact sh_str (hb x hx).strOk, by rw [List.getElem?_map, idx_at hx]; rfl, by rw [ez, eqv_str]; exact decide_eq_true rfl, fun j z' hj hz' => by
    rw [ez]
    rw [List.getElem?_map] at hz'
    cases hy : bs[j]? with
    | none => rw [hy] at hz'; cases hz'
    | some y =>
      rw [hy] at hz'
      cases hz'
      rw [eqv_str]
      exact decide_eq_false (idx_first hj hy), q⟩⟩)
end
/-! ### words of things -/
def Th.w : Th → Str
  | .num _ => "number" | .box _ => "box" | .op o _ _ => o.w
theorem Th.w_ok (t : Th) : PyData.strOk t.w = true := by
  cases t with
  | num n => exact ok_w (by simp [Th.w])
  | box x => exact ok_w (by simp [Th.w])
  | op o a b => exact op_ok o
theorem rd_th0 {K : PySem.W.Frag} {m : Bool} {Γ : List Sl} {Q : PyData → Prop} {t : Th} (q : Q (.str t.w)) : RD K m Γ (rIx K) t.d (.int 0) Q := by cases t <;> exact rd_ixT rfl q
theorem ok_ow : ∀ x ∈ [("plus" : Str), "times", "less", "same"], PyData.strOk x = true := by decide +kernel
theorem s_bn : ("box" : Str) ≠ "number" := by decide +kernel
theorem s_on (o : Op) : o.w ≠ "number" := by cases o <;> decide +kernel
theorem s_ob (o : Op) : o.w ≠ "box" := by cases o <;> decide +kernel
theorem s_nb : ("number" : Str) ≠ "box" := by decide +kernel
theorem Th.eqN (t : Th) : PyData.eqv (.str t.w) (.str "number") = (match t with | .num _ => true | _ => false) := by
  rw [eqv_str]
  cases t with
  | num n => exact decide_eq_true rfl
  | box x => exact decide_eq_false s_bn
  | op o a b => exact decide_eq_false (s_on o)
theorem Th.eqB (t : Th) : PyData.eqv (.str t.w) (.str "box") = (match t with | .box _ => true | _ => false) := by
  rw [eqv_str]
  cases t with
  | num n => exact decide_eq_false s_nb
  | box x => exact decide_eq_true rfl
  | op o a b => exact decide_eq_false (s_ob o)
theorem op_tab : ∀ o ∈ [Op.plus, .times, .less, .same], ∀ u ∈ [Op.plus, .times, .less, .same], decide (o.w = u.w) = decide (o = u) := by decide +kernel
theorem op_mem (o : Op) : o ∈ [Op.plus, .times, .less, .same] := by cases o <;> simp
theorem Op.eqW (o u : Op) : PyData.eqv (.str o.w) (.str u.w) = decide (o = u) := by rw [eqv_str]; exact op_tab o (op_mem o) u (op_mem u)
theorem cast_add (x y m : Nat) : ((x : Int) + y) % m = (((x + y) % m : Nat) : Int) := by simp
theorem cast_mul (x y m : Nat) : ((x : Int) * y) % m = (((x * y) % m : Nat) : Int) := by simp
theorem getOr_op (o : Op) (a b d : PyData) : getOr [("plus", a), ("times", b)] o.w d = (match o with | .plus => a | .times => b | .less => d | .same => d) := by
  unfold getOr
  have e1 : decide (("plus" : Str) = o.w) = decide (Op.plus = o) := op_tab .plus (op_mem _) o (op_mem o)
  have e2 : decide (("times" : Str) = o.w) = decide (Op.times = o) := op_tab .times (op_mem _) o (op_mem o)
  simp only [List.find?_cons, e1, e2, List.find?_nil]
  cases o <;> simp
theorem int_less (m x y : Nat) : (if decide ((x : Int) < y) = true then (1 : Int) else 0) = ((Op.v m .less x y : Nat) : Int) := by
  show _ = (((if x < y then 1 else 0 : Nat)) : Int)
  by_cases h : x < y <;> simp [h]
theorem int_same (m x y : Nat) : (if decide ((x : Int) = y) = true then (1 : Int) else 0) = ((Op.v m .same x y : Nat) : Int) := by
  show _ = (((if x = y then 1 else 0 : Nat)) : Int)
  by_cases h : x = y
  · simp [h]
  · have h' : ¬ ((x : Int) = y) := by omega
    simp [h, h']
end Dk
end
section
set_option Elab.async false
set_option linter.all false
set_option maxRecDepth 100000
/-! Runs of programs. -/
namespace Dk
open PySem PySem.Spec PyProof.Rows L2 Pk
inductive Wy where
  | place (row : Nat) (st : List Nat)
  | gives (n : Nat)
  | nothing
  deriving DecidableEq
def Wy.d : Wy → PyData
  | .place row st => .tuple [.int row, stD st]
  | .gives n => .tuple [.str "gives", .int n]
  | .nothing => .tuple [.str "nothing"]
def Wy.isPl : Wy → Bool
  | .place _ _ => true | _ => false
def poe (p : Pg) (row : Nat) (st : List Nat) : Wy := if p.rows.length ≤ row then .nothing else .place row st
def put (bs : List Str) (st : List Nat) (x : Str) (n : Nat) : List Nat := st.set (bs.idxOf x) n
theorem put_ok {m : Nat} {bs : List Str} {st : List Nat} {x : Str} {n : Nat} (h : StOk m bs st) (hn : n < m) : StOk m bs (put bs st x n) := ⟨by simp [put, h.len], fun k hk => by
  rcases List.mem_or_eq_of_mem_set hk with z | z
  · exact h.lt k z
  · rw [z]; exact hn⟩
def tv (p : Pg) (st : List Nat) (t : Th) : Nat := t.v p.m p.bs st
def nxt (p : Pg) (row : Nat) (st : List Nat) : Rw → List Wy
  | .set x t => [poe p (row + 1) (put p.bs st x (tv p st t))]
  | .pick x ts => ts.map fun t => poe p (row + 1) (put p.bs st x (tv p st t))
  | .need t => if tv p st t = 0 then [.nothing] else [poe p (row + 1) st]
  | .skip t k => [poe p (row + 1 + if tv p st t = 0 then 0 else k) st]
  | .give t => [.gives (tv p st t)]
def ways (p : Pg) (row : Nat) (st : List Nat) : List Wy := match p.rows[row]? with
  | some r => nxt p row st r
  | none => []
def isPickAt (p : Pg) (row : Nat) : Bool := match p.rows[row]? with
  | some r => r.isPick
  | none => false
theorem ways_at {p : Pg} {row : Nat} {st : List Nat} {r : Rw} (h : p.rows[row]? = some r) : ways p row st = nxt p row st r := by unfold ways; rw [h]
theorem pick_at {p : Pg} {row : Nat} {r : Rw} (h : p.rows[row]? = some r) : isPickAt p row = r.isPick := by unfold isPickAt; rw [h]
/-- a way of the program -/
def WyOk (p : Pg) : Wy → Prop
  | .place row st => row < p.rows.length ∧ StOk p.m p.bs st
  | .gives n => n < p.m
  | .nothing => True
theorem poe_ok {p : Pg} {row : Nat} {st : List Nat} (h : StOk p.m p.bs st) : WyOk p (poe p row st) := by
  unfold poe
  split
  · exact True.intro
  · exact ⟨by omega, h⟩
/-- further on than row -/
def past (row : Nat) : Wy → Prop
  | .place r _ => row < r
  | _ => True
theorem poe_past {p : Pg} {row k : Nat} {st : List Nat} (h : row < k) : past row (poe p k st) := by
  unfold poe
  split
  · exact True.intro
  · exact h
theorem tv_lt {p : Pg} (hp : p.Ok) {st : List Nat} (hs : StOk p.m p.bs st) {n : Nat} {t : Th} (ht : t.Ok p.m p.bs n) : tv p st t < p.m := Th.v_lt hp.m2 hs ht
theorem nxt_ok {p : Pg} (hp : p.Ok) {row : Nat} {st : List Nat} (hs : StOk p.m p.bs st) {r : Rw} (hr : r.Ok p.m p.bs) : ∀ w ∈ nxt p row st r, WyOk p w ∧ past row w := fun w hw => by
  cases r with
  | set x t =>
    simp only [nxt, List.mem_singleton] at hw
    rw [hw]
    exact ⟨poe_ok (put_ok hs (tv_lt hp hs hr.2)), poe_past (by omega)⟩
  | pick x ts =>
    simp only [nxt] at hw
    obtain ⟨t, ht, rfl⟩ := List.mem_map.mp hw
    exact ⟨poe_ok (put_ok hs (tv_lt hp hs (hr.2.2.2 t ht))), poe_past (by omega)⟩
  | need t =>
    simp only [nxt] at hw
    split at hw
    · simp at hw; rw [hw]; exact ⟨True.intro, True.intro⟩
    · simp at hw; rw [hw]; exact ⟨poe_ok hs, poe_past (by omega)⟩
  | skip t k =>
    simp only [nxt, List.mem_singleton] at hw
    rw [hw]
    exact ⟨poe_ok hs, poe_past (by omega)⟩
  | give t =>
    simp only [nxt, List.mem_singleton] at hw
    rw [hw]
    exact ⟨tv_lt hp hs hr, True.intro⟩
theorem ways_ok {p : Pg} (hp : p.Ok) {row : Nat} {st : List Nat} (hs : StOk p.m p.bs st) : ∀ w ∈ ways p row st, WyOk p w ∧ past row w := fun w hw => by
  cases h : p.rows[row]? with
  | none => unfold ways at hw; rw [h] at hw; cases hw
  | some r => rw [ways_at h] at hw; exact nxt_ok hp hs (hp.rows r (List.mem_of_getElem? h)) w hw
theorem ways_one {p : Pg} {row : Nat} {st : List Nat} (h : row < p.rows.length) (hn : isPickAt p row = false) : ∃ w, ways p row st = [w] := by
  have e : p.rows[row]? = some p.rows[row] := by simp [h]
  rw [pick_at e] at hn
  rw [ways_at e]
  cases hr : p.rows[row] with
  | set x t => exact ⟨_, rfl⟩
  | pick x ts => rw [hr] at hn; cases hn
  | need t =>
    simp only [nxt]
    split
    · exact ⟨_, rfl⟩
    · exact ⟨_, rfl⟩
  | skip t k => exact ⟨_, rfl⟩
  | give t => exact ⟨_, rfl⟩
/-- the run from a way that makes just these choices comes to this end -/
inductive Goes (p : Pg) : Wy → List Nat → Wy → Prop
  | fin {e : Wy} : e.isPl = false → Goes p e [] e
  | step {row : Nat} {st cs : List Nat} {w e : Wy} : isPickAt p row = false → ways p row st = [w] → Goes p w cs e → Goes p (.place row st) cs e
  | pick {row c : Nat} {st cs : List Nat} {w e : Wy} : isPickAt p row = true → (ways p row st)[c]? = some w → Goes p w cs e → Goes p (.place row st) (c :: cs) e
theorem Goes.end {p : Pg} {w e : Wy} {cs : List Nat} (h : Goes p w cs e) : e.isPl = false := by
  induction h with
  | fin h => exact h
  | step _ _ _ ih => exact ih
  | pick _ _ _ ih => exact ih
/-- its row; an end has the bound -/
def Wy.rowN : Wy → Nat
  | .place r _ => r | _ => 30
theorem past_le {p : Pg} (hp : p.Ok) {row : Nat} (hr : row < p.rows.length) {w : Wy} (h : past row w) : row + 1 ≤ w.rowN := by
  have := hp.r30
  cases w with
  | place r s => exact h
  | gives n => show row + 1 ≤ 30; omega
  | nothing => show row + 1 ≤ 30; omega
theorem Goes.len {p : Pg} (hp : p.Ok) {w e : Wy} {cs : List Nat} (h : Goes p w cs e) : WyOk p w → cs.length + w.rowN ≤ 30 := by
  have h30 := hp.r30
  induction h with
  | fin h =>
    intro hw
    rename_i e
    clear hw
    cases e with
    | place r s => cases h
    | gives n => exact Nat.le_refl _
    | nothing => exact Nat.le_refl _
  | step h1 h2 h3 ih =>
    intro hw
    rename_i row st cs w e
    have hm := ways_ok hp hw.2 w (by rw [h2]; exact List.mem_singleton.mpr rfl)
    have := ih hm.1
    have := past_le hp hw.1 hm.2
    show cs.length + row ≤ 30
    omega
  | pick h1 h2 h3 ih =>
    intro hw
    rename_i row c st cs w e
    have hm := ways_ok hp hw.2 w (List.mem_of_getElem? h2)
    have := ih hm.1
    have := past_le hp hw.1 hm.2
    show (c :: cs).length + row ≤ 30
    rw [List.length_cons]
    omega
/-! ### data of ways -/
theorem Wy.sh {w : Wy} : SeqAt.shaped w.d = true := by
  refine sh_of (n := 2) ?_ (by decide)
  cases w with
  | place row st =>
    intro x hx
    simp at hx
    rcases hx with rfl | rfl
    · exact dep_int
    · intro y hy
      obtain ⟨n, _, rfl⟩ := List.mem_map.mp hy
      exact dep_int
  | gives n =>
    intro x hx
    simp at hx
    rcases hx with rfl | rfl
    · exact dep_str (ok_w (by simp))
    · exact dep_int
  | nothing =>
    intro x hx
    simp at hx
    subst hx
    exact dep_str (ok_w (by simp))
theorem st_nb (st : List Nat) : NB (stD st) := .tup fun y hy => by
  obtain ⟨n, _, rfl⟩ := List.mem_map.mp hy
  exact .int _
theorem st_sh (st : List Nat) : SeqAt.shaped (stD st) = true := by
  refine sh_of (n := 1) (fun y hy => ?_) (by decide)
  obtain ⟨n, _, rfl⟩ := List.mem_map.mp hy
  exact dep_int
theorem Wy.nb (w : Wy) : NB w.d := by
  cases w with
  | place row st =>
    refine .tup fun x hx => ?_
    simp at hx
    rcases hx with rfl | rfl
    · exact .int _
    · exact st_nb st
  | gives n =>
    refine .tup fun x hx => ?_
    simp at hx
    rcases hx with rfl | rfl
    · exact .str _
    · exact .int _
  | nothing =>
    refine .tup fun x hx => ?_
    simp at hx
    subst hx
    exact .str _
theorem Wy.lf (w : Wy) : Pk.lf w.d = true := by
  cases w with
  | place row st =>
    show Pk.lfA [.int row, stD st] = true
    simp only [Pk.lfA, st_lf, Bool.and_true]
    rfl
  | gives n => rfl
  | nothing => rfl
abbrev natsD (ns : List Nat) : PyData := .list (ns.map fun (n : Nat) => PyData.int n)
theorem nats_sh (ns : List Nat) : SeqAt.shaped (natsD ns) = true := by
  refine sh_of (n := 1) (fun y hy => ?_) (by decide)
  obtain ⟨n, _, rfl⟩ := List.mem_map.mp hy
  exact dep_int
theorem nats_nb (ns : List Nat) : NB (natsD ns) := .lst fun y hy => by
  obtain ⟨n, _, rfl⟩ := List.mem_map.mp hy
  exact .int _
/-! ### a store with another number, two ways -/
theorem put_cut {st : List Nat} {i n : Nat} (h : i < st.length) : st.take i ++ ([n] ++ st.drop (i + 1)) = st.set i n := by
  rw [List.set_eq_take_append_cons_drop, if_pos h]
  rfl
theorem put_zip : ∀ {bs : List Str} {st : List Nat} {x : Str} {n : Nat}, bs.Nodup → st.length = bs.length → x ∈ bs → List.zipWith (fun (b : Str) (k : Nat) => if b = x then n else k) bs st = st.set (bs.idxOf x) n
  | [], _, _, _, _, _, h => by cases h
  | b :: bs, [], _, _, _, h, _ => by simp at h
  | b :: bs, k :: st, x, n, nd, hl, hx => by
    obtain ⟨h1, h2⟩ := List.nodup_cons.mp nd
    by_cases e : b = x
    · subst e
      have hrest : ∀ (cs : List Str) (ss : List Nat), b ∉ cs → cs.length = ss.length → List.zipWith (fun (c : Str) (k : Nat) => if c = b then n else k) cs ss = ss := by
        intro cs
        induction cs with
        | nil => intro ss _ h; cases ss with
          | nil => rfl
          | cons _ _ => simp at h
        | cons c cs ih =>
          intro ss hc h
          cases ss with
          | nil => simp at h
          | cons s ss =>
            have hne : c ≠ b := fun z => hc (by rw [z]; exact List.mem_cons_self)
            rw [List.zipWith_cons_cons, if_neg hne, ih ss (fun z => hc (List.mem_cons_of_mem _ z)) (by simpa using h)]
      rw [List.zipWith_cons_cons, if_pos rfl, List.idxOf_cons_self, hrest bs st h1 (by simpa using hl.symm)]
      rfl
    · have hx' : x ∈ bs := by
        rcases List.mem_cons.mp hx with z | z
        · exact absurd z.symm e
        · exact z
      have e' : (b == x) = false := by simp [e]
      rw [List.zipWith_cons_cons, if_neg e, List.idxOf_cons, e', put_zip h2 (by simpa using hl) hx']
      rfl
/-! ### kinds of rows -/
inductive Kd where
  | set | pick | need | skip | give
  deriving DecidableEq
def Kd.w : Kd → Str
  | .set => "set" | .pick => "pick" | .need => "need" | .skip => "skip" | .give => "give"
theorem kd_tab : ∀ o ∈ [Kd.set, .pick, .need, .skip, .give], ∀ u ∈ [Kd.set, .pick, .need, .skip, .give], decide (o.w = u.w) = decide (o = u) := by decide +kernel
theorem kd_mem (o : Kd) : o ∈ [Kd.set, .pick, .need, .skip, .give] := by cases o <;> simp
theorem Kd.eqW (o u : Kd) : PyData.eqv (.str o.w) (.str u.w) = decide (o = u) := by rw [eqv_str]; exact kd_tab o (kd_mem o) u (kd_mem u)
theorem kd_okt : ∀ o ∈ [Kd.set, .pick, .need, .skip, .give], PyData.strOk o.w = true := by decide +kernel
theorem Kd.ok (o : Kd) : PyData.strOk o.w = true := kd_okt o (kd_mem o)
def Rw.kd : Rw → Kd
  | .set _ _ => .set | .pick _ _ => .pick | .need _ => .need | .skip _ _ => .skip | .give _ => .give
section
variable {K : PySem.W.Frag} {m : Bool} {Γ : List Sl} {Q : PyData → Prop}
theorem rd_w {a b : Kd} (q : Q (.bool (decide (a = b)))) : RD K m Γ (dEq K) (.str a.w) (.str b.w) Q := rd_eq (sh_str a.ok) (sh_str b.ok) (by rw [Kd.eqW]; exact q)
theorem rd_rk {r : Rw} (q : Q (.str r.kd.w)) : RD K m Γ (rIx K) r.d (.int 0) Q := by cases r <;> exact rd_ixT rfl q
theorem rd_w0 {w : Wy} (q : Q (if w.isPl then .int w.rowN else .str (match w with | .gives _ => "gives" | _ => "nothing"))) : RD K m Γ (rIx K) w.d (.int 0) Q := by cases w <;> exact rd_ixT rfl q
theorem rd_row {p : Pg} {row : Nat} {r : Rw} (h : p.rows[row]? = some r) (q : Q r.d) : RD K m Γ (rIx K) (.list (p.rows.map Rw.d)) (.int row) Q := rd_selN row rfl (by rw [List.getElem?_map, h]; rfl) q
end
theorem cut_take {α : Type} {xs : List α} {i : Nat} (h : i ≤ xs.length) : Pk.cutD xs none (some (i : Int)) = xs.take i := by
  have h0 : ¬ ((i : Int) < 0) := by omega
  have h1 : min i xs.length = i := by omega
  simp [Pk.cutD, HT.sIx, h0, h1]
theorem cut_drop {α : Type} {xs : List α} {i : Nat} (h : i ≤ xs.length) : Pk.cutD xs (some (i : Int)) none = xs.drop i := by
  have h0 : ¬ ((i : Int) < 0) := by omega
  have h1 : min i xs.length = i := by omega
  simp only [Pk.cutD, HT.sIx, h0, if_false, Int.toNat_natCast, h1]
  rw [List.take_of_length_le (by simp)]
theorem put_data {st : List Nat} {i n : Nat} (h : i < st.length) : Pk.cutD (st.map fun (k : Nat) => PyData.int k) none (some (i : Int)) ++ [PyData.int n] ++ Pk.cutD (st.map fun (k : Nat) => PyData.int k) (some (i + 1 : Nat)) none = (st.set i n).map fun (k : Nat) => PyData.int k := by
  rw [cut_take (by simp; omega), cut_drop (by simp; omega), ← put_cut h]
  simp
/-- rows that are no picks, gone on -/
inductive Stp (p : Pg) : Wy → Wy → Prop
  | rfl {w : Wy} : Stp p w w
  | step {row : Nat} {st : List Nat} {w z : Wy} : isPickAt p row = false → ways p row st = [w] → Stp p w z → Stp p (.place row st) z
theorem Stp.goes {p : Pg} {w z e : Wy} {cs : List Nat} (h : Stp p w z) : Goes p z cs e → Goes p w cs e := by
  induction h with
  | rfl => exact id
  | step h1 h2 _ ih => exact fun g => .step h1 h2 (ih g)
/-- gone on to a pick, or to an end -/
def TP (p : Pg) (lo : Nat) (w : Wy) (row' : Nat) (st' : List Nat) : Option Wy → Prop
  | none => lo ≤ row' ∧ row' < p.rows.length ∧ isPickAt p row' = true ∧ StOk p.m p.bs st' ∧ Stp p w (.place row' st')
  | some e => e.isPl = false ∧ WyOk p e ∧ Stp p w e
def oD : Option Wy → PyData
  | none => .none
  | some e => e.d
theorem oD_lf (o : Option Wy) : Pk.lf (oD o) = true := by
  cases o with
  | none => rfl
  | some e => exact e.lf
theorem poe_end {p : Pg} {row : Nat} {st : List Nat} (h : p.rows.length ≤ row) : poe p row st = .nothing := by unfold poe; rw [if_pos h]
theorem poe_pl {p : Pg} {row : Nat} {st : List Nat} (h : row < p.rows.length) : poe p row st = .place row st := by unfold poe; rw [if_neg (by omega)]
/-- a row that is no pick leads on -/
theorem goes_step {p : Pg} {row : Nat} {st cs : List Nat} {r : Rw} {w e : Wy} (hr : p.rows[row]? = some r) (hn : r.isPick = false) (hw : nxt p row st r = [w]) (h : Goes p w cs e) : Goes p (poe p row st) cs e := by
  rw [poe_pl (List.getElem?_eq_some_iff.mp hr).1]
  exact .step (by rw [pick_at hr]; exact hn) (by rw [ways_at hr]; exact hw) h
theorem st_step {p : Pg} {row : Nat} {st : List Nat} {r : Rw} {w z : Wy} (hr : p.rows[row]? = some r) (hn : r.isPick = false) (hw : nxt p row st r = [w]) (h : Stp p w z) : Stp p (poe p row st) z := by
  rw [poe_pl (List.getElem?_eq_some_iff.mp hr).1]
  exact .step (by rw [pick_at hr]; exact hn) (by rw [ways_at hr]; exact hw) h
theorem rowN_le {p : Pg} (hp : p.Ok) {w : Wy} (h : WyOk p w) : w.rowN ≤ 30 := by
  have := hp.r30
  cases w with
  | place r s => exact Nat.le_of_lt (Nat.lt_of_lt_of_le h.1 this)
  | gives n => exact Nat.le_refl _
  | nothing => exact Nat.le_refl _
end Dk
end
section
set_option Elab.async false
set_option linter.all false
set_option maxRecDepth 100000
/-! A row put in. -/
namespace Dk
open PySem PySem.Spec PyProof.Rows L2 Pk
def shiftR (at_ k : Nat) : Rw → Rw
  | .skip t j => if k < at_ ∧ at_ ≤ k + j then .skip t (j + 1) else .skip t j
  | r => r
structure Ins (p q : Pg) (at_ : Nat) (r : Rw) : Prop where
  m : q.m = p.m
  bs : q.bs = p.bs
  len : q.rows.length = p.rows.length + 1
  le : at_ ≤ p.rows.length
  lo : ∀ j r0, j < at_ → p.rows[j]? = some r0 → q.rows[j]? = some (shiftR at_ j r0)
  mid : q.rows[at_]? = some r
  hi : ∀ j, at_ ≤ j → q.rows[j + 1]? = p.rows[j]?
def lift (at_ : Nat) : Wy → Wy
  | .place row st => .place (if row < at_ then row else row + 1) st
  | w => w
theorem shiftR_skip (a row : Nat) (t : Th) (j : Nat) : shiftR a row (.skip t j) = if row < a ∧ a ≤ row + j then .skip t (j + 1) else .skip t j := rfl
theorem tv_ins {p q : Pg} {a : Nat} {r : Rw} (h : Ins p q a r) (st : List Nat) (t : Th) : tv q st t = tv p st t := by unfold tv; rw [h.m, h.bs]
/-- behind the row put in: one on -/
theorem lift_hi {p q : Pg} {a j : Nat} {r : Rw} (h : Ins p q a r) (st : List Nat) (hj : a ≤ j) : lift a (poe p j st) = poe q (j + 1) st := by
  unfold poe
  rw [h.len]
  by_cases hl : p.rows.length ≤ j
  · rw [if_pos hl, if_pos (by omega)]; rfl
  · rw [if_neg hl, if_neg (by omega)]
    show Wy.place (if j < a then j else j + 1) st = _
    rw [if_neg (by omega)]
/-- the row put in does nothing -/
def Idle (q : Pg) (a : Nat) (r : Rw) : Prop := r.isPick = false ∧ ∀ st, StOk q.m q.bs st → nxt q a st r = [poe q (a + 1) st]
theorem lift_lo {p q : Pg} {a j : Nat} {r : Rw} (h : Ins p q a r) (hi : Idle q a r) {st cs : List Nat} {e : Wy} (hs : StOk q.m q.bs st) (hj : j ≤ a) (g : Goes q (lift a (poe p j st)) cs e) : Goes q (poe q j st) cs e := by
  by_cases hja : j < a
  · have hl := h.le
    rw [poe_pl (by omega)] at g
    have e1 : lift a (.place j st) = .place j st := by
      show Wy.place (if j < a then j else j + 1) st = _
      rw [if_pos hja]
    rw [e1] at g
    rw [poe_pl (by rw [h.len]; omega)]
    exact g
  · have : j = a := by omega
    subst this
    rw [lift_hi h st (Nat.le_refl _)] at g
    exact goes_step h.mid hi.1 (hi.2 st hs) g
theorem ws_ok {p : Pg} {row : Nat} (hl : row < p.rows.length) : p.rows[row]? = some p.rows[row] := by simp [hl]
/-- what comes next, in both -/
theorem nxt_ins {p q : Pg} {a row : Nat} {r r0 : Rw} (h : Ins p q a r) (hid : a = 0 ∨ Idle q a r) (st : List Nat) (hr : p.rows[row]? = some r0) (hok : r0.Ok p.m p.bs) (hp : p.Ok) (hs : StOk p.m p.bs st) :
    ∃ r1, q.rows[if row < a then row else row + 1]? = some r1 ∧ r1.isPick = r0.isPick ∧ ∀ (c : Nat) (w : Wy), (nxt p row st r0)[c]? = some w → ∃ w', (nxt q (if row < a then row else row + 1) st r1)[c]? = some w' ∧ ∀ cs e, Goes q (lift a w) cs e → Goes q w' cs e := by
  have hqs : ∀ {s : List Nat}, StOk p.m p.bs s → StOk q.m q.bs s := fun {s} z => by rw [h.m, h.bs]; exact z
  by_cases hra : row < a
  · rw [if_pos hra]
    have hid' : Idle q a r := by
      rcases hid with z | z
      · omega
      · exact z
    refine ⟨shiftR a row r0, h.lo row r0 hra hr, ?_, ?_⟩
    · cases r0 with
      | skip t j => rw [shiftR_skip]; split <;> rfl
      | _ => rfl
    · intro c w hw
      have on : ∀ {s : List Nat}, StOk p.m p.bs s → ∀ cs e, Goes q (lift a (poe p (row + 1) s)) cs e → Goes q (poe q (row + 1) s) cs e := fun {s} hs cs e g => lift_lo h hid' (hqs hs) (by omega) g
      cases r0 with
      | set x t =>
        have e1 : nxt q row st (shiftR a row (.set x t)) = [poe q (row + 1) (put p.bs st x (tv p st t))] := by simp only [shiftR, nxt, tv_ins h, h.bs]
        rw [e1]
        simp only [nxt] at hw
        cases c with
        | zero =>
          simp at hw
          subst hw
          exact ⟨_, rfl, on (put_ok hs (tv_lt hp hs hok.2))⟩
        | succ c => simp at hw
      | pick x ts =>
        have e1 : nxt q row st (shiftR a row (.pick x ts)) = ts.map fun t => poe q (row + 1) (put p.bs st x (tv p st t)) := by simp only [shiftR, nxt, tv_ins h, h.bs]
        rw [e1]
        simp only [nxt, List.getElem?_map] at hw
        cases ht : ts[c]? with
        | none => rw [ht] at hw; cases hw
        | some t =>
          rw [ht] at hw
          cases hw
          exact ⟨_, by rw [List.getElem?_map, ht]; rfl, on (put_ok hs (tv_lt hp hs (hok.2.2.2 t (List.mem_of_getElem? ht))))⟩
      | need t =>
        have e1 : nxt q row st (shiftR a row (.need t)) = if tv p st t = 0 then [.nothing] else [poe q (row + 1) st] := by simp only [shiftR, nxt, tv_ins h]
        rw [e1]
        simp only [nxt] at hw
        by_cases h0 : tv p st t = 0
        · rw [if_pos h0] at hw ⊢
          cases c with
          | zero => simp at hw; subst hw; exact ⟨_, rfl, fun cs e g => g⟩
          | succ c => simp at hw
        · rw [if_neg h0] at hw ⊢
          cases c with
          | zero => simp at hw; subst hw; exact ⟨_, rfl, on hs⟩
          | succ c => simp at hw
      | give t =>
        have e1 : nxt q row st (shiftR a row (.give t)) = [.gives (tv p st t)] := by simp only [shiftR, nxt, tv_ins h]
        rw [e1]
        simp only [nxt] at hw
        cases c with
        | zero => simp at hw; subst hw; exact ⟨_, rfl, fun cs e g => g⟩
        | succ c => simp at hw
      | skip t j =>
        simp only [nxt] at hw
        cases c with
        | succ c => simp at hw
        | zero =>
          simp at hw
          subst hw
          rw [shiftR_skip]
          by_cases hsk : row < a ∧ a ≤ row + j
          · rw [if_pos hsk]
            simp only [nxt, tv_ins h]
            refine ⟨_, rfl, fun cs e g => ?_⟩
            by_cases h0 : tv p st t = 0
            · rw [if_pos h0] at g ⊢
              exact lift_lo h hid' (hqs hs) (by omega) g
            · rw [if_neg h0] at g ⊢
              rw [lift_hi h st (by omega)] at g
              exact g
          · rw [if_neg hsk]
            simp only [nxt, tv_ins h]
            refine ⟨_, rfl, fun cs e g => ?_⟩
            by_cases h0 : tv p st t = 0
            · rw [if_pos h0] at g ⊢
              exact lift_lo h hid' (hqs hs) (by omega) g
            · rw [if_neg h0] at g ⊢
              exact lift_lo h hid' (hqs hs) (by omega) g
  · rw [if_neg hra]
    refine ⟨r0, by rw [h.hi row (by omega)]; exact hr, rfl, ?_⟩
    have on : ∀ (s : List Nat) (j : Nat), row < j → lift a (poe p j s) = poe q (j + 1) s := fun s j hj => lift_hi h s (by omega)
    intro c w hw
    cases r0 with
    | set x t =>
      simp only [nxt] at hw ⊢
      cases c with
      | zero =>
        simp at hw
        subst hw
        refine ⟨_, rfl, fun cs e g => ?_⟩
        rw [on _ _ (by omega)] at g
        rw [tv_ins h, h.bs]
        exact g
      | succ c => simp at hw
    | pick x ts =>
      simp only [nxt, List.getElem?_map] at hw ⊢
      cases ht : ts[c]? with
      | none => rw [ht] at hw; cases hw
      | some t =>
        rw [ht] at hw
        cases hw
        refine ⟨_, rfl, fun cs e g => ?_⟩
        rw [on _ _ (by omega)] at g
        show Goes q (poe q (row + 1 + 1) (put q.bs st x (tv q st t))) cs e
        rw [tv_ins h, h.bs]
        exact g
    | need t =>
      simp only [nxt, tv_ins h] at hw ⊢
      by_cases h0 : tv p st t = 0
      · rw [if_pos h0] at hw ⊢
        cases c with
        | zero => simp at hw; subst hw; exact ⟨_, rfl, fun cs e g => g⟩
        | succ c => simp at hw
      · rw [if_neg h0] at hw ⊢
        cases c with
        | zero =>
          simp at hw
          subst hw
          refine ⟨_, rfl, fun cs e g => ?_⟩
          rw [on _ _ (by omega)] at g
          exact g
        | succ c => simp at hw
    | give t =>
      simp only [nxt, tv_ins h] at hw ⊢
      cases c with
      | zero => simp at hw; subst hw; exact ⟨_, rfl, fun cs e g => g⟩
      | succ c => simp at hw
    | skip t j =>
      simp only [nxt, tv_ins h] at hw ⊢
      cases c with
      | zero =>
        simp at hw
        subst hw
        refine ⟨_, rfl, fun cs e g => ?_⟩
        rw [on _ _ (by omega)] at g
        have e1 : row + 1 + 1 + (if tv p st t = 0 then 0 else j) = row + 1 + (if tv p st t = 0 then 0 else j) + 1 := by omega
        rw [e1]
        exact g
      | succ c => simp at hw
/-- runs go as before -/
theorem goes_ins {p q : Pg} {a : Nat} {r : Rw} (h : Ins p q a r) (hid : a = 0 ∨ Idle q a r) (hp : p.Ok) {w e : Wy} {cs : List Nat} (g : Goes p w cs e) : WyOk p w → Goes q (lift a w) cs e := by
  induction g with
  | fin hf =>
    rename_i e
    intro _
    have : lift a e = e := by
      cases e with
      | place r s => cases hf
      | _ => rfl
    rw [this]
    exact .fin hf
  | step h1 h2 h3 ih =>
    rename_i row st cs w e
    intro hw
    have hr := ws_ok hw.1
    rw [ways_at hr] at h2
    rw [pick_at hr] at h1
    have hok := hp.rows _ (List.mem_of_getElem? hr)
    obtain ⟨r1, a1, a2, a3⟩ := nxt_ins h hid st hr hok hp hw.2
    obtain ⟨w', b1, b2⟩ := a3 0 w (by rw [h2]; rfl)
    have hwo := (nxt_ok hp hw.2 hok w (by rw [h2]; exact List.mem_singleton.mpr rfl)).1
    have g' := b2 cs e (ih hwo)
    have hq : (if row < a then row else row + 1) < q.rows.length := (List.getElem?_eq_some_iff.mp a1).1
    have hnp : isPickAt q (if row < a then row else row + 1) = false := by rw [pick_at a1, a2]; exact h1
    obtain ⟨w2, hw2⟩ := ways_one (st := st) hq hnp
    have e2 : w2 = w' := by
      rw [ways_at a1] at hw2
      rw [hw2] at b1
      simpa using b1
    subst e2
    exact .step hnp hw2 g'
  | pick h1 h2 h3 ih =>
    rename_i row c st cs w e
    intro hw
    have hr := ws_ok hw.1
    rw [ways_at hr] at h2
    rw [pick_at hr] at h1
    have hok := hp.rows _ (List.mem_of_getElem? hr)
    obtain ⟨r1, a1, a2, a3⟩ := nxt_ins h hid st hr hok hp hw.2
    obtain ⟨w', b1, b2⟩ := a3 c w h2
    have hwo := (nxt_ok hp hw.2 hok w (List.mem_of_getElem? h2)).1
    exact .pick (by rw [pick_at a1, a2]; exact h1) (by rw [ways_at a1]; exact b1) (b2 cs e (ih hwo))
/-- from the first row on, with a row that does nothing put in -/
theorem goes_idle {p q : Pg} {a : Nat} {r : Rw} (h : Ins p q a r) (hid : Idle q a r) (hp : p.Ok) {st cs : List Nat} {e : Wy} (hs : StOk p.m p.bs st) (g : Goes p (poe p 0 st) cs e) : Goes q (poe q 0 st) cs e :=
  lift_lo h hid (by rw [h.m, h.bs]; exact hs) (Nat.zero_le _) (goes_ins h (.inr hid) hp g (poe_ok hs))
/-- with a row ahead -/
def hd1 (p : Pg) (r : Rw) : Pg := ⟨p.m, p.bs, r :: p.rows⟩
theorem ins0 (p : Pg) (r : Rw) : Ins p (hd1 p r) 0 r := ⟨rfl, rfl, rfl, Nat.zero_le _, fun j r0 h => by omega, rfl, fun j _ => rfl⟩
theorem goes_hd {p : Pg} {r : Rw} (hp : p.Ok) {st cs : List Nat} {e : Wy} (hs : StOk p.m p.bs st) (g : Goes p (poe p 0 st) cs e) : Goes (hd1 p r) (poe (hd1 p r) 1 st) cs e := by
  have := goes_ins (ins0 p r) (.inl rfl) hp g (poe_ok hs)
  rw [lift_hi (ins0 p r) st (Nat.le_refl _)] at this
  exact this
/-! the rows of _law_with -/
def insP (p : Pg) (a : Nat) (r : Rw) : Pg := ⟨p.m, p.bs, (p.rows.mapIdx (shiftR a)).take a ++ ([r] ++ (p.rows.mapIdx (shiftR a)).drop a)⟩
theorem ins_insP {p : Pg} {a : Nat} {r : Rw} (h : a ≤ p.rows.length) : Ins p (insP p a r) a r := by
  have hl : ((p.rows.mapIdx (shiftR a)).take a).length = a := by simp; omega
  refine ⟨rfl, rfl, ?_, h, fun j r0 hj hr => ?_, ?_, fun j hj => ?_⟩
  · show ((p.rows.mapIdx (shiftR a)).take a ++ ([r] ++ (p.rows.mapIdx (shiftR a)).drop a)).length = _
    simp
    omega
  · show ((p.rows.mapIdx (shiftR a)).take a ++ ([r] ++ (p.rows.mapIdx (shiftR a)).drop a))[j]? = _
    rw [List.getElem?_append_left (by omega), List.getElem?_take, if_pos hj, List.getElem?_mapIdx, hr]
    rfl
  · show ((p.rows.mapIdx (shiftR a)).take a ++ ([r] ++ (p.rows.mapIdx (shiftR a)).drop a))[a]? = _
    rw [List.getElem?_append_right (by omega), hl]
    simp
  · show ((p.rows.mapIdx (shiftR a)).take a ++ ([r] ++ (p.rows.mapIdx (shiftR a)).drop a))[j + 1]? = _
    rw [List.getElem?_append_right (by omega), hl]
    have e : j + 1 - a = (j - a) + 1 := by omega
    rw [e]
    simp only [List.singleton_append, List.getElem?_cons_succ, List.getElem?_drop, List.getElem?_mapIdx]
    have e2 : a + (j - a) = j := by omega
    rw [e2]
    cases hr : p.rows[j]? with
    | none => rfl
    | some r0 =>
      have : shiftR a j r0 = r0 := by
        cases r0 with
        | skip t k => rw [shiftR_skip, if_neg (by omega)]
        | _ => rfl
      rw [Option.map_some, this]
/-! nearly a program: skips to 31 -/
def Rw.Nr (m : Nat) (bs : List Str) : Rw → Prop
  | .skip t k => t.Ok m bs 4 ∧ 1 ≤ k ∧ k ≤ 31
  | r => r.Ok m bs
theorem Rw.Ok.nr {m : Nat} {bs : List Str} {r : Rw} (h : r.Ok m bs) : r.Nr m bs := by
  cases r with
  | skip t k => exact ⟨h.1, h.2.1, by have := h.2.2; omega⟩
  | _ => exact h
structure Pg.Nr (p : Pg) : Prop where
  mb : 2 ≤ p.m ∧ p.m ≤ 16 ∧ BsOk p.bs
  r31 : p.rows.length ≤ 31
  rows : ∀ r ∈ p.rows, r.Nr p.m p.bs
def Rw.skN : Rw → Option Nat
  | .skip _ k => some k | _ => none
def fitsB (p : Pg) : Bool := decide (p.rows.length < 31) && ((p.rows.filterMap Rw.skN).filter fun k => decide (30 < k)).isEmpty
theorem fits_ok {p : Pg} (h : p.Nr) (f : fitsB p = true) : p.Ok := by
  unfold fitsB at f
  simp only [Bool.and_eq_true, decide_eq_true_eq] at f
  obtain ⟨h1, h2⟩ := f
  refine ⟨h.mb.1, h.mb.2.1, h.mb.2.2, by omega, fun r hr => ?_⟩
  have hn := h.rows r hr
  cases r with
  | skip t k =>
    refine ⟨hn.1, hn.2.1, ?_⟩
    by_cases hk : k ≤ 30
    · exact hk
    · have : k ∈ (p.rows.filterMap Rw.skN).filter fun k => decide (30 < k) := List.mem_filter.mpr ⟨List.mem_filterMap.mpr ⟨_, hr, rfl⟩, by simp; omega⟩
      rw [List.isEmpty_iff.mp h2] at this
      cases this
  | _ => exact hn
theorem shift_nr {m : Nat} {bs : List Str} {a k : Nat} {r : Rw} (h : r.Ok m bs) : (shiftR a k r).Nr m bs := by
  cases r with
  | skip t j =>
    rw [shiftR_skip]
    have := h.2.2
    split
    · exact ⟨h.1, by omega, by omega⟩
    · exact ⟨h.1, h.2.1, by omega⟩
  | _ => exact h
theorem insP_nr {p : Pg} {a : Nat} {r : Rw} (hp : p.Ok) (hr : r.Ok p.m p.bs) (ha : a ≤ p.rows.length) : (insP p a r).Nr := by
  refine ⟨⟨hp.m2, hp.m16, hp.bs⟩, ?_, fun r0 h0 => ?_⟩
  · have := (ins_insP (r := r) ha).len
    have := hp.r30
    omega
  · have h0' : r0 ∈ (p.rows.mapIdx (shiftR a)).take a ++ ([r] ++ (p.rows.mapIdx (shiftR a)).drop a) := h0
    have shf : ∀ x ∈ p.rows.mapIdx (shiftR a), x.Nr p.m p.bs := fun x hx => by
      obtain ⟨i, hi⟩ := List.getElem?_of_mem hx
      rw [List.getElem?_mapIdx] at hi
      cases hq : p.rows[i]? with
      | none => rw [hq] at hi; cases hi
      | some y =>
        rw [hq] at hi
        cases hi
        exact shift_nr (hp.rows y (List.mem_of_getElem? hq))
    rcases List.mem_append.mp h0' with z | z
    · exact shf r0 (List.mem_of_mem_take z)
    · rcases List.mem_append.mp z with z | z
      · simp at z; rw [z]; exact hr.nr
      · exact shf r0 (List.mem_of_mem_drop z)
theorem hd1_nr {p : Pg} {r : Rw} (hp : p.Ok) (hr : r.Ok p.m p.bs) : (hd1 p r).Nr := by
  refine ⟨⟨hp.m2, hp.m16, hp.bs⟩, ?_, fun r0 h0 => ?_⟩
  · show p.rows.length + 1 ≤ 31
    have := hp.r30
    omega
  · rcases List.mem_cons.mp h0 with z | z
    · rw [z]; exact hr.nr
    · exact (hp.rows r0 z).nr
/-! rows that do nothing -/
theorem put_self {bs : List Str} {st : List Nat} {x : Str} {m : Nat} (h : StOk m bs st) (hx : x ∈ bs) : put bs st x (at_ bs st x) = st := by
  unfold put
  apply List.ext_getElem?
  intro j
  by_cases e : bs.idxOf x = j
  · subst e
    rw [List.getElem?_set_self (by rw [h.len]; exact idx_lt hx), at_get h hx]
  · rw [List.getElem?_set_ne e]
theorem idle_set {q : Pg} {a : Nat} {x : Str} (hx : x ∈ q.bs) : Idle q a (.set x (.box x)) := ⟨rfl, fun st hs => by
  show [poe q (a + 1) (put q.bs st x (at_ q.bs st x))] = _
  rw [put_self hs hx]⟩
theorem idle_need {q : Pg} {a n : Nat} (hn : n ≠ 0) : Idle q a (.need (.num n)) := ⟨rfl, fun st hs => by
  show (if n = 0 then [Wy.nothing] else [poe q (a + 1) st]) = _
  rw [if_neg hn]⟩
theorem idle_skip {q : Pg} {a k : Nat} : Idle q a (.skip (.num 0) k) := ⟨rfl, fun st hs => rfl⟩
end Dk
end
section
set_option Elab.async false
set_option linter.all false
set_option maxRecDepth 100000
/-! All runs, in order. -/
namespace Dk
open PySem PySem.Spec PyProof.Rows L2 Pk
def addC (k : Nat) (r : List Nat × Wy) : List Nat × Wy := (k :: r.1, r.2)
/-- the runs of many ways, the first one's choice k -/
def fan (f : Wy → List (List Nat × Wy)) : Nat → List Wy → List (List Nat × Wy)
  | _, [] => []
  | k, w :: ws => (f w).map (addC k) ++ fan f (k + 1) ws
def runs (p : Pg) : Nat → Wy → List (List Nat × Wy)
  | 0, w => [([], w)]
  | n + 1, .place row st => if isPickAt p row = true then fan (runs p n) 0 (ways p row st) else (ways p row st).flatMap (runs p n)
  | _ + 1, e => [([], e)]
def size (p : Pg) : Nat → Wy → Nat
  | 0, _ => 1
  | n + 1, .place row st => 1 + ((ways p row st).map (size p n)).sum
  | _ + 1, _ => 1
theorem runs_end {p : Pg} {w : Wy} (h : w.isPl = false) : ∀ n, runs p n w = [([], w)]
  | 0 => rfl
  | n + 1 => by
    cases w with
    | place r s => cases h
    | gives k => rfl
    | nothing => rfl
theorem size_pos (p : Pg) (w : Wy) : ∀ n, 1 ≤ size p n w
  | 0 => Nat.le_refl _
  | n + 1 => by
    cases w with
    | place r s => show 1 ≤ 1 + _; omega
    | gives k => exact Nat.le_refl _
    | nothing => exact Nat.le_refl _
/-- what waits: choices so far, the way, fuel -/
structure Wt where
  cs : List Nat
  w : Wy
  n : Nat
def Wt.d (t : Wt) : PyData := .tuple [natsD t.cs, t.w.d]
def runD (r : List Nat × Wy) : PyData := .tuple [natsD r.1, r.2.d]
def preC (cs : List Nat) (r : List Nat × Wy) : List Nat × Wy := (cs ++ r.1, r.2)
def Wt.all (p : Pg) (t : Wt) : List (List Nat × Wy) := (runs p t.n t.w).map (preC t.cs)
/-- what is still to come: the last one first -/
def toCome (p : Pg) : List Wt → List (List Nat × Wy)
  | [] => []
  | t :: ts => toCome p ts ++ t.all p
theorem toCome_app (p : Pg) : ∀ (xs ys : List Wt), toCome p (xs ++ ys) = toCome p ys ++ toCome p xs
  | [], ys => by simp [toCome]
  | x :: xs, ys => by
    show toCome p (xs ++ ys) ++ x.all p = toCome p ys ++ (toCome p xs ++ x.all p)
    rw [toCome_app p xs ys, List.append_assoc]
theorem toCome_one (p : Pg) (t : Wt) : toCome p [t] = t.all p := by simp [toCome]
/-- the ways of a pick put on, from the last one -/
def kids (cs : List Nat) (n : Nat) : Nat → List Wy → List Wt
  | _, [] => []
  | k, w :: ws => kids cs n (k + 1) ws ++ [⟨cs ++ [k], w, n⟩]
theorem kids_come (p : Pg) (cs : List Nat) (n : Nat) : ∀ (ws : List Wy) (k : Nat), toCome p (kids cs n k ws) = (fan (runs p n) k ws).map (preC cs)
  | [], k => rfl
  | w :: ws, k => by
    show toCome p (kids cs n (k + 1) ws ++ [⟨cs ++ [k], w, n⟩]) = ((runs p n w).map (addC k) ++ fan (runs p n) (k + 1) ws).map (preC cs)
    rw [toCome_app, toCome_one, kids_come p cs n ws (k + 1), List.map_append]
    congr 1
    show (runs p n w).map (preC (cs ++ [k])) = ((runs p n w).map (addC k)).map (preC cs)
    rw [List.map_map]
    apply List.map_congr_left
    intro r _
    simp [preC, addC]
theorem kids_get (cs : List Nat) (n : Nat) : ∀ (ws : List Wy) (k : Nat), kids cs n k ws = ((List.range ws.length).map fun i => (⟨cs ++ [k + (ws.length - 1 - i)], ws.getD (ws.length - 1 - i) .nothing, n⟩ : Wt))
  | [], k => rfl
  | w :: ws, k => by
    show kids cs n (k + 1) ws ++ [⟨cs ++ [k], w, n⟩] = _
    rw [kids_get cs n ws (k + 1), List.length_cons, List.range_succ, List.map_append]
    congr 1
    · apply List.map_congr_left
      intro i hi
      have := List.mem_range.mp hi
      have e1 : ws.length + 1 - 1 - i = (ws.length - 1 - i) + 1 := by omega
      rw [e1, List.getD_cons_succ]
      have e2 : k + 1 + (ws.length - 1 - i) = k + (ws.length - 1 - i + 1) := by omega
      rw [e2]
    · have e1 : ws.length + 1 - 1 - ws.length = 0 := by omega
      simp
theorem kids_len (cs : List Nat) (n k : Nat) (ws : List Wy) : (kids cs n k ws).length = ws.length := by rw [kids_get]; simp
/-- how much is still to do -/
def todo (p : Pg) (ts : List Wt) : Nat := (ts.map fun t => size p t.n t.w).sum
theorem todo_app (p : Pg) (xs ys : List Wt) : todo p (xs ++ ys) = todo p xs + todo p ys := by simp [todo]
theorem todo_kids (p : Pg) (cs : List Nat) (n : Nat) : ∀ (ws : List Wy) (k : Nat), todo p (kids cs n k ws) = (ws.map (size p n)).sum
  | [], k => rfl
  | w :: ws, k => by
    show todo p (kids cs n (k + 1) ws ++ [⟨cs ++ [k], w, n⟩]) = _
    rw [todo_app, todo_kids p cs n ws (k + 1)]
    simp [todo]
    omega
/-- what waits is fit: fuel enough, ways of the program, low in the pile -/
structure WtOk (p : Pg) (i : Nat) (t : Wt) : Prop where
  fuel : 30 ≤ t.n + t.w.rowN
  ok : WyOk p t.w
  low : i ≤ 4 * t.w.rowN
  len : t.cs.length ≤ t.w.rowN
def AllOk (p : Pg) (ts : List Wt) : Prop := ∀ i t, ts[i]? = some t → WtOk p i t
end Dk
end
section
set_option Elab.async false
set_option linter.all false
set_option maxRecDepth 100000
/-! How many runs there are. -/
namespace Dk
open PySem PySem.Spec PyProof.Rows L2 Pk
theorem iteP {α : Type} {b : Bool} {x y : α} (h : b = true) : (if b = true then x else y) = x := if_pos h
theorem iteQ {α : Type} {b : Bool} {x y : α} (h : b = false) : (if b = true then x else y) = y := by rw [h]; rfl
def sizeL : List Rw → Nat
  | [] => 1
  | .pick _ ts :: rs => ts.length * sizeL rs
  | _ :: rs => sizeL rs
theorem sizeL_app : ∀ (xs ys : List Rw), sizeL (xs ++ ys) = sizeL xs * sizeL ys
  | [], ys => by simp [sizeL]
  | .pick x ts :: xs, ys => by
    show ts.length * sizeL (xs ++ ys) = ts.length * sizeL xs * sizeL ys
    rw [sizeL_app xs ys, Nat.mul_assoc]
  | .set x t :: xs, ys => sizeL_app xs ys
  | .need t :: xs, ys => sizeL_app xs ys
  | .skip t k :: xs, ys => sizeL_app xs ys
  | .give t :: xs, ys => sizeL_app xs ys
/-- rows that go on to the next -/
inductive Ne : Rw → Prop
  | set (x : Str) (t : Th) : Ne (.set x t)
  | pick (x : Str) (ts : List Th) : Ne (.pick x ts)
  | need (n : Nat) (h : n ≠ 0) : Ne (.need (.num n))
  | skip (k : Nat) : Ne (.skip (.num 0) k)
theorem fan_len {f : Wy → List (List Nat × Wy)} {c : Nat} : ∀ {ws : List Wy} (k : Nat), (∀ w ∈ ws, (f w).length = c) → (fan f k ws).length = ws.length * c
  | [], k, _ => by simp [fan]
  | w :: ws, k, h => by
    show ((f w).map (addC k) ++ fan f (k + 1) ws).length = _
    rw [List.length_append, List.length_map, h w List.mem_cons_self, fan_len (k + 1) fun x hx => h x (List.mem_cons_of_mem _ hx), List.length_cons, Nat.add_mul, Nat.one_mul, Nat.add_comm]
theorem runs_len {p : Pg} : ∀ (n row : Nat) (st : List Nat), p.rows.length ≤ row + n → (∀ r ∈ p.rows.drop row, Ne r) → (runs p n (poe p row st)).length = sizeL (p.rows.drop row)
  | 0, row, st, h, _ => by
    rw [List.drop_eq_nil_of_le (by omega), poe_end (by omega)]
    rfl
  | n + 1, row, st, h, hne => by
    by_cases hl : row < p.rows.length
    · rw [poe_pl hl]
      have hd : p.rows.drop row = p.rows[row] :: p.rows.drop (row + 1) := List.drop_eq_getElem_cons hl
      have hr : p.rows[row]? = some p.rows[row] := by simp [hl]
      rw [hd] at hne ⊢
      have ih : ∀ s, (runs p n (poe p (row + 1) s)).length = sizeL (p.rows.drop (row + 1)) := fun s => runs_len n (row + 1) s (by omega) fun r hr => hne r (List.mem_cons_of_mem _ hr)
      have h0 := hne _ List.mem_cons_self
      generalize p.rows[row] = r at hr h0 ⊢
      show (if isPickAt p row = true then fan (runs p n) 0 (ways p row st) else (ways p row st).flatMap (runs p n)).length = _
      rw [pick_at hr, ways_at hr]
      cases h0 with
      | set x t =>
        rw [iteQ (b := (Rw.set x t).isPick) rfl]
        simp only [nxt, List.flatMap_singleton]
        exact ih _
      | need m hm =>
        rw [iteQ (b := (Rw.need (.num m)).isPick) rfl]
        simp only [nxt]
        rw [if_neg (by exact hm), List.flatMap_singleton]
        exact ih _
      | skip m =>
        rw [iteQ (b := (Rw.skip (.num 0) m).isPick) rfl]
        simp only [nxt, List.flatMap_singleton]
        exact ih _
      | pick x ts =>
        rw [iteP (b := (Rw.pick x ts).isPick) rfl, fan_len 0 (c := sizeL (p.rows.drop (row + 1))) fun w hw => ?_]
        · simp [nxt, sizeL]
        · simp only [nxt] at hw
          obtain ⟨t, _, rfl⟩ := List.mem_map.mp hw
          exact ih _
    · rw [List.drop_eq_nil_of_le (by omega), poe_end (by omega), runs_end rfl]
      rfl
theorem at_put {m : Nat} {bs : List Str} {st : List Nat} {x : Str} {n : Nat} (h : StOk m bs st) (hx : x ∈ bs) : at_ bs (put bs st x n) x = n := by
  have := idx_lt hx
  have hl : bs.idxOf x < st.length := by rw [h.len]; exact this
  unfold at_ put
  simp [List.getD_eq_getElem?_getD, hl]
/-- a pick that passes all, ahead -/
def ovr (x : Str) (a b : Nat) (rows : List Rw) : List Rw := .pick x [.num a, .num b] :: .skip (.box x) 30 :: rows
theorem ovr_one {q : Pg} {x : Str} {a b : Nat} {rows : List Rw} {s : List Nat} (hq : q.rows = ovr x a b rows) (hl : rows.length ≤ 28) (hne : ∀ r ∈ rows, Ne r) : (runs q 29 (poe q 1 s)).length = if at_ q.bs s x = 0 then sizeL rows else 1 := by
  have hlen : q.rows.length = rows.length + 2 := by rw [hq]; rfl
  rw [poe_pl (by omega)]
  have hr : q.rows[1]? = some (.skip (.box x) 30) := by rw [hq]; rfl
  show (if isPickAt q 1 = true then _ else (ways q 1 s).flatMap (runs q 28)).length = _
  rw [pick_at hr, ways_at hr, iteQ (b := (Rw.skip (.box x) 30).isPick) rfl]
  simp only [nxt, List.flatMap_singleton]
  have e : tv q s (.box x) = at_ q.bs s x := rfl
  rw [e]
  have hd : q.rows.drop 2 = rows := by rw [hq]; rfl
  by_cases h0 : at_ q.bs s x = 0
  · rw [if_pos h0, if_pos h0]
    have := runs_len (p := q) 28 2 s (by omega) (by rw [hd]; exact hne)
    rw [hd] at this
    exact this
  · rw [if_neg h0, if_neg h0, poe_end (by omega), runs_end rfl]
    rfl
theorem ovr_len {q : Pg} {x : Str} {a b : Nat} {rows : List Rw} {st : List Nat} (hq : q.rows = ovr x a b rows) (hx : x ∈ q.bs) (hst : StOk q.m q.bs st) (hab : (a = 0 ∧ b = 1) ∨ (a = 1 ∧ b = 0)) (hl : rows.length ≤ 28) (hne : ∀ r ∈ rows, Ne r) : (runs q 30 (poe q 0 st)).length = sizeL rows + 1 := by
  have hlen : q.rows.length = rows.length + 2 := by rw [hq]; rfl
  rw [poe_pl (by omega)]
  have hr : q.rows[0]? = some (.pick x [.num a, .num b]) := by rw [hq]; rfl
  show (if isPickAt q 0 = true then fan (runs q 29) 0 (ways q 0 st) else _).length = _
  rw [pick_at hr, ways_at hr, iteP (b := (Rw.pick x [.num a, .num b]).isPick) rfl]
  show ((runs q 29 (poe q 1 (put q.bs st x a))).map (addC 0) ++ ((runs q 29 (poe q 1 (put q.bs st x b))).map (addC 1) ++ [])).length = _
  rw [List.length_append, List.length_append, List.length_map, List.length_map, ovr_one hq hl hne, ovr_one hq hl hne, at_put hst hx, at_put hst hx]
  rcases hab with ⟨rfl, rfl⟩ | ⟨rfl, rfl⟩
  · rw [if_pos rfl, if_neg (by decide)]; simp
  · rw [if_neg (by decide), if_pos rfl]; simp; omega
def prodL : List Nat → Nat
  | [] => 1
  | x :: xs => x * prodL xs
theorem prodL_erase : ∀ {xs : List Nat} {i x : Nat}, xs[i]? = some x → prodL xs = x * prodL (xs.eraseIdx i)
  | [], i, x, h => by cases h
  | y :: ys, 0, x, h => by cases h; rfl
  | y :: ys, i + 1, x, h => by
    have := prodL_erase (xs := ys) (i := i) (x := x) h
    show y * prodL ys = x * (y * prodL (ys.eraseIdx i))
    rw [this, Nat.mul_left_comm]
theorem prodL_snoc : ∀ (xs : List Nat) (x : Nat), prodL (xs ++ [x]) = prodL xs * x
  | [], x => by simp [prodL]
  | y :: ys, x => by
    show y * prodL (ys ++ [x]) = y * prodL ys * x
    rw [prodL_snoc ys x, Nat.mul_assoc]
end Dk
end
section
set_option Elab.async false
set_option linter.all false
set_option maxRecDepth 100000
/-! The list of all runs: each goes, each that goes is there, they rise and none begins another. -/
namespace Dk
open PySem PySem.Spec PyProof.Rows L2 Pk
def Apart (a b : List Nat) : Prop := ∃ (pre : List Nat) (x y : Nat) (u v : List Nat), a = pre ++ x :: u ∧ b = pre ++ y :: v ∧ x < y
theorem Apart.cons {a b : List Nat} (h : Apart a b) (k : Nat) : Apart (k :: a) (k :: b) := by
  obtain ⟨pre, x, y, u, v, rfl, rfl, h⟩ := h
  exact ⟨k :: pre, x, y, u, v, rfl, rfl, h⟩
theorem fan_mem {f : Wy → List (List Nat × Wy)} {r : List Nat × Wy} : ∀ {ws : List Wy} {k : Nat}, r ∈ fan f k ws → ∃ i w r', ws[i]? = some w ∧ r' ∈ f w ∧ r = addC (k + i) r'
  | [], k, h => by cases h
  | w :: ws, k, h => by
    rcases List.mem_append.mp (show r ∈ (f w).map (addC k) ++ fan f (k + 1) ws from h) with h | h
    · obtain ⟨r', hr', e⟩ := List.mem_map.mp h
      exact ⟨0, w, r', rfl, hr', e.symm⟩
    · obtain ⟨i, w', r', h1, h2, h3⟩ := fan_mem h
      exact ⟨i + 1, w', r', h1, h2, by rw [h3]; congr 1; omega⟩
theorem mem_fan {f : Wy → List (List Nat × Wy)} {r : List Nat × Wy} : ∀ {ws : List Wy} {k i : Nat} {w : Wy}, ws[i]? = some w → r ∈ f w → addC (k + i) r ∈ fan f k ws
  | [], k, i, w, h, _ => by cases h
  | w0 :: ws, k, 0, w, h, hr => by
    cases (Option.some.inj h)
    exact List.mem_append_left _ (List.mem_map.mpr ⟨r, hr, rfl⟩)
  | w0 :: ws, k, i + 1, w, h, hr => by
    have := mem_fan (ws := ws) (k := k + 1) (i := i) (w := w) h hr
    have e : k + 1 + i = k + (i + 1) := by omega
    rw [e] at this
    exact List.mem_append_right _ this
theorem fan_apart {f : Wy → List (List Nat × Wy)} : ∀ {ws : List Wy} (k : Nat), (∀ w ∈ ws, (f w).Pairwise fun r s => Apart r.1 s.1) → (fan f k ws).Pairwise fun r s => Apart r.1 s.1
  | [], k, _ => .nil
  | w :: ws, k, h => by
    show ((f w).map (addC k) ++ fan f (k + 1) ws).Pairwise _
    refine List.pairwise_append.mpr ⟨?_, fan_apart (k + 1) fun x hx => h x (List.mem_cons_of_mem _ hx), fun r hr s hs => ?_⟩
    · refine List.pairwise_map.mpr ((h w List.mem_cons_self).imp fun {r s} z => z.cons k)
    · obtain ⟨r', _, rfl⟩ := List.mem_map.mp hr
      obtain ⟨i, w', s', _, _, rfl⟩ := fan_mem hs
      exact ⟨[], k, k + 1 + i, r'.1, s'.1, rfl, rfl, by omega⟩
theorem runs_all {p : Pg} (hp : p.Ok) : ∀ (n : Nat) (w : Wy), 30 ≤ n + w.rowN → WyOk p w → (∀ r ∈ runs p n w, Goes p w r.1 r.2) ∧ (runs p n w).Pairwise (fun r s => Apart r.1 s.1) ∧ ∀ cs e, Goes p w cs e → (cs, e) ∈ runs p n w := by
  have h30 := hp.r30
  intro n
  induction n with
  | zero =>
    intro w hn hw
    have hpl : w.isPl = false := by
      cases w with
      | place r s =>
        have h1 : r < p.rows.length := hw.1
        have h2 : 30 ≤ 0 + r := hn
        omega
      | gives k => rfl
      | nothing => rfl
    rw [runs_end hpl]
    refine ⟨fun r hr => ?_, List.pairwise_singleton _ _, fun cs e h => ?_⟩
    · rw [List.mem_singleton.mp hr]
      exact .fin hpl
    · cases h with
      | fin _ => exact List.mem_singleton.mpr rfl
      | step _ _ _ => cases hpl
      | pick _ _ _ => cases hpl
  | succ n ih =>
    intro w hn hw
    cases w with
    | gives k =>
      refine ⟨fun r hr => ?_, List.pairwise_singleton _ _, fun cs e h => ?_⟩
      · rw [List.mem_singleton.mp hr]
        exact .fin rfl
      · cases h with
        | fin _ => exact List.mem_singleton.mpr rfl
    | nothing =>
      refine ⟨fun r hr => ?_, List.pairwise_singleton _ _, fun cs e h => ?_⟩
      · rw [List.mem_singleton.mp hr]
        exact .fin rfl
      · cases h with
        | fin _ => exact List.mem_singleton.mpr rfl
    | place row st =>
      have hrow : row < p.rows.length := hw.1
      have hn' : 30 ≤ n + 1 + row := hn
      have sub : ∀ w' ∈ ways p row st, 30 ≤ n + w'.rowN ∧ WyOk p w' := fun w' hw' => by
        obtain ⟨h1, h2⟩ := ways_ok hp hw.2 w' hw'
        have := past_le hp hrow h2
        exact ⟨by omega, h1⟩
      show (∀ r ∈ (if isPickAt p row = true then fan (runs p n) 0 (ways p row st) else (ways p row st).flatMap (runs p n)), _) ∧ (if isPickAt p row = true then fan (runs p n) 0 (ways p row st) else (ways p row st).flatMap (runs p n)).Pairwise _ ∧ ∀ cs e, Goes p (.place row st) cs e → (cs, e) ∈ (if isPickAt p row = true then fan (runs p n) 0 (ways p row st) else (ways p row st).flatMap (runs p n))
      cases hpk : isPickAt p row with
      | true =>
        rw [if_pos rfl]
        refine ⟨fun r hr => ?_, fan_apart 0 fun w' hw' => (ih w' (sub w' hw').1 (sub w' hw').2).2.1, fun cs e h => ?_⟩
        · obtain ⟨i, w', r', h1, h2, rfl⟩ := fan_mem hr
          have hm := List.mem_of_getElem? h1
          rw [Nat.zero_add]
          exact .pick hpk h1 ((ih w' (sub w' hm).1 (sub w' hm).2).1 r' h2)
        · cases h with
          | fin h => cases h
          | step h1 _ _ => rw [hpk] at h1; cases h1
          | pick h1 h2 h3 =>
            rename_i c cs w'
            have hm := List.mem_of_getElem? h2
            have := mem_fan (f := runs p n) (k := 0) h2 ((ih w' (sub w' hm).1 (sub w' hm).2).2.2 _ _ h3)
            rw [Nat.zero_add] at this
            exact this
      | false =>
        rw [if_neg Bool.false_ne_true]
        obtain ⟨w', hw'⟩ := ways_one (st := st) hrow hpk
        have hm : w' ∈ ways p row st := by rw [hw']; exact List.mem_singleton.mpr rfl
        have ih' := ih w' (sub w' hm).1 (sub w' hm).2
        rw [hw', List.flatMap_singleton]
        refine ⟨fun r hr => .step hpk hw' (ih'.1 r hr), ih'.2.1, fun cs e h => ?_⟩
        cases h with
        | fin h => cases h
        | pick h1 _ _ => rw [hpk] at h1; cases h1
        | step h1 h2 h3 =>
          rw [hw'] at h2
          cases h2
          exact ih'.2.2 _ _ h3
/-! what such lists say to < and == -/
theorem alike_nats : ∀ (a b : List Nat), PySem.W.alikeAll (a.map fun (n : Nat) => PyData.int n) (b.map fun (n : Nat) => PyData.int n) = true
  | [], _ => by rw [List.map_nil, PySem.W.alikeAll]
  | _ :: _, [] => by rw [List.map_nil, List.map_cons, PySem.W.alikeAll]
  | x :: xs, y :: ys => by
    rw [List.map_cons, List.map_cons, PySem.W.alikeAll, alike_nats xs ys]
    rfl
theorem lt_apart {a b : List Nat} (h : Apart a b) : PySem.W.dataLt (natsD a) (natsD b) = true := by
  obtain ⟨pre, x, y, u, v, rfl, rfl, h⟩ := h
  refine (PySem.W.dataLt_list _ _).trans ?_
  induction pre with
  | nil =>
    rw [List.nil_append, List.nil_append, List.map_cons, List.map_cons, PySem.W.dataLt_all_no (by rfl) (by show PyData.eqv (.int x) (.int y) = false; simp [PyData.eqv]; omega)]
    rw [PySem.W.dataLt_int]
    exact decide_eq_true (by omega)
  | cons z pre ih =>
    rw [List.cons_append, List.cons_append, List.map_cons, List.map_cons, PySem.W.dataLt_all_yes (by rfl) (by simp [PyData.eqv])]
    exact ih
theorem eqvN : ∀ (a b : List Nat), PyData.eqvAll (a.map fun (n : Nat) => PyData.int n) (b.map fun (n : Nat) => PyData.int n) = decide (a = b)
  | [], [] => rfl
  | [], _ :: _ => rfl
  | _ :: _, [] => rfl
  | x :: a, y :: b => by
    rw [List.map_cons, List.map_cons, PyData.eqvAll, eqvN a b]
    have : PyData.eqv (.int x) (.int y) = decide (x = y) := by
      simp only [PyData.eqv]
      by_cases h : x = y
      · subst h; simp
      · rw [decide_eq_false h]
        have : ¬ (x : Int) = y := by omega
        simpa using this
    rw [this]
    by_cases h : x = y <;> by_cases h' : a = b <;> simp [h, h']
theorem pre_apart {a b : List Nat} (h : Apart a b) : b.take a.length ≠ a := by
  obtain ⟨pre, x, y, u, v, rfl, rfl, h⟩ := h
  intro e
  have := congrArg (fun l => l[pre.length]?) e
  simp [List.getElem?_take] at this
  omega
end Dk
end
section
set_option Elab.async false
set_option linter.all false
set_option maxRecDepth 100000
/-! All runs of a program with a row put first. -/
namespace Dk
open PySem PySem.Spec PyProof.Rows L2 Pk
theorem fan_congr {f g : Wy → List (List Nat × Wy)} : ∀ {ws : List Wy} (k : Nat), (∀ w ∈ ws, f w = g w) → fan f k ws = fan g k ws
  | [], k, _ => rfl
  | w :: ws, k, h => by
    show (f w).map (addC k) ++ fan f (k + 1) ws = (g w).map (addC k) ++ fan g (k + 1) ws
    rw [h w List.mem_cons_self, fan_congr (k + 1) fun x hx => h x (List.mem_cons_of_mem _ hx)]
theorem fan_map {f g : Wy → List (List Nat × Wy)} {u : Wy → Wy} : ∀ {ws : List Wy} (k : Nat), (∀ w ∈ ws, f (u w) = g w) → fan f k (ws.map u) = fan g k ws
  | [], k, _ => rfl
  | w :: ws, k, h => by
    show (f (u w)).map (addC k) ++ fan f (k + 1) (ws.map u) = (g w).map (addC k) ++ fan g (k + 1) ws
    rw [h w List.mem_cons_self, fan_map (k + 1) fun x hx => h x (List.mem_cons_of_mem _ hx)]
theorem fan_app {f : Wy → List (List Nat × Wy)} : ∀ {ws vs : List Wy} (k : Nat), fan f k (ws ++ vs) = fan f k ws ++ fan f (k + ws.length) vs
  | [], vs, k => by simp [fan]
  | w :: ws, vs, k => by
    show (f w).map (addC k) ++ fan f (k + 1) (ws ++ vs) = (f w).map (addC k) ++ fan f (k + 1) ws ++ fan f (k + (ws.length + 1)) vs
    rw [fan_app (k + 1), List.append_assoc]
    congr 3
    omega
theorem fan_phi {f : Wy → List (List Nat × Wy)} (φ : Wy → Wy) : ∀ {ws : List Wy} (k : Nat), fan (fun w => (f w).map fun x => (x.1, φ x.2)) k ws = (fan f k ws).map fun x => (x.1, φ x.2)
  | [], k => rfl
  | w :: ws, k => by
    show ((f w).map fun x => (x.1, φ x.2)).map (addC k) ++ fan _ (k + 1) ws = ((f w).map (addC k) ++ fan f (k + 1) ws).map _
    rw [fan_phi φ (k + 1), List.map_append, List.map_map, List.map_map]
    rfl
def Wy.need (p : Pg) : Wy → Nat
  | .place row _ => p.rows.length - row
  | _ => 0
theorem runs_enough {p : Pg} (hp : p.Ok) : ∀ (n : Nat) (w : Wy), w.need p ≤ n → WyOk p w → runs p (n + 1) w = runs p n w
  | 0, w, h, hw => by
    cases w with
    | place row st =>
      have h1 : row < p.rows.length := hw.1
      have h2 : p.rows.length - row ≤ 0 := h
      omega
    | gives k => rfl
    | nothing => rfl
  | n + 1, w, h, hw => by
    cases w with
    | gives k => rfl
    | nothing => rfl
    | place row st =>
      have hrow : row < p.rows.length := hw.1
      have h2 : p.rows.length - row ≤ n + 1 := h
      have sub : ∀ w' ∈ ways p row st, runs p (n + 1) w' = runs p n w' := fun w' hw' => by
        obtain ⟨h1, h3⟩ := ways_ok hp hw.2 w' hw'
        refine runs_enough hp n w' ?_ h1
        cases w' with
        | place r s =>
          have : row + 1 ≤ r := h3
          show p.rows.length - r ≤ n
          omega
        | gives k => exact Nat.zero_le _
        | nothing => exact Nat.zero_le _
      show (if isPickAt p row = true then fan (runs p (n + 1)) 0 (ways p row st) else (ways p row st).flatMap (runs p (n + 1))) = (if isPickAt p row = true then fan (runs p n) 0 (ways p row st) else (ways p row st).flatMap (runs p n))
      rw [fan_congr 0 sub]
      have : (ways p row st).flatMap (runs p (n + 1)) = (ways p row st).flatMap (runs p n) := by
        simp only [List.flatMap_def]
        rw [List.map_congr_left sub]
      rw [this]
theorem lift_poe (p : Pg) (r : Rw) (j : Nat) (st : List Nat) : poe (hd1 p r) (j + 1) st = lift 0 (poe p j st) := (lift_hi (ins0 p r) st (Nat.zero_le _)).symm
theorem tv_hd (p : Pg) (r : Rw) (st : List Nat) (t : Th) : tv (hd1 p r) st t = tv p st t := rfl
theorem nxt_hd (p : Pg) (r r0 : Rw) (row : Nat) (st : List Nat) : nxt (hd1 p r) (row + 1) st r0 = (nxt p row st r0).map (lift 0) := by
  cases r0 with
  | set x t =>
    show [poe (hd1 p r) (row + 1 + 1) _] = [lift 0 (poe p (row + 1) _)]
    rw [lift_poe]; rfl
  | pick x ts =>
    show (ts.map fun t => poe (hd1 p r) (row + 1 + 1) _) = (ts.map fun t => poe p (row + 1) _).map (lift 0)
    rw [List.map_map]
    apply List.map_congr_left
    intro t _
    exact lift_poe p r (row + 1) _
  | need t =>
    show (if tv p st t = 0 then [Wy.nothing] else [poe (hd1 p r) (row + 1 + 1) st]) = (if tv p st t = 0 then [Wy.nothing] else [poe p (row + 1) st]).map (lift 0)
    by_cases h : tv p st t = 0
    · rw [if_pos h, if_pos h]; rfl
    · rw [if_neg h, if_neg h, lift_poe]; rfl
  | skip t k =>
    show [poe (hd1 p r) (row + 1 + 1 + if tv p st t = 0 then 0 else k) st] = [lift 0 (poe p (row + 1 + if tv p st t = 0 then 0 else k) st)]
    have : (row + 1 + 1 + if tv p st t = 0 then 0 else k) = (row + 1 + if tv p st t = 0 then 0 else k) + 1 := by omega
    rw [this, lift_poe]
  | give t => rfl
theorem ways_hd (p : Pg) (r : Rw) (row : Nat) (st : List Nat) : ways (hd1 p r) (row + 1) st = (ways p row st).map (lift 0) := by
  unfold ways
  have e : (hd1 p r).rows[row + 1]? = p.rows[row]? := rfl
  rw [e]
  cases p.rows[row]? with
  | none => rfl
  | some r0 => exact nxt_hd p r r0 row st
theorem runs_hd (p : Pg) (r : Rw) : ∀ (n : Nat) (w : Wy), runs (hd1 p r) n (lift 0 w) = (runs p n w).map fun x => (x.1, lift 0 x.2)
  | 0, w => by
    cases w with
    | place row st => rfl
    | gives k => rfl
    | nothing => rfl
  | n + 1, w => by
    cases w with
    | gives k => rfl
    | nothing => rfl
    | place row st =>
      have el : lift 0 (.place row st) = .place (row + 1) st := rfl
      rw [el]
      have ep : isPickAt (hd1 p r) (row + 1) = isPickAt p row := rfl
      show (if isPickAt (hd1 p r) (row + 1) = true then fan (runs (hd1 p r) n) 0 (ways (hd1 p r) (row + 1) st) else (ways (hd1 p r) (row + 1) st).flatMap (runs (hd1 p r) n)) = (if isPickAt p row = true then fan (runs p n) 0 (ways p row st) else (ways p row st).flatMap (runs p n)).map _
      rw [ep, ways_hd]
      split
      · rw [← fan_phi (lift 0)]
        exact fan_map 0 fun w' _ => runs_hd p r n w'
      · rw [List.flatMap_map, List.map_flatMap]
        simp only [List.flatMap_def]
        congr 1
        apply List.map_congr_left
        intro w' _
        exact runs_hd p r n w'
theorem runs_noPl {p : Pg} (hp : p.Ok) {st : List Nat} (hst : StOk p.m p.bs st) (φ : Wy → Wy) (h : ∀ w : Wy, w.isPl = false → φ w = w) : ((runs p 30 (poe p 0 st)).map fun x => (x.1, φ x.2)) = runs p 30 (poe p 0 st) := by
  have ha := (runs_all hp 30 (poe p 0 st) (Nat.le_add_right _ _) (poe_ok hst)).1
  have : ((runs p 30 (poe p 0 st)).map fun x => (x.1, φ x.2)) = (runs p 30 (poe p 0 st)).map id := by
    apply List.map_congr_left
    intro x hx
    show (x.1, φ x.2) = x
    rw [h x.2 (ha x hx).end]
  rw [this, List.map_id]
theorem lift_end (w : Wy) (h : w.isPl = false) : lift 0 w = w := by
  cases w with
  | place r s => cases h
  | gives k => rfl
  | nothing => rfl
theorem runs29 {p : Pg} (hp : p.Ok) (hl : p.rows.length ≤ 29) (r : Rw) {st : List Nat} (hst : StOk p.m p.bs st) : runs (hd1 p r) 29 (lift 0 (poe p 0 st)) = runs p 30 (poe p 0 st) := by
  rw [runs_hd, ← runs_enough hp 29 (poe p 0 st) ?_ (poe_ok hst)]
  · exact runs_noPl hp hst (lift 0) lift_end
  · unfold poe
    split
    · exact Nat.zero_le _
    · show p.rows.length - 0 ≤ 29
      omega
/-- the runs of p from a store -/
def rn (p : Pg) (st : List Nat) : List (List Nat × Wy) := runs p 30 (poe p 0 st)
theorem poe_hd (p : Pg) (r : Rw) (st : List Nat) : poe (hd1 p r) 0 st = .place 0 st := by
  unfold poe
  rw [if_neg]
  show ¬ p.rows.length + 1 ≤ 0
  omega
/-- picks put in: by their stores -/
def pst (p : Pg) (x : Str) (st : List Nat) (t : Th) : List Nat := put p.bs st x (tv p st t)
def fanS (p : Pg) : Nat → List (List Nat) → List (List Nat × Wy)
  | _, [] => []
  | k, s :: ss => (rn p s).map (addC k) ++ fanS p (k + 1) ss
theorem fanS_fan (p : Pg) : ∀ (k : Nat) (ss : List (List Nat)), fanS p k ss = fan (runs p 30) k (ss.map fun s => poe p 0 s)
  | _, [] => rfl
  | k, s :: ss => by
    show (rn p s).map (addC k) ++ fanS p (k + 1) ss = _
    rw [fanS_fan p (k + 1) ss]
    rfl
theorem runs_pick {p : Pg} (hp : p.Ok) (hl : p.rows.length ≤ 29) (x : Str) (ts : List Th) {st : List Nat} (hs : ∀ t ∈ ts, StOk p.m p.bs (pst p x st t)) : rn (hd1 p (.pick x ts)) st = fanS p 0 (ts.map (pst p x st)) := by
  unfold rn
  rw [poe_hd, fanS_fan, List.map_map]
  show (if isPickAt (hd1 p (.pick x ts)) 0 = true then fan (runs (hd1 p (.pick x ts)) 29) 0 (ways (hd1 p (.pick x ts)) 0 st) else _) = _
  rw [if_pos (by rfl)]
  have e : ways (hd1 p (.pick x ts)) 0 st = (ts.map fun t => poe p 0 (pst p x st t)).map (lift 0) := by
    show (ts.map fun t => poe (hd1 p (.pick x ts)) (0 + 1) _) = _
    rw [List.map_map]
    apply List.map_congr_left
    intro t _
    exact lift_poe p _ 0 _
  rw [e]
  refine fan_map 0 fun w hw => ?_
  obtain ⟨t, ht, rfl⟩ := List.mem_map.mp hw
  exact runs29 hp hl _ (hs t ht)
theorem runs_set {p : Pg} (hp : p.Ok) (hl : p.rows.length ≤ 29) (x : Str) (t : Th) {st : List Nat} (hs : StOk p.m p.bs (pst p x st t)) : rn (hd1 p (.set x t)) st = rn p (pst p x st t) := by
  unfold rn
  rw [poe_hd]
  show (if isPickAt (hd1 p (.set x t)) 0 = true then _ else (ways (hd1 p (.set x t)) 0 st).flatMap (runs (hd1 p (.set x t)) 29)) = _
  rw [if_neg (by intro h; cases h)]
  have e : ways (hd1 p (.set x t)) 0 st = [lift 0 (poe p 0 (pst p x st t))] := by
    show [poe (hd1 p (.set x t)) (0 + 1) _] = _
    rw [lift_poe]
    rfl
  rw [e, List.flatMap_singleton]
  exact runs29 hp hl _ hs
theorem runs_bar (p : Pg) (st : List Nat) : rn (hd1 p (.need (.num 0))) st = [([], .nothing)] := by
  unfold rn
  rw [poe_hd]
  rfl
/-! turned about -/
def turnC (n : Nat) (r : List Nat × Wy) : List Nat × Wy := ((n - 1 - r.1.headD 0) :: r.1.tail, r.2)
theorem fanS_app (p : Pg) : ∀ (k : Nat) (ss vs : List (List Nat)), fanS p k (ss ++ vs) = fanS p k ss ++ fanS p (k + ss.length) vs := fun k ss vs => by
  rw [fanS_fan, fanS_fan, fanS_fan, List.map_append, fan_app, List.length_map]
theorem fanS_perm (p : Pg) : ∀ (n k : Nat) (ss : List (List Nat)), k + ss.length = n → ((fanS p k ss).map (turnC n)).Perm (fanS p 0 ss.reverse)
  | n, k, [], _ => .nil
  | n, k, s :: ss, h => by
    have h' : k + (ss.length + 1) = n := h
    show (((rn p s).map (addC k) ++ fanS p (k + 1) ss).map (turnC n)).Perm _
    rw [List.map_append, List.reverse_cons, fanS_app, List.length_reverse]
    refine List.perm_append_comm.trans (List.Perm.append (fanS_perm p n (k + 1) ss (by omega)) ?_)
    rw [List.map_map]
    have e : (turnC n ∘ addC k) = addC (0 + ss.length) := by
      funext r
      show ((n - 1 - k) :: r.1, r.2) = ((0 + ss.length) :: r.1, r.2)
      congr 2
      omega
    rw [e]
    show ((rn p s).map (addC (0 + ss.length))).Perm ((rn p s).map (addC (0 + ss.length)) ++ [])
    rw [List.append_nil]
theorem fanS_ne (p : Pg) : ∀ (k : Nat) (ss : List (List Nat)), ∀ r ∈ fanS p k ss, ∃ i cs, i < ss.length ∧ r.1 = (k + i) :: cs
  | k, [], r, h => by cases h
  | k, s :: ss, r, h => by
    rcases List.mem_append.mp (show r ∈ (rn p s).map (addC k) ++ fanS p (k + 1) ss from h) with h | h
    · obtain ⟨r', _, rfl⟩ := List.mem_map.mp h
      exact ⟨0, r'.1, Nat.succ_pos _, rfl⟩
    · obtain ⟨i, cs, h1, h2⟩ := fanS_ne p (k + 1) ss r h
      exact ⟨i + 1, cs, Nat.succ_lt_succ h1, by rw [h2]; congr 1; omega⟩
theorem fanS_filter (p : Pg) : ∀ (k : Nat) (ss : List (List Nat)), 0 < k → (fanS p k ss).filter (fun r => decide (r.1.headD 0 = 0)) = [] := fun k ss hk => by
  rw [List.filter_eq_nil_iff]
  intro r hr
  obtain ⟨i, cs, _, h⟩ := fanS_ne p k ss r hr
  rw [h]
  simp
  omega
theorem fanS_first (p : Pg) (s : List Nat) (ss : List (List Nat)) : (fanS p 0 (s :: ss)).filter (fun r => decide (r.1.headD 0 = 0)) = (rn p s).map (addC 0) := by
  show ((rn p s).map (addC 0) ++ fanS p 1 ss).filter _ = _
  rw [List.filter_append, fanS_filter p 1 ss (by decide), List.append_nil, List.filter_map]
  have : (rn p s).filter ((fun r => decide (r.1.headD 0 = 0)) ∘ addC 0) = rn p s := by
    rw [List.filter_eq_self]
    intro r _
    rfl
  rw [this]
theorem fanS_apart {p : Pg} (hp : p.Ok) {ss : List (List Nat)} (hs : ∀ s ∈ ss, StOk p.m p.bs s) (k : Nat) : (fanS p k ss).Pairwise fun r s => Apart r.1 s.1 := by
  rw [fanS_fan]
  refine fan_apart k fun w hw => ?_
  obtain ⟨s, h, rfl⟩ := List.mem_map.mp hw
  exact (runs_all hp 30 (poe p 0 s) (Nat.le_add_right _ _) (poe_ok (hs s h))).2.1
/-! sorted -/
theorem str_alike (a b : Wy) (ha : a.isPl = false) (hb : b.isPl = false) : PySem.W.alike a.d b.d = true := by
  cases a with
  | place r s => cases ha
  | gives n =>
    cases b with
    | place r s => cases hb
    | gives m => rfl
    | nothing => rfl
  | nothing =>
    cases b with
    | place r s => cases hb
    | gives m => rfl
    | nothing => rfl
theorem run_alike {a b : List Nat × Wy} (ha : a.2.isPl = false) (hb : b.2.isPl = false) : PySem.W.alike (runD a) (runD b) = true := by
  show PySem.W.alikeAll [natsD a.1, a.2.d] [natsD b.1, b.2.d] = true
  rw [PySem.W.alikeAll, PySem.W.alikeAll, str_alike a.2 b.2 ha hb]
  have : PySem.W.alike (natsD a.1) (natsD b.1) = true := alike_nats a.1 b.1
  rw [this]
  rfl
theorem run_lt {a b : List Nat × Wy} (ha : a.2.isPl = false) (hb : b.2.isPl = false) (h : Apart a.1 b.1) : PySem.W.dataLt (runD a) (runD b) = true := by
  show PySem.W.dataLt (.tuple [natsD a.1, a.2.d]) (.tuple [natsD b.1, b.2.d]) = true
  have hal : PySem.W.alike (natsD a.1) (natsD b.1) = true := alike_nats a.1 b.1
  rw [PySem.W.dataLt_pair hal (str_alike a.2 b.2 ha hb)]
  have e : PyData.eqv (natsD a.1) (natsD b.1) = false := by
    show PyData.eqvAll _ _ = false
    rw [eqvN]
    refine decide_eq_false fun z => ?_
    have := pre_apart h
    rw [z] at this
    exact this (List.take_length)
  rw [e, if_neg Bool.false_ne_true]
  exact lt_apart h
theorem sorted_eq {es : List PyData} {T : List (List Nat × Wy)} (hT : T.Pairwise fun r s => Apart r.1 s.1) (he : ∀ r ∈ T, r.2.isPl = false) (h1 : es.Perm (T.map runD)) (h2 : es.Pairwise fun a b => PySem.W.dataLt b a = false) : es = T.map runD := by
  have hlt : (T.map runD).Pairwise fun a b => PySem.W.dataLt a b = true := by
    refine List.pairwise_map.mpr (hT.imp_of_mem fun {a b} ha hb h => run_lt (he a ha) (he b hb) h)
  have hle : (T.map runD).Pairwise fun a b => PySem.W.dataLt b a = false := by
    refine List.pairwise_map.mpr (hT.imp_of_mem fun {a b} ha hb h => ?_)
    have := run_lt (he a ha) (he b hb) h
    cases hc : PySem.W.dataLt (runD b) (runD a) with
    | false => rfl
    | true =>
      have h3 : PySem.W.dataLt (runD a) (runD a) = true := PyProof.Rows.lex_trans (O := PyProof.Rows.itemOrd) _ _ _ this hc
      have h4 : PySem.W.dataLt (runD a) (runD a) = false := PyProof.Rows.lex_irrefl (O := PyProof.Rows.itemOrd) _
      rw [h4] at h3
      exact absurd h3 Bool.false_ne_true
  refine List.Perm.eq_of_pairwise (le := fun a b => PySem.W.dataLt b a = false) (fun a b ha hb h3 h4 => ?_) h2 hle h1
  obtain ⟨i, hi⟩ := List.getElem?_of_mem (h1.mem_iff.mp ha)
  obtain ⟨j, hj⟩ := List.getElem?_of_mem hb
  obtain ⟨hi1, hi2⟩ := List.getElem?_eq_some_iff.mp hi
  obtain ⟨hj1, hj2⟩ := List.getElem?_eq_some_iff.mp hj
  rcases Nat.lt_trichotomy i j with h | h | h
  · have := List.pairwise_iff_getElem.mp hlt i j hi1 hj1 h
    rw [hi2, hj2, h4] at this
    cases this
  · subst h
    rw [← hi2, ← hj2]
  · have := List.pairwise_iff_getElem.mp hlt j i hj1 hi1 h
    rw [hi2, hj2, h3] at this
    cases this
end Dk
end
section
set_option Elab.async false
set_option linter.all false
set_option maxRecDepth 100000
namespace Sy
open PySem PySem.Spec PyProof.Rows L2 Pk Pz Ps
def topS (i : Nat) : Stmt := PySem.Challenge.pw_pickruns_k08_all_runs_told.main.body.getD i (.Pass ⟨0, 0, 0, 0⟩)
theorem room1 {k : Nat} {A : Around} (r : Room k A) : A.units + 1 < cLine := by have := r.un; omega
theorem room65 {k : Nat} {A : Around} (r : Room k A) : A.units + 65 < cLine := by have := r.un; omega
/-! is_whole -/
abbrev s_is_whole : Stmt := topS 12
theorem sc_is_whole : FnScope ["thing", "low", "high"] ["thing", "low", "high"] (defScope s_is_whole) := ⟨rfl, rfl, rfl, by decide +kernel, rfl, by decide +kernel, by decide +kernel⟩
def t_is_whole (K : PySem.W.Frag) : TS :=
  (tRet (tAndV (tCB (rIsi K) (tCons (tVar 0) (tCons (tC (.ty "int")) tNil))) (tAndV (tNotV (tCB (rIsi K) (tCons (tVar 0) (tCons (tC (.ty "bool")) tNil)))) (tChain dLe dLe (tVar 1) (tVar 0) (tVar 2)))))
theorem wk_is_whole {P : Program} {w : World} {K : PySem.W.Frag} {mg : Str → Option Value} {base : Heap} {k : Nat} (m_isinstance : mg "isinstance" = none) (m_bool : mg "bool" = none) (m_int : mg "int" = none)
    (f : Addr) (cdv : Value) (A : Around) (outer : List Env) (s : Shared) (H : Hp) (E : XK) (hr : Room k (A.deeper (envOfC "is_whole" (defScope s_is_whole) s.heap.objs.size f cdv))) :
    PSs (cxOf CX0 P w K mg base ["thing", "low", "high"] "is_whole" (defScope s_is_whole) f cdv A outer s H E).nox (defBody s_is_whole) (t_is_whole K) := by
  have hu : (cxOf CX0 P w K mg base ["thing", "low", "high"] "is_whole" (defScope s_is_whole) f cdv A outer s H E).nox.A.units + 64 < cLine := hr.units
  have hu5 : (cxOf CX0 P w K mg base ["thing", "low", "high"] "is_whole" (defScope s_is_whole) f cdv A outer s H E).nox.A.units + 65 < cLine := room65 hr
  have hu1 : (cxOf CX0 P w K mg base ["thing", "low", "high"] "is_whole" (defScope s_is_whole) f cdv A outer s H E).nox.A.units + 1 < cLine := room1 hr
  unfold t_is_whole
  exact (pss_one (ps_ret (pe_and (pe_callB call_isi (by rfl) m_isinstance (by decide +kernel) (pa_cons (pv 0) (pa_cons (pe_bltn (by rfl) m_int (by decide +kernel) rfl) pa_nil))) (pe_and (pe_not (pe_callB call_isi (by rfl) m_isinstance (by decide +kernel) (pa_cons (pv 0) (pa_cons (pe_bltn (by rfl) m_bool (by decide +kernel) rfl) pa_nil)))) (pe_one (pe_chain o_le o_le (pv 1) (pv 0) (pv 2)))))))
/-! need_store -/
abbrev s_need_store : Stmt := topS 13
theorem sc_need_store : FnScope ["program", "store", "number"] ["program", "store"] (defScope s_need_store) := ⟨rfl, rfl, rfl, by decide +kernel, rfl, by decide +kernel, by decide +kernel⟩
def t_need_store (K : PySem.W.Frag) (sp_is_whole : Sp) (a_NoStore : Addr) (W : XW) : TS :=
  (tSeq (tIfS (tOr (tNot (tB (tCB (rIsi K) (tCons (tVar 1) (tCons (tC (.ty "tuple")) tNil))))) (tTest (tOp (dNe K) (tCB (dLen K) (tCons (tVar 1) tNil)) (tCB (dLen K) (tCons (tOp (rIx K) (tVar 0) (tC (.int 1))) tNil))))) (tRaiseW W a_NoStore) tNext)
    (tIfS (tTest (tOp (dNe K) (tLc (iTup K (tVar 1)) (gName 2) (tNot (tB (tCall sp_is_whole [] E0 (tCons (tVar 2) (tCons (tC (.int 0)) (tCons (tOp dSub (tOp (rIx K) (tVar 0) (tC (.int 0))) (tC (.int 1))) tNil)))))) (tVar 2) [2]) (tLst tNil))) (tRaiseW W a_NoStore) tNext))
theorem wk_need_store {P : Program} {w : World} {K : PySem.W.Frag} {mg : Str → Option Value} {base : Heap} {k : Nat} {sp_is_whole : Sp} {a_NoStore : Addr}
    (c_is_whole : Cal P w K mg base CX0 k "is_whole" ["thing", "low", "high"] sp_is_whole) (m_len : mg "len" = none) (m_isinstance : mg "isinstance" = none) (m_tuple : mg "tuple" = none) (e_NoStore : ExcT K mg "NoStore" a_NoStore)
    (f : Addr) (cdv : Value) (A : Around) (outer : List Env) (s : Shared) (H : Hp) (E : XK) (hr : Room k (A.deeper (envOfC "need_store" (defScope s_need_store) s.heap.objs.size f cdv))) :
    PSs (cxOf (L2.CX P w) P w K mg base ["program", "store", "number"] "need_store" (defScope s_need_store) f cdv A outer s H E) (defBody s_need_store) (t_need_store K sp_is_whole a_NoStore (fun c d _ H' => E c d H')) := by
  have hu : (cxOf (L2.CX P w) P w K mg base ["program", "store", "number"] "need_store" (defScope s_need_store) f cdv A outer s H E).A.units + 64 < cLine := hr.units
  have hu5 : (cxOf (L2.CX P w) P w K mg base ["program", "store", "number"] "need_store" (defScope s_need_store) f cdv A outer s H E).A.units + 65 < cLine := room65 hr
  have hu1 : (cxOf (L2.CX P w) P w K mg base ["program", "store", "number"] "need_store" (defScope s_need_store) f cdv A outer s H E).A.units + 1 < cLine := room1 hr
  unfold t_need_store
  exact (pss_cons (ps_if (PW.pt (pw_or (pt_not (pt_val (pe_callB call_isi (by rfl) m_isinstance (by decide +kernel) (pa_cons (pv 1) (pa_cons (pe_bltn (by rfl) m_tuple (by decide +kernel) rfl) pa_nil))))) (pw_or1 (pt_cmpR (o_ne hu) (pe_callB o_len (by rfl) m_len (by decide +kernel) (pa_cons (pv 1) pa_nil)) (pe_callB o_len (by rfl) m_len (by decide +kernel) (pa_cons (pe_ix ix_seq (pv 0) pe_int (fun _ _ => rfl)) pa_nil)) (nomark _))))) (pss_one (ps_rs rfl (takes_of rfl rfl rfl rfl) e_NoStore (by rfl))) pss_nil)
    (pss_one (ps_if (pt_cmpR (o_ne hu) (pe_lc (own := [("number", 2)]) (g := (gName 2)) (tt := (tNot (tB (tCall sp_is_whole [] E0 (tCons (tVar 2) (tCons (tC (.int 0)) (tCons (tOp dSub (tOp (rIx K) (tVar 0) (tC (.int 0))) (tC (.int 1))) tNil))))))) rfl sc_need_store.nd (pi_tup (pv 1)) (blkOk_by (N := ["program", "store", "number"]) (sc := defScope s_need_store) (by decide +kernel)) (fun _ _ _ _ _ => (pg_name (i := 2) sc_need_store.nd rfl (by first | exact Or.inl rfl | exact Or.inr rfl))) (fun _ _ _ _ _ => (pts_one (pt_not (pt_val (pe_c c_is_whole hr (by rfl) (pa_cons (pv 2) (pa_cons pe_int (pa_cons (pe_op o_sub (pe_ix ix_seq (pv 0) pe_int (fun _ _ => rfl)) pe_int) pa_nil)))))))) (fun _ _ _ _ _ => (pv 2))) (pe_lst pa_nil) (nomark _)) (pss_one (ps_rs rfl (takes_of rfl rfl rfl rfl) e_NoStore (by rfl))) pss_nil)))
/-! worth_in -/
abbrev s_worth_in : Stmt := topS 14
theorem sc_worth_in : FnScope ["program", "thing", "store", "word", "one", "other"] ["program", "thing", "store"] (defScope s_worth_in) := ⟨rfl, rfl, rfl, by decide +kernel, rfl, by decide +kernel, by decide +kernel⟩
def t_worth_in (K : PySem.W.Frag) (sp_worth_in : Sp) : TS :=
  (tSeq (tAsg (tOp (rIx K) (tVar 1) (tC (.int 0))) (gName 3))
    (tSeq (tIfS (tTest (tOp (dEq K) (tVar 3) (tC (.str "number")))) (tRet (tOp (rIx K) (tVar 1) (tC (.int 1)))) tNext)
    (tSeq (tIfS (tTest (tOp (dEq K) (tVar 3) (tC (.str "box")))) (tRet (tOp (rIx K) (tVar 2) (tBM K "list" (rIndexD K) (tOp (rIx K) (tVar 0) (tC (.int 1))) (tCons (tOp (rIx K) (tVar 1) (tC (.int 1))) tNil)))) tNext)
    (tSeq (tAsg (tCall sp_worth_in [] E0 (tCons (tVar 0) (tCons (tOp (rIx K) (tVar 1) (tC (.int 1))) (tCons (tVar 2) tNil)))) (gName 4))
    (tSeq (tAsg (tCall sp_worth_in [] E0 (tCons (tVar 0) (tCons (tOp (rIx K) (tVar 1) (tC (.int 2))) (tCons (tVar 2) tNil)))) (gName 5))
    (tSeq (tIfS (tTest (tOp (dEq K) (tVar 3) (tC (.str "plus")))) (tRet (tOp dMod (tOp (dAdd K) (tVar 4) (tVar 5)) (tOp (rIx K) (tVar 0) (tC (.int 0))))) tNext)
    (tSeq (tIfS (tTest (tOp (dEq K) (tVar 3) (tC (.str "times")))) (tRet (tOp dMod (tOp dMul (tVar 4) (tVar 5)) (tOp (rIx K) (tVar 0) (tC (.int 0))))) tNext)
    (tSeq (tIfS (tTest (tOp (dEq K) (tVar 3) (tC (.str "less")))) (tRet (tCB dInt (tCons (tOp dLt (tVar 4) (tVar 5)) tNil))) tNext)
    (tRet (tCB dInt (tCons (tOp (dEq K) (tVar 4) (tVar 5)) tNil)))))))))))
theorem wk_worth_in {P : Program} {w : World} {K : PySem.W.Frag} {mg : Str → Option Value} {base : Heap} {k : Nat} {sp_worth_in : Sp}
    (c_worth_in : Cal P w K mg base CX0 k "worth_in" ["program", "thing", "store"] sp_worth_in) (m_int : mg "int" = none)
    (f : Addr) (cdv : Value) (A : Around) (outer : List Env) (s : Shared) (H : Hp) (E : XK) (hr : Room k (A.deeper (envOfC "worth_in" (defScope s_worth_in) s.heap.objs.size f cdv))) :
    PSs (cxOf CX0 P w K mg base ["program", "thing", "store", "word", "one", "other"] "worth_in" (defScope s_worth_in) f cdv A outer s H E).nox (defBody s_worth_in) (t_worth_in K sp_worth_in) := by
  have hu : (cxOf CX0 P w K mg base ["program", "thing", "store", "word", "one", "other"] "worth_in" (defScope s_worth_in) f cdv A outer s H E).nox.A.units + 64 < cLine := hr.units
  have hu5 : (cxOf CX0 P w K mg base ["program", "thing", "store", "word", "one", "other"] "worth_in" (defScope s_worth_in) f cdv A outer s H E).nox.A.units + 65 < cLine := room65 hr
  have hu1 : (cxOf CX0 P w K mg base ["program", "thing", "store", "word", "one", "other"] "worth_in" (defScope s_worth_in) f cdv A outer s H E).nox.A.units + 1 < cLine := room1 hr
  unfold t_worth_in
  exact (pss_cons (ps_set (i := 3) sc_worth_in.nd rfl (by first | exact Or.inl rfl | exact Or.inr rfl) (pe_ix ix_seq (pv 1) pe_int (fun _ _ => rfl)))
    (pss_cons (ps_if (pt_cmpR (o_eq hu) (pv 3) pe_str (nomark _)) (pss_one (ps_ret (pe_ix ix_seq (pv 1) pe_int (fun _ _ => rfl)))) pss_nil)
    (pss_cons (ps_if (pt_cmpR (o_eq hu) (pv 3) pe_str (nomark _)) (pss_one (ps_ret (pe_ix ix_seq (pv 2) (pe_bm PySem.F.plainAttrs_list PySem.F.slot_list_index PySem.F.type_list_index (mt_indexD hu5) (pe_ix ix_seq (pv 0) pe_int (fun _ _ => rfl)) (pa_cons (pe_ix ix_seq (pv 1) pe_int (fun _ _ => rfl)) pa_nil)) (fun _ _ => rfl)))) pss_nil)
    (pss_cons (ps_set (i := 4) sc_worth_in.nd rfl (by first | exact Or.inl rfl | exact Or.inr rfl) (pe_c c_worth_in hr (by rfl) (pa_cons (pv 0) (pa_cons (pe_ix ix_seq (pv 1) pe_int (fun _ _ => rfl)) (pa_cons (pv 2) pa_nil)))))
    (pss_cons (ps_set (i := 5) sc_worth_in.nd rfl (by first | exact Or.inl rfl | exact Or.inr rfl) (pe_c c_worth_in hr (by rfl) (pa_cons (pv 0) (pa_cons (pe_ix ix_seq (pv 1) pe_int (fun _ _ => rfl)) (pa_cons (pv 2) pa_nil)))))
    (pss_cons (ps_if (pt_cmpR (o_eq hu) (pv 3) pe_str (nomark _)) (pss_one (ps_ret (pe_op o_mod (pe_op o_add (pv 4) (pv 5)) (pe_ix ix_seq (pv 0) pe_int (fun _ _ => rfl))))) pss_nil)
    (pss_cons (ps_if (pt_cmpR (o_eq hu) (pv 3) pe_str (nomark _)) (pss_one (ps_ret (pe_op o_mod (pe_op o_mul (pv 4) (pv 5)) (pe_ix ix_seq (pv 0) pe_int (fun _ _ => rfl))))) pss_nil)
    (pss_cons (ps_if (pt_cmpR (o_eq hu) (pv 3) pe_str (nomark _)) (pss_one (ps_ret (pe_callTy o_int (by rfl) m_int (by decide +kernel) (pa_cons (pe_cmpR o_lt (pv 4) (pv 5) (nomark _)) pa_nil)))) pss_nil)
    (pss_one (ps_ret (pe_callTy o_int (by rfl) m_int (by decide +kernel) (pa_cons (pe_cmpR (o_eq hu) (pv 4) (pv 5) (nomark _)) pa_nil))))))))))))
/-! is_place -/
abbrev s_is_place : Stmt := topS 15
theorem sc_is_place : FnScope ["way"] ["way"] (defScope s_is_place) := ⟨rfl, rfl, rfl, by decide +kernel, rfl, by decide +kernel, by decide +kernel⟩
def t_is_place (K : PySem.W.Frag) : TS :=
  (tRet (tCB (rIsi K) (tCons (tOp (rIx K) (tVar 0) (tC (.int 0))) (tCons (tC (.ty "int")) tNil))))
theorem wk_is_place {P : Program} {w : World} {K : PySem.W.Frag} {mg : Str → Option Value} {base : Heap} {k : Nat} (m_isinstance : mg "isinstance" = none) (m_int : mg "int" = none)
    (f : Addr) (cdv : Value) (A : Around) (outer : List Env) (s : Shared) (H : Hp) (E : XK) (hr : Room k (A.deeper (envOfC "is_place" (defScope s_is_place) s.heap.objs.size f cdv))) :
    PSs (cxOf CX0 P w K mg base ["way"] "is_place" (defScope s_is_place) f cdv A outer s H E).nox (defBody s_is_place) (t_is_place K) := by
  have hu : (cxOf CX0 P w K mg base ["way"] "is_place" (defScope s_is_place) f cdv A outer s H E).nox.A.units + 64 < cLine := hr.units
  have hu5 : (cxOf CX0 P w K mg base ["way"] "is_place" (defScope s_is_place) f cdv A outer s H E).nox.A.units + 65 < cLine := room65 hr
  have hu1 : (cxOf CX0 P w K mg base ["way"] "is_place" (defScope s_is_place) f cdv A outer s H E).nox.A.units + 1 < cLine := room1 hr
  unfold t_is_place
  exact (pss_one (ps_ret (pe_callB call_isi (by rfl) m_isinstance (by decide +kernel) (pa_cons (pe_ix ix_seq (pv 0) pe_int (fun _ _ => rfl)) (pa_cons (pe_bltn (by rfl) m_int (by decide +kernel) rfl) pa_nil)))))
/-! place_or_end -/
abbrev s_place_or_end : Stmt := topS 16
theorem sc_place_or_end : FnScope ["program", "row", "store"] ["program", "row", "store"] (defScope s_place_or_end) := ⟨rfl, rfl, rfl, by decide +kernel, rfl, by decide +kernel, by decide +kernel⟩
def t_place_or_end (K : PySem.W.Frag) (a_NOTHING : Addr) : TS :=
  (tSeq (tIfS (tTest (tOp dGe (tVar 1) (tCB (dLen K) (tCons (tOp (rIx K) (tVar 0) (tC (.int 2))) tNil)))) (tRet (tC (.ref a_NOTHING))) tNext)
    (tRet (tTup (tCons (tVar 1) (tCons (tVar 2) tNil)))))
theorem wk_place_or_end {P : Program} {w : World} {K : PySem.W.Frag} {mg : Str → Option Value} {base : Heap} {k : Nat} {a_NOTHING : Addr} (m_len : mg "len" = none) (g_NOTHING : mg "NOTHING" = some (.ref a_NOTHING))
    (f : Addr) (cdv : Value) (A : Around) (outer : List Env) (s : Shared) (H : Hp) (E : XK) (hr : Room k (A.deeper (envOfC "place_or_end" (defScope s_place_or_end) s.heap.objs.size f cdv))) :
    PSs (cxOf CX0 P w K mg base ["program", "row", "store"] "place_or_end" (defScope s_place_or_end) f cdv A outer s H E).nox (defBody s_place_or_end) (t_place_or_end K a_NOTHING) := by
  have hu : (cxOf CX0 P w K mg base ["program", "row", "store"] "place_or_end" (defScope s_place_or_end) f cdv A outer s H E).nox.A.units + 64 < cLine := hr.units
  have hu5 : (cxOf CX0 P w K mg base ["program", "row", "store"] "place_or_end" (defScope s_place_or_end) f cdv A outer s H E).nox.A.units + 65 < cLine := room65 hr
  have hu1 : (cxOf CX0 P w K mg base ["program", "row", "store"] "place_or_end" (defScope s_place_or_end) f cdv A outer s H E).nox.A.units + 1 < cLine := room1 hr
  unfold t_place_or_end
  exact (pss_cons (ps_if (pt_cmpR o_ge (pv 1) (pe_callB o_len (by rfl) m_len (by decide +kernel) (pa_cons (pe_ix ix_seq (pv 0) pe_int (fun _ _ => rfl)) pa_nil)) (nomark _)) (pss_one (ps_ret (pe_glob (by rfl) g_NOTHING rfl))) pss_nil)
    (pss_one (ps_ret (pe_tup (pa_cons (pv 1) (pa_cons (pv 2) pa_nil))))))
/-! begin_of -/
abbrev s_begin_of : Stmt := topS 17
theorem sc_begin_of : FnScope ["program", "store"] ["program", "store"] (defScope s_begin_of) := ⟨rfl, rfl, rfl, by decide +kernel, rfl, by decide +kernel, by decide +kernel⟩
def t_begin_of (K : PySem.W.Frag) (sp_place_or_end : Sp) : TS :=
  (tRet (tCall sp_place_or_end [] E0 (tCons (tVar 0) (tCons (tC (.int 0)) (tCons (tVar 1) tNil)))))
theorem wk_begin_of {P : Program} {w : World} {K : PySem.W.Frag} {mg : Str → Option Value} {base : Heap} {k : Nat} {sp_place_or_end : Sp}
    (c_place_or_end : Cal P w K mg base CX0 k "place_or_end" ["program", "row", "store"] sp_place_or_end)
    (f : Addr) (cdv : Value) (A : Around) (outer : List Env) (s : Shared) (H : Hp) (E : XK) (hr : Room k (A.deeper (envOfC "begin_of" (defScope s_begin_of) s.heap.objs.size f cdv))) :
    PSs (cxOf CX0 P w K mg base ["program", "store"] "begin_of" (defScope s_begin_of) f cdv A outer s H E).nox (defBody s_begin_of) (t_begin_of K sp_place_or_end) := by
  have hu : (cxOf CX0 P w K mg base ["program", "store"] "begin_of" (defScope s_begin_of) f cdv A outer s H E).nox.A.units + 64 < cLine := hr.units
  have hu5 : (cxOf CX0 P w K mg base ["program", "store"] "begin_of" (defScope s_begin_of) f cdv A outer s H E).nox.A.units + 65 < cLine := room65 hr
  have hu1 : (cxOf CX0 P w K mg base ["program", "store"] "begin_of" (defScope s_begin_of) f cdv A outer s H E).nox.A.units + 1 < cLine := room1 hr
  unfold t_begin_of
  exact (pss_one (ps_ret (pe_c c_place_or_end hr (by rfl) (pa_cons (pv 0) (pa_cons pe_int (pa_cons (pv 1) pa_nil))))))
/-! store_with -/
abbrev s_store_with : Stmt := topS 18
theorem sc_store_with : FnScope ["program", "store", "box", "worth", "at"] ["program", "store", "box", "worth"] (defScope s_store_with) := ⟨rfl, rfl, rfl, by decide +kernel, rfl, by decide +kernel, by decide +kernel⟩
def t_store_with (K : PySem.W.Frag) : TS :=
  (tSeq (tAsg (tBM K "list" (rIndexD K) (tOp (rIx K) (tVar 0) (tC (.int 1))) (tCons (tVar 2) tNil)) (gName 4))
    (tRet (tOp (dAdd K) (tOp (dAdd K) (tSl (rSlA K) (tVar 1) tNoPart (tPart (tVar 4))) (tTup (tCons (tVar 3) tNil))) (tSl (rSlA K) (tVar 1) (tPart (tOp (dAdd K) (tVar 4) (tC (.int 1)))) tNoPart))))
theorem wk_store_with {P : Program} {w : World} {K : PySem.W.Frag} {mg : Str → Option Value} {base : Heap} {k : Nat}
    (f : Addr) (cdv : Value) (A : Around) (outer : List Env) (s : Shared) (H : Hp) (E : XK) (hr : Room k (A.deeper (envOfC "store_with" (defScope s_store_with) s.heap.objs.size f cdv))) :
    PSs (cxOf CX0 P w K mg base ["program", "store", "box", "worth", "at"] "store_with" (defScope s_store_with) f cdv A outer s H E).nox (defBody s_store_with) (t_store_with K) := by
  have hu : (cxOf CX0 P w K mg base ["program", "store", "box", "worth", "at"] "store_with" (defScope s_store_with) f cdv A outer s H E).nox.A.units + 64 < cLine := hr.units
  have hu5 : (cxOf CX0 P w K mg base ["program", "store", "box", "worth", "at"] "store_with" (defScope s_store_with) f cdv A outer s H E).nox.A.units + 65 < cLine := room65 hr
  have hu1 : (cxOf CX0 P w K mg base ["program", "store", "box", "worth", "at"] "store_with" (defScope s_store_with) f cdv A outer s H E).nox.A.units + 1 < cLine := room1 hr
  unfold t_store_with
  exact (pss_cons (ps_set (i := 4) sc_store_with.nd rfl (by first | exact Or.inl rfl | exact Or.inr rfl) (pe_bm PySem.F.plainAttrs_list PySem.F.slot_list_index PySem.F.type_list_index (mt_indexD hu5) (pe_ix ix_seq (pv 0) pe_int (fun _ _ => rfl)) (pa_cons (pv 2) pa_nil)))
    (pss_one (ps_ret (pe_op o_add (pe_op o_add (pe_slice sl_tupA (pv 1) po_none (po_some (pv 4))) (pe_tup (pa_cons (pv 3) pa_nil))) (pe_slice sl_tupA (pv 1) (po_some (pe_op o_add (pv 4) pe_int)) po_none)))))
/-! ways_from -/
abbrev s_ways_from : Stmt := topS 19
theorem sc_ways_from : FnScope ["program", "place", "row", "store", "asked", "word", "things", "stores", "thing", "one", "worth", "over"] ["program", "place"] (defScope s_ways_from) := ⟨rfl, rfl, rfl, by decide +kernel, rfl, by decide +kernel, by decide +kernel⟩
def t_ways_from (K : PySem.W.Frag) (sp_place_or_end : Sp) (sp_worth_in : Sp) (sp_store_with : Sp) (a_NOTHING : Addr) : TS :=
  (tSeq (tAsg (tVar 1) (gTup K 2 (gCons (gName 2) (gCons (gName 3) gNil))))
    (tSeq (tAsg (tOp (rIx K) (tOp (rIx K) (tVar 0) (tC (.int 2))) (tVar 2)) (gName 4))
    (tSeq (tAsg (tOp (rIx K) (tVar 4) (tC (.int 0))) (gName 5))
    (tSeq (tIfS (tTest (tOp (dIn K) (tVar 5) (tTup (tCons (tC (.str "set")) (tCons (tC (.str "pick")) tNil))))) (tSeq (tAsg (tOp (rIx K) (tVar 4) (tC (.int 2))) (gName 6))
    (tSeq (tIfS (tTest (tOp (dEq K) (tVar 5) (tC (.str "set")))) (tAsg (tLst (tCons (tOp (rIx K) (tVar 4) (tC (.int 2))) tNil)) (gName 6)) tNext)
    (tSeq (tAsg (tLc (iList K (tVar 6)) (gName 8) tYes (tCall sp_store_with [] E0 (tCons (tVar 0) (tCons (tVar 3) (tCons (tOp (rIx K) (tVar 4) (tC (.int 1))) (tCons (tCall sp_worth_in [] E0 (tCons (tVar 0) (tCons (tVar 8) (tCons (tVar 3) tNil)))) tNil))))) [8]) (gName 7))
    (tRet (tLc (iList K (tVar 7)) (gName 9) tYes (tCall sp_place_or_end [] E0 (tCons (tVar 0) (tCons (tOp (dAdd K) (tVar 2) (tC (.int 1))) (tCons (tVar 9) tNil)))) [9]))))) tNext)
    (tSeq (tAsg (tCall sp_worth_in [] E0 (tCons (tVar 0) (tCons (tOp (rIx K) (tVar 4) (tC (.int 1))) (tCons (tVar 3) tNil)))) (gName 10))
    (tSeq (tIfS (tTest (tOp (dEq K) (tVar 5) (tC (.str "give")))) (tRet (tLst (tCons (tTup (tCons (tC (.str "gives")) (tCons (tVar 10) tNil))) tNil))) tNext)
    (tSeq (tIfS (tAnd (tTest (tOp (dEq K) (tVar 5) (tC (.str "need")))) (tTest (tOp (dEq K) (tVar 10) (tC (.int 0))))) (tRet (tLst (tCons (tC (.ref a_NOTHING)) tNil))) tNext)
    (tSeq (tAsg (tC (.int 0)) (gName 11))
    (tSeq (tIfS (tAnd (tTest (tOp (dEq K) (tVar 5) (tC (.str "skip")))) (tTest (tOp (dNe K) (tVar 10) (tC (.int 0))))) (tAsg (tOp (rIx K) (tVar 4) (tC (.int 2))) (gName 11)) tNext)
    (tRet (tLst (tCons (tCall sp_place_or_end [] E0 (tCons (tVar 0) (tCons (tOp (dAdd K) (tOp (dAdd K) (tVar 2) (tC (.int 1))) (tVar 11)) (tCons (tVar 3) tNil)))) tNil))))))))))))
theorem wk_ways_from {P : Program} {w : World} {K : PySem.W.Frag} {mg : Str → Option Value} {base : Heap} {k : Nat} {sp_place_or_end : Sp} {sp_worth_in : Sp} {sp_store_with : Sp} {a_NOTHING : Addr}
    (c_place_or_end : Cal P w K mg base CX0 k "place_or_end" ["program", "row", "store"] sp_place_or_end)
    (c_worth_in : Cal P w K mg base CX0 k "worth_in" ["program", "thing", "store"] sp_worth_in)
    (c_store_with : Cal P w K mg base CX0 k "store_with" ["program", "store", "box", "worth"] sp_store_with) (g_NOTHING : mg "NOTHING" = some (.ref a_NOTHING))
    (f : Addr) (cdv : Value) (A : Around) (outer : List Env) (s : Shared) (H : Hp) (E : XK) (hr : Room k (A.deeper (envOfC "ways_from" (defScope s_ways_from) s.heap.objs.size f cdv))) :
    PSs (cxOf CX0 P w K mg base ["program", "place", "row", "store", "asked", "word", "things", "stores", "thing", "one", "worth", "over"] "ways_from" (defScope s_ways_from) f cdv A outer s H E).nox (defBody s_ways_from) (t_ways_from K sp_place_or_end sp_worth_in sp_store_with a_NOTHING) := by
  have hu : (cxOf CX0 P w K mg base ["program", "place", "row", "store", "asked", "word", "things", "stores", "thing", "one", "worth", "over"] "ways_from" (defScope s_ways_from) f cdv A outer s H E).nox.A.units + 64 < cLine := hr.units
  have hu5 : (cxOf CX0 P w K mg base ["program", "place", "row", "store", "asked", "word", "things", "stores", "thing", "one", "worth", "over"] "ways_from" (defScope s_ways_from) f cdv A outer s H E).nox.A.units + 65 < cLine := room65 hr
  have hu1 : (cxOf CX0 P w K mg base ["program", "place", "row", "store", "asked", "word", "things", "stores", "thing", "one", "worth", "over"] "ways_from" (defScope s_ways_from) f cdv A outer s H E).nox.A.units + 1 < cLine := room1 hr
  unfold t_ways_from
  exact (pss_cons (ps_asg (pv 1) (pg_tup rfl (pgs_cons (pg_name (i := 2) sc_ways_from.nd rfl (by first | exact Or.inl rfl | exact Or.inr rfl)) (pgs_cons (pg_name (i := 3) sc_ways_from.nd rfl (by first | exact Or.inl rfl | exact Or.inr rfl)) pgs_nil))))
    (pss_cons (ps_set (i := 4) sc_ways_from.nd rfl (by first | exact Or.inl rfl | exact Or.inr rfl) (pe_ix ix_seq (pe_ix ix_seq (pv 0) pe_int (fun _ _ => rfl)) (pv 2) (fun _ _ => rfl)))
    (pss_cons (ps_set (i := 5) sc_ways_from.nd rfl (by first | exact Or.inl rfl | exact Or.inr rfl) (pe_ix ix_seq (pv 4) pe_int (fun _ _ => rfl)))
    (pss_cons (ps_if (pt_cmpR (o_in hu5) (pv 5) (pe_tup (pa_cons pe_str (pa_cons pe_str pa_nil))) (by rfl)) (pss_cons (ps_set (i := 6) sc_ways_from.nd rfl (by first | exact Or.inl rfl | exact Or.inr rfl) (pe_ix ix_seq (pv 4) pe_int (fun _ _ => rfl)))
    (pss_cons (ps_if (pt_cmpR (o_eq hu) (pv 5) pe_str (nomark _)) (pss_one (ps_set (i := 6) sc_ways_from.nd rfl (by first | exact Or.inl rfl | exact Or.inr rfl) (pe_lst (pa_cons (pe_ix ix_seq (pv 4) pe_int (fun _ _ => rfl)) pa_nil)))) pss_nil)
    (pss_cons (ps_setLc (i := 7) (own := [("thing", 8)]) (g := (gName 8)) (tt := tYes) rfl sc_ways_from.nd rfl rfl (sw_true rfl rfl rfl (by decide +kernel)) (pi_list (pv 6)) (blkOk_by (N := ["program", "place", "row", "store", "asked", "word", "things", "stores", "thing", "one", "worth", "over"]) (sc := defScope s_ways_from) (by decide +kernel)) (fun _ _ _ _ _ => (pg_name (i := 8) sc_ways_from.nd rfl (by first | exact Or.inl rfl | exact Or.inr rfl))) (fun _ _ _ _ _ => pts_nil) (fun _ _ _ _ _ => (pe_c c_store_with hr (by rfl) (pa_cons (pv 0) (pa_cons (pv 3) (pa_cons (pe_ix ix_seq (pv 4) pe_int (fun _ _ => rfl)) (pa_cons (pe_c c_worth_in hr (by rfl) (pa_cons (pv 0) (pa_cons (pv 8) (pa_cons (pv 3) pa_nil)))) pa_nil)))))))
    (pss_one (ps_ret (pe_lc (own := [("one", 9)]) (g := (gName 9)) (tt := tYes) rfl sc_ways_from.nd (pi_list (pv 7)) (blkOk_by (N := ["program", "place", "row", "store", "asked", "word", "things", "stores", "thing", "one", "worth", "over"]) (sc := defScope s_ways_from) (by decide +kernel)) (fun _ _ _ _ _ => (pg_name (i := 9) sc_ways_from.nd rfl (by first | exact Or.inl rfl | exact Or.inr rfl))) (fun _ _ _ _ _ => pts_nil) (fun _ _ _ _ _ => (pe_c c_place_or_end hr (by rfl) (pa_cons (pv 0) (pa_cons (pe_op o_add (pv 2) pe_int) (pa_cons (pv 9) pa_nil))))))))))) pss_nil)
    (pss_cons (ps_set (i := 10) sc_ways_from.nd rfl (by first | exact Or.inl rfl | exact Or.inr rfl) (pe_c c_worth_in hr (by rfl) (pa_cons (pv 0) (pa_cons (pe_ix ix_seq (pv 4) pe_int (fun _ _ => rfl)) (pa_cons (pv 3) pa_nil)))))
    (pss_cons (ps_if (pt_cmpR (o_eq hu) (pv 5) pe_str (nomark _)) (pss_one (ps_ret (pe_lst (pa_cons (pe_tup (pa_cons pe_str (pa_cons (pv 10) pa_nil))) pa_nil)))) pss_nil)
    (pss_cons (ps_if (PW.pt (pw_and (pt_cmpR (o_eq hu) (pv 5) pe_str (nomark _)) (pw_and1 (pt_cmpR (o_eq hu) (pv 10) pe_int (nomark _))))) (pss_one (ps_ret (pe_lst (pa_cons (pe_glob (by rfl) g_NOTHING rfl) pa_nil)))) pss_nil)
    (pss_cons (ps_set (i := 11) sc_ways_from.nd rfl (by first | exact Or.inl rfl | exact Or.inr rfl) pe_int)
    (pss_cons (ps_if (PW.pt (pw_and (pt_cmpR (o_eq hu) (pv 5) pe_str (nomark _)) (pw_and1 (pt_cmpR (o_ne hu) (pv 10) pe_int (nomark _))))) (pss_one (ps_set (i := 11) sc_ways_from.nd rfl (by first | exact Or.inl rfl | exact Or.inr rfl) (pe_ix ix_seq (pv 4) pe_int (fun _ _ => rfl)))) pss_nil)
    (pss_one (ps_ret (pe_lst (pa_cons (pe_c c_place_or_end hr (by rfl) (pa_cons (pv 0) (pa_cons (pe_op o_add (pe_op o_add (pv 2) pe_int) (pv 11)) (pa_cons (pv 3) pa_nil)))) pa_nil)))))))))))))
/-! is_pick -/
abbrev s_is_pick : Stmt := topS 20
theorem sc_is_pick : FnScope ["program", "place"] ["program", "place"] (defScope s_is_pick) := ⟨rfl, rfl, rfl, by decide +kernel, rfl, by decide +kernel, by decide +kernel⟩
def t_is_pick (K : PySem.W.Frag) : TS :=
  (tRet (tOp (dEq K) (tOp (rIx K) (tOp (rIx K) (tOp (rIx K) (tVar 0) (tC (.int 2))) (tOp (rIx K) (tVar 1) (tC (.int 0)))) (tC (.int 0))) (tC (.str "pick"))))
theorem wk_is_pick {P : Program} {w : World} {K : PySem.W.Frag} {mg : Str → Option Value} {base : Heap} {k : Nat}
    (f : Addr) (cdv : Value) (A : Around) (outer : List Env) (s : Shared) (H : Hp) (E : XK) (hr : Room k (A.deeper (envOfC "is_pick" (defScope s_is_pick) s.heap.objs.size f cdv))) :
    PSs (cxOf CX0 P w K mg base ["program", "place"] "is_pick" (defScope s_is_pick) f cdv A outer s H E).nox (defBody s_is_pick) (t_is_pick K) := by
  have hu : (cxOf CX0 P w K mg base ["program", "place"] "is_pick" (defScope s_is_pick) f cdv A outer s H E).nox.A.units + 64 < cLine := hr.units
  have hu5 : (cxOf CX0 P w K mg base ["program", "place"] "is_pick" (defScope s_is_pick) f cdv A outer s H E).nox.A.units + 65 < cLine := room65 hr
  have hu1 : (cxOf CX0 P w K mg base ["program", "place"] "is_pick" (defScope s_is_pick) f cdv A outer s H E).nox.A.units + 1 < cLine := room1 hr
  unfold t_is_pick
  exact (pss_one (ps_ret (pe_cmpR (o_eq hu) (pe_ix ix_seq (pe_ix ix_seq (pe_ix ix_seq (pv 0) pe_int (fun _ _ => rfl)) (pe_ix ix_seq (pv 1) pe_int (fun _ _ => rfl)) (fun _ _ => rfl)) pe_int (fun _ _ => rfl)) pe_str (nomark _))))
/-! all_runs -/
abbrev s_all_runs : Stmt := topS 23
theorem sc_all_runs : FnScope ["program", "store", "found", "waiting", "choices", "way", "ways", "k"] ["program", "store"] (defScope s_all_runs) := ⟨rfl, rfl, rfl, by decide +kernel, rfl, by decide +kernel, by decide +kernel⟩
def t_all_runs (K : PySem.W.Frag) (sp_is_place : Sp) (sp_is_pick : Sp) (sp_ways_from : Sp) (sp_begin_of : Sp) (sp_need_store : Sp) (a_TooMany : Addr) (W : XW) : TS :=
  (tSeq (tDrop (tCallS sp_need_store (WE W) (tCons (tVar 0) (tCons (tVar 1) tNil))))
    (tSeq (tAsg (tLst tNil) (gName 2))
    (tSeq (tAsg (tLst (tCons (tTup (tCons (tLst tNil) (tCons (tCall sp_begin_of [] E0 (tCons (tVar 0) (tCons (tVar 1) tNil))) tNil))) tNil)) (gName 3))
    (tSeq (tWhile (tTest (tOp (dNe K) (tVar 3) (tLst tNil))) (tSeq (tAsg (tBM0 K "list" rPop (tVar 3)) (gTup K 2 (gCons (gName 4) (gCons (gName 5) gNil))))
    (tIfS (tNot (tB (tCall sp_is_place [] E0 (tCons (tVar 5) tNil)))) (tSeq (tDrop (tBM K "list" rAppend (tVar 2) (tCons (tTup (tCons (tVar 4) (tCons (tVar 5) tNil))) tNil)))
    (tIfS (tTest (tOp dGt (tCB (dLen K) (tCons (tVar 2) tNil)) (tC (.int 2000)))) (tRaiseW W a_TooMany) tNext)) (tIfS (tB (tCall sp_is_pick [] E0 (tCons (tVar 0) (tCons (tVar 5) tNil)))) (tSeq (tAsg (tCall sp_ways_from [] E0 (tCons (tVar 0) (tCons (tVar 5) tNil))) (gName 6))
    (tFor (iRng3 (tCons (tOp dSub (tCB (dLen K) (tCons (tVar 6) tNil)) (tC (.int 1))) (tCons (tUn dNeg (tC (.int 1))) (tCons (tUn dNeg (tC (.int 1))) tNil)))) (gName 7) (tDrop (tBM K "list" rAppend (tVar 3) (tCons (tTup (tCons (tOp (dAdd K) (tVar 4) (tLst (tCons (tVar 7) tNil))) (tCons (tOp (rIx K) (tVar 6) (tVar 7)) tNil))) tNil))))) (tDrop (tBM K "list" rAppend (tVar 3) (tCons (tTup (tCons (tVar 4) (tCons (tOp (rIx K) (tCall sp_ways_from [] E0 (tCons (tVar 0) (tCons (tVar 5) tNil))) (tC (.int 0))) tNil))) tNil)))))))
    (tRet (tVar 2))))))
theorem wk_all_runs {P : Program} {w : World} {K : PySem.W.Frag} {mg : Str → Option Value} {base : Heap} {k : Nat} {sp_is_place : Sp} {sp_is_pick : Sp} {sp_ways_from : Sp} {sp_begin_of : Sp} {sp_need_store : Sp} {a_TooMany : Addr}
    (c_is_place : Cal P w K mg base CX0 k "is_place" ["way"] sp_is_place)
    (c_is_pick : Cal P w K mg base CX0 k "is_pick" ["program", "place"] sp_is_pick)
    (c_ways_from : Cal P w K mg base CX0 k "ways_from" ["program", "place"] sp_ways_from)
    (c_begin_of : Cal P w K mg base CX0 k "begin_of" ["program", "store"] sp_begin_of)
    (c_need_store : Cal P w K mg base (L2.CX P w) k "need_store" ["program", "store"] sp_need_store) (m_len : mg "len" = none) (m_range : mg "range" = none) (g_MOST_RUNS : ∃ t, mg "MOST_RUNS" = some (.int 2000 t)) (e_TooMany : ExcT K mg "TooMany" a_TooMany)
    (f : Addr) (cdv : Value) (A : Around) (outer : List Env) (s : Shared) (H : Hp) (E : XK) (hr : Room k (A.deeper (envOfC "all_runs" (defScope s_all_runs) s.heap.objs.size f cdv))) :
    PSs (cxOf (L2.CX P w) P w K mg base ["program", "store", "found", "waiting", "choices", "way", "ways", "k"] "all_runs" (defScope s_all_runs) f cdv A outer s H E) (defBody s_all_runs) (t_all_runs K sp_is_place sp_is_pick sp_ways_from sp_begin_of sp_need_store a_TooMany (fun c d _ H' => E c d H')) := by
  obtain ⟨tk_MOST_RUNS, g_MOST_RUNS⟩ := g_MOST_RUNS
  have hu : (cxOf (L2.CX P w) P w K mg base ["program", "store", "found", "waiting", "choices", "way", "ways", "k"] "all_runs" (defScope s_all_runs) f cdv A outer s H E).A.units + 64 < cLine := hr.units
  have hu5 : (cxOf (L2.CX P w) P w K mg base ["program", "store", "found", "waiting", "choices", "way", "ways", "k"] "all_runs" (defScope s_all_runs) f cdv A outer s H E).A.units + 65 < cLine := room65 hr
  have hu1 : (cxOf (L2.CX P w) P w K mg base ["program", "store", "found", "waiting", "choices", "way", "ways", "k"] "all_runs" (defScope s_all_runs) f cdv A outer s H E).A.units + 1 < cLine := room1 hr
  unfold t_all_runs
  exact (pss_cons (ps_expr (pe_cx c_need_store hr (by rfl) (takes_of rfl rfl rfl rfl) (pa_cons (pv 0) (pa_cons (pv 1) pa_nil))))
    (pss_cons (ps_set (i := 2) sc_all_runs.nd rfl (by first | exact Or.inl rfl | exact Or.inr rfl) (pe_lst pa_nil))
    (pss_cons (ps_set (i := 3) sc_all_runs.nd rfl (by first | exact Or.inl rfl | exact Or.inr rfl) (pe_lst (pa_cons (pe_tup (pa_cons (pe_lst pa_nil) (pa_cons (pe_c c_begin_of hr (by rfl) (pa_cons (pv 0) (pa_cons (pv 1) pa_nil))) pa_nil))) pa_nil)))
    (pss_cons (ps_while (passes_of rfl) (pt_cmpR (o_ne hu) (pv 3) (pe_lst pa_nil) (nomark _)) (pss_cons (ps_asg (pe_bm0 PySem.F.plainAttrs_list PySem.F.slot_list_pop PySem.F.type_list_pop mt_pop (pv 3)) (pg_tup rfl (pgs_cons (pg_name (i := 4) sc_all_runs.nd rfl (by first | exact Or.inl rfl | exact Or.inr rfl)) (pgs_cons (pg_name (i := 5) sc_all_runs.nd rfl (by first | exact Or.inl rfl | exact Or.inr rfl)) pgs_nil))))
    (pss_one (ps_if (pt_not (pt_val (pe_c c_is_place hr (by rfl) (pa_cons (pv 5) pa_nil)))) (pss_cons (ps_expr (pe_bm PySem.F.plainAttrs_list PySem.F.slot_list_append PySem.F.type_list_append mt_append (pv 2) (pa_cons (pe_tup (pa_cons (pv 4) (pa_cons (pv 5) pa_nil))) pa_nil)))
    (pss_one (ps_if (pt_cmpR o_gt (pe_callB o_len (by rfl) m_len (by decide +kernel) (pa_cons (pv 2) pa_nil)) (pe_glob (by rfl) g_MOST_RUNS ⟨_, rfl⟩) (nomark _)) (pss_one (ps_rs rfl (takes_of rfl rfl rfl rfl) e_TooMany (by rfl))) pss_nil))) (pss_one (ps_if (pt_val (pe_c c_is_pick hr (by rfl) (pa_cons (pv 0) (pa_cons (pv 5) pa_nil)))) (pss_cons (ps_set (i := 6) sc_all_runs.nd rfl (by first | exact Or.inl rfl | exact Or.inr rfl) (pe_c c_ways_from hr (by rfl) (pa_cons (pv 0) (pa_cons (pv 5) pa_nil))))
    (pss_one (ps_for (passes_of rfl) rfl (pi_range3 (by rfl) m_range (pa_cons (pe_op o_sub (pe_callB o_len (by rfl) m_len (by decide +kernel) (pa_cons (pv 6) pa_nil)) pe_int) (pa_cons (pe_un o_neg pe_int) (pa_cons (pe_un o_neg pe_int) pa_nil)))) (pg_name (i := 7) sc_all_runs.nd rfl (by first | exact Or.inl rfl | exact Or.inr rfl)) (pss_one (ps_expr (pe_bm PySem.F.plainAttrs_list PySem.F.slot_list_append PySem.F.type_list_append mt_append (pv 3) (pa_cons (pe_tup (pa_cons (pe_op o_add (pv 4) (pe_lst (pa_cons (pv 7) pa_nil))) (pa_cons (pe_ix ix_seq (pv 6) (pv 7) (fun _ _ => rfl)) pa_nil))) pa_nil))))))) (pss_one (ps_expr (pe_bm PySem.F.plainAttrs_list PySem.F.slot_list_append PySem.F.type_list_append mt_append (pv 3) (pa_cons (pe_tup (pa_cons (pv 4) (pa_cons (pe_ix ix_seq (pe_c c_ways_from hr (by rfl) (pa_cons (pv 0) (pa_cons (pv 5) pa_nil))) pe_int (fun _ _ => rfl)) pa_nil))) pa_nil))))))))))
    (pss_one (ps_ret (pv 2)))))))
/-! _law_deck -/
abbrev s_l_deck : Stmt := topS 25
theorem sc_l_deck : FnScope ["script", "pools", "k", "cell"] ["script"] (defScope s_l_deck) := ⟨rfl, rfl, rfl, by decide +kernel, rfl, by decide +kernel, by decide +kernel⟩
def t_l_deck (K : PySem.W.Frag) : TS :=
  (tSeq (tAsg (tLst tNil) (gName 1))
    (tSeq (tFor (iRng1 (tCons (tCB (dMax K) (tCons (tC (.int 1)) (tCons (tCB (dMin K) (tCons (tC (.int 63)) (tCons (tCB (dLen K) (tCons (tVar 0) tNil)) tNil))) tNil))) tNil)) (gName 2) (tSeq (tAsg (tC (.int 0)) (gName 3))
    (tSeq (tIfS (tTest (tOp dLt (tVar 2) (tCB (dLen K) (tCons (tVar 0) tNil)))) (tAsg (tOp (rIx K) (tVar 0) (tVar 2)) (gName 3)) tNext)
    (tDrop (tBM K "list" rAppend (tVar 1) (tCons (tLst (tCons (tVar 3) (tCons (tCB dInt (tCons (tOp dGe (tVar 3) (tOp dPow (tC (.int 10)) (tC (.int 18)))) tNil)) (tCons (tOp dMul (tC (.int 31)) (tVar 2)) tNil)))) tNil))))))
    (tRet (tLst (tCons (tVar 1) (tCons (tC (.int 0)) tNil))))))
theorem wk_l_deck {P : Program} {w : World} {K : PySem.W.Frag} {mg : Str → Option Value} {base : Heap} {k : Nat} (m_range : mg "range" = none) (m_max : mg "max" = none) (m_min : mg "min" = none) (m_len : mg "len" = none) (m_int : mg "int" = none)
    (f : Addr) (cdv : Value) (A : Around) (outer : List Env) (s : Shared) (H : Hp) (E : XK) (hr : Room k (A.deeper (envOfC "_law_deck" (defScope s_l_deck) s.heap.objs.size f cdv))) :
    PSs (cxOf CX0 P w K mg base ["script", "pools", "k", "cell"] "_law_deck" (defScope s_l_deck) f cdv A outer s H E).nox (defBody s_l_deck) (t_l_deck K) := by
  have hu : (cxOf CX0 P w K mg base ["script", "pools", "k", "cell"] "_law_deck" (defScope s_l_deck) f cdv A outer s H E).nox.A.units + 64 < cLine := hr.units
  have hu5 : (cxOf CX0 P w K mg base ["script", "pools", "k", "cell"] "_law_deck" (defScope s_l_deck) f cdv A outer s H E).nox.A.units + 65 < cLine := room65 hr
  have hu1 : (cxOf CX0 P w K mg base ["script", "pools", "k", "cell"] "_law_deck" (defScope s_l_deck) f cdv A outer s H E).nox.A.units + 1 < cLine := room1 hr
  unfold t_l_deck
  exact (pss_cons (ps_set (i := 1) sc_l_deck.nd rfl (by first | exact Or.inl rfl | exact Or.inr rfl) (pe_lst pa_nil))
    (pss_cons (ps_for PassesOwn.never rfl (pi_range1 (by rfl) m_range (pa_cons (pe_callB (o_max rfl) (by rfl) m_max (by decide +kernel) (pa_cons pe_int (pa_cons (pe_callB (o_min rfl) (by rfl) m_min (by decide +kernel) (pa_cons pe_int (pa_cons (pe_callB o_len (by rfl) m_len (by decide +kernel) (pa_cons (pv 0) pa_nil)) pa_nil))) pa_nil))) pa_nil)) (pg_name (i := 2) sc_l_deck.nd rfl (by first | exact Or.inl rfl | exact Or.inr rfl)) (pss_cons (ps_set (i := 3) sc_l_deck.nd rfl (by first | exact Or.inl rfl | exact Or.inr rfl) pe_int)
    (pss_cons (ps_if (pt_cmpR o_lt (pv 2) (pe_callB o_len (by rfl) m_len (by decide +kernel) (pa_cons (pv 0) pa_nil)) (nomark _)) (pss_one (ps_set (i := 3) sc_l_deck.nd rfl (by first | exact Or.inl rfl | exact Or.inr rfl) (pe_ix ix_seq (pv 0) (pv 2) (fun _ _ => rfl)))) pss_nil)
    (pss_one (ps_expr (pe_bm PySem.F.plainAttrs_list PySem.F.slot_list_append PySem.F.type_list_append mt_append (pv 1) (pa_cons (pe_lst (pa_cons (pv 3) (pa_cons (pe_callTy o_int (by rfl) m_int (by decide +kernel) (pa_cons (pe_cmpR o_ge (pv 3) (pe_op o_pow pe_int pe_int) (nomark _)) pa_nil)) (pa_cons (pe_op o_mul pe_int (pv 2)) pa_nil)))) pa_nil)))))))
    (pss_one (ps_ret (pe_lst (pa_cons (pv 1) (pa_cons pe_int pa_nil)))))))
/-! _law_draw -/
abbrev s_l_draw : Stmt := topS 26
theorem sc_l_draw : FnScope ["deck", "many", "pool", "found", "number"] ["deck", "many"] (defScope s_l_draw) := ⟨rfl, rfl, rfl, by decide +kernel, rfl, by decide +kernel, by decide +kernel⟩
def t_l_draw (K : PySem.W.Frag) : TS :=
  (tSeq (tAsg (tOp (rIx K) (tOp (rIx K) (tVar 0) (tC (.int 0))) (tOp dMod (tOp (rIx K) (tVar 0) (tC (.int 1))) (tCB (dLen K) (tCons (tOp (rIx K) (tVar 0) (tC (.int 0))) tNil)))) (gName 2))
    (tSeq (tAsg (tOp (dAdd K) (tOp (rIx K) (tVar 0) (tC (.int 1))) (tC (.int 1))) (gSub (tVar 0) (tC (.int 1)) rSetL))
    (tSeq (tIfS (tAnd (tTest (tOp (dEq K) (tOp (rIx K) (tVar 2) (tC (.int 1))) (tC (.int 1)))) (tTest (tOp dGt (tOp (rIx K) (tVar 2) (tC (.int 0))) (tC (.int 0))))) (tSeq (tAsg (tOp dMod (tOp (rIx K) (tVar 2) (tC (.int 0))) (tVar 1)) (gName 3))
    (tSeq (tAsg (tOp dDiv (tOp (rIx K) (tVar 2) (tC (.int 0))) (tVar 1)) (gSub (tVar 2) (tC (.int 0)) rSetL))
    (tRet (tVar 3)))) tNext)
    (tSeq (tAsg (tOp (dAdd K) (tOp (rIx K) (tVar 2) (tC (.int 2))) (tC (.int 1))) (gSub (tVar 2) (tC (.int 2)) rSetL))
    (tSeq (tAsg (tOp dMod (tOp (dAdd K) (tOp dMod (tOp (rIx K) (tVar 2) (tC (.int 0))) (tC (.int 99999999977))) (tOp dMul (tC (.int 700001)) (tOp (rIx K) (tVar 2) (tC (.int 2))))) (tC (.int 99999999947))) (gName 4))
    (tSeq (tAsg (tOp dMod (tOp dMul (tVar 4) (tVar 4)) (tC (.int 99999999821))) (gName 4))
    (tSeq (tAsg (tOp dMod (tOp dMul (tVar 4) (tOp (dAdd K) (tVar 4) (tC (.int 19)))) (tC (.int 9999999967))) (gName 4))
    (tRet (tOp dMod (tOp dDiv (tVar 4) (tC (.int 13))) (tVar 1))))))))))
theorem wk_l_draw {P : Program} {w : World} {K : PySem.W.Frag} {mg : Str → Option Value} {base : Heap} {k : Nat} (m_len : mg "len" = none)
    (f : Addr) (cdv : Value) (A : Around) (outer : List Env) (s : Shared) (H : Hp) (E : XK) (hr : Room k (A.deeper (envOfC "_law_draw" (defScope s_l_draw) s.heap.objs.size f cdv))) :
    PSs (cxOf CX0 P w K mg base ["deck", "many", "pool", "found", "number"] "_law_draw" (defScope s_l_draw) f cdv A outer s H E).nox (defBody s_l_draw) (t_l_draw K) := by
  have hu : (cxOf CX0 P w K mg base ["deck", "many", "pool", "found", "number"] "_law_draw" (defScope s_l_draw) f cdv A outer s H E).nox.A.units + 64 < cLine := hr.units
  have hu5 : (cxOf CX0 P w K mg base ["deck", "many", "pool", "found", "number"] "_law_draw" (defScope s_l_draw) f cdv A outer s H E).nox.A.units + 65 < cLine := room65 hr
  have hu1 : (cxOf CX0 P w K mg base ["deck", "many", "pool", "found", "number"] "_law_draw" (defScope s_l_draw) f cdv A outer s H E).nox.A.units + 1 < cLine := room1 hr
  unfold t_l_draw
  exact (pss_cons (ps_set (i := 2) sc_l_draw.nd rfl (by first | exact Or.inl rfl | exact Or.inr rfl) (pe_ix ix_seq (pe_ix ix_seq (pv 0) pe_int (fun _ _ => rfl)) (pe_op o_mod (pe_ix ix_seq (pv 0) pe_int (fun _ _ => rfl)) (pe_callB o_len (by rfl) m_len (by decide +kernel) (pa_cons (pe_ix ix_seq (pv 0) pe_int (fun _ _ => rfl)) pa_nil))) (fun _ _ => rfl)))
    (pss_cons (ps_asg (pe_op o_add (pe_ix ix_seq (pv 0) pe_int (fun _ _ => rfl)) pe_int) (pg_sub (pv 0) pe_int set_list))
    (pss_cons (ps_if (PW.pt (pw_and (pt_cmpR (o_eq hu) (pe_ix ix_seq (pv 2) pe_int (fun _ _ => rfl)) pe_int (nomark _)) (pw_and1 (pt_cmpR o_gt (pe_ix ix_seq (pv 2) pe_int (fun _ _ => rfl)) pe_int (nomark _))))) (pss_cons (ps_set (i := 3) sc_l_draw.nd rfl (by first | exact Or.inl rfl | exact Or.inr rfl) (pe_op o_mod (pe_ix ix_seq (pv 2) pe_int (fun _ _ => rfl)) (pv 1)))
    (pss_cons (ps_asg (pe_op o_div (pe_ix ix_seq (pv 2) pe_int (fun _ _ => rfl)) (pv 1)) (pg_sub (pv 2) pe_int set_list))
    (pss_one (ps_ret (pv 3))))) pss_nil)
    (pss_cons (ps_asg (pe_op o_add (pe_ix ix_seq (pv 2) pe_int (fun _ _ => rfl)) pe_int) (pg_sub (pv 2) pe_int set_list))
    (pss_cons (ps_set (i := 4) sc_l_draw.nd rfl (by first | exact Or.inl rfl | exact Or.inr rfl) (pe_op o_mod (pe_op o_add (pe_op o_mod (pe_ix ix_seq (pv 2) pe_int (fun _ _ => rfl)) pe_int) (pe_op o_mul pe_int (pe_ix ix_seq (pv 2) pe_int (fun _ _ => rfl)))) pe_int))
    (pss_cons (ps_set (i := 4) sc_l_draw.nd rfl (by first | exact Or.inl rfl | exact Or.inr rfl) (pe_op o_mod (pe_op o_mul (pv 4) (pv 4)) pe_int))
    (pss_cons (ps_set (i := 4) sc_l_draw.nd rfl (by first | exact Or.inl rfl | exact Or.inr rfl) (pe_op o_mod (pe_op o_mul (pv 4) (pe_op o_add (pv 4) pe_int)) pe_int))
    (pss_one (ps_ret (pe_op o_mod (pe_op o_div (pv 4) pe_int) (pv 1)))))))))))
/-! _law_names -/
abbrev s_l_names : Stmt := topS 27
theorem sc_l_names : FnScope ["deck", "letters", "found", "k", "name", "j", "turn"] ["deck"] (defScope s_l_names) := ⟨rfl, rfl, rfl, by decide +kernel, rfl, by decide +kernel, by decide +kernel⟩
def t_l_names (K : PySem.W.Frag) (sp_l_draw : Sp) : TS :=
  (tSeq (tAsg (tC (.str "abcdefghijklmnopqrstuvwxyz")) (gName 1))
    (tSeq (tAsg (tLst tNil) (gName 2))
    (tSeq (tFor (iRng1 (tCons (tOp (dAdd K) (tC (.int 1)) (tCall sp_l_draw [] E0 (tCons (tVar 0) (tCons (tC (.int 5)) tNil)))) tNil)) (gName 3) (tSeq (tAsg (tBM K "str" (rJoin K) (tC (.str "")) (tCons (tLc (iRng1 (tCons (tOp (dAdd K) (tC (.int 1)) (tCall sp_l_draw [] E0 (tCons (tVar 0) (tCons (tC (.int 8)) tNil)))) tNil)) (gName 5) tYes (tOp (rIx K) (tVar 1) (tCall sp_l_draw [] E0 (tCons (tVar 0) (tCons (tC (.int 26)) tNil)))) [5]) tNil)) (gName 4))
    (tSeq (tIfS (tAnd (tTest (tOp (dNe K) (tVar 2) (tLst tNil))) (tTest (tOp (dEq K) (tCall sp_l_draw [] E0 (tCons (tVar 0) (tCons (tC (.int 2)) tNil))) (tC (.int 0))))) (tAsg (tOp (dAdd K) (tSl rSlS (tOp (rIx K) (tVar 2) (tUn dNeg (tC (.int 1)))) tNoPart (tPart (tOp (dAdd K) (tC (.int 1)) (tCall sp_l_draw [] E0 (tCons (tVar 0) (tCons (tC (.int 7)) tNil)))))) (tOp (rIx K) (tVar 1) (tCall sp_l_draw [] E0 (tCons (tVar 0) (tCons (tC (.int 26)) tNil))))) (gName 4)) tNext)
    (tSeq (tIfS (tTest (tOp (dEq K) (tCall sp_l_draw [] E0 (tCons (tVar 0) (tCons (tC (.int 4)) tNil))) (tC (.int 0)))) (tAsg (tOp (rIx K) (tLst (tCons (tC (.str "a")) (tCons (tC (.str "number")) (tCons (tC (.str "box")) (tCons (tC (.str "pick")) (tCons (tC (.str "nothing")) (tCons (tC (.str "set")) tNil))))))) (tCall sp_l_draw [] E0 (tCons (tVar 0) (tCons (tC (.int 6)) tNil)))) (gName 4)) tNext)
    (tSeq (tAsg (tC (.int 0)) (gName 6))
    (tSeq (tWhile (tTest (tOp (dIn K) (tVar 4) (tVar 2))) (tSeq (tAsg (tOp rMulS (tOp (rIx K) (tVar 1) (tVar 6)) (tC (.int 8))) (gName 4))
    (tAsg (tOp (dAdd K) (tVar 6) (tC (.int 1))) (gName 6))))
    (tDrop (tBM K "list" rAppend (tVar 2) (tCons (tVar 4) tNil)))))))))
    (tRet (tVar 2)))))
theorem wk_l_names {P : Program} {w : World} {K : PySem.W.Frag} {mg : Str → Option Value} {base : Heap} {k : Nat} {sp_l_draw : Sp}
    (c_l_draw : Cal P w K mg base CX0 k "_law_draw" ["deck", "many"] sp_l_draw) (m_range : mg "range" = none)
    (f : Addr) (cdv : Value) (A : Around) (outer : List Env) (s : Shared) (H : Hp) (E : XK) (hr : Room k (A.deeper (envOfC "_law_names" (defScope s_l_names) s.heap.objs.size f cdv))) :
    PSs (cxOf CX0 P w K mg base ["deck", "letters", "found", "k", "name", "j", "turn"] "_law_names" (defScope s_l_names) f cdv A outer s H E).nox (defBody s_l_names) (t_l_names K sp_l_draw) := by
  have hu : (cxOf CX0 P w K mg base ["deck", "letters", "found", "k", "name", "j", "turn"] "_law_names" (defScope s_l_names) f cdv A outer s H E).nox.A.units + 64 < cLine := hr.units
  have hu5 : (cxOf CX0 P w K mg base ["deck", "letters", "found", "k", "name", "j", "turn"] "_law_names" (defScope s_l_names) f cdv A outer s H E).nox.A.units + 65 < cLine := room65 hr
  have hu1 : (cxOf CX0 P w K mg base ["deck", "letters", "found", "k", "name", "j", "turn"] "_law_names" (defScope s_l_names) f cdv A outer s H E).nox.A.units + 1 < cLine := room1 hr
  unfold t_l_names
  exact (pss_cons (ps_set (i := 1) sc_l_names.nd rfl (by first | exact Or.inl rfl | exact Or.inr rfl) pe_str)
    (pss_cons (ps_set (i := 2) sc_l_names.nd rfl (by first | exact Or.inl rfl | exact Or.inr rfl) (pe_lst pa_nil))
    (pss_cons (ps_for PassesOwn.never rfl (pi_range1 (by rfl) m_range (pa_cons (pe_op o_add pe_int (pe_c c_l_draw hr (by rfl) (pa_cons (pv 0) (pa_cons pe_int pa_nil)))) pa_nil)) (pg_name (i := 3) sc_l_names.nd rfl (by first | exact Or.inl rfl | exact Or.inr rfl)) (pss_cons (ps_set (i := 4) sc_l_names.nd rfl (by first | exact Or.inl rfl | exact Or.inr rfl) (pe_bm PySem.F.plainAttrs_str PySem.F.slot_str_join PySem.F.type_str_join mt_join pe_str (pa_cons (pe_lc (own := [("j", 5)]) (g := (gName 5)) (tt := tYes) rfl sc_l_names.nd (pi_range1 (by rfl) m_range (pa_cons (pe_op o_add pe_int (pe_c c_l_draw hr (by rfl) (pa_cons (pv 0) (pa_cons pe_int pa_nil)))) pa_nil)) (blkOk_by (N := ["deck", "letters", "found", "k", "name", "j", "turn"]) (sc := defScope s_l_names) (by decide +kernel)) (fun _ _ _ _ _ => (pg_name (i := 5) sc_l_names.nd rfl (by first | exact Or.inl rfl | exact Or.inr rfl))) (fun _ _ _ _ _ => pts_nil) (fun _ _ _ _ _ => (pe_ix ix_seq (pv 1) (pe_c c_l_draw hr (by rfl) (pa_cons (pv 0) (pa_cons pe_int pa_nil))) (fun _ _ => rfl)))) pa_nil)))
    (pss_cons (ps_if (PW.pt (pw_and (pt_cmpR (o_ne hu) (pv 2) (pe_lst pa_nil) (nomark _)) (pw_and1 (pt_cmpR (o_eq hu) (pe_c c_l_draw hr (by rfl) (pa_cons (pv 0) (pa_cons pe_int pa_nil))) pe_int (nomark _))))) (pss_one (ps_set (i := 4) sc_l_names.nd rfl (by first | exact Or.inl rfl | exact Or.inr rfl) (pe_op o_add (pe_slice sl_str (pe_ix ix_seq (pv 2) (pe_un o_neg pe_int) (fun _ _ => rfl)) po_none (po_some (pe_op o_add pe_int (pe_c c_l_draw hr (by rfl) (pa_cons (pv 0) (pa_cons pe_int pa_nil)))))) (pe_ix ix_seq (pv 1) (pe_c c_l_draw hr (by rfl) (pa_cons (pv 0) (pa_cons pe_int pa_nil))) (fun _ _ => rfl))))) pss_nil)
    (pss_cons (ps_if (pt_cmpR (o_eq hu) (pe_c c_l_draw hr (by rfl) (pa_cons (pv 0) (pa_cons pe_int pa_nil))) pe_int (nomark _)) (pss_one (ps_set (i := 4) sc_l_names.nd rfl (by first | exact Or.inl rfl | exact Or.inr rfl) (pe_ix ix_seq (pe_lst (pa_cons pe_str (pa_cons pe_str (pa_cons pe_str (pa_cons pe_str (pa_cons pe_str (pa_cons pe_str pa_nil))))))) (pe_c c_l_draw hr (by rfl) (pa_cons (pv 0) (pa_cons pe_int pa_nil))) (fun _ _ => rfl)))) pss_nil)
    (pss_cons (ps_set (i := 6) sc_l_names.nd rfl (by first | exact Or.inl rfl | exact Or.inr rfl) pe_int)
    (pss_cons (ps_while PassesOwn.never (pt_cmpR (o_in hu5) (pv 4) (pv 2) (by rfl)) (pss_cons (ps_set (i := 4) sc_l_names.nd rfl (by first | exact Or.inl rfl | exact Or.inr rfl) (pe_op op_mulS (pe_ix ix_seq (pv 1) (pv 6) (fun _ _ => rfl)) pe_int))
    (pss_one (ps_set (i := 6) sc_l_names.nd rfl (by first | exact Or.inl rfl | exact Or.inr rfl) (pe_op o_add (pv 6) pe_int)))))
    (pss_one (ps_expr (pe_bm PySem.F.plainAttrs_list PySem.F.slot_list_append PySem.F.type_list_append mt_append (pv 2) (pa_cons (pv 4) pa_nil))))))))))
    (pss_one (ps_ret (pv 2))))))
/-! _law_thing -/
abbrev s_l_thing : Stmt := topS 28
theorem sc_l_thing : FnScope ["deck", "m", "boxes", "deep", "kind", "thing", "one"] ["deck", "m", "boxes", "deep"] (defScope s_l_thing) := ⟨rfl, rfl, rfl, by decide +kernel, rfl, by decide +kernel, by decide +kernel⟩
def t_l_thing (K : PySem.W.Frag) (sp_l_thing : Sp) (sp_l_draw : Sp) : TS :=
  (tSeq (tAsg (tCall sp_l_draw [] E0 (tCons (tVar 0) (tCons (tC (.int 7)) tNil))) (gName 4))
    (tSeq (tIfS (tOr (tTest (tOp (dEq K) (tVar 3) (tC (.int 1)))) (tTest (tOp dLt (tVar 4) (tC (.int 3))))) (tSeq (tAsg (tTup (tCons (tC (.str "box")) (tCons (tOp (rIx K) (tVar 2) (tCall sp_l_draw [] E0 (tCons (tVar 0) (tCons (tCB (dLen K) (tCons (tVar 2) tNil)) tNil)))) tNil))) (gName 5))
    (tSeq (tIfS (tTest (tOp (dEq K) (tOp dMod (tVar 4) (tC (.int 2))) (tC (.int 0)))) (tAsg (tTup (tCons (tC (.str "number")) (tCons (tOp (rIx K) (tLst (tCons (tC (.int 0)) (tCons (tOp dSub (tVar 1) (tC (.int 1))) (tCons (tCall sp_l_draw [] E0 (tCons (tVar 0) (tCons (tVar 1) tNil))) tNil)))) (tCall sp_l_draw [] E0 (tCons (tVar 0) (tCons (tC (.int 3)) tNil)))) tNil))) (gName 5)) tNext)
    (tRet (tVar 5)))) tNext)
    (tSeq (tAsg (tCall sp_l_thing [] E0 (tCons (tVar 0) (tCons (tVar 1) (tCons (tVar 2) (tCons (tOp dSub (tVar 3) (tC (.int 1))) tNil))))) (gName 6))
    (tRet (tTup (tCons (tOp (rIx K) (tLst (tCons (tC (.str "plus")) (tCons (tC (.str "times")) (tCons (tC (.str "less")) (tCons (tC (.str "same")) tNil))))) (tOp dSub (tVar 4) (tC (.int 3)))) (tCons (tVar 6) (tCons (tCall sp_l_thing [] E0 (tCons (tVar 0) (tCons (tVar 1) (tCons (tVar 2) (tCons (tOp dSub (tVar 3) (tC (.int 1))) tNil))))) tNil))))))))
theorem wk_l_thing {P : Program} {w : World} {K : PySem.W.Frag} {mg : Str → Option Value} {base : Heap} {k : Nat} {sp_l_thing : Sp} {sp_l_draw : Sp}
    (c_l_thing : Cal P w K mg base CX0 k "_law_thing" ["deck", "m", "boxes", "deep"] sp_l_thing)
    (c_l_draw : Cal P w K mg base CX0 k "_law_draw" ["deck", "many"] sp_l_draw) (m_len : mg "len" = none)
    (f : Addr) (cdv : Value) (A : Around) (outer : List Env) (s : Shared) (H : Hp) (E : XK) (hr : Room k (A.deeper (envOfC "_law_thing" (defScope s_l_thing) s.heap.objs.size f cdv))) :
    PSs (cxOf CX0 P w K mg base ["deck", "m", "boxes", "deep", "kind", "thing", "one"] "_law_thing" (defScope s_l_thing) f cdv A outer s H E).nox (defBody s_l_thing) (t_l_thing K sp_l_thing sp_l_draw) := by
  have hu : (cxOf CX0 P w K mg base ["deck", "m", "boxes", "deep", "kind", "thing", "one"] "_law_thing" (defScope s_l_thing) f cdv A outer s H E).nox.A.units + 64 < cLine := hr.units
  have hu5 : (cxOf CX0 P w K mg base ["deck", "m", "boxes", "deep", "kind", "thing", "one"] "_law_thing" (defScope s_l_thing) f cdv A outer s H E).nox.A.units + 65 < cLine := room65 hr
  have hu1 : (cxOf CX0 P w K mg base ["deck", "m", "boxes", "deep", "kind", "thing", "one"] "_law_thing" (defScope s_l_thing) f cdv A outer s H E).nox.A.units + 1 < cLine := room1 hr
  unfold t_l_thing
  exact (pss_cons (ps_set (i := 4) sc_l_thing.nd rfl (by first | exact Or.inl rfl | exact Or.inr rfl) (pe_c c_l_draw hr (by rfl) (pa_cons (pv 0) (pa_cons pe_int pa_nil))))
    (pss_cons (ps_if (PW.pt (pw_or (pt_cmpR (o_eq hu) (pv 3) pe_int (nomark _)) (pw_or1 (pt_cmpR o_lt (pv 4) pe_int (nomark _))))) (pss_cons (ps_set (i := 5) sc_l_thing.nd rfl (by first | exact Or.inl rfl | exact Or.inr rfl) (pe_tup (pa_cons pe_str (pa_cons (pe_ix ix_seq (pv 2) (pe_c c_l_draw hr (by rfl) (pa_cons (pv 0) (pa_cons (pe_callB o_len (by rfl) m_len (by decide +kernel) (pa_cons (pv 2) pa_nil)) pa_nil))) (fun _ _ => rfl)) pa_nil))))
    (pss_cons (ps_if (pt_cmpR (o_eq hu) (pe_op o_mod (pv 4) pe_int) pe_int (nomark _)) (pss_one (ps_set (i := 5) sc_l_thing.nd rfl (by first | exact Or.inl rfl | exact Or.inr rfl) (pe_tup (pa_cons pe_str (pa_cons (pe_ix ix_seq (pe_lst (pa_cons pe_int (pa_cons (pe_op o_sub (pv 1) pe_int) (pa_cons (pe_c c_l_draw hr (by rfl) (pa_cons (pv 0) (pa_cons (pv 1) pa_nil))) pa_nil)))) (pe_c c_l_draw hr (by rfl) (pa_cons (pv 0) (pa_cons pe_int pa_nil))) (fun _ _ => rfl)) pa_nil))))) pss_nil)
    (pss_one (ps_ret (pv 5))))) pss_nil)
    (pss_cons (ps_set (i := 6) sc_l_thing.nd rfl (by first | exact Or.inl rfl | exact Or.inr rfl) (pe_c c_l_thing hr (by rfl) (pa_cons (pv 0) (pa_cons (pv 1) (pa_cons (pv 2) (pa_cons (pe_op o_sub (pv 3) pe_int) pa_nil))))))
    (pss_one (ps_ret (pe_tup (pa_cons (pe_ix ix_seq (pe_lst (pa_cons pe_str (pa_cons pe_str (pa_cons pe_str (pa_cons pe_str pa_nil))))) (pe_op o_sub (pv 4) pe_int) (fun _ _ => rfl)) (pa_cons (pv 6) (pa_cons (pe_c c_l_thing hr (by rfl) (pa_cons (pv 0) (pa_cons (pv 1) (pa_cons (pv 2) (pa_cons (pe_op o_sub (pv 3) pe_int) pa_nil))))) pa_nil)))))))))
/-! _law_row -/
abbrev s_l_row : Stmt := topS 29
theorem sc_l_row : FnScope ["deck", "m", "boxes", "kind", "deep", "box", "many", "k"] ["deck", "m", "boxes"] (defScope s_l_row) := ⟨rfl, rfl, rfl, by decide +kernel, rfl, by decide +kernel, by decide +kernel⟩
def t_l_row (K : PySem.W.Frag) (sp_l_thing : Sp) (sp_l_draw : Sp) : TS :=
  (tSeq (tAsg (tCall sp_l_draw [] E0 (tCons (tVar 0) (tCons (tC (.int 12)) tNil))) (gName 3))
    (tSeq (tAsg (tOp (dAdd K) (tC (.int 1)) (tCall sp_l_draw [] E0 (tCons (tVar 0) (tCons (tC (.int 4)) tNil)))) (gName 4))
    (tSeq (tAsg (tOp (rIx K) (tVar 2) (tCall sp_l_draw [] E0 (tCons (tVar 0) (tCons (tCB (dLen K) (tCons (tVar 2) tNil)) tNil)))) (gName 5))
    (tSeq (tIfS (tTest (tOp dLt (tVar 3) (tC (.int 4)))) (tRet (tTup (tCons (tC (.str "set")) (tCons (tVar 5) (tCons (tCall sp_l_thing [] E0 (tCons (tVar 0) (tCons (tVar 1) (tCons (tVar 2) (tCons (tVar 4) tNil))))) tNil))))) tNext)
    (tSeq (tIfS (tTest (tOp dLt (tVar 3) (tC (.int 7)))) (tSeq (tAsg (tOp (rIx K) (tLst (tCons (tC (.int 1)) (tCons (tC (.int 2)) (tCons (tC (.int 4)) (tCons (tC (.int 3)) (tCons (tC (.int 5)) tNil)))))) (tCall sp_l_draw [] E0 (tCons (tVar 0) (tCons (tC (.int 5)) tNil)))) (gName 6))
    (tRet (tTup (tCons (tC (.str "pick")) (tCons (tVar 5) (tCons (tLc (iRng1 (tCons (tVar 6) tNil)) (gName 7) tYes (tCall sp_l_thing [] E0 (tCons (tVar 0) (tCons (tVar 1) (tCons (tVar 2) (tCons (tVar 4) tNil))))) [7]) tNil)))))) tNext)
    (tSeq (tIfS (tTest (tOp dLt (tVar 3) (tC (.int 10)))) (tRet (tTup (tCons (tC (.str "skip")) (tCons (tCall sp_l_thing [] E0 (tCons (tVar 0) (tCons (tVar 1) (tCons (tVar 2) (tCons (tVar 4) tNil))))) (tCons (tOp (rIx K) (tLst (tCons (tC (.int 1)) (tCons (tC (.int 2)) (tCons (tC (.int 3)) (tCons (tOp (dAdd K) (tC (.int 1)) (tCall sp_l_draw [] E0 (tCons (tVar 0) (tCons (tC (.int 30)) tNil)))) tNil))))) (tCall sp_l_draw [] E0 (tCons (tVar 0) (tCons (tC (.int 4)) tNil)))) tNil))))) tNext)
    (tSeq (tIfS (tTest (tOp (dEq K) (tVar 3) (tC (.int 10)))) (tRet (tTup (tCons (tC (.str "need")) (tCons (tTup (tCons (tC (.str "plus")) (tCons (tTup (tCons (tC (.str "number")) (tCons (tC (.int 1)) tNil))) (tCons (tCall sp_l_thing [] E0 (tCons (tVar 0) (tCons (tVar 1) (tCons (tVar 2) (tCons (tCB (dMin K) (tCons (tVar 4) (tCons (tC (.int 3)) tNil))) tNil))))) tNil)))) tNil)))) tNext)
    (tRet (tOp (rIx K) (tLst (tCons (tTup (tCons (tC (.str "need")) (tCons (tCall sp_l_thing [] E0 (tCons (tVar 0) (tCons (tVar 1) (tCons (tVar 2) (tCons (tVar 4) tNil))))) tNil))) (tCons (tTup (tCons (tC (.str "give")) (tCons (tCall sp_l_thing [] E0 (tCons (tVar 0) (tCons (tVar 1) (tCons (tVar 2) (tCons (tVar 4) tNil))))) tNil))) tNil))) (tCall sp_l_draw [] E0 (tCons (tVar 0) (tCons (tC (.int 2)) tNil))))))))))))
theorem wk_l_row {P : Program} {w : World} {K : PySem.W.Frag} {mg : Str → Option Value} {base : Heap} {k : Nat} {sp_l_thing : Sp} {sp_l_draw : Sp}
    (c_l_thing : Cal P w K mg base CX0 k "_law_thing" ["deck", "m", "boxes", "deep"] sp_l_thing)
    (c_l_draw : Cal P w K mg base CX0 k "_law_draw" ["deck", "many"] sp_l_draw) (m_min : mg "min" = none) (m_range : mg "range" = none) (m_len : mg "len" = none)
    (f : Addr) (cdv : Value) (A : Around) (outer : List Env) (s : Shared) (H : Hp) (E : XK) (hr : Room k (A.deeper (envOfC "_law_row" (defScope s_l_row) s.heap.objs.size f cdv))) :
    PSs (cxOf CX0 P w K mg base ["deck", "m", "boxes", "kind", "deep", "box", "many", "k"] "_law_row" (defScope s_l_row) f cdv A outer s H E).nox (defBody s_l_row) (t_l_row K sp_l_thing sp_l_draw) := by
  have hu : (cxOf CX0 P w K mg base ["deck", "m", "boxes", "kind", "deep", "box", "many", "k"] "_law_row" (defScope s_l_row) f cdv A outer s H E).nox.A.units + 64 < cLine := hr.units
  have hu5 : (cxOf CX0 P w K mg base ["deck", "m", "boxes", "kind", "deep", "box", "many", "k"] "_law_row" (defScope s_l_row) f cdv A outer s H E).nox.A.units + 65 < cLine := room65 hr
  have hu1 : (cxOf CX0 P w K mg base ["deck", "m", "boxes", "kind", "deep", "box", "many", "k"] "_law_row" (defScope s_l_row) f cdv A outer s H E).nox.A.units + 1 < cLine := room1 hr
  unfold t_l_row
  exact (pss_cons (ps_set (i := 3) sc_l_row.nd rfl (by first | exact Or.inl rfl | exact Or.inr rfl) (pe_c c_l_draw hr (by rfl) (pa_cons (pv 0) (pa_cons pe_int pa_nil))))
    (pss_cons (ps_set (i := 4) sc_l_row.nd rfl (by first | exact Or.inl rfl | exact Or.inr rfl) (pe_op o_add pe_int (pe_c c_l_draw hr (by rfl) (pa_cons (pv 0) (pa_cons pe_int pa_nil)))))
    (pss_cons (ps_set (i := 5) sc_l_row.nd rfl (by first | exact Or.inl rfl | exact Or.inr rfl) (pe_ix ix_seq (pv 2) (pe_c c_l_draw hr (by rfl) (pa_cons (pv 0) (pa_cons (pe_callB o_len (by rfl) m_len (by decide +kernel) (pa_cons (pv 2) pa_nil)) pa_nil))) (fun _ _ => rfl)))
    (pss_cons (ps_if (pt_cmpR o_lt (pv 3) pe_int (nomark _)) (pss_one (ps_ret (pe_tup (pa_cons pe_str (pa_cons (pv 5) (pa_cons (pe_c c_l_thing hr (by rfl) (pa_cons (pv 0) (pa_cons (pv 1) (pa_cons (pv 2) (pa_cons (pv 4) pa_nil))))) pa_nil)))))) pss_nil)
    (pss_cons (ps_if (pt_cmpR o_lt (pv 3) pe_int (nomark _)) (pss_cons (ps_set (i := 6) sc_l_row.nd rfl (by first | exact Or.inl rfl | exact Or.inr rfl) (pe_ix ix_seq (pe_lst (pa_cons pe_int (pa_cons pe_int (pa_cons pe_int (pa_cons pe_int (pa_cons pe_int pa_nil)))))) (pe_c c_l_draw hr (by rfl) (pa_cons (pv 0) (pa_cons pe_int pa_nil))) (fun _ _ => rfl)))
    (pss_one (ps_ret (pe_tup (pa_cons pe_str (pa_cons (pv 5) (pa_cons (pe_lc (own := [("k", 7)]) (g := (gName 7)) (tt := tYes) rfl sc_l_row.nd (pi_range1 (by rfl) m_range (pa_cons (pv 6) pa_nil)) (blkOk_by (N := ["deck", "m", "boxes", "kind", "deep", "box", "many", "k"]) (sc := defScope s_l_row) (by decide +kernel)) (fun _ _ _ _ _ => (pg_name (i := 7) sc_l_row.nd rfl (by first | exact Or.inl rfl | exact Or.inr rfl))) (fun _ _ _ _ _ => pts_nil) (fun _ _ _ _ _ => (pe_c c_l_thing hr (by rfl) (pa_cons (pv 0) (pa_cons (pv 1) (pa_cons (pv 2) (pa_cons (pv 4) pa_nil))))))) pa_nil))))))) pss_nil)
    (pss_cons (ps_if (pt_cmpR o_lt (pv 3) pe_int (nomark _)) (pss_one (ps_ret (pe_tup (pa_cons pe_str (pa_cons (pe_c c_l_thing hr (by rfl) (pa_cons (pv 0) (pa_cons (pv 1) (pa_cons (pv 2) (pa_cons (pv 4) pa_nil))))) (pa_cons (pe_ix ix_seq (pe_lst (pa_cons pe_int (pa_cons pe_int (pa_cons pe_int (pa_cons (pe_op o_add pe_int (pe_c c_l_draw hr (by rfl) (pa_cons (pv 0) (pa_cons pe_int pa_nil)))) pa_nil))))) (pe_c c_l_draw hr (by rfl) (pa_cons (pv 0) (pa_cons pe_int pa_nil))) (fun _ _ => rfl)) pa_nil)))))) pss_nil)
    (pss_cons (ps_if (pt_cmpR (o_eq hu) (pv 3) pe_int (nomark _)) (pss_one (ps_ret (pe_tup (pa_cons pe_str (pa_cons (pe_tup (pa_cons pe_str (pa_cons (pe_tup (pa_cons pe_str (pa_cons pe_int pa_nil))) (pa_cons (pe_c c_l_thing hr (by rfl) (pa_cons (pv 0) (pa_cons (pv 1) (pa_cons (pv 2) (pa_cons (pe_callB (o_min rfl) (by rfl) m_min (by decide +kernel) (pa_cons (pv 4) (pa_cons pe_int pa_nil))) pa_nil))))) pa_nil)))) pa_nil))))) pss_nil)
    (pss_one (ps_ret (pe_ix ix_seq (pe_lst (pa_cons (pe_tup (pa_cons pe_str (pa_cons (pe_c c_l_thing hr (by rfl) (pa_cons (pv 0) (pa_cons (pv 1) (pa_cons (pv 2) (pa_cons (pv 4) pa_nil))))) pa_nil))) (pa_cons (pe_tup (pa_cons pe_str (pa_cons (pe_c c_l_thing hr (by rfl) (pa_cons (pv 0) (pa_cons (pv 1) (pa_cons (pv 2) (pa_cons (pv 4) pa_nil))))) pa_nil))) pa_nil))) (pe_c c_l_draw hr (by rfl) (pa_cons (pv 0) (pa_cons pe_int pa_nil))) (fun _ _ => rfl)))))))))))
/-! _law_bounded -/
abbrev s_l_bounded : Stmt := topS 30
theorem sc_l_bounded : FnScope ["m", "boxes", "rows", "stores", "box", "runs", "found", "row"] ["m", "boxes", "rows"] (defScope s_l_bounded) := ⟨rfl, rfl, rfl, by decide +kernel, rfl, by decide +kernel, by decide +kernel⟩
def t_l_bounded (K : PySem.W.Frag) : TS :=
  (tSeq (tAsg (tC (.int 1)) (gName 3))
    (tSeq (tFor (iList K (tVar 1)) (gName 4) (tAsg (tOp dMul (tVar 3) (tVar 0)) (gName 3)))
    (tSeq (tAsg (tC (.int 1)) (gName 5))
    (tSeq (tAsg (tLst tNil) (gName 6))
    (tSeq (tFor (iList K (tVar 2)) (gName 7) (tSeq (tIfS (tAnd (tTest (tOp (dEq K) (tOp (rIx K) (tVar 7) (tC (.int 0))) (tC (.str "pick")))) (tAnd (tTest (tOp dGt (tVar 3) (tC (.int 160)))) (tTest (tOp dGt (tOp dMul (tVar 5) (tCB (dLen K) (tCons (tOp (rIx K) (tVar 7) (tC (.int 2))) tNil))) (tC (.int 150)))))) (tAsg (tTup (tCons (tOp (rIx K) (tVar 7) (tC (.int 0))) (tCons (tOp (rIx K) (tVar 7) (tC (.int 1))) (tCons (tSl (rSlL K) (tOp (rIx K) (tVar 7) (tC (.int 2))) tNoPart (tPart (tC (.int 1)))) tNil)))) (gName 7)) tNext)
    (tSeq (tIfS (tTest (tOp (dEq K) (tOp (rIx K) (tVar 7) (tC (.int 0))) (tC (.str "pick")))) (tAsg (tOp dMul (tVar 5) (tCB (dLen K) (tCons (tOp (rIx K) (tVar 7) (tC (.int 2))) tNil))) (gName 5)) tNext)
    (tDrop (tBM K "list" rAppend (tVar 6) (tCons (tVar 7) tNil))))))
    (tRet (tVar 6)))))))
theorem wk_l_bounded {P : Program} {w : World} {K : PySem.W.Frag} {mg : Str → Option Value} {base : Heap} {k : Nat} (m_len : mg "len" = none)
    (f : Addr) (cdv : Value) (A : Around) (outer : List Env) (s : Shared) (H : Hp) (E : XK) (hr : Room k (A.deeper (envOfC "_law_bounded" (defScope s_l_bounded) s.heap.objs.size f cdv))) :
    PSs (cxOf CX0 P w K mg base ["m", "boxes", "rows", "stores", "box", "runs", "found", "row"] "_law_bounded" (defScope s_l_bounded) f cdv A outer s H E).nox (defBody s_l_bounded) (t_l_bounded K) := by
  have hu : (cxOf CX0 P w K mg base ["m", "boxes", "rows", "stores", "box", "runs", "found", "row"] "_law_bounded" (defScope s_l_bounded) f cdv A outer s H E).nox.A.units + 64 < cLine := hr.units
  have hu5 : (cxOf CX0 P w K mg base ["m", "boxes", "rows", "stores", "box", "runs", "found", "row"] "_law_bounded" (defScope s_l_bounded) f cdv A outer s H E).nox.A.units + 65 < cLine := room65 hr
  have hu1 : (cxOf CX0 P w K mg base ["m", "boxes", "rows", "stores", "box", "runs", "found", "row"] "_law_bounded" (defScope s_l_bounded) f cdv A outer s H E).nox.A.units + 1 < cLine := room1 hr
  unfold t_l_bounded
  exact (pss_cons (ps_set (i := 3) sc_l_bounded.nd rfl (by first | exact Or.inl rfl | exact Or.inr rfl) pe_int)
    (pss_cons (ps_for PassesOwn.never rfl (pi_list (pv 1)) (pg_name (i := 4) sc_l_bounded.nd rfl (by first | exact Or.inl rfl | exact Or.inr rfl)) (pss_one (ps_set (i := 3) sc_l_bounded.nd rfl (by first | exact Or.inl rfl | exact Or.inr rfl) (pe_op o_mul (pv 3) (pv 0)))))
    (pss_cons (ps_set (i := 5) sc_l_bounded.nd rfl (by first | exact Or.inl rfl | exact Or.inr rfl) pe_int)
    (pss_cons (ps_set (i := 6) sc_l_bounded.nd rfl (by first | exact Or.inl rfl | exact Or.inr rfl) (pe_lst pa_nil))
    (pss_cons (ps_for PassesOwn.never rfl (pi_list (pv 2)) (pg_name (i := 7) sc_l_bounded.nd rfl (by first | exact Or.inl rfl | exact Or.inr rfl)) (pss_cons (ps_if (PW.pt (pw_and (pt_cmpR (o_eq hu) (pe_ix ix_seq (pv 7) pe_int (fun _ _ => rfl)) pe_str (nomark _)) (pw_and (pt_cmpR o_gt (pv 3) pe_int (nomark _)) (pw_and1 (pt_cmpR o_gt (pe_op o_mul (pv 5) (pe_callB o_len (by rfl) m_len (by decide +kernel) (pa_cons (pe_ix ix_seq (pv 7) pe_int (fun _ _ => rfl)) pa_nil))) pe_int (nomark _)))))) (pss_one (ps_set (i := 7) sc_l_bounded.nd rfl (by first | exact Or.inl rfl | exact Or.inr rfl) (pe_tup (pa_cons (pe_ix ix_seq (pv 7) pe_int (fun _ _ => rfl)) (pa_cons (pe_ix ix_seq (pv 7) pe_int (fun _ _ => rfl)) (pa_cons (pe_slice sl_list (pe_ix ix_seq (pv 7) pe_int (fun _ _ => rfl)) po_none (po_some pe_int)) pa_nil)))))) pss_nil)
    (pss_cons (ps_if (pt_cmpR (o_eq hu) (pe_ix ix_seq (pv 7) pe_int (fun _ _ => rfl)) pe_str (nomark _)) (pss_one (ps_set (i := 5) sc_l_bounded.nd rfl (by first | exact Or.inl rfl | exact Or.inr rfl) (pe_op o_mul (pv 5) (pe_callB o_len (by rfl) m_len (by decide +kernel) (pa_cons (pe_ix ix_seq (pv 7) pe_int (fun _ _ => rfl)) pa_nil))))) pss_nil)
    (pss_one (ps_expr (pe_bm PySem.F.plainAttrs_list PySem.F.slot_list_append PySem.F.type_list_append mt_append (pv 6) (pa_cons (pv 7) pa_nil)))))))
    (pss_one (ps_ret (pv 6))))))))
/-! _law_program -/
abbrev s_l_program : Stmt := topS 31
theorem sc_l_program : FnScope ["deck", "m", "boxes", "many", "rows", "k"] ["deck"] (defScope s_l_program) := ⟨rfl, rfl, rfl, by decide +kernel, rfl, by decide +kernel, by decide +kernel⟩
def t_l_program (K : PySem.W.Frag) (sp_l_draw : Sp) (sp_l_thing : Sp) (sp_l_bounded : Sp) (sp_l_row : Sp) (sp_l_names : Sp) : TS :=
  (tSeq (tAsg (tOp (rIx K) (tLst (tCons (tC (.int 2)) (tCons (tC (.int 3)) (tCons (tC (.int 5)) (tCons (tC (.int 16)) (tCons (tOp (dAdd K) (tC (.int 2)) (tCall sp_l_draw [] E0 (tCons (tVar 0) (tCons (tC (.int 15)) tNil)))) tNil)))))) (tCall sp_l_draw [] E0 (tCons (tVar 0) (tCons (tC (.int 5)) tNil)))) (gName 1))
    (tSeq (tAsg (tCall sp_l_names [] E0 (tCons (tVar 0) tNil)) (gName 2))
    (tSeq (tAsg (tOp (rIx K) (tLst (tCons (tCall sp_l_draw [] E0 (tCons (tVar 0) (tCons (tC (.int 4)) tNil))) (tCons (tCall sp_l_draw [] E0 (tCons (tVar 0) (tCons (tC (.int 9)) tNil))) (tCons (tCall sp_l_draw [] E0 (tCons (tVar 0) (tCons (tC (.int 16)) tNil))) (tCons (tCall sp_l_draw [] E0 (tCons (tVar 0) (tCons (tC (.int 31)) tNil))) tNil))))) (tCall sp_l_draw [] E0 (tCons (tVar 0) (tCons (tC (.int 4)) tNil)))) (gName 3))
    (tSeq (tAsg (tCall sp_l_bounded [] E0 (tCons (tVar 1) (tCons (tVar 2) (tCons (tLc (iRng1 (tCons (tVar 3) tNil)) (gName 5) tYes (tCall sp_l_row [] E0 (tCons (tVar 0) (tCons (tVar 1) (tCons (tVar 2) tNil)))) [5]) tNil)))) (gName 4))
    (tSeq (tIfS (tAnd (tTest (tOp (dEq K) (tCall sp_l_draw [] E0 (tCons (tVar 0) (tCons (tC (.int 2)) tNil))) (tC (.int 0)))) (tTest (tOp dLt (tVar 3) (tC (.int 30))))) (tDrop (tBM K "list" rAppend (tVar 4) (tCons (tTup (tCons (tC (.str "give")) (tCons (tCall sp_l_thing [] E0 (tCons (tVar 0) (tCons (tVar 1) (tCons (tVar 2) (tCons (tC (.int 2)) tNil))))) tNil))) tNil))) tNext)
    (tRet (tTup (tCons (tVar 1) (tCons (tVar 2) (tCons (tVar 4) tNil))))))))))
theorem wk_l_program {P : Program} {w : World} {K : PySem.W.Frag} {mg : Str → Option Value} {base : Heap} {k : Nat} {sp_l_draw : Sp} {sp_l_thing : Sp} {sp_l_bounded : Sp} {sp_l_row : Sp} {sp_l_names : Sp}
    (c_l_draw : Cal P w K mg base CX0 k "_law_draw" ["deck", "many"] sp_l_draw)
    (c_l_thing : Cal P w K mg base CX0 k "_law_thing" ["deck", "m", "boxes", "deep"] sp_l_thing)
    (c_l_bounded : Cal P w K mg base CX0 k "_law_bounded" ["m", "boxes", "rows"] sp_l_bounded)
    (c_l_row : Cal P w K mg base CX0 k "_law_row" ["deck", "m", "boxes"] sp_l_row)
    (c_l_names : Cal P w K mg base CX0 k "_law_names" ["deck"] sp_l_names) (m_range : mg "range" = none)
    (f : Addr) (cdv : Value) (A : Around) (outer : List Env) (s : Shared) (H : Hp) (E : XK) (hr : Room k (A.deeper (envOfC "_law_program" (defScope s_l_program) s.heap.objs.size f cdv))) :
    PSs (cxOf CX0 P w K mg base ["deck", "m", "boxes", "many", "rows", "k"] "_law_program" (defScope s_l_program) f cdv A outer s H E).nox (defBody s_l_program) (t_l_program K sp_l_draw sp_l_thing sp_l_bounded sp_l_row sp_l_names) := by
  have hu : (cxOf CX0 P w K mg base ["deck", "m", "boxes", "many", "rows", "k"] "_law_program" (defScope s_l_program) f cdv A outer s H E).nox.A.units + 64 < cLine := hr.units
  have hu5 : (cxOf CX0 P w K mg base ["deck", "m", "boxes", "many", "rows", "k"] "_law_program" (defScope s_l_program) f cdv A outer s H E).nox.A.units + 65 < cLine := room65 hr
  have hu1 : (cxOf CX0 P w K mg base ["deck", "m", "boxes", "many", "rows", "k"] "_law_program" (defScope s_l_program) f cdv A outer s H E).nox.A.units + 1 < cLine := room1 hr
  unfold t_l_program
  exact (pss_cons (ps_set (i := 1) sc_l_program.nd rfl (by first | exact Or.inl rfl | exact Or.inr rfl) (pe_ix ix_seq (pe_lst (pa_cons pe_int (pa_cons pe_int (pa_cons pe_int (pa_cons pe_int (pa_cons (pe_op o_add pe_int (pe_c c_l_draw hr (by rfl) (pa_cons (pv 0) (pa_cons pe_int pa_nil)))) pa_nil)))))) (pe_c c_l_draw hr (by rfl) (pa_cons (pv 0) (pa_cons pe_int pa_nil))) (fun _ _ => rfl)))
    (pss_cons (ps_set (i := 2) sc_l_program.nd rfl (by first | exact Or.inl rfl | exact Or.inr rfl) (pe_c c_l_names hr (by rfl) (pa_cons (pv 0) pa_nil)))
    (pss_cons (ps_set (i := 3) sc_l_program.nd rfl (by first | exact Or.inl rfl | exact Or.inr rfl) (pe_ix ix_seq (pe_lst (pa_cons (pe_c c_l_draw hr (by rfl) (pa_cons (pv 0) (pa_cons pe_int pa_nil))) (pa_cons (pe_c c_l_draw hr (by rfl) (pa_cons (pv 0) (pa_cons pe_int pa_nil))) (pa_cons (pe_c c_l_draw hr (by rfl) (pa_cons (pv 0) (pa_cons pe_int pa_nil))) (pa_cons (pe_c c_l_draw hr (by rfl) (pa_cons (pv 0) (pa_cons pe_int pa_nil))) pa_nil))))) (pe_c c_l_draw hr (by rfl) (pa_cons (pv 0) (pa_cons pe_int pa_nil))) (fun _ _ => rfl)))
    (pss_cons (ps_set (i := 4) sc_l_program.nd rfl (by first | exact Or.inl rfl | exact Or.inr rfl) (pe_c c_l_bounded hr (by rfl) (pa_cons (pv 1) (pa_cons (pv 2) (pa_cons (pe_lc (own := [("k", 5)]) (g := (gName 5)) (tt := tYes) rfl sc_l_program.nd (pi_range1 (by rfl) m_range (pa_cons (pv 3) pa_nil)) (blkOk_by (N := ["deck", "m", "boxes", "many", "rows", "k"]) (sc := defScope s_l_program) (by decide +kernel)) (fun _ _ _ _ _ => (pg_name (i := 5) sc_l_program.nd rfl (by first | exact Or.inl rfl | exact Or.inr rfl))) (fun _ _ _ _ _ => pts_nil) (fun _ _ _ _ _ => (pe_c c_l_row hr (by rfl) (pa_cons (pv 0) (pa_cons (pv 1) (pa_cons (pv 2) pa_nil)))))) pa_nil)))))
    (pss_cons (ps_if (PW.pt (pw_and (pt_cmpR (o_eq hu) (pe_c c_l_draw hr (by rfl) (pa_cons (pv 0) (pa_cons pe_int pa_nil))) pe_int (nomark _)) (pw_and1 (pt_cmpR o_lt (pv 3) pe_int (nomark _))))) (pss_one (ps_expr (pe_bm PySem.F.plainAttrs_list PySem.F.slot_list_append PySem.F.type_list_append mt_append (pv 4) (pa_cons (pe_tup (pa_cons pe_str (pa_cons (pe_c c_l_thing hr (by rfl) (pa_cons (pv 0) (pa_cons (pv 1) (pa_cons (pv 2) (pa_cons pe_int pa_nil))))) pa_nil))) pa_nil)))) pss_nil)
    (pss_one (ps_ret (pe_tup (pa_cons (pv 1) (pa_cons (pv 2) (pa_cons (pv 4) pa_nil)))))))))))
/-! _law_store -/
abbrev s_l_store : Stmt := topS 32
theorem sc_l_store : FnScope ["deck", "program", "box"] ["deck", "program"] (defScope s_l_store) := ⟨rfl, rfl, rfl, by decide +kernel, rfl, by decide +kernel, by decide +kernel⟩
def t_l_store (K : PySem.W.Frag) (sp_l_draw : Sp) : TS :=
  (tRet (tCB (dTuple K) (tCons (tLc (iList K (tOp (rIx K) (tVar 1) (tC (.int 1)))) (gName 2) tYes (tCall sp_l_draw [] E0 (tCons (tVar 0) (tCons (tOp (rIx K) (tVar 1) (tC (.int 0))) tNil))) [2]) tNil)))
theorem wk_l_store {P : Program} {w : World} {K : PySem.W.Frag} {mg : Str → Option Value} {base : Heap} {k : Nat} {sp_l_draw : Sp}
    (c_l_draw : Cal P w K mg base CX0 k "_law_draw" ["deck", "many"] sp_l_draw) (m_tuple : mg "tuple" = none)
    (f : Addr) (cdv : Value) (A : Around) (outer : List Env) (s : Shared) (H : Hp) (E : XK) (hr : Room k (A.deeper (envOfC "_law_store" (defScope s_l_store) s.heap.objs.size f cdv))) :
    PSs (cxOf CX0 P w K mg base ["deck", "program", "box"] "_law_store" (defScope s_l_store) f cdv A outer s H E).nox (defBody s_l_store) (t_l_store K sp_l_draw) := by
  have hu : (cxOf CX0 P w K mg base ["deck", "program", "box"] "_law_store" (defScope s_l_store) f cdv A outer s H E).nox.A.units + 64 < cLine := hr.units
  have hu5 : (cxOf CX0 P w K mg base ["deck", "program", "box"] "_law_store" (defScope s_l_store) f cdv A outer s H E).nox.A.units + 65 < cLine := room65 hr
  have hu1 : (cxOf CX0 P w K mg base ["deck", "program", "box"] "_law_store" (defScope s_l_store) f cdv A outer s H E).nox.A.units + 1 < cLine := room1 hr
  unfold t_l_store
  exact (pss_one (ps_ret (pe_callTy o_tuple (by rfl) m_tuple (by decide +kernel) (pa_cons (pe_lc (own := [("box", 2)]) (g := (gName 2)) (tt := tYes) rfl sc_l_store.nd (pi_list (pe_ix ix_seq (pv 1) pe_int (fun _ _ => rfl))) (blkOk_by (N := ["deck", "program", "box"]) (sc := defScope s_l_store) (by decide +kernel)) (fun _ _ _ _ _ => (pg_name (i := 2) sc_l_store.nd rfl (by first | exact Or.inl rfl | exact Or.inr rfl))) (fun _ _ _ _ _ => pts_nil) (fun _ _ _ _ _ => (pe_c c_l_draw hr (by rfl) (pa_cons (pv 0) (pa_cons (pe_ix ix_seq (pv 1) pe_int (fun _ _ => rfl)) pa_nil))))) pa_nil))))
/-! _law_worth -/
abbrev s_l_worth : Stmt := topS 33
theorem sc_l_worth : FnScope ["program", "thing", "store", "one", "other", "sums"] ["program", "thing", "store"] (defScope s_l_worth) := ⟨rfl, rfl, rfl, by decide +kernel, rfl, by decide +kernel, by decide +kernel⟩
def t_l_worth (K : PySem.W.Frag) (sp_l_worth : Sp) : TS :=
  (tSeq (tIfS (tTest (tOp (dEq K) (tOp (rIx K) (tVar 1) (tC (.int 0))) (tC (.str "number")))) (tRet (tOp (rIx K) (tVar 1) (tC (.int 1)))) tNext)
    (tSeq (tIfS (tTest (tOp (dEq K) (tOp (rIx K) (tVar 1) (tC (.int 0))) (tC (.str "box")))) (tRet (tDGet (tDictZip K (tCons (tOp (rIx K) (tVar 0) (tC (.int 1))) (tCons (tVar 2) tNil))) (tOp (rIx K) (tVar 1) (tC (.int 1))))) tNext)
    (tSeq (tAsg (tCall sp_l_worth [] E0 (tCons (tVar 0) (tCons (tOp (rIx K) (tVar 1) (tC (.int 1))) (tCons (tVar 2) tNil)))) (gName 3))
    (tSeq (tAsg (tCall sp_l_worth [] E0 (tCons (tVar 0) (tCons (tOp (rIx K) (tVar 1) (tC (.int 2))) (tCons (tVar 2) tNil)))) (gName 4))
    (tSeq (tAsg (tDisp [((tC (.str "plus")), (tOp dMod (tOp (dAdd K) (tVar 3) (tVar 4)) (tOp (rIx K) (tVar 0) (tC (.int 0))))), ((tC (.str "times")), (tOp dMod (tOp dMul (tVar 3) (tVar 4)) (tOp (rIx K) (tVar 0) (tC (.int 0)))))]) (gName 5))
    (tRet (tDGet2 (tVar 5) (tOp (rIx K) (tVar 1) (tC (.int 0))) (tOp (rIx K) (tLst (tCons (tCB dInt (tCons (tOp (dEq K) (tVar 3) (tVar 4)) tNil)) (tCons (tCB dInt (tCons (tOp dLt (tVar 3) (tVar 4)) tNil)) tNil))) (tCB dInt (tCons (tOp (dEq K) (tOp (rIx K) (tVar 1) (tC (.int 0))) (tC (.str "less"))) tNil))))))))))
theorem wk_l_worth {P : Program} {w : World} {K : PySem.W.Frag} {mg : Str → Option Value} {base : Heap} {k : Nat} {sp_l_worth : Sp}
    (c_l_worth : Cal P w K mg base CX0 k "_law_worth" ["program", "thing", "store"] sp_l_worth) (m_int : mg "int" = none) (m_dict : mg "dict" = none) (m_zip : mg "zip" = none)
    (f : Addr) (cdv : Value) (A : Around) (outer : List Env) (s : Shared) (H : Hp) (E : XK) (hr : Room k (A.deeper (envOfC "_law_worth" (defScope s_l_worth) s.heap.objs.size f cdv))) :
    PSs (cxOf CX0 P w K mg base ["program", "thing", "store", "one", "other", "sums"] "_law_worth" (defScope s_l_worth) f cdv A outer s H E).nox (defBody s_l_worth) (t_l_worth K sp_l_worth) := by
  have hu : (cxOf CX0 P w K mg base ["program", "thing", "store", "one", "other", "sums"] "_law_worth" (defScope s_l_worth) f cdv A outer s H E).nox.A.units + 64 < cLine := hr.units
  have hu5 : (cxOf CX0 P w K mg base ["program", "thing", "store", "one", "other", "sums"] "_law_worth" (defScope s_l_worth) f cdv A outer s H E).nox.A.units + 65 < cLine := room65 hr
  have hu1 : (cxOf CX0 P w K mg base ["program", "thing", "store", "one", "other", "sums"] "_law_worth" (defScope s_l_worth) f cdv A outer s H E).nox.A.units + 1 < cLine := room1 hr
  unfold t_l_worth
  exact (pss_cons (ps_if (pt_cmpR (o_eq hu) (pe_ix ix_seq (pv 1) pe_int (fun _ _ => rfl)) pe_str (nomark _)) (pss_one (ps_ret (pe_ix ix_seq (pv 1) pe_int (fun _ _ => rfl)))) pss_nil)
    (pss_cons (ps_if (pt_cmpR (o_eq hu) (pe_ix ix_seq (pv 1) pe_int (fun _ _ => rfl)) pe_str (nomark _)) (pss_one (ps_ret (pe_dget hu1 (pe_dictZip rfl (by rfl) m_dict (by rfl) m_zip (pa_cons (pe_ix ix_seq (pv 0) pe_int (fun _ _ => rfl)) (pa_cons (pv 2) pa_nil))) (pe_ix ix_seq (pv 1) pe_int (fun _ _ => rfl)) (fun _ _ => rfl)))) pss_nil)
    (pss_cons (ps_set (i := 3) sc_l_worth.nd rfl (by first | exact Or.inl rfl | exact Or.inr rfl) (pe_c c_l_worth hr (by rfl) (pa_cons (pv 0) (pa_cons (pe_ix ix_seq (pv 1) pe_int (fun _ _ => rfl)) (pa_cons (pv 2) pa_nil)))))
    (pss_cons (ps_set (i := 4) sc_l_worth.nd rfl (by first | exact Or.inl rfl | exact Or.inr rfl) (pe_c c_l_worth hr (by rfl) (pa_cons (pv 0) (pa_cons (pe_ix ix_seq (pv 1) pe_int (fun _ _ => rfl)) (pa_cons (pv 2) pa_nil)))))
    (pss_cons (ps_set (i := 5) sc_l_worth.nd rfl (by first | exact Or.inl rfl | exact Or.inr rfl) (pe_disp (pps_cons pe_str (pe_op o_mod (pe_op o_add (pv 3) (pv 4)) (pe_ix ix_seq (pv 0) pe_int (fun _ _ => rfl))) (pps_cons pe_str (pe_op o_mod (pe_op o_mul (pv 3) (pv 4)) (pe_ix ix_seq (pv 0) pe_int (fun _ _ => rfl))) pps_nil)) rfl rfl (by decide) (by decide)))
    (pss_one (ps_ret (pe_dget2 hu1 (pv 5) (pe_ix ix_seq (pv 1) pe_int (fun _ _ => rfl)) (pe_ix ix_seq (pe_lst (pa_cons (pe_callTy o_int (by rfl) m_int (by decide +kernel) (pa_cons (pe_cmpR (o_eq hu) (pv 3) (pv 4) (nomark _)) pa_nil)) (pa_cons (pe_callTy o_int (by rfl) m_int (by decide +kernel) (pa_cons (pe_cmpR o_lt (pv 3) (pv 4) (nomark _)) pa_nil)) pa_nil))) (pe_callTy o_int (by rfl) m_int (by decide +kernel) (pa_cons (pe_cmpR (o_eq hu) (pe_ix ix_seq (pv 1) pe_int (fun _ _ => rfl)) pe_str (nomark _)) pa_nil)) (fun _ _ => rfl)) ⟨rfl, rfl, rfl, rfl⟩))))))))
/-! _law_put -/
abbrev s_l_put : Stmt := topS 34
theorem sc_l_put : FnScope ["program", "store", "box", "worth", "name", "number"] ["program", "store", "box", "worth"] (defScope s_l_put) := ⟨rfl, rfl, rfl, by decide +kernel, rfl, by decide +kernel, by decide +kernel⟩
def t_l_put (K : PySem.W.Frag) : TS :=
  (tRet (tCB (dTuple K) (tCons (tLc (iZipM K (tCons (tOp (rIx K) (tVar 0) (tC (.int 1))) (tCons (tVar 1) tNil))) (gTup K 2 (gCons (gName 4) (gCons (gName 5) gNil))) tYes (tOp (rIx K) (tLst (tCons (tVar 5) (tCons (tVar 3) tNil))) (tCB dInt (tCons (tOp (dEq K) (tVar 4) (tVar 2)) tNil))) [4, 5]) tNil)))
theorem wk_l_put {P : Program} {w : World} {K : PySem.W.Frag} {mg : Str → Option Value} {base : Heap} {k : Nat} (m_tuple : mg "tuple" = none) (m_zip : mg "zip" = none) (m_int : mg "int" = none)
    (f : Addr) (cdv : Value) (A : Around) (outer : List Env) (s : Shared) (H : Hp) (E : XK) (hr : Room k (A.deeper (envOfC "_law_put" (defScope s_l_put) s.heap.objs.size f cdv))) :
    PSs (cxOf CX0 P w K mg base ["program", "store", "box", "worth", "name", "number"] "_law_put" (defScope s_l_put) f cdv A outer s H E).nox (defBody s_l_put) (t_l_put K) := by
  have hu : (cxOf CX0 P w K mg base ["program", "store", "box", "worth", "name", "number"] "_law_put" (defScope s_l_put) f cdv A outer s H E).nox.A.units + 64 < cLine := hr.units
  have hu5 : (cxOf CX0 P w K mg base ["program", "store", "box", "worth", "name", "number"] "_law_put" (defScope s_l_put) f cdv A outer s H E).nox.A.units + 65 < cLine := room65 hr
  have hu1 : (cxOf CX0 P w K mg base ["program", "store", "box", "worth", "name", "number"] "_law_put" (defScope s_l_put) f cdv A outer s H E).nox.A.units + 1 < cLine := room1 hr
  unfold t_l_put
  exact (pss_one (ps_ret (pe_callTy o_tuple (by rfl) m_tuple (by decide +kernel) (pa_cons (pe_lc (own := [("name", 4), ("number", 5)]) (g := (gTup K 2 (gCons (gName 4) (gCons (gName 5) gNil)))) (tt := tYes) rfl sc_l_put.nd (pi_zipM (by rfl) m_zip (pa_cons (pe_ix ix_seq (pv 0) pe_int (fun _ _ => rfl)) (pa_cons (pv 1) pa_nil))) (blkOk_by (N := ["program", "store", "box", "worth", "name", "number"]) (sc := defScope s_l_put) (by decide +kernel)) (fun _ _ _ _ _ => (pg_tup rfl (pgs_cons (pg_name (i := 4) sc_l_put.nd rfl (by first | exact Or.inl rfl | exact Or.inr rfl)) (pgs_cons (pg_name (i := 5) sc_l_put.nd rfl (by first | exact Or.inl rfl | exact Or.inr rfl)) pgs_nil)))) (fun _ _ _ _ _ => pts_nil) (fun _ _ _ _ _ => (pe_ix ix_seq (pe_lst (pa_cons (pv 5) (pa_cons (pv 3) pa_nil))) (pe_callTy o_int (by rfl) m_int (by decide +kernel) (pa_cons (pe_cmpR (o_eq hu) (pv 4) (pv 2) (nomark _)) pa_nil)) (fun _ _ => rfl)))) pa_nil))))
/-! _law_to_pick -/
abbrev s_l_to_pick : Stmt := topS 35
theorem sc_l_to_pick : FnScope ["program", "row", "store", "asked", "worth"] ["program", "row", "store"] (defScope s_l_to_pick) := ⟨rfl, rfl, rfl, by decide +kernel, rfl, by decide +kernel, by decide +kernel⟩
def t_l_to_pick (K : PySem.W.Frag) (sp_l_put : Sp) (sp_l_worth : Sp) : TS :=
  (tSeq (tWhile (tTest (tOp dLt (tVar 1) (tCB (dLen K) (tCons (tOp (rIx K) (tVar 0) (tC (.int 2))) tNil)))) (tSeq (tAsg (tOp (rIx K) (tOp (rIx K) (tVar 0) (tC (.int 2))) (tVar 1)) (gName 3))
    (tSeq (tIfS (tTest (tOp (dEq K) (tOp (rIx K) (tVar 3) (tC (.int 0))) (tC (.str "pick")))) (tRet (tTup (tCons (tVar 1) (tCons (tVar 2) (tCons (tC .non) tNil))))) tNext)
    (tSeq (tAsg (tCall sp_l_worth [] E0 (tCons (tVar 0) (tCons (tOp (rIx K) (tVar 3) (tOp dSub (tUn dNeg (tC (.int 1))) (tCB dInt (tCons (tOp (dEq K) (tOp (rIx K) (tVar 3) (tC (.int 0))) (tC (.str "skip"))) tNil)))) (tCons (tVar 2) tNil)))) (gName 4))
    (tSeq (tAsg (tOp (dAdd K) (tVar 1) (tC (.int 1))) (gName 1))
    (tSeq (tIfS (tTest (tOp (dEq K) (tOp (rIx K) (tVar 3) (tC (.int 0))) (tC (.str "set")))) (tAsg (tCall sp_l_put [] E0 (tCons (tVar 0) (tCons (tVar 2) (tCons (tOp (rIx K) (tVar 3) (tC (.int 1))) (tCons (tVar 4) tNil))))) (gName 2)) tNext)
    (tSeq (tIfS (tAnd (tTest (tOp (dEq K) (tOp (rIx K) (tVar 3) (tC (.int 0))) (tC (.str "skip")))) (tTest (tOp (dNe K) (tVar 4) (tC (.int 0))))) (tAsg (tOp (dAdd K) (tVar 1) (tOp (rIx K) (tVar 3) (tC (.int 2)))) (gName 1)) tNext)
    (tSeq (tIfS (tTest (tOp (dEq K) (tOp (rIx K) (tVar 3) (tC (.int 0))) (tC (.str "give")))) (tRet (tTup (tCons (tVar 1) (tCons (tVar 2) (tCons (tTup (tCons (tC (.str "gives")) (tCons (tVar 4) tNil))) tNil))))) tNext)
    (tIfS (tAnd (tTest (tOp (dEq K) (tOp (rIx K) (tVar 3) (tC (.int 0))) (tC (.str "need")))) (tTest (tOp (dEq K) (tVar 4) (tC (.int 0))))) (tRet (tTup (tCons (tVar 1) (tCons (tVar 2) (tCons (tTup (tCons (tC (.str "nothing")) tNil)) tNil))))) tNext)))))))))
    (tRet (tTup (tCons (tVar 1) (tCons (tVar 2) (tCons (tTup (tCons (tC (.str "nothing")) tNil)) tNil))))))
theorem wk_l_to_pick {P : Program} {w : World} {K : PySem.W.Frag} {mg : Str → Option Value} {base : Heap} {k : Nat} {sp_l_put : Sp} {sp_l_worth : Sp}
    (c_l_put : Cal P w K mg base CX0 k "_law_put" ["program", "store", "box", "worth"] sp_l_put)
    (c_l_worth : Cal P w K mg base CX0 k "_law_worth" ["program", "thing", "store"] sp_l_worth) (m_len : mg "len" = none) (m_int : mg "int" = none)
    (f : Addr) (cdv : Value) (A : Around) (outer : List Env) (s : Shared) (H : Hp) (E : XK) (hr : Room k (A.deeper (envOfC "_law_to_pick" (defScope s_l_to_pick) s.heap.objs.size f cdv))) :
    PSs (cxOf CX0 P w K mg base ["program", "row", "store", "asked", "worth"] "_law_to_pick" (defScope s_l_to_pick) f cdv A outer s H E).nox (defBody s_l_to_pick) (t_l_to_pick K sp_l_put sp_l_worth) := by
  have hu : (cxOf CX0 P w K mg base ["program", "row", "store", "asked", "worth"] "_law_to_pick" (defScope s_l_to_pick) f cdv A outer s H E).nox.A.units + 64 < cLine := hr.units
  have hu5 : (cxOf CX0 P w K mg base ["program", "row", "store", "asked", "worth"] "_law_to_pick" (defScope s_l_to_pick) f cdv A outer s H E).nox.A.units + 65 < cLine := room65 hr
  have hu1 : (cxOf CX0 P w K mg base ["program", "row", "store", "asked", "worth"] "_law_to_pick" (defScope s_l_to_pick) f cdv A outer s H E).nox.A.units + 1 < cLine := room1 hr
  unfold t_l_to_pick
  exact (pss_cons (ps_while PassesOwn.never (pt_cmpR o_lt (pv 1) (pe_callB o_len (by rfl) m_len (by decide +kernel) (pa_cons (pe_ix ix_seq (pv 0) pe_int (fun _ _ => rfl)) pa_nil)) (nomark _)) (pss_cons (ps_set (i := 3) sc_l_to_pick.nd rfl (by first | exact Or.inl rfl | exact Or.inr rfl) (pe_ix ix_seq (pe_ix ix_seq (pv 0) pe_int (fun _ _ => rfl)) (pv 1) (fun _ _ => rfl)))
    (pss_cons (ps_if (pt_cmpR (o_eq hu) (pe_ix ix_seq (pv 3) pe_int (fun _ _ => rfl)) pe_str (nomark _)) (pss_one (ps_ret (pe_tup (pa_cons (pv 1) (pa_cons (pv 2) (pa_cons pe_non pa_nil)))))) pss_nil)
    (pss_cons (ps_set (i := 4) sc_l_to_pick.nd rfl (by first | exact Or.inl rfl | exact Or.inr rfl) (pe_c c_l_worth hr (by rfl) (pa_cons (pv 0) (pa_cons (pe_ix ix_seq (pv 3) (pe_op o_sub (pe_un o_neg pe_int) (pe_callTy o_int (by rfl) m_int (by decide +kernel) (pa_cons (pe_cmpR (o_eq hu) (pe_ix ix_seq (pv 3) pe_int (fun _ _ => rfl)) pe_str (nomark _)) pa_nil))) (fun _ _ => rfl)) (pa_cons (pv 2) pa_nil)))))
    (pss_cons (ps_set (i := 1) sc_l_to_pick.nd rfl (by first | exact Or.inl rfl | exact Or.inr rfl) (pe_op o_add (pv 1) pe_int))
    (pss_cons (ps_if (pt_cmpR (o_eq hu) (pe_ix ix_seq (pv 3) pe_int (fun _ _ => rfl)) pe_str (nomark _)) (pss_one (ps_set (i := 2) sc_l_to_pick.nd rfl (by first | exact Or.inl rfl | exact Or.inr rfl) (pe_c c_l_put hr (by rfl) (pa_cons (pv 0) (pa_cons (pv 2) (pa_cons (pe_ix ix_seq (pv 3) pe_int (fun _ _ => rfl)) (pa_cons (pv 4) pa_nil))))))) pss_nil)
    (pss_cons (ps_if (PW.pt (pw_and (pt_cmpR (o_eq hu) (pe_ix ix_seq (pv 3) pe_int (fun _ _ => rfl)) pe_str (nomark _)) (pw_and1 (pt_cmpR (o_ne hu) (pv 4) pe_int (nomark _))))) (pss_one (ps_set (i := 1) sc_l_to_pick.nd rfl (by first | exact Or.inl rfl | exact Or.inr rfl) (pe_op o_add (pv 1) (pe_ix ix_seq (pv 3) pe_int (fun _ _ => rfl))))) pss_nil)
    (pss_cons (ps_if (pt_cmpR (o_eq hu) (pe_ix ix_seq (pv 3) pe_int (fun _ _ => rfl)) pe_str (nomark _)) (pss_one (ps_ret (pe_tup (pa_cons (pv 1) (pa_cons (pv 2) (pa_cons (pe_tup (pa_cons pe_str (pa_cons (pv 4) pa_nil))) pa_nil)))))) pss_nil)
    (pss_one (ps_if (PW.pt (pw_and (pt_cmpR (o_eq hu) (pe_ix ix_seq (pv 3) pe_int (fun _ _ => rfl)) pe_str (nomark _)) (pw_and1 (pt_cmpR (o_eq hu) (pv 4) pe_int (nomark _))))) (pss_one (ps_ret (pe_tup (pa_cons (pv 1) (pa_cons (pv 2) (pa_cons (pe_tup (pa_cons pe_str pa_nil)) pa_nil)))))) pss_nil))))))))))
    (pss_one (ps_ret (pe_tup (pa_cons (pv 1) (pa_cons (pv 2) (pa_cons (pe_tup (pa_cons pe_str pa_nil)) pa_nil)))))))
/-! _law_picked -/
abbrev s_l_picked : Stmt := topS 36
theorem sc_l_picked : FnScope ["program", "row", "store", "choice", "word", "box", "things"] ["program", "row", "store", "choice"] (defScope s_l_picked) := ⟨rfl, rfl, rfl, by decide +kernel, rfl, by decide +kernel, by decide +kernel⟩
def t_l_picked (K : PySem.W.Frag) (sp_l_to_pick : Sp) (sp_l_put : Sp) (sp_l_worth : Sp) : TS :=
  (tSeq (tAsg (tOp (rIx K) (tOp (rIx K) (tVar 0) (tC (.int 2))) (tVar 1)) (gTup K 3 (gCons (gName 4) (gCons (gName 5) (gCons (gName 6) gNil)))))
    (tRet (tCall sp_l_to_pick [] E0 (tCons (tVar 0) (tCons (tOp (dAdd K) (tVar 1) (tC (.int 1))) (tCons (tCall sp_l_put [] E0 (tCons (tVar 0) (tCons (tVar 2) (tCons (tVar 5) (tCons (tCall sp_l_worth [] E0 (tCons (tVar 0) (tCons (tOp (rIx K) (tVar 6) (tVar 3)) (tCons (tVar 2) tNil)))) tNil))))) tNil))))))
theorem wk_l_picked {P : Program} {w : World} {K : PySem.W.Frag} {mg : Str → Option Value} {base : Heap} {k : Nat} {sp_l_to_pick : Sp} {sp_l_put : Sp} {sp_l_worth : Sp}
    (c_l_to_pick : Cal P w K mg base CX0 k "_law_to_pick" ["program", "row", "store"] sp_l_to_pick)
    (c_l_put : Cal P w K mg base CX0 k "_law_put" ["program", "store", "box", "worth"] sp_l_put)
    (c_l_worth : Cal P w K mg base CX0 k "_law_worth" ["program", "thing", "store"] sp_l_worth)
    (f : Addr) (cdv : Value) (A : Around) (outer : List Env) (s : Shared) (H : Hp) (E : XK) (hr : Room k (A.deeper (envOfC "_law_picked" (defScope s_l_picked) s.heap.objs.size f cdv))) :
    PSs (cxOf CX0 P w K mg base ["program", "row", "store", "choice", "word", "box", "things"] "_law_picked" (defScope s_l_picked) f cdv A outer s H E).nox (defBody s_l_picked) (t_l_picked K sp_l_to_pick sp_l_put sp_l_worth) := by
  have hu : (cxOf CX0 P w K mg base ["program", "row", "store", "choice", "word", "box", "things"] "_law_picked" (defScope s_l_picked) f cdv A outer s H E).nox.A.units + 64 < cLine := hr.units
  have hu5 : (cxOf CX0 P w K mg base ["program", "row", "store", "choice", "word", "box", "things"] "_law_picked" (defScope s_l_picked) f cdv A outer s H E).nox.A.units + 65 < cLine := room65 hr
  have hu1 : (cxOf CX0 P w K mg base ["program", "row", "store", "choice", "word", "box", "things"] "_law_picked" (defScope s_l_picked) f cdv A outer s H E).nox.A.units + 1 < cLine := room1 hr
  unfold t_l_picked
  exact (pss_cons (ps_asg (pe_ix ix_seq (pe_ix ix_seq (pv 0) pe_int (fun _ _ => rfl)) (pv 1) (fun _ _ => rfl)) (pg_tup rfl (pgs_cons (pg_name (i := 4) sc_l_picked.nd rfl (by first | exact Or.inl rfl | exact Or.inr rfl)) (pgs_cons (pg_name (i := 5) sc_l_picked.nd rfl (by first | exact Or.inl rfl | exact Or.inr rfl)) (pgs_cons (pg_name (i := 6) sc_l_picked.nd rfl (by first | exact Or.inl rfl | exact Or.inr rfl)) pgs_nil)))))
    (pss_one (ps_ret (pe_c c_l_to_pick hr (by rfl) (pa_cons (pv 0) (pa_cons (pe_op o_add (pv 1) pe_int) (pa_cons (pe_c c_l_put hr (by rfl) (pa_cons (pv 0) (pa_cons (pv 2) (pa_cons (pv 5) (pa_cons (pe_c c_l_worth hr (by rfl) (pa_cons (pv 0) (pa_cons (pe_ix ix_seq (pv 6) (pv 3) (fun _ _ => rfl)) (pa_cons (pv 2) pa_nil)))) pa_nil))))) pa_nil)))))))
/-! _law_deep -/
abbrev s_l_deep : Stmt := topS 37
theorem sc_l_deep : FnScope ["thing", "one"] ["thing"] (defScope s_l_deep) := ⟨rfl, rfl, rfl, by decide +kernel, rfl, by decide +kernel, by decide +kernel⟩
def t_l_deep (K : PySem.W.Frag) (sp_l_deep : Sp) : TS :=
  (tSeq (tIfS (tB (tCB (rIsi K) (tCons (tVar 0) (tCons (tC (.ty "list")) tNil)))) (tRet (tLc (iList K (tVar 0)) (gName 1) tYes (tCall sp_l_deep [] E0 (tCons (tVar 1) tNil)) [1])) tNext)
    (tSeq (tIfS (tB (tCB (rIsi K) (tCons (tVar 0) (tCons (tC (.ty "tuple")) tNil)))) (tRet (tCB (dTuple K) (tCons (tLc (iTup K (tVar 0)) (gName 1) tYes (tCall sp_l_deep [] E0 (tCons (tVar 1) tNil)) [1]) tNil))) tNext)
    (tRet (tVar 0))))
theorem wk_l_deep {P : Program} {w : World} {K : PySem.W.Frag} {mg : Str → Option Value} {base : Heap} {k : Nat} {sp_l_deep : Sp}
    (c_l_deep : Cal P w K mg base CX0 k "_law_deep" ["thing"] sp_l_deep) (m_isinstance : mg "isinstance" = none) (m_tuple : mg "tuple" = none) (m_list : mg "list" = none)
    (f : Addr) (cdv : Value) (A : Around) (outer : List Env) (s : Shared) (H : Hp) (E : XK) (hr : Room k (A.deeper (envOfC "_law_deep" (defScope s_l_deep) s.heap.objs.size f cdv))) :
    PSs (cxOf CX0 P w K mg base ["thing", "one"] "_law_deep" (defScope s_l_deep) f cdv A outer s H E).nox (defBody s_l_deep) (t_l_deep K sp_l_deep) := by
  have hu : (cxOf CX0 P w K mg base ["thing", "one"] "_law_deep" (defScope s_l_deep) f cdv A outer s H E).nox.A.units + 64 < cLine := hr.units
  have hu5 : (cxOf CX0 P w K mg base ["thing", "one"] "_law_deep" (defScope s_l_deep) f cdv A outer s H E).nox.A.units + 65 < cLine := room65 hr
  have hu1 : (cxOf CX0 P w K mg base ["thing", "one"] "_law_deep" (defScope s_l_deep) f cdv A outer s H E).nox.A.units + 1 < cLine := room1 hr
  unfold t_l_deep
  exact (pss_cons (ps_if (pt_val (pe_callB call_isi (by rfl) m_isinstance (by decide +kernel) (pa_cons (pv 0) (pa_cons (pe_bltn (by rfl) m_list (by decide +kernel) rfl) pa_nil)))) (pss_one (ps_ret (pe_lc (own := [("one", 1)]) (g := (gName 1)) (tt := tYes) rfl sc_l_deep.nd (pi_list (pv 0)) (blkOk_by (N := ["thing", "one"]) (sc := defScope s_l_deep) (by decide +kernel)) (fun _ _ _ _ _ => (pg_name (i := 1) sc_l_deep.nd rfl (by first | exact Or.inl rfl | exact Or.inr rfl))) (fun _ _ _ _ _ => pts_nil) (fun _ _ _ _ _ => (pe_c c_l_deep hr (by rfl) (pa_cons (pv 1) pa_nil)))))) pss_nil)
    (pss_cons (ps_if (pt_val (pe_callB call_isi (by rfl) m_isinstance (by decide +kernel) (pa_cons (pv 0) (pa_cons (pe_bltn (by rfl) m_tuple (by decide +kernel) rfl) pa_nil)))) (pss_one (ps_ret (pe_callTy o_tuple (by rfl) m_tuple (by decide +kernel) (pa_cons (pe_lc (own := [("one", 1)]) (g := (gName 1)) (tt := tYes) rfl sc_l_deep.nd (pi_tup (pv 0)) (blkOk_by (N := ["thing", "one"]) (sc := defScope s_l_deep) (by decide +kernel)) (fun _ _ _ _ _ => (pg_name (i := 1) sc_l_deep.nd rfl (by first | exact Or.inl rfl | exact Or.inr rfl))) (fun _ _ _ _ _ => pts_nil) (fun _ _ _ _ _ => (pe_c c_l_deep hr (by rfl) (pa_cons (pv 1) pa_nil)))) pa_nil)))) pss_nil)
    (pss_one (ps_ret (pv 0)))))
/-! _law_kinds -/
abbrev s_l_kinds : Stmt := topS 38
theorem sc_l_kinds : FnScope ["caught", "due", "kinds", "k"] ["caught", "due"] (defScope s_l_kinds) := ⟨rfl, rfl, rfl, by decide +kernel, rfl, by decide +kernel, by decide +kernel⟩
def t_l_kinds (K : PySem.W.Frag) (a_NoChoice : Addr) (a_NoRow : Addr) (a_NoName : Addr) (a_NoText : Addr) (a_NoFit : Addr) (a_TooMany : Addr) (a_NoNumber : Addr) (a_NoStore : Addr) : TS :=
  (tSeq (tAsg (tLst (tCons (tCB (rIs K) (tCons (tVar 0) (tCons (tC (.ref a_NoStore)) tNil))) (tCons (tCB (rIs K) (tCons (tVar 0) (tCons (tC (.ref a_NoNumber)) tNil))) (tCons (tCB (rIs K) (tCons (tVar 0) (tCons (tC (.ref a_TooMany)) tNil))) tNil)))) (gName 2))
    (tSeq (tAsg (tOp (dAdd K) (tVar 2) (tLst (tCons (tCB (rIs K) (tCons (tVar 0) (tCons (tC (.ref a_NoFit)) tNil))) (tCons (tCB (rIs K) (tCons (tVar 0) (tCons (tC (.ref a_NoText)) tNil))) (tCons (tCB (rIs K) (tCons (tVar 0) (tCons (tC (.ref a_NoName)) tNil))) tNil))))) (gName 2))
    (tSeq (tAsg (tOp (dAdd K) (tVar 2) (tLst (tCons (tCB (rIs K) (tCons (tVar 0) (tCons (tC (.ref a_NoRow)) tNil))) (tCons (tCB (rIs K) (tCons (tVar 0) (tCons (tC (.ref a_NoChoice)) tNil))) (tCons (tNotV (tCB (rIs K) (tCons (tVar 0) (tCons (tC (.ty "ValueError")) tNil)))) tNil))))) (gName 2))
    (tRet (tAndV (tOp dNotN (tVar 0) (tC .non)) (tOp (dEq K) (tVar 2) (tLc (iRng1 (tCons (tC (.int 9)) tNil)) (gName 3) tYes (tOp (dEq K) (tVar 3) (tVar 1)) [3])))))))
theorem wk_l_kinds {P : Program} {w : World} {K : PySem.W.Frag} {mg : Str → Option Value} {base : Heap} {k : Nat} {a_NoChoice : Addr} {a_NoRow : Addr} {a_NoName : Addr} {a_NoText : Addr} {a_NoFit : Addr} {a_TooMany : Addr} {a_NoNumber : Addr} {a_NoStore : Addr} (m_range : mg "range" = none) (m_isinstance : mg "isinstance" = none) (m_ValueError : mg "ValueError" = none) (g_NoChoice : mg "NoChoice" = some (.ref a_NoChoice)) (g_NoRow : mg "NoRow" = some (.ref a_NoRow)) (g_NoName : mg "NoName" = some (.ref a_NoName)) (g_NoText : mg "NoText" = some (.ref a_NoText)) (g_NoFit : mg "NoFit" = some (.ref a_NoFit)) (g_TooMany : mg "TooMany" = some (.ref a_TooMany)) (g_NoNumber : mg "NoNumber" = some (.ref a_NoNumber)) (g_NoStore : mg "NoStore" = some (.ref a_NoStore))
    (f : Addr) (cdv : Value) (A : Around) (outer : List Env) (s : Shared) (H : Hp) (E : XK) (hr : Room k (A.deeper (envOfC "_law_kinds" (defScope s_l_kinds) s.heap.objs.size f cdv))) :
    PSs (cxOf CX0 P w K mg base ["caught", "due", "kinds", "k"] "_law_kinds" (defScope s_l_kinds) f cdv A outer s H E).nox (defBody s_l_kinds) (t_l_kinds K a_NoChoice a_NoRow a_NoName a_NoText a_NoFit a_TooMany a_NoNumber a_NoStore) := by
  have hu : (cxOf CX0 P w K mg base ["caught", "due", "kinds", "k"] "_law_kinds" (defScope s_l_kinds) f cdv A outer s H E).nox.A.units + 64 < cLine := hr.units
  have hu5 : (cxOf CX0 P w K mg base ["caught", "due", "kinds", "k"] "_law_kinds" (defScope s_l_kinds) f cdv A outer s H E).nox.A.units + 65 < cLine := room65 hr
  have hu1 : (cxOf CX0 P w K mg base ["caught", "due", "kinds", "k"] "_law_kinds" (defScope s_l_kinds) f cdv A outer s H E).nox.A.units + 1 < cLine := room1 hr
  unfold t_l_kinds
  exact (pss_cons (ps_set (i := 2) sc_l_kinds.nd rfl (by first | exact Or.inl rfl | exact Or.inr rfl) (pe_lst (pa_cons (pe_callB call_is (by rfl) m_isinstance (by decide +kernel) (pa_cons (pv 0) (pa_cons (pe_glob (by rfl) g_NoStore rfl) pa_nil))) (pa_cons (pe_callB call_is (by rfl) m_isinstance (by decide +kernel) (pa_cons (pv 0) (pa_cons (pe_glob (by rfl) g_NoNumber rfl) pa_nil))) (pa_cons (pe_callB call_is (by rfl) m_isinstance (by decide +kernel) (pa_cons (pv 0) (pa_cons (pe_glob (by rfl) g_TooMany rfl) pa_nil))) pa_nil)))))
    (pss_cons (ps_set (i := 2) sc_l_kinds.nd rfl (by first | exact Or.inl rfl | exact Or.inr rfl) (pe_op o_add (pv 2) (pe_lst (pa_cons (pe_callB call_is (by rfl) m_isinstance (by decide +kernel) (pa_cons (pv 0) (pa_cons (pe_glob (by rfl) g_NoFit rfl) pa_nil))) (pa_cons (pe_callB call_is (by rfl) m_isinstance (by decide +kernel) (pa_cons (pv 0) (pa_cons (pe_glob (by rfl) g_NoText rfl) pa_nil))) (pa_cons (pe_callB call_is (by rfl) m_isinstance (by decide +kernel) (pa_cons (pv 0) (pa_cons (pe_glob (by rfl) g_NoName rfl) pa_nil))) pa_nil))))))
    (pss_cons (ps_set (i := 2) sc_l_kinds.nd rfl (by first | exact Or.inl rfl | exact Or.inr rfl) (pe_op o_add (pv 2) (pe_lst (pa_cons (pe_callB call_is (by rfl) m_isinstance (by decide +kernel) (pa_cons (pv 0) (pa_cons (pe_glob (by rfl) g_NoRow rfl) pa_nil))) (pa_cons (pe_callB call_is (by rfl) m_isinstance (by decide +kernel) (pa_cons (pv 0) (pa_cons (pe_glob (by rfl) g_NoChoice rfl) pa_nil))) (pa_cons (pe_not (pe_callB call_is (by rfl) m_isinstance (by decide +kernel) (pa_cons (pv 0) (pa_cons (pe_bltn (by rfl) m_ValueError (by decide +kernel) rfl) pa_nil)))) pa_nil))))))
    (pss_one (ps_ret (pe_and (pe_cmpR op_notN (pv 0) pe_non (nomark _)) (pe_one (pe_cmpR (o_eq hu) (pv 2) (pe_lc (own := [("k", 3)]) (g := (gName 3)) (tt := tYes) rfl sc_l_kinds.nd (pi_range1 (by rfl) m_range (pa_cons pe_int pa_nil)) (blkOk_by (N := ["caught", "due", "kinds", "k"]) (sc := defScope s_l_kinds) (by decide +kernel)) (fun _ _ _ _ _ => (pg_name (i := 3) sc_l_kinds.nd rfl (by first | exact Or.inl rfl | exact Or.inr rfl))) (fun _ _ _ _ _ => pts_nil) (fun _ _ _ _ _ => (pe_cmpR (o_eq hu) (pv 3) (pv 1) (nomark _)))) (nomark _)))))))))
/-! _law_all -/
abbrev s_l_all : Stmt := topS 39
theorem sc_l_all : FnScope ["program", "store", "most", "found", "waiting", "choices", "here", "k"] ["program", "store", "most"] (defScope s_l_all) := ⟨rfl, rfl, rfl, by decide +kernel, rfl, by decide +kernel, by decide +kernel⟩
def t_l_all (K : PySem.W.Frag) (sp_l_picked : Sp) (sp_l_to_pick : Sp) : TS :=
  (tSeq (tAsg (tLst tNil) (gName 3))
    (tSeq (tAsg (tLst (tCons (tTup (tCons (tLst tNil) (tCons (tCall sp_l_to_pick [] E0 (tCons (tVar 0) (tCons (tC (.int 0)) (tCons (tVar 1) tNil)))) tNil))) tNil)) (gName 4))
    (tSeq (tWhile (tAnd (tTest (tOp (dNe K) (tVar 4) (tLst tNil))) (tTest (tOp dLe (tCB (dLen K) (tCons (tVar 3) tNil)) (tVar 2)))) (tSeq (tAsg (tBM0 K "list" rPop (tVar 4)) (gTup K 2 (gCons (gName 5) (gCons (gName 6) gNil))))
    (tIfS (tTest (tOp dNotN (tOp (rIx K) (tVar 6) (tC (.int 2))) (tC .non))) (tDrop (tBM K "list" rAppend (tVar 3) (tCons (tTup (tCons (tVar 5) (tCons (tOp (rIx K) (tVar 6) (tC (.int 2))) tNil))) tNil))) (tFor (iRng3 (tCons (tOp dSub (tCB (dLen K) (tCons (tOp (rIx K) (tOp (rIx K) (tOp (rIx K) (tVar 0) (tC (.int 2))) (tOp (rIx K) (tVar 6) (tC (.int 0)))) (tC (.int 2))) tNil)) (tC (.int 1))) (tCons (tUn dNeg (tC (.int 1))) (tCons (tUn dNeg (tC (.int 1))) tNil)))) (gName 7) (tDrop (tBM K "list" rAppend (tVar 4) (tCons (tTup (tCons (tOp (dAdd K) (tVar 5) (tLst (tCons (tVar 7) tNil))) (tCons (tCall sp_l_picked [] E0 (tCons (tVar 0) (tCons (tOp (rIx K) (tVar 6) (tC (.int 0))) (tCons (tOp (rIx K) (tVar 6) (tC (.int 1))) (tCons (tVar 7) tNil))))) tNil))) tNil)))))))
    (tRet (tVar 3)))))
theorem wk_l_all {P : Program} {w : World} {K : PySem.W.Frag} {mg : Str → Option Value} {base : Heap} {k : Nat} {sp_l_picked : Sp} {sp_l_to_pick : Sp}
    (c_l_picked : Cal P w K mg base CX0 k "_law_picked" ["program", "row", "store", "choice"] sp_l_picked)
    (c_l_to_pick : Cal P w K mg base CX0 k "_law_to_pick" ["program", "row", "store"] sp_l_to_pick) (m_len : mg "len" = none) (m_range : mg "range" = none)
    (f : Addr) (cdv : Value) (A : Around) (outer : List Env) (s : Shared) (H : Hp) (E : XK) (hr : Room k (A.deeper (envOfC "_law_all" (defScope s_l_all) s.heap.objs.size f cdv))) :
    PSs (cxOf CX0 P w K mg base ["program", "store", "most", "found", "waiting", "choices", "here", "k"] "_law_all" (defScope s_l_all) f cdv A outer s H E).nox (defBody s_l_all) (t_l_all K sp_l_picked sp_l_to_pick) := by
  have hu : (cxOf CX0 P w K mg base ["program", "store", "most", "found", "waiting", "choices", "here", "k"] "_law_all" (defScope s_l_all) f cdv A outer s H E).nox.A.units + 64 < cLine := hr.units
  have hu5 : (cxOf CX0 P w K mg base ["program", "store", "most", "found", "waiting", "choices", "here", "k"] "_law_all" (defScope s_l_all) f cdv A outer s H E).nox.A.units + 65 < cLine := room65 hr
  have hu1 : (cxOf CX0 P w K mg base ["program", "store", "most", "found", "waiting", "choices", "here", "k"] "_law_all" (defScope s_l_all) f cdv A outer s H E).nox.A.units + 1 < cLine := room1 hr
  unfold t_l_all
  exact (pss_cons (ps_set (i := 3) sc_l_all.nd rfl (by first | exact Or.inl rfl | exact Or.inr rfl) (pe_lst pa_nil))
    (pss_cons (ps_set (i := 4) sc_l_all.nd rfl (by first | exact Or.inl rfl | exact Or.inr rfl) (pe_lst (pa_cons (pe_tup (pa_cons (pe_lst pa_nil) (pa_cons (pe_c c_l_to_pick hr (by rfl) (pa_cons (pv 0) (pa_cons pe_int (pa_cons (pv 1) pa_nil)))) pa_nil))) pa_nil)))
    (pss_cons (ps_while PassesOwn.never (PW.pt (pw_and (pt_cmpR (o_ne hu) (pv 4) (pe_lst pa_nil) (nomark _)) (pw_and1 (pt_cmpR o_le (pe_callB o_len (by rfl) m_len (by decide +kernel) (pa_cons (pv 3) pa_nil)) (pv 2) (nomark _))))) (pss_cons (ps_asg (pe_bm0 PySem.F.plainAttrs_list PySem.F.slot_list_pop PySem.F.type_list_pop mt_pop (pv 4)) (pg_tup rfl (pgs_cons (pg_name (i := 5) sc_l_all.nd rfl (by first | exact Or.inl rfl | exact Or.inr rfl)) (pgs_cons (pg_name (i := 6) sc_l_all.nd rfl (by first | exact Or.inl rfl | exact Or.inr rfl)) pgs_nil))))
    (pss_one (ps_if (pt_cmpR op_notN (pe_ix ix_seq (pv 6) pe_int (fun _ _ => rfl)) pe_non (nomark _)) (pss_one (ps_expr (pe_bm PySem.F.plainAttrs_list PySem.F.slot_list_append PySem.F.type_list_append mt_append (pv 3) (pa_cons (pe_tup (pa_cons (pv 5) (pa_cons (pe_ix ix_seq (pv 6) pe_int (fun _ _ => rfl)) pa_nil))) pa_nil)))) (pss_one (ps_for PassesOwn.never rfl (pi_range3 (by rfl) m_range (pa_cons (pe_op o_sub (pe_callB o_len (by rfl) m_len (by decide +kernel) (pa_cons (pe_ix ix_seq (pe_ix ix_seq (pe_ix ix_seq (pv 0) pe_int (fun _ _ => rfl)) (pe_ix ix_seq (pv 6) pe_int (fun _ _ => rfl)) (fun _ _ => rfl)) pe_int (fun _ _ => rfl)) pa_nil)) pe_int) (pa_cons (pe_un o_neg pe_int) (pa_cons (pe_un o_neg pe_int) pa_nil)))) (pg_name (i := 7) sc_l_all.nd rfl (by first | exact Or.inl rfl | exact Or.inr rfl)) (pss_one (ps_expr (pe_bm PySem.F.plainAttrs_list PySem.F.slot_list_append PySem.F.type_list_append mt_append (pv 4) (pa_cons (pe_tup (pa_cons (pe_op o_add (pv 5) (pe_lst (pa_cons (pv 7) pa_nil))) (pa_cons (pe_c c_l_picked hr (by rfl) (pa_cons (pv 0) (pa_cons (pe_ix ix_seq (pv 6) pe_int (fun _ _ => rfl)) (pa_cons (pe_ix ix_seq (pv 6) pe_int (fun _ _ => rfl)) (pa_cons (pv 7) pa_nil))))) pa_nil))) pa_nil))))))))))
    (pss_one (ps_ret (pv 3))))))
/-! _law_asked -/
abbrev s_l_asked : Stmt := topS 40
theorem sc_l_asked : FnScope ["program", "store", "found", "caught", "e"] ["program", "store"] (defScope s_l_asked) := ⟨rfl, rfl, rfl, by decide +kernel, rfl, by decide +kernel, by decide +kernel⟩
def t_l_asked (K : PySem.W.Frag) (sp_l_kinds : Sp) (sp_all_runs : Sp) (a_RunError : Addr) : TS :=
  (tSeq (tAsg (tC .non) (gName 2))
    (tSeq (tAsg (tC .non) (gName 3))
    (tSeq (tTryKeep K (.ref a_RunError) 4 3 (fun W => (tAsg (tCallS sp_all_runs (WE W) (tCons (tVar 0) (tCons (tVar 1) tNil))) (gName 2))) (fun _ _ _ _ => False))
    (tSeq (tIfS (tAnd (tTest (tOp dNotN (tVar 3) (tC .non))) (tNot (tB (tCall sp_l_kinds [] E0 (tCons (tVar 3) (tCons (tC (.int 2)) tNil)))))) (tRet (tC (.bl false))) tNext)
    (tRet (tVar 2))))))
theorem wk_l_asked {P : Program} {w : World} {K : PySem.W.Frag} {mg : Str → Option Value} {base : Heap} {k : Nat} {sp_l_kinds : Sp} {sp_all_runs : Sp} {a_RunError : Addr}
    (c_l_kinds : Cal P w K mg base CX0 k "_law_kinds" ["caught", "due"] sp_l_kinds)
    (c_all_runs : Cal P w K mg base (L2.CX P w) k "all_runs" ["program", "store"] sp_all_runs) (g_RunError : mg "RunError" = some (.ref a_RunError))
    (f : Addr) (cdv : Value) (A : Around) (outer : List Env) (s : Shared) (H : Hp) (E : XK) (hr : Room k (A.deeper (envOfC "_law_asked" (defScope s_l_asked) s.heap.objs.size f cdv))) :
    PSs (cxOf CX0 P w K mg base ["program", "store", "found", "caught", "e"] "_law_asked" (defScope s_l_asked) f cdv A outer s H E).nox (defBody s_l_asked) (t_l_asked K sp_l_kinds sp_all_runs a_RunError) := by
  have hu : (cxOf CX0 P w K mg base ["program", "store", "found", "caught", "e"] "_law_asked" (defScope s_l_asked) f cdv A outer s H E).nox.A.units + 64 < cLine := hr.units
  have hu5 : (cxOf CX0 P w K mg base ["program", "store", "found", "caught", "e"] "_law_asked" (defScope s_l_asked) f cdv A outer s H E).nox.A.units + 65 < cLine := room65 hr
  have hu1 : (cxOf CX0 P w K mg base ["program", "store", "found", "caught", "e"] "_law_asked" (defScope s_l_asked) f cdv A outer s H E).nox.A.units + 1 < cLine := room1 hr
  unfold t_l_asked
  exact (pss_cons (ps_set (i := 2) sc_l_asked.nd rfl (by first | exact Or.inl rfl | exact Or.inr rfl) pe_non)
    (pss_cons (ps_set (i := 3) sc_l_asked.nd rfl (by first | exact Or.inl rfl | exact Or.inr rfl) pe_non)
    (pss_cons (ps_try_kept (i := 4) (tb := fun W => (tAsg (tCallS sp_all_runs (WE W) (tCons (tVar 0) (tCons (tVar 1) tNil))) (gName 2))) (Wout := fun _ _ _ _ => False) rfl rfl rfl sc_l_asked.nd rfl rfl ⟨rfl, by decide, Or.inl g_RunError⟩ takes0 (fun W pn xe tk _ => (pss_one (ps_set (i := 2) sc_l_asked.nd rfl (by first | exact Or.inl rfl | exact Or.inr rfl) (pe_cx c_all_runs hr (by rfl) tk (pa_cons (pv 0) (pa_cons (pv 1) pa_nil)))))) (fun a pn => (pss_one (ps_set (i := 3) sc_l_asked.nd rfl (by first | exact Or.inl rfl | exact Or.inr rfl) (pv 4)))))
    (pss_cons (ps_if (PW.pt (pw_and (pt_cmpR op_notN (pv 3) pe_non (nomark _)) (pw_and1 (pt_not (pt_val (pe_c c_l_kinds hr (by rfl) (pa_cons (pv 3) (pa_cons pe_int pa_nil)))))))) (pss_one (ps_ret pe_bl)) pss_nil)
    (pss_one (ps_ret (pv 2)))))))
/-! _law_is_told -/
abbrev s_l_is_told : Stmt := topS 41
theorem sc_l_is_told : FnScope ["found", "due", "one", "choice"] ["found", "due"] (defScope s_l_is_told) := ⟨rfl, rfl, rfl, by decide +kernel, rfl, by decide +kernel, by decide +kernel⟩
def t_l_is_told (K : PySem.W.Frag) : TS :=
  (tSeq (tIfS (tOr (tNot (tB (tCB (rIsi K) (tCons (tVar 0) (tCons (tC (.ty "list")) tNil))))) (tTest (tOp (dNe K) (tCB (dLen K) (tCons (tVar 0) tNil)) (tCB (dLen K) (tCons (tVar 1) tNil))))) (tRet (tC (.bl false))) tNext)
    (tSeq (tFor (iList K (tVar 0)) (gName 2) (tSeq (tIfS (tOr (tNot (tB (tCB (rIsi K) (tCons (tVar 2) (tCons (tC (.ty "tuple")) tNil))))) (tOr (tTest (tOp (dNe K) (tCB (dLen K) (tCons (tVar 2) tNil)) (tC (.int 2)))) (tOr (tNot (tB (tCB (rIsi K) (tCons (tOp (rIx K) (tVar 2) (tC (.int 0))) (tCons (tC (.ty "list")) tNil))))) (tNot (tB (tCB (rIsi K) (tCons (tOp (rIx K) (tVar 2) (tC (.int 1))) (tCons (tC (.ty "tuple")) tNil)))))))) (tRet (tC (.bl false))) tNext)
    (tIfS (tTest (tOp (dNe K) (tLc (iList K (tOp (dAdd K) (tOp (rIx K) (tVar 2) (tC (.int 0))) (tCB (dList K) (tCons (tOp (rIx K) (tVar 2) (tC (.int 1))) tNil)))) (gName 3) (tB (tCB (rIsi K) (tCons (tVar 3) (tCons (tC (.ty "bool")) tNil)))) (tVar 3) [3]) (tLst tNil))) (tRet (tC (.bl false))) tNext)))
    (tRet (tOp (dEq K) (tVar 0) (tVar 1)))))
theorem wk_l_is_told {P : Program} {w : World} {K : PySem.W.Frag} {mg : Str → Option Value} {base : Heap} {k : Nat} (m_list : mg "list" = none) (m_isinstance : mg "isinstance" = none) (m_bool : mg "bool" = none) (m_tuple : mg "tuple" = none) (m_len : mg "len" = none)
    (f : Addr) (cdv : Value) (A : Around) (outer : List Env) (s : Shared) (H : Hp) (E : XK) (hr : Room k (A.deeper (envOfC "_law_is_told" (defScope s_l_is_told) s.heap.objs.size f cdv))) :
    PSs (cxOf CX0 P w K mg base ["found", "due", "one", "choice"] "_law_is_told" (defScope s_l_is_told) f cdv A outer s H E).nox (defBody s_l_is_told) (t_l_is_told K) := by
  have hu : (cxOf CX0 P w K mg base ["found", "due", "one", "choice"] "_law_is_told" (defScope s_l_is_told) f cdv A outer s H E).nox.A.units + 64 < cLine := hr.units
  have hu5 : (cxOf CX0 P w K mg base ["found", "due", "one", "choice"] "_law_is_told" (defScope s_l_is_told) f cdv A outer s H E).nox.A.units + 65 < cLine := room65 hr
  have hu1 : (cxOf CX0 P w K mg base ["found", "due", "one", "choice"] "_law_is_told" (defScope s_l_is_told) f cdv A outer s H E).nox.A.units + 1 < cLine := room1 hr
  unfold t_l_is_told
  exact (pss_cons (ps_if (PW.pt (pw_or (pt_not (pt_val (pe_callB call_isi (by rfl) m_isinstance (by decide +kernel) (pa_cons (pv 0) (pa_cons (pe_bltn (by rfl) m_list (by decide +kernel) rfl) pa_nil))))) (pw_or1 (pt_cmpR (o_ne hu) (pe_callB o_len (by rfl) m_len (by decide +kernel) (pa_cons (pv 0) pa_nil)) (pe_callB o_len (by rfl) m_len (by decide +kernel) (pa_cons (pv 1) pa_nil)) (nomark _))))) (pss_one (ps_ret pe_bl)) pss_nil)
    (pss_cons (ps_for PassesOwn.never rfl (pi_list (pv 0)) (pg_name (i := 2) sc_l_is_told.nd rfl (by first | exact Or.inl rfl | exact Or.inr rfl)) (pss_cons (ps_if (PW.pt (pw_or (pt_not (pt_val (pe_callB call_isi (by rfl) m_isinstance (by decide +kernel) (pa_cons (pv 2) (pa_cons (pe_bltn (by rfl) m_tuple (by decide +kernel) rfl) pa_nil))))) (pw_or (pt_cmpR (o_ne hu) (pe_callB o_len (by rfl) m_len (by decide +kernel) (pa_cons (pv 2) pa_nil)) pe_int (nomark _)) (pw_or (pt_not (pt_val (pe_callB call_isi (by rfl) m_isinstance (by decide +kernel) (pa_cons (pe_ix ix_seq (pv 2) pe_int (fun _ _ => rfl)) (pa_cons (pe_bltn (by rfl) m_list (by decide +kernel) rfl) pa_nil))))) (pw_or1 (pt_not (pt_val (pe_callB call_isi (by rfl) m_isinstance (by decide +kernel) (pa_cons (pe_ix ix_seq (pv 2) pe_int (fun _ _ => rfl)) (pa_cons (pe_bltn (by rfl) m_tuple (by decide +kernel) rfl) pa_nil)))))))))) (pss_one (ps_ret pe_bl)) pss_nil)
    (pss_one (ps_if (pt_cmpR (o_ne hu) (pe_lc (own := [("choice", 3)]) (g := (gName 3)) (tt := (tB (tCB (rIsi K) (tCons (tVar 3) (tCons (tC (.ty "bool")) tNil))))) rfl sc_l_is_told.nd (pi_list (pe_op o_add (pe_ix ix_seq (pv 2) pe_int (fun _ _ => rfl)) (pe_callTy o_list (by rfl) m_list (by decide +kernel) (pa_cons (pe_ix ix_seq (pv 2) pe_int (fun _ _ => rfl)) pa_nil)))) (blkOk_by (N := ["found", "due", "one", "choice"]) (sc := defScope s_l_is_told) (by decide +kernel)) (fun _ _ _ _ _ => (pg_name (i := 3) sc_l_is_told.nd rfl (by first | exact Or.inl rfl | exact Or.inr rfl))) (fun _ _ _ _ _ => (pts_one (pt_val (pe_callB call_isi (by rfl) m_isinstance (by decide +kernel) (pa_cons (pv 3) (pa_cons (pe_bltn (by rfl) m_bool (by decide +kernel) rfl) pa_nil)))))) (fun _ _ _ _ _ => (pv 3))) (pe_lst pa_nil) (nomark _)) (pss_one (ps_ret pe_bl)) pss_nil))))
    (pss_one (ps_ret (pe_cmpR (o_eq hu) (pv 0) (pv 1) (nomark _))))))
/-! _law_right -/
abbrev s_l_right : Stmt := topS 42
theorem sc_l_right : FnScope ["program", "store", "handed", "due", "found", "k"] ["program", "store"] (defScope s_l_right) := ⟨rfl, rfl, rfl, by decide +kernel, rfl, by decide +kernel, by decide +kernel⟩
def t_l_right (K : PySem.W.Frag) (sp_l_asked : Sp) (sp_l_is_told : Sp) (sp_l_all : Sp) (sp_l_deep : Sp) : TS :=
  (tSeq (tAsg (tCall sp_l_deep [] E0 (tCons (tVar 0) tNil)) (gName 2))
    (tSeq (tAsg (tCall sp_l_all [] E0 (tCons (tVar 0) (tCons (tVar 1) (tCons (tC (.int 2000)) tNil)))) (gName 3))
    (tSeq (tAsg (tCall sp_l_asked [] E0 (tCons (tVar 2) (tCons (tVar 1) tNil))) (gName 4))
    (tSeq (tIfS (tTest (tOp dGt (tCB (dLen K) (tCons (tVar 3) tNil)) (tC (.int 2000)))) (tRet (tAndV (tOp dIsN (tVar 4) (tC .non)) (tOp (dEq K) (tVar 2) (tVar 0)))) tNext)
    (tSeq (tIfS (tOr (tNot (tB (tCall sp_l_is_told [] E0 (tCons (tVar 4) (tCons (tVar 3) tNil))))) (tTest (tOp (dNe K) (tVar 2) (tVar 0)))) (tRet (tC (.bl false))) tNext)
    (tSeq (tFor (iRng1 (tCons (tCB (dLen K) (tCons (tVar 4) tNil)) tNil)) (gName 5) (tSeq (tDrop (tBM K "list" rAppend (tOp (rIx K) (tOp (rIx K) (tVar 4) (tVar 5)) (tC (.int 0))) (tCons (tC (.int 7)) tNil)))
    (tIfS (tAnd (tTest (tOp dLt (tOp (dAdd K) (tVar 5) (tC (.int 1))) (tCB (dLen K) (tCons (tVar 4) tNil)))) (tTest (tOp (dNe K) (tOp (rIx K) (tVar 4) (tOp (dAdd K) (tVar 5) (tC (.int 1)))) (tOp (rIx K) (tVar 3) (tOp (dAdd K) (tVar 5) (tC (.int 1))))))) (tRet (tC (.bl false))) tNext)))
    (tSeq (tIfS (tTest (tOp (dNe K) (tLc (iRng1 (tCons (tCB (dLen K) (tCons (tVar 4) tNil)) tNil)) (gName 5) (tTest (tOp (dNe K) (tOp (rIx K) (tOp (rIx K) (tVar 4) (tVar 5)) (tC (.int 0))) (tOp (dAdd K) (tOp (rIx K) (tOp (rIx K) (tVar 3) (tVar 5)) (tC (.int 0))) (tLst (tCons (tC (.int 7)) tNil))))) (tVar 5) [5]) (tLst tNil))) (tRet (tC (.bl false))) tNext)
    (tSeq (tDrop (tBM0 K "list" rClear (tVar 4)))
    (tRet (tAndV (tOp (dEq K) (tCall sp_l_asked [] E0 (tCons (tVar 2) (tCons (tVar 1) tNil))) (tVar 3)) (tOp (dEq K) (tVar 2) (tVar 0))))))))))))
theorem wk_l_right {P : Program} {w : World} {K : PySem.W.Frag} {mg : Str → Option Value} {base : Heap} {k : Nat} {sp_l_asked : Sp} {sp_l_is_told : Sp} {sp_l_all : Sp} {sp_l_deep : Sp}
    (c_l_asked : Cal P w K mg base CX0 k "_law_asked" ["program", "store"] sp_l_asked)
    (c_l_is_told : Cal P w K mg base CX0 k "_law_is_told" ["found", "due"] sp_l_is_told)
    (c_l_all : Cal P w K mg base CX0 k "_law_all" ["program", "store", "most"] sp_l_all)
    (c_l_deep : Cal P w K mg base CX0 k "_law_deep" ["thing"] sp_l_deep) (m_range : mg "range" = none) (m_len : mg "len" = none)
    (f : Addr) (cdv : Value) (A : Around) (outer : List Env) (s : Shared) (H : Hp) (E : XK) (hr : Room k (A.deeper (envOfC "_law_right" (defScope s_l_right) s.heap.objs.size f cdv))) :
    PSs (cxOf CX0 P w K mg base ["program", "store", "handed", "due", "found", "k"] "_law_right" (defScope s_l_right) f cdv A outer s H E).nox (defBody s_l_right) (t_l_right K sp_l_asked sp_l_is_told sp_l_all sp_l_deep) := by
  have hu : (cxOf CX0 P w K mg base ["program", "store", "handed", "due", "found", "k"] "_law_right" (defScope s_l_right) f cdv A outer s H E).nox.A.units + 64 < cLine := hr.units
  have hu5 : (cxOf CX0 P w K mg base ["program", "store", "handed", "due", "found", "k"] "_law_right" (defScope s_l_right) f cdv A outer s H E).nox.A.units + 65 < cLine := room65 hr
  have hu1 : (cxOf CX0 P w K mg base ["program", "store", "handed", "due", "found", "k"] "_law_right" (defScope s_l_right) f cdv A outer s H E).nox.A.units + 1 < cLine := room1 hr
  unfold t_l_right
  exact (pss_cons (ps_set (i := 2) sc_l_right.nd rfl (by first | exact Or.inl rfl | exact Or.inr rfl) (pe_c c_l_deep hr (by rfl) (pa_cons (pv 0) pa_nil)))
    (pss_cons (ps_set (i := 3) sc_l_right.nd rfl (by first | exact Or.inl rfl | exact Or.inr rfl) (pe_c c_l_all hr (by rfl) (pa_cons (pv 0) (pa_cons (pv 1) (pa_cons pe_int pa_nil)))))
    (pss_cons (ps_set (i := 4) sc_l_right.nd rfl (by first | exact Or.inl rfl | exact Or.inr rfl) (pe_c c_l_asked hr (by rfl) (pa_cons (pv 2) (pa_cons (pv 1) pa_nil))))
    (pss_cons (ps_if (pt_cmpR o_gt (pe_callB o_len (by rfl) m_len (by decide +kernel) (pa_cons (pv 3) pa_nil)) pe_int (nomark _)) (pss_one (ps_ret (pe_and (pe_cmpR op_isN (pv 4) pe_non (nomark _)) (pe_one (pe_cmpR (o_eq hu) (pv 2) (pv 0) (nomark _)))))) pss_nil)
    (pss_cons (ps_if (PW.pt (pw_or (pt_not (pt_val (pe_c c_l_is_told hr (by rfl) (pa_cons (pv 4) (pa_cons (pv 3) pa_nil))))) (pw_or1 (pt_cmpR (o_ne hu) (pv 2) (pv 0) (nomark _))))) (pss_one (ps_ret pe_bl)) pss_nil)
    (pss_cons (ps_for PassesOwn.never rfl (pi_range1 (by rfl) m_range (pa_cons (pe_callB o_len (by rfl) m_len (by decide +kernel) (pa_cons (pv 4) pa_nil)) pa_nil)) (pg_name (i := 5) sc_l_right.nd rfl (by first | exact Or.inl rfl | exact Or.inr rfl)) (pss_cons (ps_expr (pe_bm PySem.F.plainAttrs_list PySem.F.slot_list_append PySem.F.type_list_append mt_append (pe_ix ix_seq (pe_ix ix_seq (pv 4) (pv 5) (fun _ _ => rfl)) pe_int (fun _ _ => rfl)) (pa_cons pe_int pa_nil)))
    (pss_one (ps_if (PW.pt (pw_and (pt_cmpR o_lt (pe_op o_add (pv 5) pe_int) (pe_callB o_len (by rfl) m_len (by decide +kernel) (pa_cons (pv 4) pa_nil)) (nomark _)) (pw_and1 (pt_cmpR (o_ne hu) (pe_ix ix_seq (pv 4) (pe_op o_add (pv 5) pe_int) (fun _ _ => rfl)) (pe_ix ix_seq (pv 3) (pe_op o_add (pv 5) pe_int) (fun _ _ => rfl)) (nomark _))))) (pss_one (ps_ret pe_bl)) pss_nil))))
    (pss_cons (ps_if (pt_cmpR (o_ne hu) (pe_lc (own := [("k", 5)]) (g := (gName 5)) (tt := (tTest (tOp (dNe K) (tOp (rIx K) (tOp (rIx K) (tVar 4) (tVar 5)) (tC (.int 0))) (tOp (dAdd K) (tOp (rIx K) (tOp (rIx K) (tVar 3) (tVar 5)) (tC (.int 0))) (tLst (tCons (tC (.int 7)) tNil)))))) rfl sc_l_right.nd (pi_range1 (by rfl) m_range (pa_cons (pe_callB o_len (by rfl) m_len (by decide +kernel) (pa_cons (pv 4) pa_nil)) pa_nil)) (blkOk_by (N := ["program", "store", "handed", "due", "found", "k"]) (sc := defScope s_l_right) (by decide +kernel)) (fun _ _ _ _ _ => (pg_name (i := 5) sc_l_right.nd rfl (by first | exact Or.inl rfl | exact Or.inr rfl))) (fun _ _ _ _ _ => (pts_one (pt_cmpR (o_ne hu) (pe_ix ix_seq (pe_ix ix_seq (pv 4) (pv 5) (fun _ _ => rfl)) pe_int (fun _ _ => rfl)) (pe_op o_add (pe_ix ix_seq (pe_ix ix_seq (pv 3) (pv 5) (fun _ _ => rfl)) pe_int (fun _ _ => rfl)) (pe_lst (pa_cons pe_int pa_nil))) (nomark _)))) (fun _ _ _ _ _ => (pv 5))) (pe_lst pa_nil) (nomark _)) (pss_one (ps_ret pe_bl)) pss_nil)
    (pss_cons (ps_expr (pe_bm0 PySem.F.plainAttrs_list PySem.F.slot_list_clear PySem.F.type_list_clear mt_clear (pv 4)))
    (pss_one (ps_ret (pe_and (pe_cmpR (o_eq hu) (pe_c c_l_asked hr (by rfl) (pa_cons (pv 2) (pa_cons (pv 1) pa_nil))) (pv 3) (nomark _)) (pe_one (pe_cmpR (o_eq hu) (pv 2) (pv 0) (nomark _))))))))))))))
/-! _law_far -/
abbrev s_l_far : Stmt := topS 43
theorem sc_l_far : FnScope ["deck", "m", "many", "boxes", "rows", "runs", "k", "row", "things", "j"] ["deck"] (defScope s_l_far) := ⟨rfl, rfl, rfl, by decide +kernel, rfl, by decide +kernel, by decide +kernel⟩
def t_l_far (K : PySem.W.Frag) (sp_l_draw : Sp) (sp_l_thing : Sp) (sp_l_row : Sp) : TS :=
  (tSeq (tAsg (tOp (rIx K) (tLst (tCons (tTup (tCons (tC (.int 6)) (tCons (tC (.int 3)) tNil))) (tCons (tTup (tCons (tC (.int 7)) (tCons (tC (.int 3)) tNil))) (tCons (tTup (tCons (tC (.int 16)) (tCons (tC (.int 2)) tNil))) (tCons (tTup (tCons (tC (.int 4)) (tCons (tC (.int 4)) tNil))) (tCons (tTup (tCons (tC (.int 13)) (tCons (tC (.int 2)) tNil))) tNil)))))) (tCall sp_l_draw [] E0 (tCons (tVar 0) (tCons (tC (.int 5)) tNil)))) (gTup K 2 (gCons (gName 1) (gCons (gName 2) gNil))))
    (tSeq (tAsg (tSl (rSlL K) (tLst (tCons (tC (.str "a")) (tCons (tC (.str "b")) (tCons (tC (.str "ab")) (tCons (tC (.str "zz")) tNil))))) tNoPart (tPart (tVar 2))) (gName 3))
    (tSeq (tAsg (tLst tNil) (gName 4))
    (tSeq (tAsg (tC (.int 1)) (gName 5))
    (tSeq (tFor (iRng1 (tCons (tOp (dAdd K) (tC (.int 11)) (tCall sp_l_draw [] E0 (tCons (tVar 0) (tCons (tC (.int 3)) tNil)))) tNil)) (gName 6) (tSeq (tAsg (tCall sp_l_row [] E0 (tCons (tVar 0) (tCons (tVar 1) (tCons (tVar 3) tNil)))) (gName 7))
    (tSeq (tIfS (tOr (tTest (tOp (dIn K) (tOp (rIx K) (tVar 7) (tC (.int 0))) (tTup (tCons (tC (.str "give")) (tCons (tC (.str "need")) tNil))))) (tTest (tOp dGt (tCall sp_l_draw [] E0 (tCons (tVar 0) (tCons (tC (.int 3)) tNil))) (tC (.int 0))))) (tSeq (tAsg (tLc (iRng1 (tCons (tOp (dAdd K) (tC (.int 1)) (tCall sp_l_draw [] E0 (tCons (tVar 0) (tCons (tC (.int 3)) tNil)))) tNil)) (gName 9) tYes (tCall sp_l_thing [] E0 (tCons (tVar 0) (tCons (tVar 1) (tCons (tVar 3) (tCons (tC (.int 2)) tNil))))) [9]) (gName 8))
    (tSeq (tAsg (tOp (dAdd K) (tVar 8) (tSl (rSlL K) (tVar 8) tNoPart (tPart (tCall sp_l_draw [] E0 (tCons (tVar 0) (tCons (tC (.int 2)) tNil)))))) (gName 8))
    (tAsg (tTup (tCons (tC (.str "pick")) (tCons (tOp (rIx K) (tVar 3) (tCall sp_l_draw [] E0 (tCons (tVar 0) (tCons (tVar 2) tNil)))) (tCons (tVar 8) tNil)))) (gName 7)))) tNext)
    (tSeq (tIfS (tAnd (tTest (tOp (dEq K) (tOp (rIx K) (tVar 7) (tC (.int 0))) (tC (.str "pick")))) (tTest (tOp dGt (tOp dMul (tVar 5) (tCB (dLen K) (tCons (tOp (rIx K) (tVar 7) (tC (.int 2))) tNil))) (tC (.int 2000))))) (tAsg (tTup (tCons (tOp (rIx K) (tVar 7) (tC (.int 0))) (tCons (tOp (rIx K) (tVar 7) (tC (.int 1))) (tCons (tSl (rSlL K) (tOp (rIx K) (tVar 7) (tC (.int 2))) tNoPart (tPart (tC (.int 1)))) tNil)))) (gName 7)) tNext)
    (tSeq (tIfS (tTest (tOp (dEq K) (tOp (rIx K) (tVar 7) (tC (.int 0))) (tC (.str "pick")))) (tAsg (tOp dMul (tVar 5) (tCB (dLen K) (tCons (tOp (rIx K) (tVar 7) (tC (.int 2))) tNil))) (gName 5)) tNext)
    (tDrop (tBM K "list" rAppend (tVar 4) (tCons (tVar 7) tNil))))))))
    (tRet (tTup (tCons (tVar 1) (tCons (tVar 3) (tCons (tOp (dAdd K) (tVar 4) (tLst (tCons (tTup (tCons (tC (.str "give")) (tCons (tTup (tCons (tC (.str "box")) (tCons (tOp (rIx K) (tVar 3) (tCall sp_l_draw [] E0 (tCons (tVar 0) (tCons (tVar 2) tNil)))) tNil))) tNil))) tNil))) tNil))))))))))
theorem wk_l_far {P : Program} {w : World} {K : PySem.W.Frag} {mg : Str → Option Value} {base : Heap} {k : Nat} {sp_l_draw : Sp} {sp_l_thing : Sp} {sp_l_row : Sp}
    (c_l_draw : Cal P w K mg base CX0 k "_law_draw" ["deck", "many"] sp_l_draw)
    (c_l_thing : Cal P w K mg base CX0 k "_law_thing" ["deck", "m", "boxes", "deep"] sp_l_thing)
    (c_l_row : Cal P w K mg base CX0 k "_law_row" ["deck", "m", "boxes"] sp_l_row) (m_range : mg "range" = none) (m_len : mg "len" = none)
    (f : Addr) (cdv : Value) (A : Around) (outer : List Env) (s : Shared) (H : Hp) (E : XK) (hr : Room k (A.deeper (envOfC "_law_far" (defScope s_l_far) s.heap.objs.size f cdv))) :
    PSs (cxOf CX0 P w K mg base ["deck", "m", "many", "boxes", "rows", "runs", "k", "row", "things", "j"] "_law_far" (defScope s_l_far) f cdv A outer s H E).nox (defBody s_l_far) (t_l_far K sp_l_draw sp_l_thing sp_l_row) := by
  have hu : (cxOf CX0 P w K mg base ["deck", "m", "many", "boxes", "rows", "runs", "k", "row", "things", "j"] "_law_far" (defScope s_l_far) f cdv A outer s H E).nox.A.units + 64 < cLine := hr.units
  have hu5 : (cxOf CX0 P w K mg base ["deck", "m", "many", "boxes", "rows", "runs", "k", "row", "things", "j"] "_law_far" (defScope s_l_far) f cdv A outer s H E).nox.A.units + 65 < cLine := room65 hr
  have hu1 : (cxOf CX0 P w K mg base ["deck", "m", "many", "boxes", "rows", "runs", "k", "row", "things", "j"] "_law_far" (defScope s_l_far) f cdv A outer s H E).nox.A.units + 1 < cLine := room1 hr
  unfold t_l_far
  exact (pss_cons (ps_asg (pe_ix ix_seq (pe_lst (pa_cons (pe_tup (pa_cons pe_int (pa_cons pe_int pa_nil))) (pa_cons (pe_tup (pa_cons pe_int (pa_cons pe_int pa_nil))) (pa_cons (pe_tup (pa_cons pe_int (pa_cons pe_int pa_nil))) (pa_cons (pe_tup (pa_cons pe_int (pa_cons pe_int pa_nil))) (pa_cons (pe_tup (pa_cons pe_int (pa_cons pe_int pa_nil))) pa_nil)))))) (pe_c c_l_draw hr (by rfl) (pa_cons (pv 0) (pa_cons pe_int pa_nil))) (fun _ _ => rfl)) (pg_tup rfl (pgs_cons (pg_name (i := 1) sc_l_far.nd rfl (by first | exact Or.inl rfl | exact Or.inr rfl)) (pgs_cons (pg_name (i := 2) sc_l_far.nd rfl (by first | exact Or.inl rfl | exact Or.inr rfl)) pgs_nil))))
    (pss_cons (ps_set (i := 3) sc_l_far.nd rfl (by first | exact Or.inl rfl | exact Or.inr rfl) (pe_slice sl_list (pe_lst (pa_cons pe_str (pa_cons pe_str (pa_cons pe_str (pa_cons pe_str pa_nil))))) po_none (po_some (pv 2))))
    (pss_cons (ps_set (i := 4) sc_l_far.nd rfl (by first | exact Or.inl rfl | exact Or.inr rfl) (pe_lst pa_nil))
    (pss_cons (ps_set (i := 5) sc_l_far.nd rfl (by first | exact Or.inl rfl | exact Or.inr rfl) pe_int)
    (pss_cons (ps_for PassesOwn.never rfl (pi_range1 (by rfl) m_range (pa_cons (pe_op o_add pe_int (pe_c c_l_draw hr (by rfl) (pa_cons (pv 0) (pa_cons pe_int pa_nil)))) pa_nil)) (pg_name (i := 6) sc_l_far.nd rfl (by first | exact Or.inl rfl | exact Or.inr rfl)) (pss_cons (ps_set (i := 7) sc_l_far.nd rfl (by first | exact Or.inl rfl | exact Or.inr rfl) (pe_c c_l_row hr (by rfl) (pa_cons (pv 0) (pa_cons (pv 1) (pa_cons (pv 3) pa_nil)))))
    (pss_cons (ps_if (PW.pt (pw_or (pt_cmpR (o_in hu5) (pe_ix ix_seq (pv 7) pe_int (fun _ _ => rfl)) (pe_tup (pa_cons pe_str (pa_cons pe_str pa_nil))) (by rfl)) (pw_or1 (pt_cmpR o_gt (pe_c c_l_draw hr (by rfl) (pa_cons (pv 0) (pa_cons pe_int pa_nil))) pe_int (nomark _))))) (pss_cons (ps_setLc (i := 8) (own := [("j", 9)]) (g := (gName 9)) (tt := tYes) rfl sc_l_far.nd rfl rfl (sw_true rfl rfl rfl (by decide +kernel)) (pi_range1 (by rfl) m_range (pa_cons (pe_op o_add pe_int (pe_c c_l_draw hr (by rfl) (pa_cons (pv 0) (pa_cons pe_int pa_nil)))) pa_nil)) (blkOk_by (N := ["deck", "m", "many", "boxes", "rows", "runs", "k", "row", "things", "j"]) (sc := defScope s_l_far) (by decide +kernel)) (fun _ _ _ _ _ => (pg_name (i := 9) sc_l_far.nd rfl (by first | exact Or.inl rfl | exact Or.inr rfl))) (fun _ _ _ _ _ => pts_nil) (fun _ _ _ _ _ => (pe_c c_l_thing hr (by rfl) (pa_cons (pv 0) (pa_cons (pv 1) (pa_cons (pv 3) (pa_cons pe_int pa_nil)))))))
    (pss_cons (ps_set (i := 8) sc_l_far.nd rfl (by first | exact Or.inl rfl | exact Or.inr rfl) (pe_op o_add (pv 8) (pe_slice sl_list (pv 8) po_none (po_some (pe_c c_l_draw hr (by rfl) (pa_cons (pv 0) (pa_cons pe_int pa_nil)))))))
    (pss_one (ps_set (i := 7) sc_l_far.nd rfl (by first | exact Or.inl rfl | exact Or.inr rfl) (pe_tup (pa_cons pe_str (pa_cons (pe_ix ix_seq (pv 3) (pe_c c_l_draw hr (by rfl) (pa_cons (pv 0) (pa_cons (pv 2) pa_nil))) (fun _ _ => rfl)) (pa_cons (pv 8) pa_nil)))))))) pss_nil)
    (pss_cons (ps_if (PW.pt (pw_and (pt_cmpR (o_eq hu) (pe_ix ix_seq (pv 7) pe_int (fun _ _ => rfl)) pe_str (nomark _)) (pw_and1 (pt_cmpR o_gt (pe_op o_mul (pv 5) (pe_callB o_len (by rfl) m_len (by decide +kernel) (pa_cons (pe_ix ix_seq (pv 7) pe_int (fun _ _ => rfl)) pa_nil))) pe_int (nomark _))))) (pss_one (ps_set (i := 7) sc_l_far.nd rfl (by first | exact Or.inl rfl | exact Or.inr rfl) (pe_tup (pa_cons (pe_ix ix_seq (pv 7) pe_int (fun _ _ => rfl)) (pa_cons (pe_ix ix_seq (pv 7) pe_int (fun _ _ => rfl)) (pa_cons (pe_slice sl_list (pe_ix ix_seq (pv 7) pe_int (fun _ _ => rfl)) po_none (po_some pe_int)) pa_nil)))))) pss_nil)
    (pss_cons (ps_if (pt_cmpR (o_eq hu) (pe_ix ix_seq (pv 7) pe_int (fun _ _ => rfl)) pe_str (nomark _)) (pss_one (ps_set (i := 5) sc_l_far.nd rfl (by first | exact Or.inl rfl | exact Or.inr rfl) (pe_op o_mul (pv 5) (pe_callB o_len (by rfl) m_len (by decide +kernel) (pa_cons (pe_ix ix_seq (pv 7) pe_int (fun _ _ => rfl)) pa_nil))))) pss_nil)
    (pss_one (ps_expr (pe_bm PySem.F.plainAttrs_list PySem.F.slot_list_append PySem.F.type_list_append mt_append (pv 4) (pa_cons (pv 7) pa_nil)))))))))
    (pss_one (ps_ret (pe_tup (pa_cons (pv 1) (pa_cons (pv 3) (pa_cons (pe_op o_add (pv 4) (pe_lst (pa_cons (pe_tup (pa_cons pe_str (pa_cons (pe_tup (pa_cons pe_str (pa_cons (pe_ix ix_seq (pv 3) (pe_c c_l_draw hr (by rfl) (pa_cons (pv 0) (pa_cons (pv 2) pa_nil))) (fun _ _ => rfl)) pa_nil))) pa_nil))) pa_nil))) pa_nil)))))))))))
/-! law -/
abbrev s_law : Stmt := topS 44
theorem sc_law : FnScope ["script", "deck", "k", "program", "turn"] ["script"] (defScope s_law) := ⟨rfl, rfl, rfl, by decide +kernel, rfl, by decide +kernel, by decide +kernel⟩
def t_law (K : PySem.W.Frag) (sp_l_right : Sp) (sp_l_draw : Sp) (sp_l_store : Sp) (sp_l_far : Sp) (sp_l_program : Sp) (sp_l_deck : Sp) : TS :=
  (tSeq (tAsg (tCall sp_l_deck [] E0 (tCons (tVar 0) tNil)) (gName 1))
    (tSeq (tFor (iRng1 (tCons (tC (.int 6)) tNil)) (gName 2) (tSeq (tAsg (tCall sp_l_program [] E0 (tCons (tVar 1) tNil)) (gName 3))
    (tFor (iRng1 (tCons (tC (.int 2)) tNil)) (gName 4) (tIfS (tNot (tB (tCall sp_l_right [] E0 (tCons (tVar 3) (tCons (tCall sp_l_store [] E0 (tCons (tVar 1) (tCons (tVar 3) tNil))) tNil))))) (tRet (tC (.bl false))) tNext))))
    (tSeq (tIfS (tTest (tOp (dEq K) (tCall sp_l_draw [] E0 (tCons (tVar 1) (tCons (tC (.int 8)) tNil))) (tC (.int 0)))) (tSeq (tAsg (tCall sp_l_far [] E0 (tCons (tVar 1) tNil)) (gName 3))
    (tIfS (tNot (tB (tCall sp_l_right [] E0 (tCons (tVar 3) (tCons (tCall sp_l_store [] E0 (tCons (tVar 1) (tCons (tVar 3) tNil))) tNil))))) (tRet (tC (.bl false))) tNext)) tNext)
    (tRet (tAndV (tCall sp_l_right [] E0 (tCons (tTup (tCons (tC (.int 3)) (tCons (tLst (tCons (tC (.str "a")) tNil)) (tCons (tLst tNil) tNil)))) (tCons (tTup (tCons (tC (.int 2)) tNil)) tNil))) (tCall sp_l_right [] E0 (tCons (tTup (tCons (tC (.int 2)) (tCons (tLst (tCons (tC (.str "a")) tNil)) (tCons (tLst (tCons (tTup (tCons (tC (.str "pick")) (tCons (tC (.str "a")) (tCons (tLst (tCons (tTup (tCons (tC (.str "number")) (tCons (tC (.int 1)) tNil))) tNil)) tNil)))) tNil)) tNil)))) (tCons (tTup (tCons (tC (.int 0)) tNil)) tNil))))))))
theorem wk_law {P : Program} {w : World} {K : PySem.W.Frag} {mg : Str → Option Value} {base : Heap} {k : Nat} {sp_l_right : Sp} {sp_l_draw : Sp} {sp_l_store : Sp} {sp_l_far : Sp} {sp_l_program : Sp} {sp_l_deck : Sp}
    (c_l_right : Cal P w K mg base CX0 k "_law_right" ["program", "store"] sp_l_right)
    (c_l_draw : Cal P w K mg base CX0 k "_law_draw" ["deck", "many"] sp_l_draw)
    (c_l_store : Cal P w K mg base CX0 k "_law_store" ["deck", "program"] sp_l_store)
    (c_l_far : Cal P w K mg base CX0 k "_law_far" ["deck"] sp_l_far)
    (c_l_program : Cal P w K mg base CX0 k "_law_program" ["deck"] sp_l_program)
    (c_l_deck : Cal P w K mg base CX0 k "_law_deck" ["script"] sp_l_deck) (m_range : mg "range" = none)
    (f : Addr) (cdv : Value) (A : Around) (outer : List Env) (s : Shared) (H : Hp) (E : XK) (hr : Room k (A.deeper (envOfC "law" (defScope s_law) s.heap.objs.size f cdv))) :
    PSs (cxOf CX0 P w K mg base ["script", "deck", "k", "program", "turn"] "law" (defScope s_law) f cdv A outer s H E).nox (defBody s_law) (t_law K sp_l_right sp_l_draw sp_l_store sp_l_far sp_l_program sp_l_deck) := by
  have hu : (cxOf CX0 P w K mg base ["script", "deck", "k", "program", "turn"] "law" (defScope s_law) f cdv A outer s H E).nox.A.units + 64 < cLine := hr.units
  have hu5 : (cxOf CX0 P w K mg base ["script", "deck", "k", "program", "turn"] "law" (defScope s_law) f cdv A outer s H E).nox.A.units + 65 < cLine := room65 hr
  have hu1 : (cxOf CX0 P w K mg base ["script", "deck", "k", "program", "turn"] "law" (defScope s_law) f cdv A outer s H E).nox.A.units + 1 < cLine := room1 hr
  unfold t_law
  exact (pss_cons (ps_set (i := 1) sc_law.nd rfl (by first | exact Or.inl rfl | exact Or.inr rfl) (pe_c c_l_deck hr (by rfl) (pa_cons (pv 0) pa_nil)))
    (pss_cons (ps_for PassesOwn.never rfl (pi_range1 (by rfl) m_range (pa_cons pe_int pa_nil)) (pg_name (i := 2) sc_law.nd rfl (by first | exact Or.inl rfl | exact Or.inr rfl)) (pss_cons (ps_set (i := 3) sc_law.nd rfl (by first | exact Or.inl rfl | exact Or.inr rfl) (pe_c c_l_program hr (by rfl) (pa_cons (pv 1) pa_nil)))
    (pss_one (ps_for PassesOwn.never rfl (pi_range1 (by rfl) m_range (pa_cons pe_int pa_nil)) (pg_name (i := 4) sc_law.nd rfl (by first | exact Or.inl rfl | exact Or.inr rfl)) (pss_one (ps_if (pt_not (pt_val (pe_c c_l_right hr (by rfl) (pa_cons (pv 3) (pa_cons (pe_c c_l_store hr (by rfl) (pa_cons (pv 1) (pa_cons (pv 3) pa_nil))) pa_nil))))) (pss_one (ps_ret pe_bl)) pss_nil))))))
    (pss_cons (ps_if (pt_cmpR (o_eq hu) (pe_c c_l_draw hr (by rfl) (pa_cons (pv 1) (pa_cons pe_int pa_nil))) pe_int (nomark _)) (pss_cons (ps_set (i := 3) sc_law.nd rfl (by first | exact Or.inl rfl | exact Or.inr rfl) (pe_c c_l_far hr (by rfl) (pa_cons (pv 1) pa_nil)))
    (pss_one (ps_if (pt_not (pt_val (pe_c c_l_right hr (by rfl) (pa_cons (pv 3) (pa_cons (pe_c c_l_store hr (by rfl) (pa_cons (pv 1) (pa_cons (pv 3) pa_nil))) pa_nil))))) (pss_one (ps_ret pe_bl)) pss_nil))) pss_nil)
    (pss_one (ps_ret (pe_and (pe_c c_l_right hr (by rfl) (pa_cons (pe_tup (pa_cons pe_int (pa_cons (pe_lst (pa_cons pe_str pa_nil)) (pa_cons (pe_lst pa_nil) pa_nil)))) (pa_cons (pe_tup (pa_cons pe_int pa_nil)) pa_nil))) (pe_one (pe_c c_l_right hr (by rfl) (pa_cons (pe_tup (pa_cons pe_int (pa_cons (pe_lst (pa_cons pe_str pa_nil)) (pa_cons (pe_lst (pa_cons (pe_tup (pa_cons pe_str (pa_cons pe_str (pa_cons (pe_lst (pa_cons (pe_tup (pa_cons pe_str (pa_cons pe_int pa_nil))) pa_nil)) pa_nil)))) pa_nil)) pa_nil)))) (pa_cons (pe_tup (pa_cons pe_int pa_nil)) pa_nil))))))))))
end Sy
end
section
set_option Elab.async false
set_option linter.all false
set_option maxRecDepth 100000
/-! Decks: the law's own draws. -/
open PySem L2 Pk
local macro_rules | `(tactic| walk_at "sh") => `(tactic| first | exact sh_int | exact sh_bool | exact sh_non | exact sh_nil | exact sh_str (by decide +kernel) | assumption)
local macro_rules | `(tactic| walk_at "v1") => `(tactic| first
  | (with_reducible refine wd_int ?_) | (with_reducible refine wd_str ?_) | (with_reducible refine wd_bl ?_) | (with_reducible refine wd_non ?_)
  | ((with_reducible apply wd_var); exact rfl) | ((with_reducible apply wd_varN); exact rfl)
  | ((with_reducible apply wd_ixm); exact rfl)
  | ((with_reducible apply wd_lenM); exact rfl) | ((with_reducible apply wd_lenScript); exact rfl) | ((with_reducible apply wd_ixScript); exact rfl)
  | (with_reducible refine wd_op ?_) | (with_reducible refine wd_un ?_)
  | (with_reducible refine rd_add ?_) | (with_reducible refine rd_sub ?_) | (with_reducible refine rd_lt ?_) | (with_reducible refine rd_le ?_) | (with_reducible refine rd_gt ?_) | (with_reducible refine rd_ge ?_) | (with_reducible refine ru_neg ?_)
  | ((with_reducible refine rd_eq ?ev_h ?ev_k ?_); (case ev_h => walk_at "sh"); (case ev_k => walk_at "sh")) | ((with_reducible refine rd_ne ?ev_h ?ev_k ?_); (case ev_h => walk_at "sh"); (case ev_k => walk_at "sh"))
  | ((with_reducible refine rd_mod ?ev_h ?_); case ev_h => first | decide | assumption | omega) | ((with_reducible refine rd_div ?ev_h ?ev_k ?_); (case ev_h => first | decide | assumption | omega); (case ev_k => first | decide | assumption | omega))
  | ((with_reducible refine rd_pow ?ev_h ?_); case ev_h => exact ⟨by decide, by decide, by decide⟩)
  | ((with_reducible refine rd_mul ?ev_h ?_); case ev_h => first | exact .inr ⟨by decide, by decide⟩ | exact .inl ⟨by decide, by decide⟩ | exact .inl ⟨by omega, by omega⟩ | exact .inr ⟨by omega, by omega⟩)
  | (with_reducible refine rc_lenL ?_) | (with_reducible refine rc_lenT ?_) | (with_reducible refine rc_max2 ?_) | (with_reducible refine rc_min2 ?_) | (with_reducible refine rc_intB ?_) | (with_reducible refine rc_intI ?_) | (with_reducible refine rc_listL ?_) | (with_reducible refine rc_listT ?_) | (with_reducible refine rc_tupleL ?_)
  | ((with_reducible apply rd_ixT); exact rfl)
  | ((with_reducible apply rd_ixL); exact rfl)
  | ((with_reducible refine wd_isi ?ev_h ?_); case ev_h => decide) | ((with_reducible refine wd_isi2 ?ev_h ?ev_k ?_); (case ev_h => decide); (case ev_k => decide))
  | (with_reducible refine wd_tup2 ?_) | (with_reducible refine wd_tup1 ?_) | (with_reducible refine wd_tup3 ?_) | (with_reducible refine wd_tup0 ?_)
  | (with_reducible refine wd_lst0 ?_) | (with_reducible refine wd_lst1 ?_) | (with_reducible refine wd_lst2 ?_) | (with_reducible refine wd_lst3 ?_) | (with_reducible refine wd_lst4 ?_) | (with_reducible refine wd_lst5 ?_) | (with_reducible refine wd_lst6 ?_)
  | ((with_reducible apply wd_callO0); exact rfl) | ((with_reducible apply wd_callO1); exact rfl) | ((with_reducible apply wd_callO2); exact rfl) | ((with_reducible apply wd_callO3); exact rfl)
  | (with_reducible refine wd_call1 ?_) | (with_reducible refine wd_call2 ?_) | (with_reducible refine wd_call3 ?_) | (with_reducible refine wd_call4 ?_) | (with_reducible refine wd_call0 ?_)
  | (with_reducible refine wd_cb1 ?_) | (with_reducible refine wd_cb2 ?_)
  | (with_reducible refine wd_rev ?_) | (with_reducible refine wd_lrg1 ?_) | (with_reducible refine wd_sl ?_) | (with_reducible refine wo_no ?_) | (with_reducible refine wo_some ?_)
  | (with_reducible refine wd_andV ?_) | (with_reducible refine wd_orV ?_) | (with_reducible refine wd_notV ?_) | (with_reducible refine wd_if ?_) | (with_reducible refine wd_chain ?_)
  | (with_reducible refine wt_test ?_) | (with_reducible refine wt_B ?_) | (with_reducible refine wt_not ?_) | (with_reducible refine wt_and ?_) | (with_reducible refine wt_or ?_) | (with_reducible refine wt_yes ?_)
  | (with_reducible refine gj_name ?_) | (with_reducible refine gj_tup rfl ?_) | (with_reducible refine gjs_cons ?_) | (with_reducible refine gjs_nil ?_))
local macro_rules | `(tactic| walk_at "v") => `(tactic| repeat walk_at "v1")
local macro_rules | `(tactic| walk_at "x") => `(tactic| refine ⟨_, rfl, ?_⟩)
local macro_rules | `(tactic| walk_at "vx") => `(tactic| repeat (first | walk_at "v1" | (with_reducible refine ⟨_, rfl, ?_⟩)))
namespace Dk
open PySem PySem.Spec PyProof.Rows L2 Pk Sy
def PoolOk (nss : List (List Int)) : Prop := 1 ≤ nss.length ∧ nss.length ≤ 63 ∧ ∀ ns ∈ nss, ∃ a f c, ns = [a, f, c]
def PoolN (n : Nat) (nss : List (List Int)) : Prop := nss.length = n ∧ ∀ ns ∈ nss, ∃ a f c, ns = [a, f, c]
abbrev Dck (K : PySem.W.Frag) : Own := DeckO K PoolOk
def T_deck (K : PySem.W.Frag) : List Sl → (Sl → Prop) → Prop := fun Γ Q => ∃ v ns, Γ = [.ex v (ScriptO K ns)] ∧ ns.length ≤ 63 ∧ ∀ v', Q (.ex v' (Dck K))
def T_draw (K : PySem.W.Frag) : List Sl → (Sl → Prop) → Prop := fun Γ Q => ∃ v many, Γ = [.ex v (Dck K), .dat false (.int many)] ∧ 0 < many ∧ many < 1000000 ∧ ∀ r, 0 ≤ r → r < many → Q (.dat true (.int r))
section
variable {K : PySem.W.Frag} {m : Bool} {v : V} {Q : PyData → Prop}
theorem use_draw {n : Int} (h0 : 0 < n) (h1 : n < 1000000) (q : ∀ r, 0 ≤ r → r < n → Q (.int r)) : T_draw K [.ex v (Dck K), .dat false (.int n)] (asD m Q) := ⟨v, n, rfl, h0, h1, fun r a b => asD_new (q r a b)⟩
theorem use_drawN {n : Nat} (h0 : 0 < n) (h1 : n < 1000000) (q : ∀ r : Nat, r < n → Q (.int r)) : T_draw K [.ex v (Dck K), .dat false (.int n)] (asD m Q) := use_draw (by omega) (by omega) fun r a b => by
  obtain ⟨k, rfl⟩ := Int.eq_ofNat_of_zero_le a
  exact q k (by omega)
end
section
variable {P : Program} {w : World} {K : PySem.W.Frag} {mg : Str → Option Value} {base : Heap} {k : Nat}
theorem sj_poolsImp {Γ : List Sl} {P : Po} {ts : TS} (i : Nat) {v : V} {PP PP' : List (List Int) → Prop} (hi : Γ[i]? = some (.ex v (PoolsO K PP))) (hp : ∀ nss, PP nss → PP' nss) (kk : SJ K (Γ.set i (.ex v (PoolsO K PP'))) ts P) : SJ K Γ ts P :=
  sj_retell (s' := .ex v (PoolsO K PP')) hi (fun X F H ov S hK ⟨e, hk, l, qs, ev, ⟨nss, h1, h2, h3, h4, h5⟩, hS⟩ => ⟨e, hk, l, qs, ev, ⟨nss, h1, h2, h3, hp nss h4, h5⟩, hS⟩) kk
theorem ok_deck (D : Def K mg "_law_deck" s_l_deck ["script"]) (m_range : mg "range" = none) (m_max : mg "max" = none) (m_min : mg "min" = none) (m_len : mg "len" = none) (m_int : mg "int" = none) : Cal P w K mg base CX0 (k + 1) "_law_deck" ["script"] (spG K (T_deck K)) := by
  refine cal_g D sc_l_deck (fun Γ Qr ⟨v, ns, e, _⟩ => by subst e; exact ⟨rfl, noMl_ex noMl_nil⟩) fun f cdv A outer s H E hr => ⟨_, wk_l_deck m_range m_max m_min m_len m_int f cdv A outer s H E hr, ?_⟩
  rintro Γ Qr ⟨v, ns, rfl, hns, q⟩
  show SJ K [.ex v (ScriptO K ns), .no, .no, .no] (t_l_deck K) _
  unfold t_l_deck
  refine sj_seq (sj_setX (wx_lst0 false fun l => ?_))
  show SJ K [.ex v (ScriptO K ns), .ml false l [], .no, .no] _ _
  refine sj_pools0 1 (l := l) (m := false) (PP := PoolN 0) rfl ⟨rfl, fun _ z => by cases z⟩ ?_
  show SJ K [.ex v (ScriptO K ns), .ex (.ref l) (PoolsO K (PoolN 0)), .no, .no] _ _
  refine sj_cut (fun Γ' => ∃ n s2 s3, 1 ≤ n ∧ n ≤ 63 ∧ Γ' = [.ex v (ScriptO K ns), .ex (.ref l) (PoolsO K (PoolN n)), s2, s3]) ?_ ?_
  · refine sj_for false (wi_rng ?_)
    walk_at "v"
    obtain ⟨n, hn1, hn2, en⟩ : ∃ n : Nat, 1 ≤ n ∧ n ≤ 63 ∧ max 1 (min 63 (ns.length : Int)) = n := ⟨(max 1 (min 63 (ns.length : Int))).toNat, by omega, by omega, by omega⟩
    rw [en]
    refine ⟨n, rfl, ⟨by omega, by omega⟩, fun i Γ' => ∃ s2 s3, Γ' = [.ex v (ScriptO K ns), .ex (.ref l) (PoolsO K (PoolN i)), s2, s3], ⟨.no, .no, rfl⟩, ?_, ?_⟩
    · rintro i d Γ' hd ⟨s2, s3, rfl⟩
      obtain ⟨hin, rfl⟩ := rangeD_of hd
      rw [Int.zero_add]
      have hi : i < 63 := by simp at hin; omega
      refine gj_name ?_
      show SJ K [.ex v (ScriptO K ns), .ex (.ref l) (PoolsO K (PoolN i)), .dat false (.int i), s3] _ _
      refine sj_seq (sj_set false ?_)
      walk_at "v"
      show SJ K [.ex v (ScriptO K ns), .ex (.ref l) (PoolsO K (PoolN i)), .dat false (.int i), .dat false (.int 0)] _ _
      refine sj_cut (fun Γ' => ∃ c : Int, Γ' = [.ex v (ScriptO K ns), .ex (.ref l) (PoolsO K (PoolN i)), .dat false (.int i), .dat false (.int c)]) (sj_if ?_) ?_
      · walk_at "v"
        walk_at "x"
        refine iteD (fun hlt => ?_) (fun hge => ?_)
        · refine sj_set false ?_
          walk_at "v"
          have hk : i < ns.length := by omega
          exact ⟨i, ns[i], rfl, atI_of (n := i) rfl (by simp [hk]), ns[i], rfl⟩
        · exact sj_next ⟨0, rfl⟩
      · rintro _ ⟨c, rfl⟩
        refine sj_appPool (i := 1) (l := l) (PP := PoolN i) (PP' := PoolN (i + 1)) rfl (fun nss h => by rw [h.1]; omega) (wx_lst3 false ?_)
        walk_at "v"
        intro l'
        refine ⟨false, l', [c, if decide ((10 : Int) ^ (18 : Int).toNat ≤ c) then 1 else 0, 31 * (i : Int)], rfl, fun nss h => ⟨by simp [h.1], fun x hx => ?_⟩, ⟨_, _, rfl⟩⟩
        rcases List.mem_append.mp hx with z | z
        · exact h.2 x z
        · simp at z
          exact ⟨_, _, _, z⟩
    · rintro Γ' ⟨s2, s3, rfl⟩
      rw [rangeD_len]
      exact ⟨n, s2, s3, hn1, hn2, by simp⟩
  · rintro _ ⟨n, s2, s3, h1, h2, rfl⟩
    refine sj_poolsImp 1 (v := .ref l) (PP := PoolN n) (PP' := PoolOk) rfl (fun nss h => ⟨by rw [h.1]; exact h1, by rw [h.1]; exact h2, h.2⟩) ?_
    exact sj_retDeck (i := 1) (l := l) rfl fun v' => ⟨keep_ex keep_nil, q v'⟩
theorem mod_ix {n : Int} {len : Nat} (h : 1 ≤ len) : ∃ j : Nat, j < len ∧ n % (len : Int) = (j : Int) := by
  have h0 := Int.emod_nonneg n (show (len : Int) ≠ 0 by omega)
  have h1 := Int.emod_lt_of_pos n (show (0 : Int) < len by omega)
  exact ⟨(n % (len : Int)).toNat, by omega, by omega⟩
theorem ok_draw (D : Def K mg "_law_draw" s_l_draw ["deck", "many"]) (m_len : mg "len" = none) : Cal P w K mg base CX0 (k + 1) "_law_draw" ["deck", "many"] (spG K (T_draw K)) := by
  refine cal_g D sc_l_draw (fun Γ Qr ⟨v, many, e, _⟩ => by subst e; exact ⟨rfl, noMl_ex (noMl_dat noMl_nil)⟩) fun f cdv A outer s H E hr => ⟨_, wk_l_draw m_len f cdv A outer s H E hr, ?_⟩
  rintro Γ Qr ⟨v, many, rfl, h0, h1, q⟩
  show SJ K [.ex v (Dck K), .dat false (.int many), .no, .no, .no] (t_l_draw K) _
  unfold t_l_draw
  intro X hK F H σ E Dd hD
  subst hK
  obtain ⟨t, l, qs, n, nss, er, ev, ht, hl, hn, nd, hp, hq, close⟩ := E.deck (i := 0) (v := v) (PP := PoolOk) rfl
  subst er
  obtain ⟨um, em, rm⟩ := E.dat (i := 1) (m := false) (d := .int many) rfl
  cases rm
  obtain ⟨b0, b1, b2, b3, b4, rfl⟩ : ∃ b0 b1 b2 b3 b4, σ = [b0, b1, b2, b3, b4] := by
    have hlen : σ.length = 5 := E.len
    match σ, hlen with
    | [b0, b1, b2, b3, b4], _ => exact ⟨_, _, _, _, _, rfl⟩
  cases ev
  cases em
  obtain ⟨hp1, hp2, hp3⟩ := hp
  obtain ⟨j, hj, ej⟩ := mod_ix (n := n) (len := qs.length) (by omega)
  have hqj : qs[j]? = some qs[j] := by simp [hj]
  obtain ⟨pl, hpl⟩ : ∃ pl, qs[j] = pl := ⟨_, rfl⟩
  rw [hpl] at hqj
  have hnj : nss[j]? = some (nss[j]'(by omega)) := by simp [show j < nss.length by omega]
  obtain ⟨a, g, c, e3⟩ := hp3 _ (List.mem_of_getElem? hnj)
  rw [e3] at hnj
  have hpool : H pl = some (.lst [.int a, .int g, .int c]) := hq j pl _ hqj hnj
  have pmem : pl ∈ qs := List.mem_of_getElem? hqj
  have nd1 : t ≠ l ∧ t ∉ qs := by simpa using (List.nodup_cons.mp nd).1
  have nd2 := (List.nodup_cons.mp (List.nodup_cons.mp nd).2)
  have ptne : pl ≠ t := fun z => nd1.2 (z ▸ pmem)
  -- pool
  refine ⟨_, rfl, .inl ⟨t, [.ref l, .int n], 0, .ref l, rfl, rfl, SqL.of ht, rfl, ?_⟩⟩
  refine ⟨_, rfl, .inl ⟨t, [.ref l, .int n], 1, .int n, rfl, rfl, SqL.of ht, rfl, ?_⟩⟩
  refine ⟨_, rfl, .inl ⟨t, [.ref l, .int n], 0, .ref l, rfl, rfl, SqL.of ht, rfl, ?_⟩⟩
  refine ⟨_, qs.length, rfl, .inl ⟨_, SqL.of hl, by simp⟩, ?_⟩
  refine ⟨n, qs.length, rfl, rfl, by omega, ?_⟩
  refine .inl ⟨l, qs.map V.ref, n % (qs.length : Int), .ref pl, rfl, rfl, SqL.of hl, ?_, ?_⟩
  · rw [ej, atI_ofNat, List.getElem?_map, hqj]; rfl
  -- deck[1]
  refine ⟨_, rfl, .inl ⟨t, [.ref l, .int n], 1, .int n, rfl, rfl, SqL.of ht, rfl, ?_⟩⟩
  refine .inl ⟨n, 1, rfl, rfl, ?_⟩
  refine ⟨_, rfl, t, [.ref l, .int n], 1, 1, rfl, rfl, ht, rfl, ?_⟩
  show tSeq _ _ Dd [some (.ref t), some (.int many), some (.ref pl), b3, b4] (upd H t (.lst [.ref l, .int (n + 1)]))
  obtain ⟨H1, eH1⟩ : ∃ H1, H1 = upd H t (.lst [.ref l, .int (n + 1)]) := ⟨_, rfl⟩
  rw [← eH1]
  have h1t : H1 t = some (.lst [.ref l, .int (n + 1)]) := by rw [eH1, upd_same]
  have h1p : H1 pl = some (.lst [.int a, .int g, .int c]) := by rw [eH1, upd_ne ptne]; exact hpool
  have h1o : ∀ x, x ≠ t → H1 x = H x := fun x hx => by rw [eH1, upd_ne hx]
  -- behind a change of the pool
  have done : ∀ (a' g' c' : Int) (u3 u4 : Option V), En X F (upd H1 pl (.lst [.int a', .int g', .int c'])) [some (.ref t), some (.int many), some (.ref pl), u3, u4] [.ex (.ref t) (Dck X.K), .dat false (.int many), .no, .no, .no] := fun a' g' c' u3 u4 => by
    have E1 := close (upd H1 pl (.lst [.int a', .int g', .int c'])) (n + 1) (nss.set j [a', g', c']) (fun x hx hxq => ?_) ?_ (by simpa using hn) ⟨by simpa using hp1, by simpa using hp2, fun ns hns => ?_⟩ fun i b ns hb hns => ?_
    · exact ((E1.noset (i := 2) rfl (some (.ref pl))).noset (i := 3) rfl u3).noset (i := 4) rfl u4
    · have xp : x ≠ pl := fun z => hxq (by rw [z]; exact pmem)
      rw [upd_ne xp, h1o x hx]
    · rw [upd_ne (Ne.symm ptne), h1t]
    · rcases List.mem_or_eq_of_mem_set hns with z | z
      · exact hp3 ns z
      · exact ⟨_, _, _, z⟩
    · by_cases hij : i = j
      · subst hij
        rw [hb] at hqj
        cases hqj
        rw [List.getElem?_set_self (by omega)] at hns
        cases hns
        rw [upd_same]
        rfl
      · rw [List.getElem?_set_ne (Ne.symm hij)] at hns
        have bne : b ≠ pl := fun z => by
          subst z
          have hi : i < qs.length := (List.getElem?_eq_some_iff.mp hb).1
          exact hij ((List.getElem?_inj hi nd2.2).mp (hb.trans hqj.symm))
        have bt : b ≠ t := fun z => nd1.2 (by rw [← z]; exact List.mem_of_getElem? hb)
        rw [upd_ne bne, h1o b bt]
        exact hq i b ns hb hns
  have fin : ∀ (a' g' c' : Int) (u3 u4 : Option V) (r : Int), 0 ≤ r → r < many → Dd.rt (.int r) (upd H1 pl (.lst [.int a', .int g', .int c'])) := fun a' g' c' u3 u4 r r0 r1 =>
    hD.rt F _ _ _ (.int r) (.dat true (.int r)) ((done a' g' c' u3 u4).pushD (m := true) (.int r)) ⟨keep_ex (keep_dat keep_nil), q r r0 r1⟩
  have emod : ∀ z : Int, 0 ≤ z % many ∧ z % many < many := fun z => ⟨Int.emod_nonneg _ (by omega), Int.emod_lt_of_pos _ h0⟩
  have rest : tSeq (tAsg (tOp (dAdd X.K) (tOp (rIx X.K) (tVar 2) (tC (.int 2))) (tC (.int 1))) (gSub (tVar 2) (tC (.int 2)) rSetL)) (tSeq (tAsg (tOp dMod (tOp (dAdd X.K) (tOp dMod (tOp (rIx X.K) (tVar 2) (tC (.int 0))) (tC (.int 99999999977))) (tOp dMul (tC (.int 700001)) (tOp (rIx X.K) (tVar 2) (tC (.int 2))))) (tC (.int 99999999947))) (gName 4))
    (tSeq (tAsg (tOp dMod (tOp dMul (tVar 4) (tVar 4)) (tC (.int 99999999821))) (gName 4))
    (tSeq (tAsg (tOp dMod (tOp dMul (tVar 4) (tOp (dAdd X.K) (tVar 4) (tC (.int 19)))) (tC (.int 9999999967))) (gName 4))
    (tRet (tOp dMod (tOp dDiv (tVar 4) (tC (.int 13))) (tVar 1)))))) Dd [some (.ref t), some (.int many), some (.ref pl), b3, b4] H1 := by
    refine ⟨_, rfl, .inl ⟨pl, _, 2, .int c, rfl, rfl, SqL.of h1p, rfl, ?_⟩⟩
    refine .inl ⟨c, 1, rfl, rfl, ?_⟩
    refine ⟨_, rfl, pl, _, 2, 2, rfl, rfl, h1p, rfl, ?_⟩
    show tSeq _ _ Dd [some (.ref t), some (.int many), some (.ref pl), b3, b4] (upd H1 pl (.lst [.int a, .int g, .int (c + 1)]))
    obtain ⟨H2, eH2⟩ : ∃ H2, H2 = upd H1 pl (.lst [.int a, .int g, .int (c + 1)]) := ⟨_, rfl⟩
    have h2p : H2 pl = some (.lst [.int a, .int g, .int (c + 1)]) := by rw [eH2, upd_same]
    rw [← eH2]
    refine ⟨_, rfl, .inl ⟨pl, _, 0, .int a, rfl, rfl, SqL.of h2p, rfl, ?_⟩⟩
    refine ⟨a, 99999999977, rfl, rfl, (show (0 : Int) < 99999999977 by decide), ?_⟩
    refine ⟨_, rfl, .inl ⟨pl, _, 2, .int (c + 1), rfl, rfl, SqL.of h2p, rfl, ?_⟩⟩
    refine .inl ⟨700001, c + 1, rfl, rfl, .inl ⟨by decide, by decide⟩, ?_⟩
    refine .inl ⟨_, _, rfl, rfl, ?_⟩
    refine ⟨_, 99999999947, rfl, rfl, (show (0 : Int) < 99999999947 by decide), ?_⟩
    show tSeq _ _ Dd [some (.ref t), some (.int many), some (.ref pl), b3, some (.int ((a % 99999999977 + 700001 * (c + 1)) % 99999999947))] H2
    generalize hy : (a % 99999999977 + 700001 * (c + 1)) % 99999999947 = y
    have y0 : 0 ≤ y := by omega
    have y1 : y < 99999999947 := by omega
    show tSeq _ _ Dd [some (.ref t), some (.int many), some (.ref pl), b3, some (.int y)] H2
    refine ⟨_, rfl, _, rfl, .inl ⟨y, y, rfl, rfl, .inl ⟨by omega, by omega⟩, ?_⟩⟩
    refine ⟨_, 99999999821, rfl, rfl, (show (0 : Int) < 99999999821 by decide), ?_⟩
    show tSeq _ _ Dd [some (.ref t), some (.int many), some (.ref pl), b3, some (.int (y * y % 99999999821))] H2
    generalize hz : y * y % 99999999821 = z
    have z0 : 0 ≤ z := by omega
    have z1 : z < 99999999821 := by omega
    show tSeq _ _ Dd [some (.ref t), some (.int many), some (.ref pl), b3, some (.int z)] H2
    refine ⟨_, rfl, _, rfl, .inl ⟨z, 19, rfl, rfl, ?_⟩⟩
    refine .inl ⟨z, z + 19, rfl, rfl, .inl ⟨by omega, by omega⟩, ?_⟩
    refine ⟨_, 9999999967, rfl, rfl, (show (0 : Int) < 9999999967 by decide), ?_⟩
    show tRet (tOp dMod (tOp dDiv (tVar 4) (tC (.int 13))) (tVar 1)) Dd [some (.ref t), some (.int many), some (.ref pl), b3, some (.int (z * (z + 19) % 9999999967))] H2
    generalize z * (z + 19) % 9999999967 = u
    show tRet (tOp dMod (tOp dDiv (tVar 4) (tC (.int 13))) (tVar 1)) Dd [some (.ref t), some (.int many), some (.ref pl), b3, some (.int u)] H2
    refine ⟨_, rfl, u, 13, rfl, rfl, ⟨by decide, by decide⟩, ?_⟩
    refine ⟨_, rfl, u / 13, many, rfl, rfl, h0, ?_⟩
    rw [eH2]
    exact fin a g (c + 1) none none _ (emod _).1 (emod _).2
  -- the test
  refine ⟨_, rfl, .inl ⟨pl, _, 1, .int g, rfl, rfl, SqL.of h1p, rfl, ?_⟩⟩
  refine ⟨.int g, .int 1, .int g, .int 1, sh_int, sh_int, ?_⟩
  refine ⟨_, rfl, iteB (fun e1 => ?_) (fun e1 => iteF' rfl rest)⟩
  refine ⟨_, rfl, .inl ⟨pl, _, 0, .int a, rfl, rfl, SqL.of h1p, rfl, ?_⟩⟩
  refine ⟨a, 0, rfl, rfl, _, rfl, iteD (fun hpos => ?_) (fun _ => rest)⟩
  refine ⟨_, rfl, .inl ⟨pl, _, 0, .int a, rfl, rfl, SqL.of h1p, rfl, ?_⟩⟩
  refine ⟨_, rfl, a, many, rfl, rfl, h0, ?_⟩
  show tSeq _ _ { Dd with nx := _ } [some (.ref t), some (.int many), some (.ref pl), some (.int (a % many)), b4] H1
  refine ⟨_, rfl, .inl ⟨pl, _, 0, .int a, rfl, rfl, SqL.of h1p, rfl, ?_⟩⟩
  refine ⟨_, rfl, a, many, rfl, rfl, ⟨h0, by omega⟩, ?_⟩
  refine ⟨_, rfl, pl, _, 0, 0, rfl, rfl, h1p, rfl, ?_⟩
  refine ⟨_, rfl, ?_⟩
  exact fin (a / many) g c none none _ (emod _).1 (emod _).2
end
end Dk
end
section
set_option Elab.async false
set_option linter.all false
set_option maxRecDepth 100000
/-! Drawn names, things, rows, programs, stores. -/
open PySem L2 Pk
local macro_rules | `(tactic| walk_at "sh") => `(tactic| first | exact sh_int | exact sh_bool | exact sh_non | exact sh_nil | exact sh_str (by decide +kernel) | assumption)
local macro_rules | `(tactic| walk_at "v1") => `(tactic| first
  | (with_reducible refine wd_int ?_) | (with_reducible refine wd_str ?_) | (with_reducible refine wd_bl ?_) | (with_reducible refine wd_non ?_)
  | ((with_reducible apply wd_var); exact rfl) | ((with_reducible apply wd_varN); exact rfl)
  | ((with_reducible apply wd_ixm); exact rfl)
  | ((with_reducible apply wd_lenM); exact rfl) | ((with_reducible apply wd_lenScript); exact rfl) | ((with_reducible apply wd_ixScript); exact rfl)
  | (with_reducible refine wd_op ?_) | (with_reducible refine wd_un ?_)
  | (with_reducible refine rd_add ?_) | (with_reducible refine rd_sub ?_) | (with_reducible refine rd_lt ?_) | (with_reducible refine rd_le ?_) | (with_reducible refine rd_gt ?_) | (with_reducible refine rd_ge ?_) | (with_reducible refine ru_neg ?_)
  | ((with_reducible refine rd_eq ?ev_h ?ev_k ?_); (case ev_h => walk_at "sh"); (case ev_k => walk_at "sh")) | ((with_reducible refine rd_ne ?ev_h ?ev_k ?_); (case ev_h => walk_at "sh"); (case ev_k => walk_at "sh"))
  | ((with_reducible refine rd_mod ?ev_h ?_); case ev_h => first | decide | assumption | omega) | ((with_reducible refine rd_div ?ev_h ?ev_k ?_); (case ev_h => first | decide | assumption | omega); (case ev_k => first | decide | assumption | omega))
  | ((with_reducible refine rd_pow ?ev_h ?_); case ev_h => exact ⟨by decide, by decide, by decide⟩)
  | ((with_reducible refine rd_mul ?ev_h ?_); case ev_h => first | exact .inr ⟨by decide, by decide⟩ | exact .inl ⟨by decide, by decide⟩ | exact .inl ⟨by omega, by omega⟩ | exact .inr ⟨by omega, by omega⟩)
  | (with_reducible refine rc_lenL ?_) | (with_reducible refine rc_lenT ?_) | (with_reducible refine rc_max2 ?_) | (with_reducible refine rc_min2 ?_) | (with_reducible refine rc_intB ?_) | (with_reducible refine rc_intI ?_) | (with_reducible refine rc_listL ?_) | (with_reducible refine rc_listT ?_) | (with_reducible refine rc_tupleL ?_)
  | ((with_reducible apply rd_ixT); exact rfl)
  | ((with_reducible apply rd_ixL); exact rfl)
  | ((with_reducible refine wd_isi ?ev_h ?_); case ev_h => decide) | ((with_reducible refine wd_isi2 ?ev_h ?ev_k ?_); (case ev_h => decide); (case ev_k => decide))
  | (with_reducible refine wd_tup2 ?_) | (with_reducible refine wd_tup1 ?_) | (with_reducible refine wd_tup3 ?_) | (with_reducible refine wd_tup0 ?_)
  | (with_reducible refine wd_lst0 ?_) | (with_reducible refine wd_lst1 ?_) | (with_reducible refine wd_lst2 ?_) | (with_reducible refine wd_lst3 ?_) | (with_reducible refine wd_lst4 ?_) | (with_reducible refine wd_lst5 ?_) | (with_reducible refine wd_lst6 ?_)
  | ((with_reducible apply wd_callO0); exact rfl) | ((with_reducible apply wd_callO1); exact rfl) | ((with_reducible apply wd_callO2); exact rfl) | ((with_reducible apply wd_callO3); exact rfl)
  | (with_reducible refine wd_call1 ?_) | (with_reducible refine wd_call2 ?_) | (with_reducible refine wd_call3 ?_) | (with_reducible refine wd_call4 ?_) | (with_reducible refine wd_call0 ?_)
  | (with_reducible refine wd_cb1 ?_) | (with_reducible refine wd_cb2 ?_)
  | (with_reducible refine wd_rev ?_) | (with_reducible refine wd_lrg1 ?_) | (with_reducible refine wd_sl ?_) | (with_reducible refine wo_no ?_) | (with_reducible refine wo_some ?_)
  | (with_reducible refine wd_andV ?_) | (with_reducible refine wd_orV ?_) | (with_reducible refine wd_notV ?_) | (with_reducible refine wd_if ?_) | (with_reducible refine wd_chain ?_)
  | (with_reducible refine wt_test ?_) | (with_reducible refine wt_B ?_) | (with_reducible refine wt_not ?_) | (with_reducible refine wt_and ?_) | (with_reducible refine wt_or ?_) | (with_reducible refine wt_yes ?_)
  | (with_reducible refine gj_name ?_) | (with_reducible refine gj_tup rfl ?_) | (with_reducible refine gjs_cons ?_) | (with_reducible refine gjs_nil ?_))
local macro_rules | `(tactic| walk_at "v") => `(tactic| repeat walk_at "v1")
local macro_rules | `(tactic| walk_at "x") => `(tactic| refine ⟨_, rfl, ?_⟩)
local macro_rules | `(tactic| walk_at "vx") => `(tactic| repeat (first | walk_at "v1" | (with_reducible refine ⟨_, rfl, ?_⟩)))
namespace Dk
open PySem PySem.Spec PyProof.Rows L2 Pk Sy
def T_names (K : PySem.W.Frag) : List Sl → (Sl → Prop) → Prop := fun Γ Q => ∃ v, Γ = [.ex v (Dck K)] ∧ ∀ l bs, BsOk bs → Q (.ml false l (bs.map PyData.str))
structure MB (m : Nat) (bs : List Str) : Prop where
  m2 : 2 ≤ m
  m16 : m ≤ 16
  bs : BsOk bs
def T_thing (n : Nat) (K : PySem.W.Frag) : List Sl → (Sl → Prop) → Prop := fun Γ Q => ∃ v, ∃ m : Nat, ∃ bs, ∃ deep : Nat, Γ = [.ex v (Dck K), .dat false (.int m), .dat false (bsD bs), .dat false (.int deep)] ∧ MB m bs ∧ 1 ≤ deep ∧ deep ≤ n ∧ ∀ t : Th, t.Ok m bs deep → Q (.dat true t.d)
def T_row (K : PySem.W.Frag) : List Sl → (Sl → Prop) → Prop := fun Γ Q => ∃ v, ∃ m : Nat, ∃ bs, Γ = [.ex v (Dck K), .dat false (.int m), .dat false (bsD bs)] ∧ MB m bs ∧ ∀ r : Rw, r.Ok m bs → Q (.dat false r.d)
abbrev rwsD (rows : List Rw) : PyData := .list (rows.map Rw.d)
def T_bounded (K : PySem.W.Frag) : List Sl → (Sl → Prop) → Prop := fun Γ Q => ∃ m : Nat, ∃ bs, ∃ rows : List Rw, Γ = [.dat false (.int m), .dat false (bsD bs), .dat false (rwsD rows)] ∧ MB m bs ∧ rows.length ≤ 30 ∧ (∀ r ∈ rows, r.Ok m bs) ∧ ∀ l (rows' : List Rw), rows'.length = rows.length → (∀ r ∈ rows', r.Ok m bs) → Q (.ml false l (rows'.map Rw.d))
def T_program (K : PySem.W.Frag) : List Sl → (Sl → Prop) → Prop := fun Γ Q => ∃ v, Γ = [.ex v (Dck K)] ∧ ∀ p : Pg, p.Ok → Q (.dat false p.d)
def T_store (K : PySem.W.Frag) : List Sl → (Sl → Prop) → Prop := fun Γ Q => ∃ v, ∃ p : Pg, Γ = [.ex v (Dck K), .dat false p.d] ∧ p.Ok ∧ ∀ st, StOk p.m p.bs st → Q (.dat true (stD st))
theorem BsOk.len63 {bs : List Str} (h : BsOk bs) : (bs.map PyData.str).length ≤ 5 := by rw [List.length_map]; exact h.len5
section
variable {K : PySem.W.Frag} {m : Bool} {v : V} {Q : PyData → Prop} {Γ : List Sl}
theorem use_thing {N mm deep : Nat} {bs : List Str} (h : MB mm bs) (h1 : 1 ≤ deep) (hn : deep ≤ N) (q : ∀ t : Th, t.Ok mm bs deep → Q t.d) : T_thing N K [.ex v (Dck K), .dat false (.int mm), .dat false (bsD bs), .dat false (.int deep)] (asD m Q) := ⟨v, mm, bs, deep, rfl, h, h1, hn, fun t ht => asD_new (q t ht)⟩
/-- a box of the boxes, at a drawn place -/
theorem rd_box {bs : List Str} {r : Nat} (h : r < bs.length) (q : ∀ x ∈ bs, Q (.str x)) : RD K m Γ (rIx K) (bsD bs) (.int r) Q := rd_selN r rfl (d := .str bs[r]) (by simp [h]) (q _ (List.getElem_mem h))
theorem rd_letter {r : Nat} (h : r < 26) (q : ltr (97 + r) → Q (.str (one (97 + r)))) : RD K m Γ (rIx K) (.str LET) (.int r) Q := rd_ixS (c := 97 + r) (by rw [let_len]; decide) (by rw [atI_ofNat]; exact let_at h) (q ⟨by omega, by omega⟩)
end
theorem list_of {α : Type} {f : α → PyData} {Pr : α → Prop} : ∀ {acc : List PyData}, (∀ y ∈ acc, ∃ t, Pr t ∧ y = f t) → ∃ ts : List α, acc = ts.map f ∧ ∀ t ∈ ts, Pr t
  | [], _ => ⟨[], rfl, fun _ z => by cases z⟩
  | y :: acc, h => by
    obtain ⟨t, ht, e⟩ := h y List.mem_cons_self
    obtain ⟨ts, e2, h2⟩ := list_of (acc := acc) fun z hz => h z (List.mem_cons_of_mem _ hz)
    refine ⟨t :: ts, by rw [List.map_cons, e, e2], fun x hx => ?_⟩
    rcases List.mem_cons.mp hx with z | z
    · rw [z]; exact ht
    · exact h2 x z
theorem names_any {bs : List Str} {x : Str} : ((bs.map PyData.str).any fun z => PyData.eqv z (.str x)) = decide (x ∈ bs) := by
  induction bs with
  | nil => simp
  | cons b bs ih =>
    rw [List.map_cons, List.any_cons, ih, eqv_str]
    by_cases h : b = x
    · simp [h]
    · have : ¬ x = b := fun z => h z.symm
      simp [h, this]
section
variable {P : Program} {w : World} {K : PySem.W.Frag} {mg : Str → Option Value} {base : Heap} {k : Nat}
theorem ok_names (D : Def K mg "_law_names" s_l_names ["deck"]) (c_draw : Cal P w K mg base CX0 k "_law_draw" ["deck", "many"] (spG K (T_draw K))) (m_range : mg "range" = none) : Cal P w K mg base CX0 (k + 1) "_law_names" ["deck"] (spG K (T_names K)) := by
  refine cal_g D sc_l_names (fun Γ Qr ⟨v, e, _⟩ => by subst e; exact ⟨rfl, noMl_ex noMl_nil⟩) fun f cdv A outer s H E hr => ⟨_, wk_l_names c_draw m_range f cdv A outer s H E hr, ?_⟩
  rintro Γ Qr ⟨v, rfl, q⟩
  show SJ K [.ex v (Dck K), .no, .no, .no, .no, .no, .no] (t_l_names K _) _
  unfold t_l_names
  refine sj_seq (sj_set false ?_)
  walk_at "v"
  refine sj_seq (sj_setX (wx_lst0 false fun l => ?_))
  show SJ K [.ex v (Dck K), .dat false (.str LET), .ml false l (([] : List Str).map PyData.str), .no, .no, .no, .no] _ _
  refine sj_cut (fun Γ' => ∃ bs s1 s3 s4 s5 s6, BsOk bs ∧ Γ' = [.ex v (Dck K), s1, .ml false l (bs.map PyData.str), s3, s4, s5, s6]) ?_ ?_
  · refine sj_for false (wi_rng ?_)
    walk_at "v"
    refine use_drawN (n := 5) (by decide) (by decide) fun r hr => ?_
    walk_at "v"
    refine ⟨1 + (r : Int), rfl, ⟨by omega, by omega⟩, fun i Γ' => ∃ bs s3 s4 s6, bs.length = i ∧ bs.Nodup ∧ (∀ x ∈ bs, NameOk x) ∧ Γ' = [.ex v (Dck K), .dat false (.str LET), .ml false l (bs.map PyData.str), s3, s4, .no, s6], ⟨[], .no, .no, .no, rfl, List.nodup_nil, fun _ z => (by cases z), rfl⟩, ?_, ?_⟩
    · rintro i d Γ' hd ⟨bs, s3, s4, s6, hlen, hnd, hnm, rfl⟩
      obtain ⟨hin, rfl⟩ := rangeD_of hd
      subst hlen
      have hb4 : bs.length ≤ 4 := by omega
      refine gj_name ?_
      rw [Int.zero_add]
      show SJ K [.ex v (Dck K), .dat false (.str LET), .ml false l (bs.map PyData.str), .dat false (.int bs.length), s4, .no, s6] _ _
      -- name
      refine sj_seq (sj_set false (wd_join (wd_lcF (mi := false) (fun _ _ y => ∃ c, ltr c ∧ y = .str (one c)) (wipeOk_no rfl wipeOk_nil) gwn (wi_rng ?_))))
      walk_at "v"
      refine use_drawN (n := 8) (by decide) (by decide) fun r8 hr8 => ?_
      walk_at "v"
      refine ⟨_, rfl, ⟨by omega, by omega⟩, by rw [rangeD_len]; omega, fun j d hj => ?_, fun acc hal hac => ?_⟩
      · refine gj_name ⟨rfl, ?_⟩
        walk_at "v"
        refine use_drawN (n := 26) (by decide) (by decide) fun r26 hr26 => ?_
        exact rd_letter hr26 fun hl => ⟨_, hl, rfl⟩
      rw [rangeD_len] at hal
      have hcs : ∃ cs : List Nat, acc = cs.map (fun c => PyData.str (one c)) ∧ ∀ c ∈ cs, ltr c := by
        have hall : ∀ y ∈ acc, ∃ c, ltr c ∧ y = .str (one c) := fun y hy => by
          obtain ⟨j, hj⟩ := List.getElem?_of_mem hy
          have hjl : j < acc.length := (List.getElem?_eq_some_iff.mp hj).1
          exact hac j _ y (rangeD_get (by omega)) hj
        clear hac hal
        induction acc with
        | nil => exact ⟨[], rfl, fun _ z => by cases z⟩
        | cons y acc ih =>
          obtain ⟨c, hc, e⟩ := hall y List.mem_cons_self
          obtain ⟨cs, e2, h2⟩ := ih fun z hz => hall z (List.mem_cons_of_mem _ hz)
          refine ⟨c :: cs, by rw [List.map_cons, e, e2], fun x hx => ?_⟩
          rcases List.mem_cons.mp hx with z | z
          · rw [z]; exact hc
          · exact h2 x z
      obtain ⟨cs, rfl, hcl⟩ := hcs
      rw [List.length_map] at hal
      have hz : ((cs.map one).map (·.length)).sum + (cs.map one).length * ("" : Str).length ≤ 16777216 := by
        rw [join_sum]
        have : ("" : Str).length = 0 := by decide +kernel
        rw [this]
        omega
      refine ⟨cs.map one, by simp, hz, ?_⟩
      have hnm0 : NameOk (Txt.join "" (cs.map one)) := join_name (by omega) (by omega) hcl
      obtain ⟨nm0, en0⟩ : ∃ nm0, Txt.join "" (cs.map one) = nm0 := ⟨_, rfl⟩
      rw [en0] at hnm0 ⊢
      show SJ K [.ex v (Dck K), .dat false (.str LET), .ml false l (bs.map PyData.str), .dat false (.int bs.length), .dat false (.str nm0), .no, s6] _ _
      refine sj_cut (fun Γ' => ∃ nm, NameOk nm ∧ Γ' = [.ex v (Dck K), .dat false (.str LET), .ml false l (bs.map PyData.str), .dat false (.int bs.length), .dat false (.str nm), .no, s6]) (sj_if (wt_thaw ?_)) ?_
      · show WT K [.ex v (Dck K), .dat false (.str LET), .dat false (bsD bs), .dat false (.int bs.length), .dat false (.str nm0), .no, s6.frz] _ _
        walk_at "v"
        refine rd_ne (bs_sh hnm) sh_nil ⟨_, rfl, ?_⟩
        rw [eqv_nil]
        refine iteB (fun hne => ?_) (fun _ => iteF' rfl (sj_next ⟨nm0, hnm0, rfl⟩))
        walk_at "v"
        refine use_drawN (n := 2) (by decide) (by decide) fun r2 hr2 => ?_
        walk_at "v"
        refine ⟨_, rfl, ?_⟩
        rw [eqv_int]
        refine iteD (fun h0 => ?_) (fun _ => sj_next ⟨nm0, hnm0, rfl⟩)
        obtain ⟨bs', x, rfl⟩ : ∃ bs' x, bs = bs' ++ [x] := by
          have : bs ≠ [] := fun z => by rw [z] at hne; simp at hne
          exact ⟨bs.dropLast, bs.getLast this, (List.dropLast_concat_getLast this).symm⟩
        have hx : NameOk x := hnm x (by simp)
        refine sj_set false ?_
        refine wd_op (wd_slS ?_)
        refine wd_ixm (m := false) (l := l) (ds := (bs' ++ [x]).map PyData.str) rfl ?_
        walk_at "v"
        refine ⟨-1, .str x, rfl, by rw [List.map_append]; exact atI_lastD, x, rfl, by have := hx.2.1; omega, ?_⟩
        walk_at "v"
        refine use_drawN (n := 7) (by decide) (by decide) fun r7 hr7 => ?_
        walk_at "v"
        refine ⟨_, rfl, ?_⟩
        walk_at "v"
        refine use_drawN (n := 26) (by decide) (by decide) fun r26 hr26 => ?_
        refine rd_letter hr26 fun hl => ?_
        have ec : (1 + (r7 : Int)) = ((1 + r7 : Nat) : Int) := by omega
        rw [ec]
        have hn := cut_name (n := 1 + r7) hx (by omega) (by omega) hl
        refine rd_addS ?_ ⟨_, hn, rfl⟩
        have h8 := hn.2.1
        have : (cutS x none (some ((1 + r7 : Nat) : Int)) ++ one (97 + r26)).length = (cutS x none (some ((1 + r7 : Nat) : Int))).length + (one (97 + r26)).length := by
          rw [str_len, app_cps, List.length_append, ← str_len, ← str_len]
        omega
      rintro _ ⟨nm1, hnm1, rfl⟩
      refine sj_cut (fun Γ' => ∃ nm, NameOk nm ∧ Γ' = [.ex v (Dck K), .dat false (.str LET), .ml false l (bs.map PyData.str), .dat false (.int bs.length), .dat false (.str nm), .no, s6]) (sj_if ?_) ?_
      · walk_at "v"
        refine use_drawN (n := 4) (by decide) (by decide) fun r4 hr4 => ?_
        walk_at "v"
        refine ⟨_, rfl, ?_⟩
        rw [eqv_int]
        refine iteD (fun h0 => ?_) (fun _ => sj_next ⟨nm1, hnm1, rfl⟩)
        refine sj_set false ?_
        walk_at "v"
        refine use_draw (n := 6) (by decide) (by decide) fun r6 a6 b6 => ?_
        refine rd_sel a6 b6 fun d hd => ?_
        have tab : ∀ y ∈ [("a" : Str), "number", "box", "pick", "nothing", "set"], 1 ≤ y.length ∧ y.length ≤ 8 ∧ y.cps.toList.all (fun c => decide (97 ≤ c) && decide (c ≤ 122)) = true := by decide +kernel
        have nmk : ∀ y ∈ [("a" : Str), "number", "box", "pick", "nothing", "set"], NameOk y := fun y hy => by
          obtain ⟨t1, t2, t3⟩ := tab y hy
          refine ⟨t1, t2, fun c hc => ?_⟩
          have := List.all_eq_true.mp t3 c hc
          simp at this
          exact this
        simp only [List.mem_cons, List.not_mem_nil, or_false] at hd
        rcases hd with z | z | z | z | z | z
        all_goals (rw [z]; exact ⟨_, nmk _ (by simp), rfl⟩)
      rintro _ ⟨nm2, hnm2, rfl⟩
      refine sj_seq (sj_set false ?_)
      walk_at "v"
      show SJ K [.ex v (Dck K), .dat false (.str LET), .ml false l (bs.map PyData.str), .dat false (.int bs.length), .dat false (.str nm2), .no, .dat false (.int 0)] _ _
      refine sj_cut (fun Γ' => ∃ nm s6, NameOk nm ∧ nm ∉ bs ∧ Γ' = [.ex v (Dck K), .dat false (.str LET), .ml false l (bs.map PyData.str), .dat false (.int bs.length), .dat false (.str nm), .no, s6]) ?_ ?_
      · refine sj_while (fun n Γ' => ∃ nm t, NameOk nm ∧ n + t = bs.length + 1 ∧ (∀ i, i + 1 < t → rep8 i ∈ bs) ∧ (0 < t → nm = rep8 (t - 1)) ∧ Γ' = [.ex v (Dck K), .dat false (.str LET), .ml false l (bs.map PyData.str), .dat false (.int bs.length), .dat false (.str nm), .no, .dat false (.int (t : Nat))]) (bs.length + 1) ⟨nm2, 0, hnm2, rfl, fun i h => by omega, fun h => by omega, rfl⟩ ?_
        rintro n Γ' ⟨nm, t, hn, hnt, hrep, hlast, rfl⟩
        refine wt_thaw ?_
        show WT K [.ex v (Dck K), .dat false (.str LET), .dat false (bsD bs), .dat false (.int bs.length), .dat false (.str nm), .no, .dat false (.int (t : Nat))] _ _
        walk_at "v"
        refine rd_in (sh_str hn.strOk) (bs_sh hnm) ⟨_, rfl, ?_⟩
        rw [names_any]
        refine iteD (fun hmem => ?_) (fun hno => ⟨nm, _, hn, hno, rfl⟩)
        have hrep' : ∀ i, i < t → rep8 i ∈ bs := fun i hi => by
          by_cases h : i + 1 < t
          · exact hrep i h
          · have : i = t - 1 := by omega
            rw [this, ← hlast (by omega)]
            exact hmem
        have ht := rep_le hrep'
        refine sj_seq (sj_set false ?_)
        walk_at "v"
        refine rd_letter (r := t) (by omega) fun hl => ?_
        walk_at "v"
        refine rd_mulS (mulOk8 _) ?_
        rw [mul8]
        show SJ K [.ex v (Dck K), .dat false (.str LET), .ml false l (bs.map PyData.str), .dat false (.int bs.length), .dat false (.str (rep8 t)), .no, .dat false (.int (t : Nat))] _ _
        refine sj_set false ?_
        walk_at "v"
        exact ⟨n - 1, by omega, rep8 t, t + 1, rep8_name (by omega), by omega, fun i h => hrep' i (by omega), fun _ => rfl, rfl⟩
      rintro _ ⟨nm, s6', hn, hno, rfl⟩
      refine sj_app (i := 2) (l := l) (ds := bs.map PyData.str) rfl (by rw [List.length_map]; omega) ?_
      walk_at "v"
      refine ⟨bs ++ [nm], .dat false (.int bs.length), .dat false (.str nm), s6', by simp, ?_, fun x hx => ?_, by simp⟩
      · refine List.nodup_append.mpr ⟨hnd, by simp, fun a ha b hb => ?_⟩
        simp at hb
        rw [hb]
        exact fun z => hno (z ▸ ha)
      · rcases List.mem_append.mp hx with z | z
        · exact hnm x z
        · simp at z; rw [z]; exact hn
    · rintro Γ' ⟨bs, s3, s4, s6, hlen, hnd, hnm, rfl⟩
      rw [rangeD_len] at hlen
      exact ⟨bs, _, s3, s4, _, s6, ⟨by omega, by omega, hnd, hnm⟩, rfl⟩
  · rintro _ ⟨bs, s1, s3, s4, s5, s6, hb, rfl⟩
    exact sj_retM (i := 2) (l := l) (ds := bs.map PyData.str) rfl ⟨keep_ex keep_nil, q l bs hb⟩
end
end Dk
end
section
set_option Elab.async false
set_option linter.all false
set_option maxRecDepth 100000
/-! Drawn things, rows, programs, stores. -/
open PySem L2 Pk
local macro_rules | `(tactic| walk_at "sh") => `(tactic| first | exact sh_int | exact sh_bool | exact sh_non | exact sh_nil | exact sh_str (by decide +kernel) | assumption)
local macro_rules | `(tactic| walk_at "v1") => `(tactic| first
  | (with_reducible refine wd_int ?_) | (with_reducible refine wd_str ?_) | (with_reducible refine wd_bl ?_) | (with_reducible refine wd_non ?_)
  | ((with_reducible apply wd_var); exact rfl) | ((with_reducible apply wd_varN); exact rfl)
  | ((with_reducible apply wd_ixm); exact rfl)
  | ((with_reducible apply wd_lenM); exact rfl) | ((with_reducible apply wd_lenScript); exact rfl) | ((with_reducible apply wd_ixScript); exact rfl)
  | (with_reducible refine wd_op ?_) | (with_reducible refine wd_un ?_)
  | (with_reducible refine rd_add ?_) | (with_reducible refine rd_sub ?_) | (with_reducible refine rd_lt ?_) | (with_reducible refine rd_le ?_) | (with_reducible refine rd_gt ?_) | (with_reducible refine rd_ge ?_) | (with_reducible refine ru_neg ?_)
  | ((with_reducible refine rd_eq ?ev_h ?ev_k ?_); (case ev_h => walk_at "sh"); (case ev_k => walk_at "sh")) | ((with_reducible refine rd_ne ?ev_h ?ev_k ?_); (case ev_h => walk_at "sh"); (case ev_k => walk_at "sh"))
  | ((with_reducible refine rd_mod ?ev_h ?_); case ev_h => first | decide | assumption | omega) | ((with_reducible refine rd_div ?ev_h ?ev_k ?_); (case ev_h => first | decide | assumption | omega); (case ev_k => first | decide | assumption | omega))
  | ((with_reducible refine rd_pow ?ev_h ?_); case ev_h => exact ⟨by decide, by decide, by decide⟩)
  | ((with_reducible refine rd_mul ?ev_h ?_); case ev_h => first | exact .inr ⟨by decide, by decide⟩ | exact .inl ⟨by decide, by decide⟩ | exact .inl ⟨by omega, by omega⟩ | exact .inr ⟨by omega, by omega⟩)
  | (with_reducible refine rc_lenL ?_) | (with_reducible refine rc_lenT ?_) | (with_reducible refine rc_max2 ?_) | (with_reducible refine rc_min2 ?_) | (with_reducible refine rc_intB ?_) | (with_reducible refine rc_intI ?_) | (with_reducible refine rc_listL ?_) | (with_reducible refine rc_listT ?_) | (with_reducible refine rc_tupleL ?_)
  | ((with_reducible apply rd_ixT); exact rfl)
  | ((with_reducible apply rd_ixL); exact rfl)
  | ((with_reducible refine wd_isi ?ev_h ?_); case ev_h => decide) | ((with_reducible refine wd_isi2 ?ev_h ?ev_k ?_); (case ev_h => decide); (case ev_k => decide))
  | (with_reducible refine wd_tup2 ?_) | (with_reducible refine wd_tup1 ?_) | (with_reducible refine wd_tup3 ?_) | (with_reducible refine wd_tup0 ?_)
  | (with_reducible refine wd_lst0 ?_) | (with_reducible refine wd_lst1 ?_) | (with_reducible refine wd_lst2 ?_) | (with_reducible refine wd_lst3 ?_) | (with_reducible refine wd_lst4 ?_) | (with_reducible refine wd_lst5 ?_) | (with_reducible refine wd_lst6 ?_)
  | ((with_reducible apply wd_callO0); exact rfl) | ((with_reducible apply wd_callO1); exact rfl) | ((with_reducible apply wd_callO2); exact rfl) | ((with_reducible apply wd_callO3); exact rfl)
  | (with_reducible refine wd_call1 ?_) | (with_reducible refine wd_call2 ?_) | (with_reducible refine wd_call3 ?_) | (with_reducible refine wd_call4 ?_) | (with_reducible refine wd_call0 ?_)
  | (with_reducible refine wd_cb1 ?_) | (with_reducible refine wd_cb2 ?_)
  | (with_reducible refine wd_rev ?_) | (with_reducible refine wd_lrg1 ?_) | (with_reducible refine wd_sl ?_) | (with_reducible refine wo_no ?_) | (with_reducible refine wo_some ?_)
  | (with_reducible refine wd_andV ?_) | (with_reducible refine wd_orV ?_) | (with_reducible refine wd_notV ?_) | (with_reducible refine wd_if ?_) | (with_reducible refine wd_chain ?_)
  | (with_reducible refine wt_test ?_) | (with_reducible refine wt_B ?_) | (with_reducible refine wt_not ?_) | (with_reducible refine wt_and ?_) | (with_reducible refine wt_or ?_) | (with_reducible refine wt_yes ?_)
  | (with_reducible refine gj_name ?_) | (with_reducible refine gj_tup rfl ?_) | (with_reducible refine gjs_cons ?_) | (with_reducible refine gjs_nil ?_))
local macro_rules | `(tactic| walk_at "v") => `(tactic| repeat walk_at "v1")
local macro_rules | `(tactic| walk_at "x") => `(tactic| refine ⟨_, rfl, ?_⟩)
local macro_rules | `(tactic| walk_at "vx") => `(tactic| repeat (first | walk_at "v1" | (with_reducible refine ⟨_, rfl, ?_⟩)))
namespace Dk
open PySem PySem.Spec PyProof.Rows L2 Pk Sy
section
variable {P : Program} {w : World} {K : PySem.W.Frag} {mg : Str → Option Value} {base : Heap} {k : Nat}
theorem ok_thing (D : Def K mg "_law_thing" s_l_thing ["deck", "m", "boxes", "deep"]) (m_len : mg "len" = none) (c_draw : Cal P w K mg base CX0 k "_law_draw" ["deck", "many"] (spG K (T_draw K))) : ∀ n, Cal P w K mg base CX0 (k + n) "_law_thing" ["deck", "m", "boxes", "deep"] (spG K (T_thing n K))
  | 0 => by
    refine (cal_no D).imp fun vs H Q E h => ?_
    obtain ⟨_, _, _, _, _, _, _, _, _, ⟨v, m, bs, deep, _, _, h1, h0, _⟩, _⟩ := h
    omega
  | n + 1 => by
    have ih := ok_thing D m_len c_draw n
    refine cal_g D sc_l_thing (fun Γ Qr ⟨v, m, bs, deep, e, _⟩ => by subst e; exact ⟨rfl, noMl_ex (noMl_dat (noMl_dat (noMl_dat noMl_nil)))⟩) fun f cdv A outer s H E hr => ⟨_, wk_l_thing ih (c_draw.mono (by omega)) m_len f cdv A outer s H E hr, ?_⟩
    rintro Γ Qr ⟨v, m, bs, deep, rfl, hmb, hd1, hdn, q⟩
    have hl0 := hmb.bs.len0
    have hl5 := hmb.bs.len5
    have hm2 := hmb.m2
    have hm16 := hmb.m16
    show SJ K [.ex v (Dck K), .dat false (.int m), .dat false (bsD bs), .dat false (.int deep), .no, .no, .no] (t_l_thing K _ _) _
    unfold t_l_thing
    refine sj_seq (sj_set false ?_)
    walk_at "v"
    refine use_drawN (n := 7) (by decide) (by decide) fun kind hk => ?_
    show SJ K [.ex v (Dck K), .dat false (.int m), .dat false (bsD bs), .dat false (.int deep), .dat false (.int kind), .no, .no] _ _
    have leaf : SJ K [.ex v (Dck K), .dat false (.int m), .dat false (bsD bs), .dat false (.int deep), .dat false (.int kind), .no, .no] (tSeq (tAsg (tTup (tCons (tC (.str "box")) (tCons (tOp (rIx K) (tVar 2) (tCall (spG K (T_draw K)) [] E0 (tCons (tVar 0) (tCons (tCB (dLen K) (tCons (tVar 2) tNil)) tNil)))) tNil))) (gName 5))
      (tSeq (tIfS (tTest (tOp (dEq K) (tOp dMod (tVar 4) (tC (.int 2))) (tC (.int 0)))) (tAsg (tTup (tCons (tC (.str "number")) (tCons (tOp (rIx K) (tLst (tCons (tC (.int 0)) (tCons (tOp dSub (tVar 1) (tC (.int 1))) (tCons (tCall (spG K (T_draw K)) [] E0 (tCons (tVar 0) (tCons (tVar 1) tNil))) tNil)))) (tCall (spG K (T_draw K)) [] E0 (tCons (tVar 0) (tCons (tC (.int 3)) tNil)))) tNil))) (gName 5)) tNext)
      (tRet (tVar 5)))) { retP [.ex v (Dck K), .dat false (.int m), .dat false (bsD bs), .dat false (.int deep)] Qr with nx := fun Γ' => SJ K Γ' (tSeq (tAsg (tCall (spG K (T_thing n K)) [] E0 (tCons (tVar 0) (tCons (tVar 1) (tCons (tVar 2) (tCons (tOp dSub (tVar 3) (tC (.int 1))) tNil))))) (gName 6))
        (tRet (tTup (tCons (tOp (rIx K) (tLst (tCons (tC (.str "plus")) (tCons (tC (.str "times")) (tCons (tC (.str "less")) (tCons (tC (.str "same")) tNil))))) (tOp dSub (tVar 4) (tC (.int 3)))) (tCons (tVar 6) (tCons (tCall (spG K (T_thing n K)) [] E0 (tCons (tVar 0) (tCons (tVar 1) (tCons (tVar 2) (tCons (tOp dSub (tVar 3) (tC (.int 1))) tNil))))) tNil)))))) (retP [.ex v (Dck K), .dat false (.int m), .dat false (bsD bs), .dat false (.int deep)] Qr) } := by
      refine sj_seq (sj_set true (wd_lf ?_))
      walk_at "v"
      rw [List.length_map]
      refine use_drawN (n := bs.length) (by omega) (by omega) fun r hr => ?_
      refine rd_box hr fun x hx => ⟨rfl, ?_⟩
      have okb : (Th.box x).Ok m bs deep := by
        obtain ⟨j, rfl⟩ := Nat.exists_eq_add_of_le hd1
        rw [Nat.add_comm]
        exact hx
      show SJ K [.ex v (Dck K), .dat false (.int m), .dat false (bsD bs), .dat false (.int deep), .dat false (.int kind), .dat true (Th.box x).d, .no] _ _
      refine sj_cut (fun Γ' => ∃ t : Th, t.Ok m bs deep ∧ Γ' = [.ex v (Dck K), .dat false (.int m), .dat false (bsD bs), .dat false (.int deep), .dat false (.int kind), .dat true t.d, .no]) (sj_if ?_) ?_
      · walk_at "v"
        refine ⟨_, rfl, ?_⟩
        rw [eqv_int]
        refine iteD (fun h0 => ?_) (fun _ => sj_next ⟨_, okb, rfl⟩)
        refine sj_set true (wd_lf ?_)
        walk_at "v"
        refine use_drawN (n := m) (by omega) (by omega) fun rm hrm => ?_
        walk_at "v"
        refine use_draw (n := 3) (by decide) (by decide) fun r3 a3 b3 => ?_
        refine rd_sel a3 b3 fun d hd => ?_
        have key : ∃ n : Nat, n < m ∧ d = .int n := by
          simp at hd
          rcases hd with z | z | z
          · exact ⟨0, by omega, z⟩
          · exact ⟨m - 1, by omega, by rw [z]; congr 1; omega⟩
          · exact ⟨rm, hrm, z⟩
        obtain ⟨n0, hn0, rfl⟩ := key
        have okn : (Th.num n0).Ok m bs deep := by
          obtain ⟨j, rfl⟩ := Nat.exists_eq_add_of_le hd1
          rw [Nat.add_comm]
          exact hn0
        exact ⟨rfl, Th.num n0, okn, rfl⟩
      rintro _ ⟨t, ht, rfl⟩
      refine sj_retD true ?_
      walk_at "v"
      exact ⟨keep_ex (keep_dat (keep_dat (keep_dat keep_nil))), q t ht⟩
    refine sj_seq (sj_if ?_)
    walk_at "v"
    refine ⟨_, rfl, ?_⟩
    rw [eqv_int]
    refine iteD (fun h1 => iteT' rfl leaf) (fun hne => ?_)
    walk_at "v"
    refine ⟨_, rfl, ?_⟩
    refine iteD (fun h1 => leaf) (fun hk3 => sj_next ?_)
    have hdd : ((deep : Int) - 1) = ((deep - 1 : Nat) : Int) := by omega
    refine sj_seq (sj_set true ?_)
    walk_at "v"
    rw [hdd]
    refine use_thing hmb (by omega) (by omega) fun t1 ht1 => ?_
    show SJ K [.ex v (Dck K), .dat false (.int m), .dat false (bsD bs), .dat false (.int deep), .dat false (.int kind), .no, .dat true t1.d] _ _
    refine sj_retD true (wd_lf ?_)
    refine wd_tup3 ?_
    walk_at "v"
    have hkk : ∃ o : Op, atI [PyData.str "plus", .str "times", .str "less", .str "same"] ((kind : Int) - 3) = some (.str o.w) := by
      have h4 : kind = 3 ∨ kind = 4 ∨ kind = 5 ∨ kind = 6 := by omega
      rcases h4 with z | z | z | z <;> subst z
      · exact ⟨.plus, rfl⟩
      · exact ⟨.times, rfl⟩
      · exact ⟨.less, rfl⟩
      · exact ⟨.same, rfl⟩
    obtain ⟨o, ho⟩ := hkk
    refine rd_ixL ho ?_
    walk_at "v"
    rw [hdd]
    refine use_thing hmb (by omega) (by omega) fun t2 ht2 => ?_
    have okk : (Th.op o t1 t2).Ok m bs deep := by
      obtain ⟨j, rfl⟩ := Nat.exists_eq_add_of_le hd1
      have e : 1 + j - 1 = j := by omega
      rw [e] at ht1 ht2
      rw [Nat.add_comm]
      exact ⟨ht1, ht2⟩
    exact ⟨Th.lf (.op o t1 t2), keep_ex (keep_dat (keep_dat (keep_dat keep_nil))), q _ okk⟩
theorem ok_row (D : Def K mg "_law_row" s_l_row ["deck", "m", "boxes"]) (c_thing : Cal P w K mg base CX0 k "_law_thing" ["deck", "m", "boxes", "deep"] (spG K (T_thing 4 K))) (c_draw : Cal P w K mg base CX0 k "_law_draw" ["deck", "many"] (spG K (T_draw K))) (m_min : mg "min" = none) (m_range : mg "range" = none) (m_len : mg "len" = none) : Cal P w K mg base CX0 (k + 1) "_law_row" ["deck", "m", "boxes"] (spG K (T_row K)) := by
  refine cal_g D sc_l_row (fun Γ Qr ⟨v, m, bs, e, _⟩ => by subst e; exact ⟨rfl, noMl_ex (noMl_dat (noMl_dat noMl_nil))⟩) fun f cdv A outer s H E hr => ⟨_, wk_l_row c_thing c_draw m_min m_range m_len f cdv A outer s H E hr, ?_⟩
  rintro Γ Qr ⟨v, m, bs, rfl, hmb, q⟩
  have hl0 := hmb.bs.len0
  have hl5 := hmb.bs.len5
  have hm2 := hmb.m2
  have hm16 := hmb.m16
  have kp : ∀ {Γ'}, Keep [.ex v (Dck K), .dat false (.int m), .dat false (bsD bs)] (.ex v (Dck K) :: .dat false (.int m) :: .dat false (bsD bs) :: Γ') := fun {Γ'} => keep_ex (keep_dat (keep_dat keep_nil))
  show SJ K [.ex v (Dck K), .dat false (.int m), .dat false (bsD bs), .no, .no, .no, .no, .no] (t_l_row K _ _) _
  unfold t_l_row
  refine sj_seq (sj_set false ?_)
  walk_at "v"
  refine use_drawN (n := 12) (by decide) (by decide) fun kind hk => ?_
  refine sj_seq (sj_set false ?_)
  walk_at "v"
  refine use_drawN (n := 4) (by decide) (by decide) fun r4 hr4 => ?_
  walk_at "v"
  have ed : (1 + (r4 : Int)) = ((1 + r4 : Nat) : Int) := by omega
  rw [ed]
  obtain ⟨deep, hdeep⟩ : ∃ deep, 1 + r4 = deep := ⟨_, rfl⟩
  rw [hdeep]
  refine sj_seq (sj_set false ?_)
  walk_at "v"
  rw [List.length_map]
  refine use_drawN (n := bs.length) (by omega) (by omega) fun rb hrb => ?_
  refine rd_box hrb fun x hx => ?_
  show SJ K [.ex v (Dck K), .dat false (.int m), .dat false (bsD bs), .dat false (.int kind), .dat false (.int deep), .dat false (.str x), .no, .no] _ _
  have d1 : 1 ≤ deep := by omega
  have d4 : deep ≤ 4 := by omega
  refine sj_seq (sj_if ?_)
  walk_at "v"
  refine ⟨_, rfl, iteD (fun h => ?_) (fun h4 => sj_next ?_)⟩
  · refine sj_retD false (wd_tup3 ?_)
    walk_at "v"
    refine use_thing hmb d1 d4 fun t ht => ?_
    exact ⟨kp, q (.set x t) ⟨hx, ht.mono d4⟩⟩
  refine sj_seq (sj_if ?_)
  walk_at "v"
  refine ⟨_, rfl, iteD (fun h => ?_) (fun h7 => sj_next ?_)⟩
  · refine sj_seq (sj_set false ?_)
    walk_at "v"
    refine use_draw (n := 5) (by decide) (by decide) fun r5 a5 b5 => ?_
    refine rd_sel a5 b5 fun d hd => ?_
    have key : ∃ n : Nat, 1 ≤ n ∧ n ≤ 5 ∧ d = .int n := by
      simp at hd
      rcases hd with z | z | z | z | z
      · exact ⟨1, by decide, by decide, z⟩
      · exact ⟨2, by decide, by decide, z⟩
      · exact ⟨4, by decide, by decide, z⟩
      · exact ⟨3, by decide, by decide, z⟩
      · exact ⟨5, by decide, by decide, z⟩
    obtain ⟨n, hn1, hn5, rfl⟩ := key
    show SJ K [.ex v (Dck K), .dat false (.int m), .dat false (bsD bs), .dat false (.int kind), .dat false (.int deep), .dat false (.str x), .dat false (.int n), .no] _ _
    refine sj_retD false (wd_tup3 ?_)
    walk_at "v"
    refine wd_lcF (mi := false) (fun _ _ y => ∃ t : Th, t.Ok m bs deep ∧ y = t.d) (wipeOk_no rfl wipeOk_nil) gwn (wi_rng ?_)
    walk_at "v"
    refine ⟨_, rfl, ⟨by omega, by omega⟩, by rw [rangeD_len]; omega, fun j d hj => ?_, fun acc hal hac => ?_⟩
    · refine gj_name ⟨rfl, ?_⟩
      walk_at "v"
      exact use_thing hmb d1 d4 fun t ht => ⟨t, ht, rfl⟩
    rw [rangeD_len] at hal
    have hall : ∀ y ∈ acc, ∃ t : Th, t.Ok m bs deep ∧ y = t.d := fun y hy => by
      obtain ⟨j, hj⟩ := List.getElem?_of_mem hy
      have hjl : j < acc.length := (List.getElem?_eq_some_iff.mp hj).1
      exact hac j _ y (rangeD_get (by omega)) hj
    obtain ⟨ts, rfl, hts⟩ := list_of hall
    rw [List.length_map] at hal
    exact ⟨kp, q (.pick x ts) ⟨hx, by omega, by omega, fun t ht => (hts t ht).mono d4⟩⟩
  refine sj_seq (sj_if ?_)
  walk_at "v"
  refine ⟨_, rfl, iteD (fun h => ?_) (fun h10 => sj_next ?_)⟩
  · refine sj_retD false (wd_tup3 ?_)
    walk_at "v"
    refine use_thing hmb d1 d4 fun t ht => ?_
    walk_at "v"
    refine use_drawN (n := 30) (by decide) (by decide) fun r30 hr30 => ?_
    walk_at "v"
    refine use_draw (n := 4) (by decide) (by decide) fun rr a b => ?_
    refine rd_sel a b fun d hd => ?_
    have key : ∃ n : Nat, 1 ≤ n ∧ n ≤ 30 ∧ d = .int n := by
      simp at hd
      rcases hd with z | z | z | z
      · exact ⟨1, by decide, by decide, z⟩
      · exact ⟨2, by decide, by decide, z⟩
      · exact ⟨3, by decide, by decide, z⟩
      · exact ⟨1 + r30, by omega, by omega, by rw [z]; congr 1⟩
    obtain ⟨n, hn1, hn30, rfl⟩ := key
    exact ⟨kp, q (.skip t n) ⟨ht.mono d4, hn1, hn30⟩⟩
  refine sj_seq (sj_if ?_)
  walk_at "v"
  refine ⟨_, rfl, ?_⟩
  rw [eqv_int]
  refine iteD (fun h => ?_) (fun hne => sj_next ?_)
  · refine sj_retD false (wd_tup2 ?_)
    walk_at "v"
    obtain ⟨qd, em, q1, q3⟩ : ∃ qd : Nat, min (deep : Int) 3 = (qd : Int) ∧ 1 ≤ qd ∧ qd ≤ 3 := by
      by_cases h3 : deep ≤ 3
      · exact ⟨deep, by omega, d1, h3⟩
      · exact ⟨3, by omega, by decide, by decide⟩
    rw [em]
    refine use_thing hmb q1 (by omega) fun t ht => ?_
    refine ⟨kp, q (.need (.op .plus (.num 1) t)) ⟨?_, ht.mono (by omega)⟩⟩
    show 1 < m
    omega
  refine sj_retD false ?_
  walk_at "v"
  refine use_thing hmb d1 d4 fun t1 ht1 => ?_
  walk_at "v"
  refine use_thing hmb d1 d4 fun t2 ht2 => ?_
  walk_at "v"
  refine use_draw (n := 2) (by decide) (by decide) fun rr a b => ?_
  refine rd_sel a b fun d hd => ?_
  simp only [List.mem_cons, List.not_mem_nil, or_false] at hd
  rcases hd with z | z <;> subst z
  · exact ⟨kp, q (.need t1) (ht1.mono d4)⟩
  · exact ⟨kp, q (.give t2) (ht2.mono d4)⟩
theorem ok_bounded (D : Def K mg "_law_bounded" s_l_bounded ["m", "boxes", "rows"]) (m_len : mg "len" = none) : Cal P w K mg base CX0 (k + 1) "_law_bounded" ["m", "boxes", "rows"] (spG K (T_bounded K)) := by
  refine cal_g D sc_l_bounded (fun Γ Qr ⟨m, bs, rows, e, _⟩ => by subst e; exact ⟨rfl, noMl_dat (noMl_dat (noMl_dat noMl_nil))⟩) fun f cdv A outer s H E hr => ⟨_, wk_l_bounded m_len f cdv A outer s H E hr, ?_⟩
  rintro Γ Qr ⟨m, bs, rows, rfl, hmb, hr30, hrows, q⟩
  have hl5 := hmb.bs.len5
  have hm16 := hmb.m16
  show SJ K [.dat false (.int m), .dat false (bsD bs), .dat false (rwsD rows), .no, .no, .no, .no, .no] (t_l_bounded K) _
  unfold t_l_bounded
  refine sj_seq (sj_set false ?_)
  walk_at "v"
  refine sj_cut (fun Γ' => ∃ (st : Int) (s4 : Sl), Γ' = [.dat false (.int m), .dat false (bsD bs), .dat false (rwsD rows), .dat false (.int st), s4, .no, .no, .no]) ?_ ?_
  · refine sj_for false (wi_list ?_)
    walk_at "v"
    refine ⟨_, rfl, fun i Γ' => ∃ (st : Int) (s4 : Sl), Γ' = [.dat false (.int m), .dat false (bsD bs), .dat false (rwsD rows), .dat false (.int st), s4, .no, .no, .no], ⟨1, .no, rfl⟩, ?_, fun Γ' h => h⟩
    rintro i d Γ' hd ⟨st, s4, rfl⟩
    refine gj_name (sj_set false ?_)
    walk_at "v"
    exact ⟨_, _, rfl⟩
  rintro _ ⟨st, s4, rfl⟩
  refine sj_seq (sj_set false ?_)
  walk_at "v"
  refine sj_seq (sj_setX (wx_lst0 false fun l => ?_))
  show SJ K [.dat false (.int m), .dat false (bsD bs), .dat false (rwsD rows), .dat false (.int st), s4, .dat false (.int 1), .ml false l (([] : List Rw).map Rw.d), .no] _ _
  refine sj_cut (fun Γ' => ∃ (rows' : List Rw) (s5 s7 : Sl), rows'.length = rows.length ∧ (∀ r ∈ rows', r.Ok m bs) ∧ Γ' = [.dat false (.int m), .dat false (bsD bs), .dat false (rwsD rows), .dat false (.int st), s4, s5, .ml false l (rows'.map Rw.d), s7]) ?_ ?_
  · refine sj_for false (wi_list ?_)
    walk_at "v"
    refine ⟨_, rfl, fun i Γ' => ∃ (rows' : List Rw) (rn : Int) (s7 : Sl), rows'.length = i ∧ (∀ r ∈ rows', r.Ok m bs) ∧ Γ' = [.dat false (.int m), .dat false (bsD bs), .dat false (rwsD rows), .dat false (.int st), s4, .dat false (.int rn), .ml false l (rows'.map Rw.d), s7], ⟨[], 1, .no, rfl, fun _ z => (by cases z), rfl⟩, ?_, ?_⟩
    · rintro i d Γ' hd ⟨rows', rn, s7, hlen, hok, rfl⟩
      rw [List.getElem?_map] at hd
      cases hri : rows[i]? with
      | none => rw [hri] at hd; cases hd
      | some r0 =>
        rw [hri] at hd
        cases hd
        have hil : i < rows.length := (List.getElem?_eq_some_iff.mp hri).1
        have hr0 := hrows r0 (List.mem_of_getElem? hri)
        refine gj_name ?_
        show SJ K [.dat false (.int m), .dat false (bsD bs), .dat false (rwsD rows), .dat false (.int st), s4, .dat false (.int rn), .ml false l (rows'.map Rw.d), .dat false r0.d] _ _
        refine sj_cut (fun Γ' => ∃ r1 : Rw, r1.Ok m bs ∧ Γ' = [.dat false (.int m), .dat false (bsD bs), .dat false (rwsD rows), .dat false (.int st), s4, .dat false (.int rn), .ml false l (rows'.map Rw.d), .dat false r1.d]) (sj_if ?_) ?_
        · have no : SJ K [.dat false (.int m), .dat false (bsD bs), .dat false (rwsD rows), .dat false (.int st), s4, .dat false (.int rn), .ml false l (rows'.map Rw.d), .dat false r0.d] tNext { nx := fun Γ' => ∃ r1 : Rw, r1.Ok m bs ∧ Γ' = [.dat false (.int m), .dat false (bsD bs), .dat false (rwsD rows), .dat false (.int st), s4, .dat false (.int rn), .ml false l (rows'.map Rw.d), .dat false r1.d], rt := (retP [.dat false (.int m), .dat false (bsD bs), .dat false (rwsD rows)] Qr).rt } := sj_next ⟨r0, hr0, rfl⟩
          walk_at "v"
          refine rd_row0 ?_
          walk_at "v"
          refine rd_eq (sh_str r0.w_ok) (sh_str (ok_w (by simp))) ⟨_, rfl, ?_⟩
          rw [Rw.eqP]
          cases r0 with
          | pick x ts =>
            refine iteT' rfl ?_
            walk_at "v"
            refine ⟨_, rfl, iteD (fun _ => ?_) (fun _ => iteF' rfl (sj_next ⟨_, hr0, rfl⟩))⟩
            walk_at "v"
            refine rd_ixT (d := .list (ts.map Th.d)) rfl ?_
            refine rc_lenL ?_
            rw [List.length_map]
            have h5 := hr0.2.2.1
            walk_at "v"
            refine ⟨_, rfl, iteD (fun _ => ?_) (fun _ => sj_next ⟨_, hr0, rfl⟩)⟩
            refine sj_set false (wd_tup3 ?_)
            refine wd_op (wd_var rfl (wd_int (rd_ixT (d := .str "pick") rfl ?_)))
            refine wd_op (wd_var rfl (wd_int (rd_ixT (d := .str x) rfl ?_)))
            refine wd_sl (wd_op (wd_var rfl (wd_int (rd_ixT (d := .list (ts.map Th.d)) rfl ⟨_, rfl, ?_⟩))))
            walk_at "v"
            refine ⟨1, rfl, ?_⟩
            refine ⟨.pick x (ts.take 1), ⟨hr0.1, ?_, ?_, fun t ht => hr0.2.2.2 t (List.mem_of_mem_take ht)⟩, ?_⟩
            · rw [List.length_take]; have := hr0.2.1; omega
            · rw [List.length_take]; omega
            · have : Pk.cutD (ts.map Th.d) none (some 1) = (ts.take 1).map Th.d := by
                have h1 := hr0.2.1
                have : min 1 ts.length = 1 := by omega
                simp [Pk.cutD, HT.sIx, List.map_take, this]
              rw [this]
              rfl
          | set x t => exact iteF' rfl (iteF' rfl (sj_next ⟨_, hr0, rfl⟩))
          | need t => exact iteF' rfl (iteF' rfl (sj_next ⟨_, hr0, rfl⟩))
          | skip t k => exact iteF' rfl (iteF' rfl (sj_next ⟨_, hr0, rfl⟩))
          | give t => exact iteF' rfl (iteF' rfl (sj_next ⟨_, hr0, rfl⟩))
        rintro _ ⟨r1, hr1, rfl⟩
        refine sj_cut (fun Γ' => ∃ rn' : Int, Γ' = [.dat false (.int m), .dat false (bsD bs), .dat false (rwsD rows), .dat false (.int st), s4, .dat false (.int rn'), .ml false l (rows'.map Rw.d), .dat false r1.d]) (sj_if ?_) ?_
        · walk_at "v"
          refine rd_row0 ?_
          walk_at "v"
          refine rd_eq (sh_str r1.w_ok) (sh_str (ok_w (by simp))) ⟨_, rfl, ?_⟩
          rw [Rw.eqP]
          cases r1 with
          | pick x ts =>
            refine iteT' rfl (sj_set false ?_)
            walk_at "v"
            refine rd_ixT (d := .list (ts.map Th.d)) rfl ?_
            refine rc_lenL ?_
            rw [List.length_map]
            have h5 := hr1.2.2.1
            walk_at "v"
            exact ⟨_, rfl⟩
          | set x t => exact iteF' rfl (sj_next ⟨rn, rfl⟩)
          | need t => exact iteF' rfl (sj_next ⟨rn, rfl⟩)
          | skip t k => exact iteF' rfl (sj_next ⟨rn, rfl⟩)
          | give t => exact iteF' rfl (sj_next ⟨rn, rfl⟩)
        rintro _ ⟨rn', rfl⟩
        refine sj_app (i := 6) (l := l) (ds := rows'.map Rw.d) rfl (by rw [List.length_map]; omega) ?_
        walk_at "v"
        refine ⟨rows' ++ [r1], rn', .dat false r1.d, by simp [hlen], fun r hr => ?_, by simp⟩
        rcases List.mem_append.mp hr with z | z
        · exact hok r z
        · simp at z; rw [z]; exact hr1
    · rintro Γ' ⟨rows', rn, s7, hlen, hok, rfl⟩
      rw [List.length_map] at hlen
      exact ⟨rows', _, s7, hlen, hok, rfl⟩
  rintro _ ⟨rows', s5, s7, hlen, hok, rfl⟩
  exact sj_retM (i := 6) (l := l) (ds := rows'.map Rw.d) rfl ⟨keep_dat (keep_dat (keep_dat keep_nil)), q l rows' hlen hok⟩
theorem ok_program (D : Def K mg "_law_program" s_l_program ["deck"]) (c_draw : Cal P w K mg base CX0 k "_law_draw" ["deck", "many"] (spG K (T_draw K))) (c_thing : Cal P w K mg base CX0 k "_law_thing" ["deck", "m", "boxes", "deep"] (spG K (T_thing 4 K))) (c_bounded : Cal P w K mg base CX0 k "_law_bounded" ["m", "boxes", "rows"] (spG K (T_bounded K))) (c_row : Cal P w K mg base CX0 k "_law_row" ["deck", "m", "boxes"] (spG K (T_row K))) (c_names : Cal P w K mg base CX0 k "_law_names" ["deck"] (spG K (T_names K))) (m_range : mg "range" = none) : Cal P w K mg base CX0 (k + 1) "_law_program" ["deck"] (spG K (T_program K)) := by
  refine cal_g D sc_l_program (fun Γ Qr ⟨v, e, _⟩ => by subst e; exact ⟨rfl, noMl_ex noMl_nil⟩) fun f cdv A outer s H E hr => ⟨_, wk_l_program c_draw c_thing c_bounded c_row c_names m_range f cdv A outer s H E hr, ?_⟩
  rintro Γ Qr ⟨v, rfl, q⟩
  show SJ K [.ex v (Dck K), .no, .no, .no, .no, .no] (t_l_program K _ _ _ _ _) _
  unfold t_l_program
  refine sj_seq (sj_set false ?_)
  walk_at "v"
  refine use_drawN (n := 15) (by decide) (by decide) fun r15 hr15 => ?_
  walk_at "v"
  refine use_draw (n := 5) (by decide) (by decide) fun r5 a5 b5 => ?_
  refine rd_sel a5 b5 fun d hd => ?_
  have key : ∃ m : Nat, 2 ≤ m ∧ m ≤ 16 ∧ d = .int m := by
    simp at hd
    rcases hd with z | z | z | z | z
    · exact ⟨2, by decide, by decide, z⟩
    · exact ⟨3, by decide, by decide, z⟩
    · exact ⟨5, by decide, by decide, z⟩
    · exact ⟨16, by decide, by decide, z⟩
    · exact ⟨2 + r15, by omega, by omega, by rw [z]; congr 1⟩
  obtain ⟨m, hm2, hm16, rfl⟩ := key
  refine sj_seq (sj_set false (wd_callO0 rfl ⟨v, rfl, fun l bs hbs => asD_ml ?_⟩))
  have hmb : MB m bs := ⟨hm2, hm16, hbs⟩
  refine sj_seq (sj_set false ?_)
  walk_at "v"
  refine use_drawN (n := 4) (by decide) (by decide) fun k1 hk1 => ?_
  walk_at "v"
  refine use_drawN (n := 9) (by decide) (by decide) fun k2 hk2 => ?_
  walk_at "v"
  refine use_drawN (n := 16) (by decide) (by decide) fun k3 hk3 => ?_
  walk_at "v"
  refine use_drawN (n := 31) (by decide) (by decide) fun k4 hk4 => ?_
  walk_at "v"
  refine use_draw (n := 4) (by decide) (by decide) fun r4 a4 b4 => ?_
  refine rd_sel a4 b4 fun d hd => ?_
  have key : ∃ n : Nat, n ≤ 30 ∧ d = .int n := by
    simp at hd
    rcases hd with z | z | z | z
    · exact ⟨k1, by omega, z⟩
    · exact ⟨k2, by omega, z⟩
    · exact ⟨k3, by omega, z⟩
    · exact ⟨k4, by omega, z⟩
  obtain ⟨n, hn30, rfl⟩ := key
  show SJ K [.ex v (Dck K), .dat false (.int m), .dat false (bsD bs), .dat false (.int n), .no, .no] _ _
  refine sj_seq (sj_setX (wx_call3 ?_))
  walk_at "v"
  refine wd_lcF (mi := false) (fun _ _ y => ∃ r : Rw, r.Ok m bs ∧ y = r.d) (wipeOk_no rfl wipeOk_nil) gwn (wi_rng ?_)
  walk_at "v"
  refine ⟨_, rfl, ⟨by omega, by omega⟩, by rw [rangeD_len]; omega, fun j d hj => ?_, fun acc hal hac => ?_⟩
  · refine gj_name ⟨rfl, ?_⟩
    walk_at "v"
    exact ⟨v, m, bs, rfl, hmb, fun r hr => asD_dat ⟨r, hr, rfl⟩⟩
  rw [rangeD_len] at hal
  have hall : ∀ y ∈ acc, ∃ r : Rw, r.Ok m bs ∧ y = r.d := fun y hy => by
    obtain ⟨j, hj⟩ := List.getElem?_of_mem hy
    have hjl : j < acc.length := (List.getElem?_eq_some_iff.mp hj).1
    exact hac j _ y (rangeD_get (by omega)) hj
  obtain ⟨rows0, rfl, hrows0⟩ := list_of hall
  rw [List.length_map] at hal
  refine ⟨m, bs, rows0, rfl, hmb, by omega, hrows0, fun l rows hlen hrows => ?_⟩
  show SJ K [.ex v (Dck K), .dat false (.int m), .dat false (bsD bs), .dat false (.int n), .ml false l (rows.map Rw.d), .no] _ _
  refine sj_cut (fun Γ' => ∃ rows : List Rw, rows.length ≤ 30 ∧ (∀ r ∈ rows, r.Ok m bs) ∧ Γ' = [.ex v (Dck K), .dat false (.int m), .dat false (bsD bs), .dat false (.int n), .ml false l (rows.map Rw.d), .no]) (sj_if ?_) ?_
  · walk_at "v"
    refine use_drawN (n := 2) (by decide) (by decide) fun r2 hr2 => ?_
    walk_at "v"
    refine ⟨_, rfl, ?_⟩
    rw [eqv_int]
    refine iteD (fun _ => ?_) (fun _ => iteF' rfl (sj_next ⟨rows, by omega, hrows, rfl⟩))
    walk_at "v"
    refine ⟨_, rfl, iteD (fun h30 => ?_) (fun _ => sj_next ⟨rows, by omega, hrows, rfl⟩)⟩
    refine sj_app (i := 4) (l := l) (ds := rows.map Rw.d) rfl (by rw [List.length_map]; omega) (wd_tup2 ?_)
    walk_at "v"
    refine use_thing (deep := 2) hmb (by decide) (by decide) fun t ht => ?_
    refine ⟨rows ++ [.give t], by simp; omega, fun r hr => ?_, by simp [Rw.d]⟩
    rcases List.mem_append.mp hr with z | z
    · exact hrows r z
    · simp at z; rw [z]; exact Th.Ok.mono ht (by decide)
  rintro _ ⟨rows, hr30, hrows, rfl⟩
  refine sj_frz 4 (l := l) (m := false) (ds := rows.map Rw.d) rfl ?_
  show SJ K [.ex v (Dck K), .dat false (.int m), .dat false (bsD bs), .dat false (.int n), .dat false (rwsD rows), .no] _ _
  refine sj_retD false (wd_tup3 ?_)
  walk_at "v"
  exact ⟨keep_ex keep_nil, q ⟨m, bs, rows⟩ ⟨hm2, hm16, hbs, hr30, hrows⟩⟩
theorem ok_store (D : Def K mg "_law_store" s_l_store ["deck", "program"]) (c_draw : Cal P w K mg base CX0 k "_law_draw" ["deck", "many"] (spG K (T_draw K))) (m_tuple : mg "tuple" = none) : Cal P w K mg base CX0 (k + 1) "_law_store" ["deck", "program"] (spG K (T_store K)) := by
  refine cal_g D sc_l_store (fun Γ Qr ⟨v, p, e, _⟩ => by subst e; exact ⟨rfl, noMl_ex (noMl_dat noMl_nil)⟩) fun f cdv A outer s H E hr => ⟨_, wk_l_store c_draw m_tuple f cdv A outer s H E hr, ?_⟩
  rintro Γ Qr ⟨v, p, rfl, hp, q⟩
  have hm2 := hp.m2
  have hm16 := hp.m16
  have hl5 := hp.bs.len5
  show SJ K [.ex v (Dck K), .dat false p.d, .no] (t_l_store K _) _
  unfold t_l_store
  refine sj_retD true (wd_lf (wd_cb1 ?_))
  refine wd_lcF (mi := false) (fun _ _ y => ∃ n : Nat, n < p.m ∧ y = PyData.int n) (wipeOk_no rfl wipeOk_nil) gwn (wi_list ?_)
  refine wd_op (wd_var rfl (wd_int (rd_ixT (d := bsD p.bs) rfl ⟨_, rfl, by rw [List.length_map]; omega, fun j d hj => ?_, fun acc hal hac => ?_⟩)))
  · refine gj_name ⟨rfl, wd_callO1 rfl (wd_op (wd_var rfl (wd_int (rd_ixT (d := .int p.m) rfl ?_))))⟩
    exact use_drawN (n := p.m) (by omega) (by omega) fun r hr => ⟨r, hr, rfl⟩
  rw [List.length_map] at hal
  have hall : ∀ y ∈ acc, ∃ n : Nat, n < p.m ∧ y = PyData.int n := fun y hy => by
    obtain ⟨j, hj⟩ := List.getElem?_of_mem hy
    have hjl : j < acc.length := (List.getElem?_eq_some_iff.mp hj).1
    exact hac j (.str p.bs[j]) y (by simp [show j < p.bs.length by omega]) hj
  obtain ⟨st, rfl, hst⟩ := list_of (f := fun n : Nat => PyData.int n) hall
  rw [List.length_map] at hal
  refine rc_tupleL ?_
  exact ⟨st_lf st, keep_ex (keep_dat keep_nil), q st ⟨hal, hst⟩⟩
end
end Dk
end
section
set_option Elab.async false
set_option linter.all false
set_option maxRecDepth 100000
/-! Worths, copies. -/
open PySem L2 Pk
local macro_rules | `(tactic| walk_at "sh") => `(tactic| first | exact sh_int | exact sh_bool | exact sh_non | exact sh_nil | exact sh_str (by decide +kernel) | assumption)
local macro_rules | `(tactic| walk_at "v1") => `(tactic| first
  | (with_reducible refine wd_int ?_) | (with_reducible refine wd_str ?_) | (with_reducible refine wd_bl ?_) | (with_reducible refine wd_non ?_)
  | ((with_reducible apply wd_var); exact rfl) | ((with_reducible apply wd_varN); exact rfl)
  | ((with_reducible apply wd_ixm); exact rfl)
  | ((with_reducible apply wd_lenM); exact rfl) | ((with_reducible apply wd_lenScript); exact rfl) | ((with_reducible apply wd_ixScript); exact rfl)
  | (with_reducible refine wd_op ?_) | (with_reducible refine wd_un ?_)
  | (with_reducible refine rd_add ?_) | (with_reducible refine rd_sub ?_) | (with_reducible refine rd_lt ?_) | (with_reducible refine rd_le ?_) | (with_reducible refine rd_gt ?_) | (with_reducible refine rd_ge ?_) | (with_reducible refine ru_neg ?_)
  | ((with_reducible refine rd_eq ?ev_h ?ev_k ?_); (case ev_h => walk_at "sh"); (case ev_k => walk_at "sh")) | ((with_reducible refine rd_ne ?ev_h ?ev_k ?_); (case ev_h => walk_at "sh"); (case ev_k => walk_at "sh"))
  | ((with_reducible refine rd_mod ?ev_h ?_); case ev_h => first | decide | assumption | omega) | ((with_reducible refine rd_div ?ev_h ?ev_k ?_); (case ev_h => first | decide | assumption | omega); (case ev_k => first | decide | assumption | omega))
  | ((with_reducible refine rd_pow ?ev_h ?_); case ev_h => exact ⟨by decide, by decide, by decide⟩)
  | ((with_reducible refine rd_mul ?ev_h ?_); case ev_h => first | exact .inr ⟨by decide, by decide⟩ | exact .inl ⟨by decide, by decide⟩ | exact .inl ⟨by omega, by omega⟩ | exact .inr ⟨by omega, by omega⟩)
  | (with_reducible refine rc_lenL ?_) | (with_reducible refine rc_lenT ?_) | (with_reducible refine rc_max2 ?_) | (with_reducible refine rc_min2 ?_) | (with_reducible refine rc_intB ?_) | (with_reducible refine rc_intI ?_) | (with_reducible refine rc_listL ?_) | (with_reducible refine rc_listT ?_) | (with_reducible refine rc_tupleL ?_)
  | ((with_reducible apply rd_ixT); exact rfl)
  | ((with_reducible apply rd_ixL); exact rfl)
  | ((with_reducible refine wd_isi ?ev_h ?_); case ev_h => decide) | ((with_reducible refine wd_isi2 ?ev_h ?ev_k ?_); (case ev_h => decide); (case ev_k => decide))
  | (with_reducible refine wd_tup2 ?_) | (with_reducible refine wd_tup1 ?_) | (with_reducible refine wd_tup3 ?_) | (with_reducible refine wd_tup0 ?_)
  | (with_reducible refine wd_lst0 ?_) | (with_reducible refine wd_lst1 ?_) | (with_reducible refine wd_lst2 ?_) | (with_reducible refine wd_lst3 ?_) | (with_reducible refine wd_lst4 ?_) | (with_reducible refine wd_lst5 ?_) | (with_reducible refine wd_lst6 ?_)
  | ((with_reducible apply wd_callO0); exact rfl) | ((with_reducible apply wd_callO1); exact rfl) | ((with_reducible apply wd_callO2); exact rfl) | ((with_reducible apply wd_callO3); exact rfl)
  | (with_reducible refine wd_call1 ?_) | (with_reducible refine wd_call2 ?_) | (with_reducible refine wd_call3 ?_) | (with_reducible refine wd_call4 ?_) | (with_reducible refine wd_call0 ?_)
  | (with_reducible refine wd_cb1 ?_) | (with_reducible refine wd_cb2 ?_)
  | (with_reducible refine wd_rev ?_) | (with_reducible refine wd_lrg1 ?_) | (with_reducible refine wd_sl ?_) | (with_reducible refine wo_no ?_) | (with_reducible refine wo_some ?_)
  | (with_reducible refine wd_andV ?_) | (with_reducible refine wd_orV ?_) | (with_reducible refine wd_notV ?_) | (with_reducible refine wd_if ?_) | (with_reducible refine wd_chain ?_)
  | (with_reducible refine wt_test ?_) | (with_reducible refine wt_B ?_) | (with_reducible refine wt_not ?_) | (with_reducible refine wt_and ?_) | (with_reducible refine wt_or ?_) | (with_reducible refine wt_yes ?_)
  | (with_reducible refine gj_name ?_) | (with_reducible refine gj_tup rfl ?_) | (with_reducible refine gjs_cons ?_) | (with_reducible refine gjs_nil ?_))
local macro_rules | `(tactic| walk_at "v") => `(tactic| repeat walk_at "v1")
local macro_rules | `(tactic| walk_at "x") => `(tactic| refine ⟨_, rfl, ?_⟩)
local macro_rules | `(tactic| walk_at "vx") => `(tactic| repeat (first | walk_at "v1" | (with_reducible refine ⟨_, rfl, ?_⟩)))
namespace Dk
open PySem PySem.Spec PyProof.Rows L2 Pk Sy Pz
def isWhole (d : PyData) (lo hi : Int) : Bool := match d with
  | .int n => decide (lo ≤ n) && decide (n ≤ hi)
  | _ => false
def T_whole (K : PySem.W.Frag) : List Sl → (Sl → Prop) → Prop := fun Γ Q => ∃ d lo hi, Γ = [.dat false d, .dat false (.int lo), .dat false (.int hi)] ∧ Q (.dat true (.bool (isWhole d lo hi)))
def T_need (K : PySem.W.Frag) : List Sl → (Sl → Prop) → Prop := fun Γ Q => ∃ p : Pg, ∃ st, Γ = [.dat false p.d, .dat false (stD st)] ∧ MB p.m p.bs ∧ StOk p.m p.bs st ∧ Q (.dat true .none)
def T_worth (n : Nat) (K : PySem.W.Frag) : List Sl → (Sl → Prop) → Prop := fun Γ Q => ∃ p : Pg, ∃ t : Th, ∃ st, Γ = [.dat false p.d, .dat false t.d, .dat false (stD st)] ∧ MB p.m p.bs ∧ StOk p.m p.bs st ∧ t.Ok p.m p.bs n ∧ Q (.dat true (.int (t.v p.m p.bs st : Nat)))
def T_deep (n : Nat) (K : PySem.W.Frag) : List Sl → (Sl → Prop) → Prop := fun Γ Q => ∃ d, Γ = [.dat false d] ∧ cpy n d ∧ Q (.dat true d)
theorem Pg.Ok.mb {p : Pg} (h : p.Ok) : MB p.m p.bs := ⟨h.m2, h.m16, h.bs⟩
section
variable {K : PySem.W.Frag} {m : Bool} {Γ : List Sl} {Q : PyData → Prop}
theorem rd_pgM {p : Pg} (q : Q (.int p.m)) : RD K m Γ (rIx K) p.d (.int 0) Q := rd_ixT rfl q
theorem rd_pgB {p : Pg} (q : Q (bsD p.bs)) : RD K m Γ (rIx K) p.d (.int 1) Q := rd_ixT rfl q
theorem rd_pgR {p : Pg} (q : Q (rwsD p.rows)) : RD K m Γ (rIx K) p.d (.int 2) Q := rd_ixT rfl q
theorem wd_dtrue {te : TE} {b : Bool} (hb : b = true) (h : WD K m Γ te Q) : if b = true then WD K m Γ te Q else Q (.bool false) := by rw [if_pos hb]; exact h
end
section
variable {P : Program} {w : World} {K : PySem.W.Frag} {mg : Str → Option Value} {base : Heap} {k : Nat}
theorem ok_whole (D : Def K mg "is_whole" s_is_whole ["thing", "low", "high"]) (m_isinstance : mg "isinstance" = none) (m_bool : mg "bool" = none) (m_int : mg "int" = none) : Cal P w K mg base CX0 (k + 1) "is_whole" ["thing", "low", "high"] (spG K (T_whole K)) := by
  refine cal_g D sc_is_whole (fun Γ Qr ⟨d, lo, hi, e, _⟩ => by subst e; exact ⟨rfl, noMl_dat (noMl_dat (noMl_dat noMl_nil))⟩) fun f cdv A outer s H E hr => ⟨_, wk_is_whole m_isinstance m_bool m_int f cdv A outer s H E hr, ?_⟩
  rintro Γ Qr ⟨d, lo, hi, rfl, q⟩
  show SJ K [.dat false d, .dat false (.int lo), .dat false (.int hi)] (t_is_whole K) _
  unfold t_is_whole
  have kp : ∀ {Γ'}, Keep [.dat false d, .dat false (.int lo), .dat false (.int hi)] (.dat false d :: .dat false (.int lo) :: .dat false (.int hi) :: Γ') := fun {Γ'} => keep_dat (keep_dat (keep_dat keep_nil))
  refine sj_retD true (wd_lf (wd_andV (wd_isi (by decide) (wd_var rfl ⟨_, rfl, ?_⟩))))
  cases d with
  | int n =>
    refine iteT' rfl (wd_andV (wd_notV (wd_isi (by decide) (wd_var rfl ⟨_, rfl, _, rfl, iteT' rfl ?_⟩))))
    refine wd_chain ?_
    walk_at "v"
    refine ⟨_, rfl, ?_⟩
    refine iteD (fun h => ?_) (fun h => ⟨rfl, kp, ?_⟩)
    · walk_at "v"
      refine ⟨_, rfl, rfl, kp, ?_⟩
      have : isWhole (.int n) lo hi = decide (n ≤ hi) := by simp [isWhole, h]
      rw [← this]
      exact q
    · have : isWhole (.int n) lo hi = false := by simp [isWhole, h]
      rw [← this]
      exact q
  | bool b =>
    refine iteT' rfl (wd_andV (wd_notV (wd_isi (by decide) (wd_var rfl ⟨_, rfl, _, rfl, iteF' rfl ?_⟩))))
    exact ⟨rfl, kp, q⟩
  | none => exact iteF' rfl ⟨rfl, kp, q⟩
  | str x => exact iteF' rfl ⟨rfl, kp, q⟩
  | list x => exact iteF' rfl ⟨rfl, kp, q⟩
  | tuple x => exact iteF' rfl ⟨rfl, kp, q⟩
  | dict x => exact iteF' rfl ⟨rfl, kp, q⟩
theorem ok_worth_in (D : Def K mg "worth_in" s_worth_in ["program", "thing", "store"]) (m_int : mg "int" = none) : ∀ n, Cal P w K mg base CX0 (k + n) "worth_in" ["program", "thing", "store"] (spG K (T_worth n K))
  | 0 => by
    refine (cal_no D).imp fun vs H Q E h => ?_
    obtain ⟨_, _, _, _, _, _, _, _, _, ⟨p, t, st, _, _, _, h0, _⟩, _⟩ := h
    cases h0
  | n + 1 => by
    have ih := ok_worth_in D m_int n
    refine cal_g D sc_worth_in (fun Γ Qr ⟨p, t, st, e, _⟩ => by subst e; exact ⟨rfl, noMl_dat (noMl_dat (noMl_dat noMl_nil))⟩) fun f cdv A outer s H E hr => ⟨_, wk_worth_in ih m_int f cdv A outer s H E hr, ?_⟩
    rintro Γ Qr ⟨p, t, st, rfl, hmb, hst, hok, q⟩
    have hm2 := hmb.m2
    have hm16 := hmb.m16
    have kp : ∀ {Γ'}, Keep [.dat false p.d, .dat false t.d, .dat false (stD st)] (.dat false p.d :: .dat false t.d :: .dat false (stD st) :: Γ') := fun {Γ'} => keep_dat (keep_dat (keep_dat keep_nil))
    show SJ K [.dat false p.d, .dat false t.d, .dat false (stD st), .no, .no, .no] (t_worth_in K _) _
    unfold t_worth_in
    refine sj_seq (sj_set false ?_)
    walk_at "v"
    refine rd_th0 ?_
    show SJ K [.dat false p.d, .dat false t.d, .dat false (stD st), .dat false (.str t.w), .no, .no] _ _
    refine sj_seq (sj_if ?_)
    walk_at "v"
    refine rd_eq (sh_str t.w_ok) (sh_str (ok_w (by simp))) ⟨_, rfl, ?_⟩
    rw [Th.eqN]
    cases t with
    | num n =>
      refine iteT' rfl (sj_retD true (wd_lf (wd_op (wd_var rfl (wd_int (rd_ixT (d := .int n) rfl ?_))))))
      exact ⟨rfl, kp, q⟩
    | box x =>
      have hx : x ∈ p.bs := hok
      refine iteF' rfl (sj_next ?_)
      refine sj_seq (sj_if ?_)
      walk_at "v"
      refine rd_eq (sh_str (Th.w_ok (.box x))) (sh_str (ok_w (by simp))) ⟨_, rfl, ?_⟩
      rw [Th.eqB]
      refine iteT' rfl (sj_retD true (wd_lf (wd_op (wd_var rfl ?_))))
      refine wd_nameIx hmb.bs.nm hx (wd_op (wd_var rfl (wd_int (rd_pgB ⟨rfl, wd_op (wd_var rfl (wd_int (rd_ixT (d := .str x) rfl ⟨rfl, ?_⟩)))⟩))))
      refine rd_ixT (d := .int (at_ p.bs st x : Nat)) (by rw [atI_ofNat, List.getElem?_map, at_get hst hx]; rfl) ⟨rfl, kp, q⟩
    | op o a b =>
      refine iteF' rfl (sj_next ?_)
      refine sj_seq (sj_if ?_)
      walk_at "v"
      refine rd_eq (sh_str (Th.w_ok (.op o a b))) (sh_str (ok_w (by simp))) ⟨_, rfl, ?_⟩
      rw [Th.eqB]
      refine iteF' rfl (sj_next ?_)
      refine sj_seq (sj_set false ?_)
      refine wd_call3 (wd_var rfl (wd_op (wd_var rfl (wd_int (rd_ixT (d := a.d) rfl (wd_var rfl ⟨p, a, st, rfl, hmb, hst, hok.1, asD_new ?_⟩))))))
      refine sj_seq (sj_set false ?_)
      refine wd_call3 (wd_var rfl (wd_op (wd_var rfl (wd_int (rd_ixT (d := b.d) rfl (wd_var rfl ⟨p, b, st, rfl, hmb, hst, hok.2, asD_new ?_⟩))))))
      have ha := Th.v_lt hm2 hst hok.1
      have hb := Th.v_lt hm2 hst hok.2
      have eq : (Th.op o a b).v p.m p.bs st = o.v p.m (a.v p.m p.bs st) (b.v p.m p.bs st) := rfl
      rw [eq] at q
      obtain ⟨x, ex⟩ : ∃ x, x = a.v p.m p.bs st := ⟨_, rfl⟩
      obtain ⟨y, ey⟩ : ∃ y, y = b.v p.m p.bs st := ⟨_, rfl⟩
      rw [← ex] at q ha
      rw [← ey] at q hb
      show SJ K [.dat false p.d, .dat false (Th.op o a b).d, .dat false (stD st), .dat false (.str o.w), .dat false (.int (a.v p.m p.bs st : Nat)), .dat false (.int (b.v p.m p.bs st : Nat))] _ _
      rw [← ex, ← ey]
      refine sj_seq (sj_if ?_)
      refine wt_test (wd_op (wd_var rfl (wd_str (rd_eq (sh_str (op_ok o)) (sh_str (op_ok .plus)) ⟨_, rfl, ?_⟩))))
      rw [show (("plus" : Str)) = Op.w .plus from rfl, Op.eqW]
      refine iteD (fun h => ?_) (fun h1 => sj_next ?_)
      · subst h
        refine sj_retD true (wd_lf ?_)
        walk_at "v"
        refine rd_pgM ?_
        walk_at "v"
        rw [cast_add]
        exact ⟨rfl, kp, q⟩
      refine sj_seq (sj_if ?_)
      refine wt_test (wd_op (wd_var rfl (wd_str (rd_eq (sh_str (op_ok o)) (sh_str (op_ok .times)) ⟨_, rfl, ?_⟩))))
      rw [show (("times" : Str)) = Op.w .times from rfl, Op.eqW]
      refine iteD (fun h => ?_) (fun h2 => sj_next ?_)
      · subst h
        refine sj_retD true (wd_lf ?_)
        walk_at "v"
        refine rd_pgM ?_
        walk_at "v"
        rw [cast_mul]
        exact ⟨rfl, kp, q⟩
      refine sj_seq (sj_if ?_)
      refine wt_test (wd_op (wd_var rfl (wd_str (rd_eq (sh_str (op_ok o)) (sh_str (op_ok .less)) ⟨_, rfl, ?_⟩))))
      rw [show (("less" : Str)) = Op.w .less from rfl, Op.eqW]
      refine iteD (fun h => ?_) (fun h3 => sj_next ?_)
      · subst h
        refine sj_retD true (wd_lf ?_)
        walk_at "v"
        rw [int_less p.m]
        exact ⟨rfl, kp, q⟩
      have ho : o = .same := by cases o <;> simp_all
      subst ho
      refine sj_retD true (wd_lf ?_)
      walk_at "v"
      rw [eqv_int]
      rw [int_same p.m]
      exact ⟨rfl, kp, q⟩
theorem ok_lworth (D : Def K mg "_law_worth" s_l_worth ["program", "thing", "store"]) (m_int : mg "int" = none) (m_dict : mg "dict" = none) (m_zip : mg "zip" = none) : ∀ n, Cal P w K mg base CX0 (k + n) "_law_worth" ["program", "thing", "store"] (spG K (T_worth n K))
  | 0 => by
    refine (cal_no D).imp fun vs H Q E h => ?_
    obtain ⟨_, _, _, _, _, _, _, _, _, ⟨p, t, st, _, _, _, h0, _⟩, _⟩ := h
    cases h0
  | n + 1 => by
    have ih := ok_lworth D m_int m_dict m_zip n
    refine cal_g D sc_l_worth (fun Γ Qr ⟨p, t, st, e, _⟩ => by subst e; exact ⟨rfl, noMl_dat (noMl_dat (noMl_dat noMl_nil))⟩) fun f cdv A outer s H E hr => ⟨_, wk_l_worth ih m_int m_dict m_zip f cdv A outer s H E hr, ?_⟩
    rintro Γ Qr ⟨p, t, st, rfl, hmb, hst, hok, q⟩
    have hm2 := hmb.m2
    have hm16 := hmb.m16
    have kp : ∀ {Γ'}, Keep [.dat false p.d, .dat false t.d, .dat false (stD st)] (.dat false p.d :: .dat false t.d :: .dat false (stD st) :: Γ') := fun {Γ'} => keep_dat (keep_dat (keep_dat keep_nil))
    show SJ K [.dat false p.d, .dat false t.d, .dat false (stD st), .no, .no, .no] (t_l_worth K _) _
    unfold t_l_worth
    refine sj_seq (sj_if ?_)
    refine wt_test (wd_op (wd_op (wd_var rfl (wd_int (rd_th0 (wd_str (rd_eq (sh_str t.w_ok) (sh_str (ok_w (by simp))) ⟨_, rfl, ?_⟩)))))))
    rw [Th.eqN]
    cases t with
    | num n =>
      refine iteT' rfl (sj_retD true (wd_lf (wd_op (wd_var rfl (wd_int (rd_ixT (d := .int n) rfl ?_))))))
      exact ⟨rfl, kp, q⟩
    | box x =>
      have hx : x ∈ p.bs := hok
      refine iteF' rfl (sj_next ?_)
      refine sj_seq (sj_if ?_)
      refine wt_test (wd_op (wd_op (wd_var rfl (wd_int (rd_th0 (wd_str (rd_eq (sh_str (Th.w_ok (.box x))) (sh_str (ok_w (by simp))) ⟨_, rfl, ?_⟩)))))))
      rw [Th.eqB]
      refine iteT' rfl (sj_retD true ?_)
      refine wd_dzip (wa_d (wd_op (wd_var rfl (wd_int (rd_pgB (wa_d (wd_var rfl (wa_nil ⟨p.bs, _, rfl, hmb.bs.nd, by rw [List.length_map]; exact hst.len.symm, ?_⟩))))))))
      refine wd_op (wd_var rfl (wd_int (rd_ixT (d := .str x) rfl ⟨p.bs.idxOf x, x, .int (at_ p.bs st x : Nat), rfl, idx_at hx, ?_, rfl, kp, q⟩)))
      rw [List.getElem?_map, at_get hst hx]; rfl
    | op o a b =>
      refine iteF' rfl (sj_next ?_)
      refine sj_seq (sj_if ?_)
      refine wt_test (wd_op (wd_op (wd_var rfl (wd_int (rd_th0 (wd_str (rd_eq (sh_str (Th.w_ok (.op o a b))) (sh_str (ok_w (by simp))) ⟨_, rfl, ?_⟩)))))))
      rw [Th.eqB]
      refine iteF' rfl (sj_next ?_)
      refine sj_seq (sj_set false ?_)
      refine wd_call3 (wd_var rfl (wd_op (wd_var rfl (wd_int (rd_ixT (d := a.d) rfl (wd_var rfl ⟨p, a, st, rfl, hmb, hst, hok.1, asD_new ?_⟩))))))
      refine sj_seq (sj_set false ?_)
      refine wd_call3 (wd_var rfl (wd_op (wd_var rfl (wd_int (rd_ixT (d := b.d) rfl (wd_var rfl ⟨p, b, st, rfl, hmb, hst, hok.2, asD_new ?_⟩))))))
      have ha := Th.v_lt hm2 hst hok.1
      have hb := Th.v_lt hm2 hst hok.2
      have eq : (Th.op o a b).v p.m p.bs st = o.v p.m (a.v p.m p.bs st) (b.v p.m p.bs st) := rfl
      rw [eq] at q
      obtain ⟨x, ex⟩ : ∃ x, x = a.v p.m p.bs st := ⟨_, rfl⟩
      obtain ⟨y, ey⟩ : ∃ y, y = b.v p.m p.bs st := ⟨_, rfl⟩
      rw [← ex] at q ha
      rw [← ey] at q hb
      show SJ K [.dat false p.d, .dat false (Th.op o a b).d, .dat false (stD st), .dat false (.int (a.v p.m p.bs st : Nat)), .dat false (.int (b.v p.m p.bs st : Nat)), .no] _ _
      rw [← ex, ← ey]
      refine sj_seq (sj_setX (wx_disp2 (show ("plus" : Str) ≠ "times" by decide +kernel) ?_))
      walk_at "v"
      refine rd_pgM ?_
      walk_at "v"
      refine rd_pgM ?_
      walk_at "v"
      refine ⟨rfl, rfl, fun v => ?_⟩
      rw [cast_add, cast_mul]
      show SJ K [.dat false p.d, .dat false (Th.op o a b).d, .dat false (stD st), .dat false (.int x), .dat false (.int y), .ex v (DkO K [("plus", .int ((x + y) % p.m : Nat)), ("times", .int (x * y % p.m : Nat))])] _ _
      refine sj_retD true (wd_dget2 (i := 5) (v := v) (kvs := [("plus", .int ((x + y) % p.m : Nat)), ("times", .int (x * y % p.m : Nat))]) rfl ?_)
      refine wd_op (wd_var rfl (wd_int (rd_th0 ⟨_, rfl, ?_⟩)))
      refine wd_op (wd_lst2 ?_)
      walk_at "v"
      rw [eqv_int]
      refine rd_th0 (wd_str (rd_eq (sh_str (op_ok o)) (sh_str (op_ok .less)) ?_))
      refine rc_intB ?_
      rw [show (("less" : Str)) = Op.w .less from rfl, show (Th.op o a b).w = o.w from rfl, Op.eqW]
      cases o with
      | plus =>
        refine rd_selN 0 rfl rfl ⟨rfl, kp, ?_⟩
        rw [getOr_op]
        exact q
      | times =>
        refine rd_selN 0 rfl rfl ⟨rfl, kp, ?_⟩
        rw [getOr_op]
        exact q
      | less =>
        refine rd_selN 1 rfl rfl ⟨rfl, kp, ?_⟩
        rw [getOr_op, int_less p.m]
        exact q
      | same =>
        refine rd_selN 0 rfl rfl ⟨rfl, kp, ?_⟩
        rw [getOr_op, int_same p.m]
        exact q
theorem deep_sj (n : Nat) : ∀ Γ Qr, T_deep n K Γ Qr → SJ K (Γ ++ List.replicate (2 - Γ.length) .no) (t_l_deep K (spG K fun Γ Q => ∃ n', n = n' + 1 ∧ T_deep n' K Γ Q)) (retP Γ Qr) := by
  rintro Γ Qr ⟨d, rfl, hd, q⟩
  show SJ K [.dat false d, .no] (t_l_deep K _) _
  unfold t_l_deep
  have rest : Pk.lf d = true → isTy d "list" = false → isTy d "tuple" = false → SJ K [.dat false d, .no] (t_l_deep K (spG K fun Γ Q => ∃ n', n = n' + 1 ∧ T_deep n' K Γ Q)) (retP [.dat false d] Qr) := fun hf h1 h2 => by
    unfold t_l_deep
    refine sj_seq (sj_if (wt_B (wd_isi (by decide) (wd_var rfl ⟨_, rfl, iteF' h1 (sj_next ?_)⟩))))
    refine sj_seq (sj_if (wt_B (wd_isi (by decide) (wd_var rfl ⟨_, rfl, iteF' h2 (sj_next ?_)⟩))))
    refine sj_retD true (wd_lf (wd_var rfl ⟨hf, keep_dat keep_nil, q⟩))
  have item : ∀ (ds : List PyData) (n' : Nat), n = n' + 1 → (∀ x ∈ ds, cpy n' x) → ∀ (i : Nat) (x : PyData), ds[i]? = some x → ∀ d, WD K true ([.dat false d, .dat false x]) (tCall (spG K fun Γ Q => ∃ n', n = n' + 1 ∧ T_deep n' K Γ Q) [] E0 (tCons (tVar 1) tNil)) fun y => y = id x := fun ds n' en hc i x hx d => by
    refine wd_call1 (wd_var rfl ⟨n', en, x, rfl, hc x (List.mem_of_getElem? hx), asD_new rfl⟩)
  cases d with
  | none => exact rest rfl rfl rfl
  | bool b => exact rest rfl rfl rfl
  | int i => exact rest rfl rfl rfl
  | str x => exact rest rfl rfl rfl
  | dict x => cases n <;> exact hd.elim
  | list ds =>
    cases n with
    | zero => exact hd.elim
    | succ n =>
      refine sj_seq (sj_if (wt_B (wd_isi (by decide) (wd_var rfl ⟨_, rfl, iteT' rfl ?_⟩))))
      refine sj_retD true (wd_lcMa (mi := false) (α := PyData) id id (wipeOk_no rfl wipeOk_nil) gwn (wi_list (wd_var rfl ⟨ds, rfl, ds, by simp, hd.1, fun i x hx => gj_name ⟨rfl, ?_⟩, ?_⟩)))
      · exact item ds n rfl hd.2 i x hx (.list ds)
      · rw [List.map_id]
        exact ⟨keep_dat keep_nil, q⟩
  | tuple ds =>
    cases n with
    | zero => exact hd.elim
    | succ n =>
      refine sj_seq (sj_if (wt_B (wd_isi (by decide) (wd_var rfl ⟨_, rfl, iteF' rfl (sj_next ?_)⟩))))
      refine sj_seq (sj_if (wt_B (wd_isi (by decide) (wd_var rfl ⟨_, rfl, iteT' rfl ?_⟩))))
      refine sj_retD true (wd_cb1 (wd_lcMa (mi := false) (α := PyData) id id (wipeOk_no rfl wipeOk_nil) gwn (wi_tup (wd_var rfl ⟨ds, rfl, ds, by simp, hd.1, fun i x hx => gj_name ⟨rfl, ?_⟩, ?_⟩))))
      · exact item ds n rfl hd.2 i x hx (.tuple ds)
      · rw [List.map_id]
        exact rc_tupleL ⟨keep_dat keep_nil, q⟩
theorem ok_deep (D : Def K mg "_law_deep" s_l_deep ["thing"]) (m_isinstance : mg "isinstance" = none) (m_tuple : mg "tuple" = none) (m_list : mg "list" = none) : ∀ n, Cal P w K mg base CX0 (k + n + 1) "_law_deep" ["thing"] (spG K (T_deep n K)) := fun n => by
  have ih : ∃ c : Cal P w K mg base CX0 (k + n) "_law_deep" ["thing"] (spG K fun Γ Q => ∃ n', n = n' + 1 ∧ T_deep n' K Γ Q), True := by
    cases n with
    | zero =>
      refine ⟨(cal_no D).imp fun vs H Q E h => ?_, trivial⟩
      obtain ⟨_, _, _, _, _, _, _, _, _, ⟨n', h0, _⟩, _⟩ := h
      omega
    | succ n =>
      refine ⟨(ok_deep D m_isinstance m_tuple m_list n).imp fun vs H Q E h => ?_, trivial⟩
      obtain ⟨X, F, Γ, Qr, h1, h2, h3, h4, h5, ⟨n', h0, h6⟩, h7⟩ := h
      have : n' = n := by omega
      subst this
      exact ⟨X, F, Γ, Qr, h1, h2, h3, h4, h5, h6, h7⟩
  obtain ⟨ih, _⟩ := ih
  refine cal_g D sc_l_deep (fun Γ Qr ⟨d, e, _⟩ => by subst e; exact ⟨rfl, noMl_dat noMl_nil⟩) fun f cdv A outer s H E hr => ⟨_, wk_l_deep ih m_isinstance m_tuple m_list f cdv A outer s H E hr, ?_⟩
  exact deep_sj n
end
end Dk
end
section
set_option Elab.async false
set_option linter.all false
set_option maxRecDepth 100000
/-! Single runs: the program's side. -/
open PySem L2 Pk
local macro_rules | `(tactic| walk_at "sh") => `(tactic| first | exact sh_int | exact sh_bool | exact sh_non | exact sh_nil | exact sh_str (by decide +kernel) | assumption)
local macro_rules | `(tactic| walk_at "v1") => `(tactic| first
  | (with_reducible refine wd_int ?_) | (with_reducible refine wd_str ?_) | (with_reducible refine wd_bl ?_) | (with_reducible refine wd_non ?_)
  | ((with_reducible apply wd_var); exact rfl) | ((with_reducible apply wd_varN); exact rfl)
  | ((with_reducible apply wd_ixm); exact rfl)
  | ((with_reducible apply wd_lenM); exact rfl) | ((with_reducible apply wd_lenScript); exact rfl) | ((with_reducible apply wd_ixScript); exact rfl)
  | (with_reducible refine wd_op ?_) | (with_reducible refine wd_un ?_)
  | (with_reducible refine rd_add ?_) | (with_reducible refine rd_sub ?_) | (with_reducible refine rd_lt ?_) | (with_reducible refine rd_le ?_) | (with_reducible refine rd_gt ?_) | (with_reducible refine rd_ge ?_) | (with_reducible refine ru_neg ?_)
  | ((with_reducible refine rd_eq ?ev_h ?ev_k ?_); (case ev_h => walk_at "sh"); (case ev_k => walk_at "sh")) | ((with_reducible refine rd_ne ?ev_h ?ev_k ?_); (case ev_h => walk_at "sh"); (case ev_k => walk_at "sh"))
  | ((with_reducible refine rd_mod ?ev_h ?_); case ev_h => first | decide | assumption | omega) | ((with_reducible refine rd_div ?ev_h ?ev_k ?_); (case ev_h => first | decide | assumption | omega); (case ev_k => first | decide | assumption | omega))
  | ((with_reducible refine rd_pow ?ev_h ?_); case ev_h => exact ⟨by decide, by decide, by decide⟩)
  | ((with_reducible refine rd_mul ?ev_h ?_); case ev_h => first | exact .inr ⟨by decide, by decide⟩ | exact .inl ⟨by decide, by decide⟩ | exact .inl ⟨by omega, by omega⟩ | exact .inr ⟨by omega, by omega⟩)
  | (with_reducible refine rc_lenL ?_) | (with_reducible refine rc_lenT ?_) | (with_reducible refine rc_max2 ?_) | (with_reducible refine rc_min2 ?_) | (with_reducible refine rc_intB ?_) | (with_reducible refine rc_intI ?_) | (with_reducible refine rc_listL ?_) | (with_reducible refine rc_listT ?_) | (with_reducible refine rc_tupleL ?_)
  | ((with_reducible apply rd_ixT); exact rfl)
  | ((with_reducible apply rd_ixL); exact rfl)
  | ((with_reducible refine wd_isi ?ev_h ?_); case ev_h => decide) | ((with_reducible refine wd_isi2 ?ev_h ?ev_k ?_); (case ev_h => decide); (case ev_k => decide))
  | (with_reducible refine wd_tup2 ?_) | (with_reducible refine wd_tup1 ?_) | (with_reducible refine wd_tup3 ?_) | (with_reducible refine wd_tup0 ?_)
  | (with_reducible refine wd_lst0 ?_) | (with_reducible refine wd_lst1 ?_) | (with_reducible refine wd_lst2 ?_) | (with_reducible refine wd_lst3 ?_) | (with_reducible refine wd_lst4 ?_) | (with_reducible refine wd_lst5 ?_) | (with_reducible refine wd_lst6 ?_)
  | ((with_reducible apply wd_callO0); exact rfl) | ((with_reducible apply wd_callO1); exact rfl) | ((with_reducible apply wd_callO2); exact rfl) | ((with_reducible apply wd_callO3); exact rfl)
  | (with_reducible refine wd_call1 ?_) | (with_reducible refine wd_call2 ?_) | (with_reducible refine wd_call3 ?_) | (with_reducible refine wd_call4 ?_) | (with_reducible refine wd_call0 ?_)
  | (with_reducible refine wd_cb1 ?_) | (with_reducible refine wd_cb2 ?_)
  | (with_reducible refine wd_rev ?_) | (with_reducible refine wd_lrg1 ?_) | (with_reducible refine wd_sl ?_) | (with_reducible refine wo_no ?_) | (with_reducible refine wo_some ?_)
  | (with_reducible refine wd_andV ?_) | (with_reducible refine wd_orV ?_) | (with_reducible refine wd_notV ?_) | (with_reducible refine wd_if ?_) | (with_reducible refine wd_chain ?_)
  | (with_reducible refine wt_test ?_) | (with_reducible refine wt_B ?_) | (with_reducible refine wt_not ?_) | (with_reducible refine wt_and ?_) | (with_reducible refine wt_or ?_) | (with_reducible refine wt_yes ?_)
  | (with_reducible refine gj_name ?_) | (with_reducible refine gj_tup rfl ?_) | (with_reducible refine gjs_cons ?_) | (with_reducible refine gjs_nil ?_))
local macro_rules | `(tactic| walk_at "v") => `(tactic| repeat walk_at "v1")
local macro_rules | `(tactic| walk_at "x") => `(tactic| refine ⟨_, rfl, ?_⟩)
local macro_rules | `(tactic| walk_at "vx") => `(tactic| repeat (first | walk_at "v1" | (with_reducible refine ⟨_, rfl, ?_⟩)))
namespace Dk
open PySem PySem.Spec PyProof.Rows L2 Pk Sy Pz
def T_isplace (K : PySem.W.Frag) : List Sl → (Sl → Prop) → Prop := fun Γ Q => ∃ wy : Wy, Γ = [.dat false wy.d] ∧ Q (.dat true (.bool wy.isPl))
def T_poe (K : PySem.W.Frag) : List Sl → (Sl → Prop) → Prop := fun Γ Q => ∃ p : Pg, ∃ row : Nat, ∃ st, Γ = [.dat false p.d, .dat false (.int row), .dat false (stD st)] ∧ Q (.dat true (poe p row st).d)
def T_begin (K : PySem.W.Frag) : List Sl → (Sl → Prop) → Prop := fun Γ Q => ∃ p : Pg, ∃ st, Γ = [.dat false p.d, .dat false (stD st)] ∧ Q (.dat true (poe p 0 st).d)
def T_put (K : PySem.W.Frag) : List Sl → (Sl → Prop) → Prop := fun Γ Q => ∃ p : Pg, ∃ st, ∃ x : Str, ∃ n : Nat, Γ = [.dat false p.d, .dat false (stD st), .dat false (.str x), .dat false (.int n)] ∧ p.Ok ∧ StOk p.m p.bs st ∧ x ∈ p.bs ∧ Q (.dat true (stD (put p.bs st x n)))
def T_ways (K : PySem.W.Frag) : List Sl → (Sl → Prop) → Prop := fun Γ Q => ∃ p : Pg, ∃ row : Nat, ∃ st, Γ = [.dat false p.d, .dat false (Wy.place row st).d] ∧ p.Ok ∧ row < p.rows.length ∧ StOk p.m p.bs st ∧ Q (.dat true (.list ((ways p row st).map Wy.d)))
def T_ispick (K : PySem.W.Frag) : List Sl → (Sl → Prop) → Prop := fun Γ Q => ∃ p : Pg, ∃ row : Nat, ∃ st, Γ = [.dat false p.d, .dat false (Wy.place row st).d] ∧ row < p.rows.length ∧ Q (.dat true (.bool (isPickAt p row)))
def T_walked (K : PySem.W.Frag) : List Sl → (Sl → Prop) → Prop := fun Γ Q => ∃ p : Pg, ∃ st cs, ∃ e : Wy, Γ = [.dat false p.d, .dat false (stD st), .dat false (natsD cs)] ∧ p.Ok ∧ StOk p.m p.bs st ∧ Goes p (poe p 0 st) cs e ∧ ∀ l (ws : List Wy), Q (.ml false l ((ws ++ [e]).map Wy.d))
def T_endof (K : PySem.W.Frag) : List Sl → (Sl → Prop) → Prop := fun Γ Q => ∃ p : Pg, ∃ st cs, ∃ e : Wy, Γ = [.dat false p.d, .dat false (stD st), .dat false (natsD cs)] ∧ p.Ok ∧ StOk p.m p.bs st ∧ Goes p (poe p 0 st) cs e ∧ Q (.dat true e.d)
section
variable {P : Program} {w : World} {K : PySem.W.Frag} {mg : Str → Option Value} {base : Heap} {k : Nat}
theorem ok_isplace (D : Def K mg "is_place" s_is_place ["way"]) (m_isinstance : mg "isinstance" = none) (m_int : mg "int" = none) : Cal P w K mg base CX0 (k + 1) "is_place" ["way"] (spG K (T_isplace K)) := by
  refine cal_g D sc_is_place (fun Γ Qr ⟨wy, e, _⟩ => by subst e; exact ⟨rfl, noMl_dat noMl_nil⟩) fun f cdv A outer s H E hr => ⟨_, wk_is_place m_isinstance m_int f cdv A outer s H E hr, ?_⟩
  rintro Γ Qr ⟨wy, rfl, q⟩
  show SJ K [.dat false wy.d] (t_is_place K) _
  unfold t_is_place
  refine sj_retD true (wd_lf (wd_isi (by decide) (wd_op (wd_var rfl (wd_int (rd_w0 ⟨rfl, keep_dat keep_nil, ?_⟩))))))
  cases wy <;> exact q
theorem ok_poe {a_N : Addr} (D : Def K mg "place_or_end" s_place_or_end ["program", "row", "store"]) (m_len : mg "len" = none) (g_N : mg "NOTHING" = some (.ref a_N)) (k_N : TupK K a_N ["nothing"]) : Cal P w K mg base CX0 (k + 1) "place_or_end" ["program", "row", "store"] (spG K (T_poe K)) := by
  refine cal_g D sc_place_or_end (fun Γ Qr ⟨p, row, st, e, _⟩ => by subst e; exact ⟨rfl, noMl_dat (noMl_dat (noMl_dat noMl_nil))⟩) fun f cdv A outer s H E hr => ⟨_, wk_place_or_end m_len g_N f cdv A outer s H E hr, ?_⟩
  rintro Γ Qr ⟨p, row, st, rfl, q⟩
  show SJ K [.dat false p.d, .dat false (.int row), .dat false (stD st)] (t_place_or_end K a_N) _
  unfold t_place_or_end
  refine sj_seq (sj_if ?_)
  walk_at "v"
  refine rd_pgR ?_
  refine rc_lenL ?_
  rw [List.length_map]
  walk_at "v"
  refine ⟨_, rfl, iteD (fun h => ?_) (fun h => sj_next ?_)⟩
  · rw [poe_end (by omega)] at q
    exact sj_retD true (wd_tupK k_N ⟨keep_dat (keep_dat (keep_dat keep_nil)), q⟩)
  · rw [poe_pl (by omega)] at q
    refine sj_retD true (wd_lf (wd_tup2 ?_))
    walk_at "v"
    exact ⟨(Wy.place row st).lf, keep_dat (keep_dat (keep_dat keep_nil)), q⟩
theorem ok_begin (D : Def K mg "begin_of" s_begin_of ["program", "store"]) (c_poe : Cal P w K mg base CX0 k "place_or_end" ["program", "row", "store"] (spG K (T_poe K))) : Cal P w K mg base CX0 (k + 1) "begin_of" ["program", "store"] (spG K (T_begin K)) := by
  refine cal_g D sc_begin_of (fun Γ Qr ⟨p, st, e, _⟩ => by subst e; exact ⟨rfl, noMl_dat (noMl_dat noMl_nil)⟩) fun f cdv A outer s H E hr => ⟨_, wk_begin_of c_poe f cdv A outer s H E hr, ?_⟩
  rintro Γ Qr ⟨p, st, rfl, q⟩
  show SJ K [.dat false p.d, .dat false (stD st)] (t_begin_of K _) _
  unfold t_begin_of
  refine sj_retD true ?_
  walk_at "v"
  exact ⟨p, 0, st, rfl, asD_new ⟨keep_dat (keep_dat keep_nil), q⟩⟩
theorem ok_swith (D : Def K mg "store_with" s_store_with ["program", "store", "box", "worth"]) : Cal P w K mg base CX0 (k + 1) "store_with" ["program", "store", "box", "worth"] (spG K (T_put K)) := by
  refine cal_g D sc_store_with (fun Γ Qr ⟨p, st, x, n, e, _⟩ => by subst e; exact ⟨rfl, noMl_dat (noMl_dat (noMl_dat (noMl_dat noMl_nil)))⟩) fun f cdv A outer s H E hr => ⟨_, wk_store_with f cdv A outer s H E hr, ?_⟩
  rintro Γ Qr ⟨p, st, x, n, rfl, hp, hst, hx, q⟩
  have hi : p.bs.idxOf x < st.length := by rw [hst.len]; exact idx_lt hx
  have h5 := hp.bs.len5
  have hl := hst.len
  show SJ K [.dat false p.d, .dat false (stD st), .dat false (.str x), .dat false (.int n), .no] (t_store_with K) _
  unfold t_store_with
  refine sj_seq (sj_set false ?_)
  refine wd_nameIx hp.bs.nm hx (wd_op (wd_var rfl (wd_int (rd_pgB ⟨rfl, wd_var rfl ⟨rfl, ?_⟩⟩))))
  show SJ K [.dat false p.d, .dat false (stD st), .dat false (.str x), .dat false (.int n), .dat false (.int (p.bs.idxOf x : Nat))] _ _
  refine sj_retD true (wd_lf ?_)
  refine wd_op (wd_op (wd_slT (wd_var rfl ⟨_, rfl, wo_no (wo_some (wd_var rfl ⟨_, rfl, ?_⟩))⟩)))
  refine wd_tup1 (wd_var rfl (rd_catT ?_ ?_))
  · rw [cut_take (by simp; omega)]
    simp
    omega
  refine wd_slT (wd_var rfl ⟨_, rfl, wo_some ?_⟩)
  walk_at "v"
  refine ⟨_, rfl, wo_no (rd_catT ?_ ?_)⟩
  · have e1 : ((p.bs.idxOf x : Nat) : Int) + 1 = ((p.bs.idxOf x + 1 : Nat) : Int) := by omega
    rw [e1, cut_take (by simp; omega), cut_drop (by simp; omega)]
    simp
    omega
  have e1 : ((p.bs.idxOf x : Nat) : Int) + 1 = ((p.bs.idxOf x + 1 : Nat) : Int) := by omega
  rw [e1, put_data hi]
  exact ⟨st_lf _, keep_dat (keep_dat (keep_dat (keep_dat keep_nil))), q⟩
theorem ok_ispick (D : Def K mg "is_pick" s_is_pick ["program", "place"]) : Cal P w K mg base CX0 (k + 1) "is_pick" ["program", "place"] (spG K (T_ispick K)) := by
  refine cal_g D sc_is_pick (fun Γ Qr ⟨p, row, st, e, _⟩ => by subst e; exact ⟨rfl, noMl_dat (noMl_dat noMl_nil)⟩) fun f cdv A outer s H E hr => ⟨_, wk_is_pick f cdv A outer s H E hr, ?_⟩
  rintro Γ Qr ⟨p, row, st, rfl, hrow, q⟩
  show SJ K [.dat false p.d, .dat false (Wy.place row st).d] (t_is_pick K) _
  unfold t_is_pick
  have hr : p.rows[row]? = some p.rows[row] := by simp [hrow]
  rw [pick_at hr] at q
  refine sj_retD true (wd_lf ?_)
  refine wd_op (wd_op (wd_op (wd_op (wd_var rfl (wd_int (rd_pgR (wd_op (wd_var rfl (wd_int (rd_ixT (d := .int row) rfl (rd_row hr (wd_int (rd_rk (wd_str ?_))))))))))))))
  refine rd_w (b := .pick) ⟨rfl, keep_dat (keep_dat keep_nil), ?_⟩
  have : decide (p.rows[row].kd = Kd.pick) = p.rows[row].isPick := by cases p.rows[row] <;> rfl
  rw [this]
  exact q
theorem ok_ways {a_N : Addr} (D : Def K mg "ways_from" s_ways_from ["program", "place"]) (c_poe : Cal P w K mg base CX0 k "place_or_end" ["program", "row", "store"] (spG K (T_poe K))) (c_worth_in : Cal P w K mg base CX0 k "worth_in" ["program", "thing", "store"] (spG K (T_worth 4 K))) (c_swith : Cal P w K mg base CX0 k "store_with" ["program", "store", "box", "worth"] (spG K (T_put K))) (g_N : mg "NOTHING" = some (.ref a_N)) (k_N : TupK K a_N ["nothing"]) : Cal P w K mg base CX0 (k + 1) "ways_from" ["program", "place"] (spG K (T_ways K)) := by
  refine cal_g D sc_ways_from (fun Γ Qr ⟨p, row, st, e, _⟩ => by subst e; exact ⟨rfl, noMl_dat (noMl_dat noMl_nil)⟩) fun f cdv A outer s H E hr => ⟨_, wk_ways_from c_poe c_worth_in c_swith g_N f cdv A outer s H E hr, ?_⟩
  rintro Γ Qr ⟨p, row, st, rfl, hp, hrow, hst, q⟩
  have kp : ∀ {Γ'}, Keep [.dat false p.d, .dat false (Wy.place row st).d] (.dat false p.d :: .dat false (Wy.place row st).d :: Γ') := fun {Γ'} => keep_dat (keep_dat keep_nil)
  show SJ K [.dat false p.d, .dat false (Wy.place row st).d, .no, .no, .no, .no, .no, .no, .no, .no, .no, .no] (t_ways_from K _ _ _ a_N) _
  unfold t_ways_from
  have hr : p.rows[row]? = some p.rows[row] := by simp [hrow]
  rw [ways_at hr] at q
  have hok := hp.rows _ (List.mem_of_getElem? hr)
  obtain ⟨r, er⟩ : ∃ r, p.rows[row] = r := ⟨_, rfl⟩
  rw [er] at hr q hok
  refine sj_seq (sj_asg false (wd_var rfl ?_))
  refine gj_tup (n := 2) (ds := [.int row, stD st]) rfl ?_
  walk_at "v"
  refine sj_seq (sj_set false ?_)
  walk_at "v"
  refine rd_pgR ?_
  walk_at "v"
  refine rd_row hr ?_
  refine sj_seq (sj_set false (wd_op (wd_var rfl (wd_int (rd_rk ?_)))))
  show SJ K [.dat false p.d, .dat false (Wy.place row st).d, .dat false (.int row), .dat false (stD st), .dat false r.d, .dat false (.str r.kd.w), .no, .no, .no, .no, .no, .no] _ _
  have sht : SeqAt.shaped (.tuple [.str "set", .str "pick"]) = true := sh_of (n := 1) (fun x hx => by
    simp at hx
    rcases hx with rfl | rfl
    · exact dep_str (Kd.ok .set)
    · exact dep_str (Kd.ok .pick)) (by decide)
  -- the rows that set
  have many : ∀ (x : Str) (ts : List Th) (r : Rw), (∀ {m Γ Q}, Q (.str x) → RD K m Γ (rIx K) r.d (.int 1) Q) → x ∈ p.bs → ts.length ≤ 5 → (∀ t ∈ ts, t.Ok p.m p.bs 4) → Qr (.dat true (.list ((ts.map fun t => poe p (row + 1) (put p.bs st x (tv p st t))).map Wy.d))) → ∀ wd : Sl, ∀ Po, Po.rt = (retP [.dat false p.d, .dat false (Wy.place row st).d] Qr).rt →
      SJ K [.dat false p.d, .dat false (Wy.place row st).d, .dat false (.int row), .dat false (stD st), .dat false r.d, wd, .dat false (.list (ts.map Th.d)), .no, .no, .no, .no, .no] (tSeq (tAsg (tLc (iList K (tVar 6)) (gName 8) tYes (tCall (spG K (T_put K)) [] E0 (tCons (tVar 0) (tCons (tVar 3) (tCons (tOp (rIx K) (tVar 4) (tC (.int 1))) (tCons (tCall (spG K (T_worth 4 K)) [] E0 (tCons (tVar 0) (tCons (tVar 8) (tCons (tVar 3) tNil)))) tNil))))) [8]) (gName 7))
        (tRet (tLc (iList K (tVar 7)) (gName 9) tYes (tCall (spG K (T_poe K)) [] E0 (tCons (tVar 0) (tCons (tOp (dAdd K) (tVar 2) (tC (.int 1))) (tCons (tVar 9) tNil)))) [9]))) Po := fun x ts r hx1 hx h5 hts hq wd Po hPo => by
    refine sj_seq (sj_set false (wd_lcMa (mi := false) Th.d (fun t => stD (put p.bs st x (tv p st t))) (wipeOk_no rfl wipeOk_nil) gwn (wi_list (wd_var rfl ⟨_, rfl, ts, rfl, by omega, fun i t ht => gj_name ⟨rfl, ?_⟩, ?_⟩))))
    · refine wd_call4 (wd_var rfl (wd_var rfl (wd_op (wd_var rfl (wd_int (hx1 ?_))))))
      refine wd_call3 (wd_var rfl (wd_var rfl (wd_var rfl ⟨p, t, st, rfl, hp.mb, hst, hts t (List.mem_of_getElem? ht), asD_new ?_⟩)))
      exact ⟨p, st, x, _, rfl, hp, hst, hx, asD_new rfl⟩
    refine sj_retD true (wd_lcMa (mi := false) (α := List Nat) stD (fun s => (poe p (row + 1) s).d) (wipeOk_no rfl wipeOk_nil) gwn (wi_list (wd_var rfl ⟨_, rfl, ts.map fun t => put p.bs st x (tv p st t), by simp, by rw [List.length_map]; omega, fun i s hs => gj_name ⟨rfl, ?_⟩, ?_⟩)))
    · walk_at "v"
      have e1 : (row : Int) + 1 = ((row + 1 : Nat) : Int) := by omega
      rw [e1]
      exact ⟨p, row + 1, s, rfl, asD_new rfl⟩
    · rw [hPo]
      refine ⟨kp, ?_⟩
      rw [List.map_map]
      rw [List.map_map] at hq
      exact hq
  refine sj_seq (sj_if ?_)
  refine wt_test (wd_op (wd_var rfl (wd_tup2 (wd_str (wd_str (rd_inT (sh_str r.kd.ok) sht ⟨_, rfl, ?_⟩))))))
  have hin : ([PyData.str "set", .str "pick"].any fun z => PyData.eqv z (.str r.kd.w)) = (decide (r.kd = .set) || decide (r.kd = .pick)) := by
    have e1 : PyData.eqv (.str "set") (.str r.kd.w) = decide (Kd.set = r.kd) := Kd.eqW .set r.kd
    have e2 : PyData.eqv (.str "pick") (.str r.kd.w) = decide (Kd.pick = r.kd) := Kd.eqW .pick r.kd
    simp only [List.any_cons, List.any_nil, Bool.or_false, e1, e2]
    cases r <;> rfl
  rw [hin]
  have worth : ∀ (t : Th) (r : Rw) {Po : Po} {ts : TS}, (∀ {m Γ Q}, Q t.d → RD K m Γ (rIx K) r.d (.int 1) Q) → t.Ok p.m p.bs 4 → SJ K [.dat false p.d, .dat false (Wy.place row st).d, .dat false (.int row), .dat false (stD st), .dat false r.d, .dat false (.str r.kd.w), .no, .no, .no, .no, .dat false (.int (tv p st t : Nat)), .no] ts Po → SJ K [.dat false p.d, .dat false (Wy.place row st).d, .dat false (.int row), .dat false (stD st), .dat false r.d, .dat false (.str r.kd.w), .no, .no, .no, .no, .no, .no] (tSeq (tAsg (tCall (spG K (T_worth 4 K)) [] E0 (tCons (tVar 0) (tCons (tOp (rIx K) (tVar 4) (tC (.int 1))) (tCons (tVar 3) tNil)))) (gName 10)) ts) Po := fun t r {Po ts} h1 ht hk => by
    refine sj_seq (sj_set false ?_)
    exact wd_call3 (wd_var rfl (wd_op (wd_var rfl (wd_int (h1 (wd_var rfl ⟨p, t, st, rfl, hp.mb, hst, ht, asD_new hk⟩))))))
  cases r with
  | set x t =>
    refine iteT' rfl ?_
    refine sj_seq (sj_set false (wd_op (wd_var rfl (wd_int (rd_ixT (d := t.d) rfl ?_)))))
    refine sj_seq (sj_if (wt_test (wd_op (wd_var rfl (wd_str (rd_w (a := .set) (b := .set) ⟨_, rfl, iteT' rfl ?_⟩))))))
    refine sj_set false (wd_lst1 (wd_op (wd_var rfl (wd_int (rd_ixT (d := t.d) rfl ?_)))))
    exact many x [t] (.set x t) (fun q => rd_ixT rfl q) hok.1 (by simp) (fun t' ht' => by simp at ht'; rw [ht']; exact hok.2) q _ _ rfl
  | pick x ts =>
    refine iteT' rfl ?_
    refine sj_seq (sj_set false (wd_op (wd_var rfl (wd_int (rd_ixT (d := .list (ts.map Th.d)) rfl ?_)))))
    refine sj_seq (sj_if (wt_test (wd_op (wd_var rfl (wd_str (rd_w (a := .pick) (b := .set) ⟨_, rfl, iteF' rfl (sj_next ?_)⟩))))))
    exact many x ts (.pick x ts) (fun q => rd_ixT rfl q) hok.1 hok.2.2.1 hok.2.2.2 q _ _ rfl
  | need t =>
    refine iteF' rfl (sj_next (worth t (.need t) (fun q => rd_ixT rfl q) hok ?_))
    refine sj_seq (sj_if (wt_test (wd_op (wd_var rfl (wd_str (rd_w (a := .need) (b := .give) ⟨_, rfl, iteF' rfl (sj_next ?_)⟩))))))
    refine sj_seq (sj_if (wt_and (wt_test (wd_op (wd_var rfl (wd_str (rd_w (a := .need) (b := .need) ⟨_, rfl, iteT' rfl ?_⟩)))))))
    walk_at "v"
    refine ⟨_, rfl, ?_⟩
    rw [eqv_int]
    refine iteD (fun h0 => ?_) (fun h0 => sj_next ?_)
    · have e : nxt p row st (.need t) = [.nothing] := by simp only [nxt]; rw [if_pos (by omega)]
      rw [e] at q
      exact sj_retD true (wd_lst1 (wd_tupK k_N ⟨kp, q⟩))
    · have e : nxt p row st (.need t) = [poe p (row + 1) st] := by simp only [nxt]; rw [if_neg (by omega)]
      rw [e] at q
      refine sj_seq (sj_set false (wd_int ?_))
      refine sj_seq (sj_if (wt_and (wt_test (wd_op (wd_var rfl (wd_str (rd_w (a := .need) (b := .skip) ⟨_, rfl, iteF' rfl (iteF' rfl (sj_next ?_))⟩)))))))
      refine sj_retD true (wd_lst1 ?_)
      walk_at "v"
      have e1 : (row : Int) + 1 + 0 = ((row + 1 : Nat) : Int) := by omega
      rw [e1]
      exact ⟨p, row + 1, st, rfl, asD_new ⟨kp, q⟩⟩
  | skip t k =>
    refine iteF' rfl (sj_next (worth t (.skip t k) (fun q => rd_ixT rfl q) hok.1 ?_))
    refine sj_seq (sj_if (wt_test (wd_op (wd_var rfl (wd_str (rd_w (a := .skip) (b := .give) ⟨_, rfl, iteF' rfl (sj_next ?_)⟩))))))
    refine sj_seq (sj_if (wt_and (wt_test (wd_op (wd_var rfl (wd_str (rd_w (a := .skip) (b := .need) ⟨_, rfl, iteF' rfl (iteF' rfl (sj_next ?_))⟩)))))))
    refine sj_seq (sj_set false (wd_int ?_))
    refine sj_cut (fun Γ' => ∃ s5 : Sl, Γ' = [.dat false p.d, .dat false (Wy.place row st).d, .dat false (.int row), .dat false (stD st), .dat false (Rw.skip t k).d, s5, .no, .no, .no, .no, .dat false (.int (tv p st t : Nat)), .dat false (.int ((if tv p st t = 0 then 0 else k : Nat)))]) (sj_if (wt_and (wt_test (wd_op (wd_var rfl (wd_str (rd_w (a := .skip) (b := .skip) ⟨_, rfl, iteT' rfl ?_⟩))))))) ?_
    · walk_at "v"
      refine ⟨_, rfl, ?_⟩
      rw [eqv_int]
      refine iteN (fun h0 => ?_) (fun h0 => sj_next ⟨.dat false (.str (Rw.skip t k).kd.w), ?_⟩)
      · refine sj_set false (wd_op (wd_var rfl (wd_int (rd_ixT (d := .int k) rfl ⟨.dat false (.str (Rw.skip t k).kd.w), ?_⟩))))
        rw [if_neg (by omega)]
        rfl
      · rw [if_pos (by omega)]
        rfl
    rintro _ ⟨s5, rfl⟩
    refine sj_retD true (wd_lst1 ?_)
    walk_at "v"
    have e1 : (row : Int) + 1 + ((if tv p st t = 0 then 0 else k : Nat) : Int) = ((row + 1 + (if tv p st t = 0 then 0 else k) : Nat) : Int) := by omega
    rw [e1]
    exact ⟨p, _, st, rfl, asD_new ⟨kp, q⟩⟩
  | give t =>
    refine iteF' rfl (sj_next (worth t (.give t) (fun q => rd_ixT rfl q) hok ?_))
    refine sj_seq (sj_if (wt_test (wd_op (wd_var rfl (wd_str (rd_w (a := .give) (b := .give) ⟨_, rfl, iteT' rfl ?_⟩))))))
    refine sj_retD true (wd_lst1 (wd_lf (wd_tup2 ?_)))
    walk_at "v"
    exact ⟨rfl, kp, q⟩
theorem atI_last_map {ws : List Wy} {wy : Wy} : atI ((ws ++ [wy]).map Wy.d) (-1) = some wy.d := by rw [List.map_append]; exact atI_lastD
end
end Dk
end
section
set_option Elab.async false
set_option linter.all false
set_option maxRecDepth 100000
/-! What is no store: need_store over any data, the law's odd things. -/
open PySem L2 Pk
local macro_rules | `(tactic| walk_at "sh") => `(tactic| first | exact sh_int | exact sh_bool | exact sh_non | exact sh_nil | exact sh_str (by decide +kernel) | assumption)
local macro_rules | `(tactic| walk_at "v1") => `(tactic| first
  | (with_reducible refine wd_int ?_) | (with_reducible refine wd_str ?_) | (with_reducible refine wd_bl ?_) | (with_reducible refine wd_non ?_)
  | ((with_reducible apply wd_var); exact rfl) | ((with_reducible apply wd_varN); exact rfl)
  | ((with_reducible apply wd_ixm); exact rfl)
  | ((with_reducible apply wd_lenM); exact rfl) | ((with_reducible apply wd_lenScript); exact rfl) | ((with_reducible apply wd_ixScript); exact rfl)
  | (with_reducible refine wd_op ?_) | (with_reducible refine wd_un ?_)
  | (with_reducible refine rd_add ?_) | (with_reducible refine rd_sub ?_) | (with_reducible refine rd_lt ?_) | (with_reducible refine rd_le ?_) | (with_reducible refine rd_gt ?_) | (with_reducible refine rd_ge ?_) | (with_reducible refine ru_neg ?_)
  | ((with_reducible refine rd_eq ?ev_h ?ev_k ?_); (case ev_h => walk_at "sh"); (case ev_k => walk_at "sh")) | ((with_reducible refine rd_ne ?ev_h ?ev_k ?_); (case ev_h => walk_at "sh"); (case ev_k => walk_at "sh"))
  | ((with_reducible refine rd_mod ?ev_h ?_); case ev_h => first | decide | assumption | omega) | ((with_reducible refine rd_div ?ev_h ?ev_k ?_); (case ev_h => first | decide | assumption | omega); (case ev_k => first | decide | assumption | omega))
  | ((with_reducible refine rd_pow ?ev_h ?_); case ev_h => exact ⟨by decide, by decide, by decide⟩)
  | ((with_reducible refine rd_mul ?ev_h ?_); case ev_h => first | exact .inr ⟨by decide, by decide⟩ | exact .inl ⟨by decide, by decide⟩ | exact .inl ⟨by omega, by omega⟩ | exact .inr ⟨by omega, by omega⟩)
  | (with_reducible refine rc_lenL ?_) | (with_reducible refine rc_lenT ?_) | (with_reducible refine rc_max2 ?_) | (with_reducible refine rc_min2 ?_) | (with_reducible refine rc_intB ?_) | (with_reducible refine rc_intI ?_) | (with_reducible refine rc_listL ?_) | (with_reducible refine rc_listT ?_) | (with_reducible refine rc_tupleL ?_)
  | ((with_reducible apply rd_ixT); exact rfl)
  | ((with_reducible apply rd_ixL); exact rfl)
  | ((with_reducible refine wd_isi ?ev_h ?_); case ev_h => decide) | ((with_reducible refine wd_isi2 ?ev_h ?ev_k ?_); (case ev_h => decide); (case ev_k => decide))
  | (with_reducible refine wd_tup2 ?_) | (with_reducible refine wd_tup1 ?_) | (with_reducible refine wd_tup3 ?_) | (with_reducible refine wd_tup0 ?_)
  | (with_reducible refine wd_lst0 ?_) | (with_reducible refine wd_lst1 ?_) | (with_reducible refine wd_lst2 ?_) | (with_reducible refine wd_lst3 ?_) | (with_reducible refine wd_lst4 ?_) | (with_reducible refine wd_lst5 ?_) | (with_reducible refine wd_lst6 ?_)
  | ((with_reducible apply wd_callO0); exact rfl) | ((with_reducible apply wd_callO1); exact rfl) | ((with_reducible apply wd_callO2); exact rfl) | ((with_reducible apply wd_callO3); exact rfl)
  | (with_reducible refine wd_call1 ?_) | (with_reducible refine wd_call2 ?_) | (with_reducible refine wd_call3 ?_) | (with_reducible refine wd_call4 ?_) | (with_reducible refine wd_call0 ?_)
  | (with_reducible refine wd_cb1 ?_) | (with_reducible refine wd_cb2 ?_)
  | (with_reducible refine wd_rev ?_) | (with_reducible refine wd_lrg1 ?_) | (with_reducible refine wd_sl ?_) | (with_reducible refine wo_no ?_) | (with_reducible refine wo_some ?_)
  | (with_reducible refine wd_andV ?_) | (with_reducible refine wd_orV ?_) | (with_reducible refine wd_notV ?_) | (with_reducible refine wd_if ?_) | (with_reducible refine wd_chain ?_)
  | (with_reducible refine wt_test ?_) | (with_reducible refine wt_B ?_) | (with_reducible refine wt_not ?_) | (with_reducible refine wt_and ?_) | (with_reducible refine wt_or ?_) | (with_reducible refine wt_yes ?_)
  | (with_reducible refine gj_name ?_) | (with_reducible refine gj_tup rfl ?_) | (with_reducible refine gjs_cons ?_) | (with_reducible refine gjs_nil ?_))
local macro_rules | `(tactic| walk_at "v") => `(tactic| repeat walk_at "v1")
local macro_rules | `(tactic| walk_at "x") => `(tactic| refine ⟨_, rfl, ?_⟩)
local macro_rules | `(tactic| walk_at "vx") => `(tactic| repeat (first | walk_at "v1" | (with_reducible refine ⟨_, rfl, ?_⟩)))
namespace Dk
open PySem PySem.Spec PyProof.Rows L2 Pk Sy
def isSt (m n : Nat) : PyData → Bool
  | .tuple xs => decide (xs.length = n) && xs.all fun x => isWhole x 0 ((m : Int) - 1)
  | _ => false
def StSh (d : PyData) : Prop := ∀ xs, d = .tuple xs → xs.length ≤ 100 ∧ ∀ x ∈ xs, Pk.dep 3 x
theorem whole_nat {x : PyData} {m : Nat} (h : isWhole x 0 ((m : Int) - 1) = true) : ∃ n : Nat, n < m ∧ x = .int n := by
  cases x with
  | int i =>
    simp only [isWhole, Bool.and_eq_true, decide_eq_true_eq] at h
    exact ⟨i.toNat, by omega, by congr 1; omega⟩
  | _ => cases h
theorem isSt_of {m n : Nat} {d : PyData} (h : isSt m n d = true) : ∃ st : List Nat, d = stD st ∧ st.length = n ∧ ∀ k ∈ st, k < m := by
  cases d with
  | tuple xs =>
    simp only [isSt, Bool.and_eq_true, decide_eq_true_eq, List.all_eq_true] at h
    obtain ⟨st, e, hst⟩ := list_of (f := fun (n : Nat) => PyData.int n) (Pr := fun n => n < m) (acc := xs) fun y hy => whole_nat (h.2 y hy)
    refine ⟨st, by rw [e], ?_, hst⟩
    rw [← h.1, e, List.length_map]
  | _ => cases h
theorem isSt_true {p : Pg} {st : List Nat} (h : StOk p.m p.bs st) : isSt p.m p.bs.length (stD st) = true := by
  simp only [isSt, Bool.and_eq_true, decide_eq_true_eq, List.all_eq_true, List.length_map]
  refine ⟨h.len, fun x hx => ?_⟩
  obtain ⟨n, hn, rfl⟩ := List.mem_map.mp hx
  have := h.lt n hn
  simp only [isWhole, Bool.and_eq_true, decide_eq_true_eq]
  omega
theorem stD_inj : ∀ {a b : List Nat}, stD a = stD b → a = b
  | [], [], _ => rfl
  | [], _ :: _, h => by cases h
  | _ :: _, [], h => by cases h
  | x :: a, y :: b, h => by
    have h' := PyData.tuple.inj h
    rw [List.map_cons, List.map_cons] at h'
    obtain ⟨h1, h2⟩ := List.cons.inj h'
    have e1 : x = y := by injection h1 with h1; omega
    have e2 : a = b := stD_inj (by show PyData.tuple _ = PyData.tuple _; rw [h2])
    rw [e1, e2]
theorem st_stSh {p : Pg} (hp : p.Ok) {st : List Nat} (h : StOk p.m p.bs st) : StSh (stD st) := fun xs e => by
  have := PyData.tuple.inj e
  subst this
  have h5 := hp.bs.len5
  have hl := h.len
  refine ⟨by rw [List.length_map]; omega, fun x hx => ?_⟩
  obtain ⟨n, hn, rfl⟩ := List.mem_map.mp hx
  exact dep_int
theorem not_sh {d : PyData} (h : isTy d "tuple" = false) : StSh d := fun xs e => by subst e; cases h
theorem eqv_nilD (ys : List PyData) : PyData.eqv (.list ys) (.list []) = ys.isEmpty := by cases ys <;> rfl
theorem bools_sh (bs : List Bool) : SeqAt.shaped (.list (bs.map PyData.bool)) = true := sh_of (n := 1) (fun x hx => by
  obtain ⟨b, _, rfl⟩ := List.mem_map.mp hx
  exact True.intro) (by decide)
def T_needX (C : Addr) (K : PySem.W.Frag) : List Sl → (Sl → Prop) → XQ → Prop := fun Γ Qr Qe => ∃ p : Pg, ∃ d, Γ = [.dat false p.d, .dat false d] ∧ p.Ok ∧ StSh d ∧ (isSt p.m p.bs.length d = true → Qr (.dat true .none)) ∧ (isSt p.m p.bs.length d = false → Qe (.ref C) none)
def T_nostores (K : PySem.W.Frag) : List Sl → (Sl → Prop) → Prop := fun Γ Q => ∃ v, ∃ p : Pg, ∃ st, Γ = [.ex v (Dck K), .dat false p.d, .dat false (stD st)] ∧ p.Ok ∧ StOk p.m p.bs st ∧ ∀ ds : List PyData, ds.length ≤ 100 → (∀ d ∈ ds, isSt p.m p.bs.length d = false ∧ StSh d) → Q (.dat false (.list ds))
/-- the odd numbers, and a store with one of them -/
def odd (m : Nat) : List PyData := [.int m, .int (-1), .bool true, .bool false, .none, .str "0", .tuple [.int 0], .list [.int 0], .int (10 ^ 25)]
def stI (st : List Nat) : List PyData := st.map fun (n : Nat) => PyData.int n
def item (st : List Nat) (a : Nat) (x : PyData) : PyData := .tuple ((stI st).take a ++ [x] ++ (stI st).drop (a + 1))
theorem odd_no {m : Nat} (h : m ≤ 16) : ∀ x ∈ odd m, isWhole x 0 ((m : Int) - 1) = false ∧ Pk.dep 3 x := by
  intro x hx
  simp only [odd, List.mem_cons, List.not_mem_nil, or_false] at hx
  rcases hx with z | z | z | z | z | z | z | z | z <;> subst z
  · exact ⟨by simp [isWhole]; omega, dep_int⟩
  · exact ⟨rfl, dep_int⟩
  · exact ⟨rfl, True.intro⟩
  · exact ⟨rfl, True.intro⟩
  · exact ⟨rfl, True.intro⟩
  · exact ⟨rfl, (by decide +kernel : PyData.strOk "0" = true)⟩
  · exact ⟨rfl, fun y hy => by simp at hy; subst hy; exact dep_int⟩
  · exact ⟨rfl, fun y hy => by simp at hy; subst hy; exact dep_int⟩
  · refine ⟨?_, dep_int⟩
    have : ¬ ((10 : Int) ^ 25 ≤ (m : Int) - 1) := by
      have e : (10 : Int) ^ 25 = 10000000000000000000000000 := by decide
      rw [e]
      omega
    simp only [isWhole, decide_eq_false this, Bool.and_false]
theorem item_no {m n : Nat} {st : List Nat} {a : Nat} {x : PyData} (hl : st.length ≤ 5) (hx : isWhole x 0 ((m : Int) - 1) = false) (hd : Pk.dep 3 x) : isSt m n (item st a x) = false ∧ StSh (item st a x) := by
  refine ⟨?_, fun xs e => ?_⟩
  · have : ((stI st).take a ++ [x] ++ (stI st).drop (a + 1)).all (fun x => isWhole x 0 ((m : Int) - 1)) = false := by
      rw [List.all_eq_false]
      exact ⟨x, by simp, by rw [hx]; decide⟩
    simp only [isSt, item, this, Bool.and_false]
  · have := PyData.tuple.inj e
    subst this
    refine ⟨?_, fun y hy => ?_⟩
    · simp [stI]
      omega
    · have sti : ∀ z ∈ stI st, Pk.dep 3 z := fun z hz => by
        obtain ⟨n, _, rfl⟩ := List.mem_map.mp hz
        exact dep_int
      rcases List.mem_append.mp hy with hy | hy
      · rcases List.mem_append.mp hy with hy | hy
        · exact sti y (List.mem_of_mem_take hy)
        · rw [List.mem_singleton.mp hy]; exact hd
      · exact sti y (List.mem_of_mem_drop hy)
theorem len_no {m n : Nat} {xs : List PyData} (h : xs.length ≠ n) : isSt m n (.tuple xs) = false := by simp only [isSt, decide_eq_false h, Bool.false_and]
theorem ints_sh {st : List Nat} {xs : List PyData} (hl : xs.length ≤ 100) (h : ∀ x ∈ xs, ∃ n : Nat, x = .int n) : StSh (.tuple xs) := fun ys e => by
  have := PyData.tuple.inj e
  subst this
  exact ⟨hl, fun y hy => by obtain ⟨n, rfl⟩ := h y hy; exact dep_int⟩
theorem zero_len : ("0" : Str).length = 1 := by decide +kernel
theorem mulOk0 {n : Nat} (h : n ≤ 5) (h1 : 1 ≤ n) : MulOk "0" (n : Int) := by
  have : n = 1 ∨ n = 2 ∨ n = 3 ∨ n = 4 ∨ n = 5 := by omega
  rcases this with z | z | z | z | z <;> subst z <;> exact ⟨by decide, fun _ _ => by rw [zero_len]; decide, fun _ _ => by rw [zero_len]; decide⟩
section
variable {P : Program} {w : World} {K : PySem.W.Frag} {mg : Str → Option Value} {base : Heap} {k : Nat}
theorem ok_needX {C : Addr} (D : Def K mg "need_store" s_need_store ["program", "store"]) (c_whole : Cal P w K mg base CX0 k "is_whole" ["thing", "low", "high"] (spG K (T_whole K))) (m_len : mg "len" = none) (m_isinstance : mg "isinstance" = none) (m_tuple : mg "tuple" = none) (e_NoStore : ExcT K mg "NoStore" C) : Cal P w K mg base (L2.CX P w) (k + 1) "need_store" ["program", "store"] (spX K (T_needX C K)) := by
  refine cal_x D sc_need_store (fun Γ Qr Qe ⟨p, d, e, _⟩ => by subst e; exact ⟨rfl, noMl_dat (noMl_dat noMl_nil)⟩) fun f cdv A outer s H E hr => ⟨_, wk_need_store c_whole m_len m_isinstance m_tuple e_NoStore f cdv A outer s H E hr, ?_⟩
  rintro Γ Qr Qe ⟨p, d, rfl, hp, hsh, q, qx⟩
  show SJt K [.dat false p.d, .dat false d, .no] (t_need_store K _ _ _) _
  unfold t_need_store
  have kp : ∀ {Γ'}, Keep [.dat false p.d, .dat false d] (.dat false p.d :: .dat false d :: Γ') := fun {Γ'} => keep_dat (keep_dat keep_nil)
  refine SJ.t (sj_seq (sj_if (wt_or (wt_not (wt_B (wd_isi (by decide) (wd_var rfl ⟨_, rfl, ?_⟩)))))))
  cases d with
  | tuple xs =>
    obtain ⟨hxl, hxd⟩ := hsh xs rfl
    refine iteF' rfl (wt_test (wd_op (wd_cb1 (wd_var rfl (rc_lenT (wd_cb1 (wd_op (wd_var rfl (wd_int (rd_pgB (rc_lenL (rd_ne sh_int sh_int ⟨_, rfl, ?_⟩))))))))))))
    rw [List.length_map, eqv_int]
    refine iteN (fun hne => sj_raise ⟨kp, qx (len_no fun z => hne (by rw [z]))⟩) (fun he => sj_next ?_)
    have hl : xs.length = p.bs.length := by omega
    refine sj_if (wt_test (wd_op (wd_lcPa (mi := false) (α := PyData) id (fun x => !isWhole x 0 ((p.m : Int) - 1)) id (wipeOk_no rfl wipeOk_nil) gwn (wi_tup (wd_var rfl ⟨xs, rfl, xs, by simp, by omega, fun i x hx => gj_name ⟨rfl, ?_⟩, ?_⟩)))))
    · refine wt_not (wt_B (wd_call3 (wd_var rfl (wd_int (wd_op (wd_op (wd_var rfl (wd_int (rd_pgM (wd_int (rd_sub ?_))))))))))) 
      exact ⟨x, 0, _, rfl, asD_new ⟨_, rfl, rfl, fun _ => wd_var rfl rfl⟩⟩
    refine wd_lst0 (rd_ne (sh_of (n := 4) (fun y hy => ?_) (by decide)) sh_nil ⟨_, rfl, ?_⟩)
    · rw [List.map_id] at hy
      exact hxd y (List.mem_filter.mp hy).1
    rw [eqv_nilD, List.map_id]
    cases hf : xs.filter (fun x => !isWhole x 0 ((p.m : Int) - 1)) with
    | nil =>
      refine iteF' rfl (sj_next ⟨kp, q ?_⟩)
      have hall : xs.all (fun x => isWhole x 0 ((p.m : Int) - 1)) = true := List.all_eq_true.mpr fun x hx => by
        have := List.filter_eq_nil_iff.mp hf x hx
        simpa using this
      simp only [isSt, hl, hall, decide_true, Bool.and_true]
    | cons y ys =>
      refine iteT' rfl (sj_raise ⟨kp, qx ?_⟩)
      have hy : y ∈ xs.filter (fun x => !isWhole x 0 ((p.m : Int) - 1)) := by rw [hf]; exact List.mem_cons_self
      obtain ⟨h1, h2⟩ := List.mem_filter.mp hy
      have hall : xs.all (fun x => isWhole x 0 ((p.m : Int) - 1)) = false := List.all_eq_false.mpr ⟨y, h1, by simpa using h2⟩
      simp only [isSt, hall, Bool.and_false]
  | none => exact iteT' rfl (sj_raise ⟨kp, qx rfl⟩)
  | bool b => exact iteT' rfl (sj_raise ⟨kp, qx rfl⟩)
  | int i => exact iteT' rfl (sj_raise ⟨kp, qx rfl⟩)
  | str x => exact iteT' rfl (sj_raise ⟨kp, qx rfl⟩)
  | list x => exact iteT' rfl (sj_raise ⟨kp, qx rfl⟩)
  | dict x => exact iteT' rfl (sj_raise ⟨kp, qx rfl⟩)
end
end Dk
end
section
set_option Elab.async false
set_option linter.all false
set_option maxRecDepth 100000
/-! Single runs: the law's side. -/
open PySem L2 Pk
local macro_rules | `(tactic| walk_at "sh") => `(tactic| first | exact sh_int | exact sh_bool | exact sh_non | exact sh_nil | exact sh_str (by decide +kernel) | assumption)
local macro_rules | `(tactic| walk_at "v1") => `(tactic| first
  | (with_reducible refine wd_int ?_) | (with_reducible refine wd_str ?_) | (with_reducible refine wd_bl ?_) | (with_reducible refine wd_non ?_)
  | ((with_reducible apply wd_var); exact rfl) | ((with_reducible apply wd_varN); exact rfl)
  | ((with_reducible apply wd_ixm); exact rfl)
  | ((with_reducible apply wd_lenM); exact rfl) | ((with_reducible apply wd_lenScript); exact rfl) | ((with_reducible apply wd_ixScript); exact rfl)
  | (with_reducible refine wd_op ?_) | (with_reducible refine wd_un ?_)
  | (with_reducible refine rd_add ?_) | (with_reducible refine rd_sub ?_) | (with_reducible refine rd_lt ?_) | (with_reducible refine rd_le ?_) | (with_reducible refine rd_gt ?_) | (with_reducible refine rd_ge ?_) | (with_reducible refine ru_neg ?_)
  | ((with_reducible refine rd_eq ?ev_h ?ev_k ?_); (case ev_h => walk_at "sh"); (case ev_k => walk_at "sh")) | ((with_reducible refine rd_ne ?ev_h ?ev_k ?_); (case ev_h => walk_at "sh"); (case ev_k => walk_at "sh"))
  | ((with_reducible refine rd_mod ?ev_h ?_); case ev_h => first | decide | assumption | omega) | ((with_reducible refine rd_div ?ev_h ?ev_k ?_); (case ev_h => first | decide | assumption | omega); (case ev_k => first | decide | assumption | omega))
  | ((with_reducible refine rd_pow ?ev_h ?_); case ev_h => exact ⟨by decide, by decide, by decide⟩)
  | ((with_reducible refine rd_mul ?ev_h ?_); case ev_h => first | exact .inr ⟨by decide, by decide⟩ | exact .inl ⟨by decide, by decide⟩ | exact .inl ⟨by omega, by omega⟩ | exact .inr ⟨by omega, by omega⟩)
  | (with_reducible refine rc_lenL ?_) | (with_reducible refine rc_lenT ?_) | (with_reducible refine rc_max2 ?_) | (with_reducible refine rc_min2 ?_) | (with_reducible refine rc_intB ?_) | (with_reducible refine rc_intI ?_) | (with_reducible refine rc_listL ?_) | (with_reducible refine rc_listT ?_) | (with_reducible refine rc_tupleL ?_)
  | ((with_reducible apply rd_ixT); exact rfl)
  | ((with_reducible apply rd_ixL); exact rfl)
  | ((with_reducible refine wd_isi ?ev_h ?_); case ev_h => decide) | ((with_reducible refine wd_isi2 ?ev_h ?ev_k ?_); (case ev_h => decide); (case ev_k => decide))
  | (with_reducible refine wd_tup2 ?_) | (with_reducible refine wd_tup1 ?_) | (with_reducible refine wd_tup3 ?_) | (with_reducible refine wd_tup0 ?_)
  | (with_reducible refine wd_lst0 ?_) | (with_reducible refine wd_lst1 ?_) | (with_reducible refine wd_lst2 ?_) | (with_reducible refine wd_lst3 ?_) | (with_reducible refine wd_lst4 ?_) | (with_reducible refine wd_lst5 ?_) | (with_reducible refine wd_lst6 ?_)
  | ((with_reducible apply wd_callO0); exact rfl) | ((with_reducible apply wd_callO1); exact rfl) | ((with_reducible apply wd_callO2); exact rfl) | ((with_reducible apply wd_callO3); exact rfl)
  | (with_reducible refine wd_call1 ?_) | (with_reducible refine wd_call2 ?_) | (with_reducible refine wd_call3 ?_) | (with_reducible refine wd_call4 ?_) | (with_reducible refine wd_call0 ?_)
  | (with_reducible refine wd_cb1 ?_) | (with_reducible refine wd_cb2 ?_)
  | (with_reducible refine wd_rev ?_) | (with_reducible refine wd_lrg1 ?_) | (with_reducible refine wd_sl ?_) | (with_reducible refine wo_no ?_) | (with_reducible refine wo_some ?_)
  | (with_reducible refine wd_andV ?_) | (with_reducible refine wd_orV ?_) | (with_reducible refine wd_notV ?_) | (with_reducible refine wd_if ?_) | (with_reducible refine wd_chain ?_)
  | (with_reducible refine wt_test ?_) | (with_reducible refine wt_B ?_) | (with_reducible refine wt_not ?_) | (with_reducible refine wt_and ?_) | (with_reducible refine wt_or ?_) | (with_reducible refine wt_yes ?_)
  | (with_reducible refine gj_name ?_) | (with_reducible refine gj_tup rfl ?_) | (with_reducible refine gjs_cons ?_) | (with_reducible refine gjs_nil ?_))
local macro_rules | `(tactic| walk_at "v") => `(tactic| repeat walk_at "v1")
local macro_rules | `(tactic| walk_at "x") => `(tactic| refine ⟨_, rfl, ?_⟩)
local macro_rules | `(tactic| walk_at "vx") => `(tactic| repeat (first | walk_at "v1" | (with_reducible refine ⟨_, rfl, ?_⟩)))
namespace Dk
open PySem PySem.Spec PyProof.Rows L2 Pk Sy Pz
def T_topick (K : PySem.W.Frag) : List Sl → (Sl → Prop) → Prop := fun Γ Q => ∃ p : Pg, ∃ row : Nat, ∃ st, Γ = [.dat false p.d, .dat false (.int row), .dat false (stD st)] ∧ p.Ok ∧ StOk p.m p.bs st ∧ ∀ row' st' o, TP p row (poe p row st) row' st' o → Q (.dat true (.tuple [.int (row' : Nat), stD st', oD o]))
def T_picked (K : PySem.W.Frag) : List Sl → (Sl → Prop) → Prop := fun Γ Q => ∃ p : Pg, ∃ row : Nat, ∃ st, ∃ c : Nat, ∃ wy : Wy, Γ = [.dat false p.d, .dat false (.int row), .dat false (stD st), .dat false (.int c)] ∧ p.Ok ∧ StOk p.m p.bs st ∧ isPickAt p row = true ∧ (ways p row st)[c]? = some wy ∧ ∀ row' st' o, TP p (row + 1) wy row' st' o → Q (.dat true (.tuple [.int (row' : Nat), stD st', oD o]))
def T_run (K : PySem.W.Frag) : List Sl → (Sl → Prop) → Prop := fun Γ Q => ∃ v, ∃ p : Pg, ∃ st, Γ = [.ex v (Dck K), .dat false p.d, .dat false (stD st)] ∧ p.Ok ∧ StOk p.m p.bs st ∧ ∀ cs sizes e, Goes p (poe p 0 st) cs e → cs.length = sizes.length → Q (.dat false (.tuple [natsD cs, natsD sizes, e.d]))
def mO (row : Nat) : Option Wy → Nat
  | none => 1000 - row | some _ => 0
def cO (row : Nat) : Option Wy → Nat
  | none => row | some _ => 100
theorem tup3_lf (row' : Nat) (st' : List Nat) (o : Option Wy) : Pk.lf (.tuple [.int (row' : Nat), stD st', oD o]) = true := by
  show Pk.lfA [.int (row' : Nat), stD st', oD o] = true
  simp only [Pk.lfA, st_lf, oD_lf, Bool.and_true]
  rfl
section
variable {P : Program} {w : World} {K : PySem.W.Frag} {mg : Str → Option Value} {base : Heap} {k : Nat}
theorem ok_lput (D : Def K mg "_law_put" s_l_put ["program", "store", "box", "worth"]) (m_tuple : mg "tuple" = none) (m_zip : mg "zip" = none) (m_int : mg "int" = none) : Cal P w K mg base CX0 (k + 1) "_law_put" ["program", "store", "box", "worth"] (spG K (T_put K)) := by
  refine cal_g D sc_l_put (fun Γ Qr ⟨p, st, x, n, e, _⟩ => by subst e; exact ⟨rfl, noMl_dat (noMl_dat (noMl_dat (noMl_dat noMl_nil)))⟩) fun f cdv A outer s H E hr => ⟨_, wk_l_put m_tuple m_zip m_int f cdv A outer s H E hr, ?_⟩
  rintro Γ Qr ⟨p, st, x, n, rfl, hp, hst, hx, q⟩
  have h5 := hp.bs.len5
  have hl := hst.len
  show SJ K [.dat false p.d, .dat false (stD st), .dat false (.str x), .dat false (.int n), .no, .no] (t_l_put K) _
  unfold t_l_put
  refine sj_retD true (wd_lf (wd_cb1 ?_))
  refine wd_lcMa (mi := false) (α := Str × Nat) (fun z => .tuple [.str z.1, .int z.2]) (fun z => .int ((if z.1 = x then n else z.2 : Nat))) (wipeOk_no rfl (wipeOk_no rfl wipeOk_nil)) (gw_tup (gws_cons (gw_name (by decide)) (gws_cons (gw_name (by decide)) gws_nil))) (wi_zipM (wa_d (wd_op (wd_var rfl (wd_int (rd_pgB (wa_d (wd_var rfl (wa_nil ⟨_, _, rfl, p.bs.zip st, ?_, ?_, fun i z hz => ?_, ?_⟩)))))))))
  · rw [List.zip_eq_zipWith, List.map_zipWith, List.zipWith_map]
    rfl
  · rw [List.length_zip]; omega
  · obtain ⟨b, kk⟩ := z
    refine gj_tup rfl ?_
    walk_at "v"
    have hb : b ∈ p.bs := (List.of_mem_zip (List.mem_of_getElem? hz)).1
    refine ⟨rfl, wd_op (wd_lst2 ?_)⟩
    walk_at "v"
    refine rd_eq (sh_str (hp.bs.nm b hb).strOk) (sh_str (hp.bs.nm x hx).strOk) ?_
    refine rc_intB ?_
    rw [eqv_str]
    by_cases e : b = x
    · rw [decide_eq_true e]
      refine rd_selN 1 rfl rfl ?_
      rw [if_pos e]
    · rw [decide_eq_false e]
      refine rd_selN 0 rfl rfl ?_
      rw [if_neg e]
  · have e : ((p.bs.zip st).map fun z => PyData.int ((if z.1 = x then n else z.2 : Nat))) = (put p.bs st x n).map fun (k : Nat) => PyData.int k := by
      unfold put
      rw [← put_zip hp.bs.nd hst.len hx, List.map_zipWith, List.zip_eq_zipWith, List.map_zipWith]
    rw [e]
    exact rc_tupleL ⟨st_lf _, keep_dat (keep_dat (keep_dat (keep_dat keep_nil))), q⟩
theorem ok_topick (D : Def K mg "_law_to_pick" s_l_to_pick ["program", "row", "store"]) (c_put : Cal P w K mg base CX0 k "_law_put" ["program", "store", "box", "worth"] (spG K (T_put K))) (c_worth : Cal P w K mg base CX0 k "_law_worth" ["program", "thing", "store"] (spG K (T_worth 4 K))) (m_len : mg "len" = none) (m_int : mg "int" = none) : Cal P w K mg base CX0 (k + 1) "_law_to_pick" ["program", "row", "store"] (spG K (T_topick K)) := by
  refine cal_g D sc_l_to_pick (fun Γ Qr ⟨p, row, st, e, _⟩ => by subst e; exact ⟨rfl, noMl_dat (noMl_dat (noMl_dat noMl_nil))⟩) fun f cdv A outer s H E hr => ⟨_, wk_l_to_pick c_put c_worth m_len m_int f cdv A outer s H E hr, ?_⟩
  rintro Γ Qr ⟨p, row, st, rfl, hp, hst, q⟩
  have kp : ∀ {a b : Sl} {Γ'}, Keep [.dat false p.d, .dat false (.int row), .dat false (stD st)] (.dat false p.d :: a :: b :: Γ') := fun {a b Γ'} => keep_dat (keep_dat (keep_dat keep_nil))
  show SJ K [.dat false p.d, .dat false (.int row), .dat false (stD st), .no, .no] (t_l_to_pick K _ _) _
  unfold t_l_to_pick
  refine sj_cut (fun Γ' => ∃ (row1 : Nat) (st1 : List Nat) (s3 s4 : Sl), Stp p (poe p row st) .nothing ∧ Γ' = [.dat false p.d, .dat false (.int row1), .dat false (stD st1), s3, s4]) ?_ ?_
  · refine sj_while (fun n Γ' => ∃ (row1 : Nat) (st1 : List Nat) (s3 s4 : Sl), row ≤ row1 ∧ n = p.rows.length - row1 ∧ StOk p.m p.bs st1 ∧ (∀ z, Stp p (poe p row1 st1) z → Stp p (poe p row st) z) ∧ Γ' = [.dat false p.d, .dat false (.int row1), .dat false (stD st1), s3, s4]) (p.rows.length - row) ⟨row, st, .no, .no, Nat.le_refl _, rfl, hst, fun _ h => h, rfl⟩ ?_
    rintro n Γ' ⟨row1, st1, s3, s4, hle, rfl, hst1, hgo, rfl⟩
    refine wt_test (wd_op (wd_var rfl (wd_cb1 (wd_op (wd_var rfl (wd_int (rd_pgR (rc_lenL (rd_lt ⟨_, rfl, ?_⟩)))))))))
    rw [List.length_map]
    refine iteD (fun hlt => ?_) (fun hge => ⟨row1, st1, s3, s4, hgo _ (by rw [poe_end (by omega)]; exact .rfl), rfl⟩)
    have hrow : row1 < p.rows.length := by omega
    have hr : p.rows[row1]? = some p.rows[row1] := by simp [hrow]
    have hok := hp.rows _ (List.mem_of_getElem? hr)
    obtain ⟨r, er⟩ : ∃ r, p.rows[row1] = r := ⟨_, rfl⟩
    rw [er] at hr hok
    refine sj_seq (sj_set false (wd_op (wd_op (wd_var rfl (wd_int (rd_pgR (wd_var rfl (rd_row hr ?_))))))))
    show SJ K [.dat false p.d, .dat false (.int row1), .dat false (stD st1), .dat false r.d, s4] _ _
    refine sj_seq (sj_if (wt_test (wd_op (wd_op (wd_var rfl (wd_int (rd_rk (wd_str (rd_w (b := .pick) ⟨_, rfl, ?_⟩)))))))))
    -- a test of the row's word
    have tst : ∀ {r : Rw} {b : Kd} {rw1 : Sl} {st2 : Sl} {s4 : Sl} {Q : Bool → Prop}, Q (decide (r.kd = b)) → WT K [.dat false p.d, rw1, st2, .dat false r.d, s4] (tTest (tOp (dEq K) (tOp (rIx K) (tVar 3) (tC (.int 0))) (tC (.str b.w)))) Q := fun {r b rw1 st2 s4 Q} q => wt_test (wd_op (wd_op (wd_var rfl (wd_int (rd_rk (wd_str (rd_w (b := b) ⟨_, rfl, q⟩)))))))
    have worth : ∀ (t : Th) (r : Rw) (i : Int) {Po : Po} {ts : TS}, (if decide (r.kd = .skip) = true then (-2 : Int) else -1) = i → (∀ {m Γ Q}, Q t.d → RD K m Γ (rIx K) r.d (.int i) Q) → t.Ok p.m p.bs 4 → SJ K [.dat false p.d, .dat false (.int (row1 + 1 : Nat)), .dat false (stD st1), .dat false r.d, .dat false (.int (tv p st1 t : Nat))] ts Po → SJ K [.dat false p.d, .dat false (.int row1), .dat false (stD st1), .dat false r.d, s4] (tSeq (tAsg (tCall (spG K (T_worth 4 K)) [] E0 (tCons (tVar 0) (tCons (tOp (rIx K) (tVar 3) (tOp dSub (tUn dNeg (tC (.int 1))) (tCB dInt (tCons (tOp (dEq K) (tOp (rIx K) (tVar 3) (tC (.int 0))) (tC (.str "skip"))) tNil)))) (tCons (tVar 2) tNil)))) (gName 4)) (tSeq (tAsg (tOp (dAdd K) (tVar 1) (tC (.int 1))) (gName 1)) ts)) Po := fun t r i {Po ts} hi h1 ht hk => by
      refine sj_seq (sj_set false (wd_call3 (wd_var rfl (wd_op (wd_var rfl (wd_op (wd_un (wd_int (ru_neg ?_)))))))))
      refine wd_cb1 (wd_op (wd_op (wd_var rfl (wd_int (rd_rk (wd_str (rd_w (b := .skip) (rc_intB (rd_sub ?_)))))))))
      have ei : (-1 : Int) - (if decide (r.kd = .skip) = true then (1 : Int) else 0) = i := by
        rw [← hi]
        split <;> rfl
      rw [ei]
      refine h1 (wd_var rfl ⟨p, t, st1, rfl, hp.mb, hst1, ht, asD_new ?_⟩)
      refine sj_seq (sj_set false ?_)
      walk_at "v"
      exact hk
    cases r with
    | pick x ts =>
      refine iteT' rfl (sj_retD true (wd_lf (wd_tup3 ?_)))
      walk_at "v"
      refine ⟨tup3_lf row1 st1 none, kp, q row1 st1 none ⟨hle, hrow, by rw [pick_at hr]; rfl, hst1, hgo _ ?_⟩⟩
      rw [poe_pl hrow]
      exact .rfl
    | set x t =>
      refine iteF' rfl (sj_next (worth t (.set x t) (-1) rfl (fun q => rd_ixT rfl q) hok.2 ?_))
      refine sj_seq (sj_if (tst (b := .set) (iteT' rfl ?_)))
      refine sj_set false (wd_call4 (wd_var rfl (wd_var rfl (wd_op (wd_var rfl (wd_int (rd_ixT (d := .str x) rfl (wd_var rfl ⟨p, st1, x, _, rfl, hp, hst1, hok.1, asD_new ?_⟩))))))))
      refine sj_seq (sj_if (wt_and (tst (b := .skip) (iteF' rfl (iteF' rfl (sj_next ?_))))))
      refine sj_seq (sj_if (tst (b := .give) (iteF' rfl (sj_next ?_))))
      refine sj_if (wt_and (tst (b := .need) (iteF' rfl (iteF' rfl (sj_next ?_)))))
      exact ⟨p.rows.length - (row1 + 1), by omega, row1 + 1, put p.bs st1 x (tv p st1 t), _, _, by omega, rfl, put_ok hst1 (tv_lt hp hst1 hok.2), fun z h => hgo z (st_step hr rfl rfl h), rfl⟩
    | need t =>
      refine iteF' rfl (sj_next (worth t (.need t) (-1) rfl (fun q => rd_ixT rfl q) hok ?_))
      refine sj_seq (sj_if (tst (b := .set) (iteF' rfl (sj_next ?_))))
      refine sj_seq (sj_if (wt_and (tst (b := .skip) (iteF' rfl (iteF' rfl (sj_next ?_))))))
      refine sj_seq (sj_if (tst (b := .give) (iteF' rfl (sj_next ?_))))
      refine sj_if (wt_and (tst (b := .need) (iteT' rfl ?_)))
      walk_at "v"
      refine ⟨_, rfl, ?_⟩
      rw [eqv_int]
      refine iteD (fun h0 => ?_) (fun h0 => sj_next ?_)
      · refine sj_retD true (wd_lf (wd_tup3 ?_))
        walk_at "v"
        refine ⟨tup3_lf (row1 + 1) st1 (some .nothing), kp, q (row1 + 1) st1 (some .nothing) ⟨rfl, trivial, hgo _ (st_step hr rfl (w := .nothing) ?_ .rfl)⟩⟩
        simp only [nxt]
        rw [if_pos (by omega)]
      · refine ⟨p.rows.length - (row1 + 1), by omega, row1 + 1, st1, _, _, by omega, rfl, hst1, fun z h => hgo z (st_step hr rfl (w := poe p (row1 + 1) st1) ?_ h), rfl⟩
        simp only [nxt]
        rw [if_neg (by omega)]
    | skip t kk =>
      refine iteF' rfl (sj_next (worth t (.skip t kk) (-2) rfl (fun q => rd_ixT rfl q) hok.1 ?_))
      refine sj_seq (sj_if (tst (b := .set) (iteF' rfl (sj_next ?_))))
      refine sj_cut (fun Γ' => Γ' = [.dat false p.d, .dat false (.int (row1 + 1 + (if tv p st1 t = 0 then 0 else kk) : Nat)), .dat false (stD st1), .dat false (Rw.skip t kk).d, .dat false (.int (tv p st1 t : Nat))]) (sj_if (wt_and (tst (b := .skip) (iteT' rfl ?_)))) ?_
      · walk_at "v"
        refine ⟨_, rfl, ?_⟩
        rw [eqv_int]
        refine iteN (fun h0 => ?_) (fun h0 => sj_next ?_)
        · refine sj_set false (wd_op (wd_var rfl (wd_op (wd_var rfl (wd_int (rd_ixT (d := .int kk) rfl (rd_add ?_)))))))
          have e1 : ((row1 + 1 : Nat) : Int) + (kk : Int) = ((row1 + 1 + kk : Nat) : Int) := by omega
          rw [e1, if_neg (by omega)]
          rfl
        · rw [if_pos (by omega), Nat.add_zero]
      rintro _ rfl
      refine sj_seq (sj_if (tst (b := .give) (iteF' rfl (sj_next ?_))))
      refine sj_if (wt_and (tst (b := .need) (iteF' rfl (iteF' rfl (sj_next ?_)))))
      exact ⟨p.rows.length - (row1 + 1 + (if tv p st1 t = 0 then 0 else kk)), by omega, _, st1, _, _, by omega, rfl, hst1, fun z h => hgo z (st_step hr rfl rfl h), rfl⟩
    | give t =>
      refine iteF' rfl (sj_next (worth t (.give t) (-1) rfl (fun q => rd_ixT rfl q) hok ?_))
      refine sj_seq (sj_if (tst (b := .set) (iteF' rfl (sj_next ?_))))
      refine sj_seq (sj_if (wt_and (tst (b := .skip) (iteF' rfl (iteF' rfl (sj_next ?_))))))
      refine sj_seq (sj_if (tst (b := .give) (iteT' rfl ?_)))
      refine sj_retD true (wd_lf (wd_tup3 ?_))
      walk_at "v"
      exact ⟨tup3_lf (row1 + 1) st1 (some (.gives (tv p st1 t))), kp, q (row1 + 1) st1 (some (.gives (tv p st1 t))) ⟨rfl, tv_lt hp hst1 hok, hgo _ (st_step hr rfl (w := .gives (tv p st1 t)) rfl .rfl)⟩⟩
  rintro _ ⟨row1, st1, s3, s4, hg, rfl⟩
  refine sj_retD true (wd_lf (wd_tup3 ?_))
  walk_at "v"
  exact ⟨tup3_lf row1 st1 (some .nothing), kp, q row1 st1 (some .nothing) ⟨rfl, trivial, hg⟩⟩
theorem ok_picked (D : Def K mg "_law_picked" s_l_picked ["program", "row", "store", "choice"]) (c_topick : Cal P w K mg base CX0 k "_law_to_pick" ["program", "row", "store"] (spG K (T_topick K))) (c_put : Cal P w K mg base CX0 k "_law_put" ["program", "store", "box", "worth"] (spG K (T_put K))) (c_worth : Cal P w K mg base CX0 k "_law_worth" ["program", "thing", "store"] (spG K (T_worth 4 K))) : Cal P w K mg base CX0 (k + 1) "_law_picked" ["program", "row", "store", "choice"] (spG K (T_picked K)) := by
  refine cal_g D sc_l_picked (fun Γ Qr ⟨p, row, st, c, wy, e, _⟩ => by subst e; exact ⟨rfl, noMl_dat (noMl_dat (noMl_dat (noMl_dat noMl_nil)))⟩) fun f cdv A outer s H E hr => ⟨_, wk_l_picked c_topick c_put c_worth f cdv A outer s H E hr, ?_⟩
  rintro Γ Qr ⟨p, row, st, c, wy, rfl, hp, hst, hpk, hw, q⟩
  show SJ K [.dat false p.d, .dat false (.int row), .dat false (stD st), .dat false (.int c), .no, .no, .no] (t_l_picked K _ _ _) _
  unfold t_l_picked
  cases hr : p.rows[row]? with
  | none => unfold isPickAt at hpk; rw [hr] at hpk; cases hpk
  | some r =>
    rw [pick_at hr] at hpk
    rw [ways_at hr] at hw
    have hok := hp.rows r (List.mem_of_getElem? hr)
    cases r with
    | pick x ts =>
      have hc : c < ts.length := by
        have := (List.getElem?_eq_some_iff.mp hw).1
        simpa [nxt] using this
      have ht : ts[c]? = some ts[c] := by simp [hc]
      have hwy : wy = poe p (row + 1) (put p.bs st x (tv p st ts[c])) := by
        simp only [nxt, List.getElem?_map, ht, Option.map_some, Option.some.injEq] at hw
        exact hw.symm
      refine sj_seq (sj_asg false (wd_op (wd_op (wd_var rfl (wd_int (rd_pgR (wd_var rfl (rd_row hr ?_))))))))
      refine gj_tup (n := 3) (ds := [.str "pick", .str x, .list (ts.map Th.d)]) rfl ?_
      walk_at "v"
      refine sj_retD true ?_
      walk_at "v"
      refine rd_selN c rfl (d := ts[c].d) (by rw [List.getElem?_map, ht]; rfl) ?_
      refine wd_var rfl ⟨p, ts[c], st, rfl, hp.mb, hst, hok.2.2.2 _ (List.getElem_mem hc), asD_new ?_⟩
      refine ⟨p, st, x, _, rfl, hp, hst, hok.1, asD_new ?_⟩
      have e1 : (row : Int) + 1 = ((row + 1 : Nat) : Int) := by omega
      rw [e1]
      refine ⟨p, row + 1, _, rfl, hp, put_ok hst (tv_lt hp hst (hok.2.2.2 _ (List.getElem_mem hc))), fun row' st' o h => asD_new ⟨keep_dat (keep_dat (keep_dat (keep_dat keep_nil))), q row' st' o ?_⟩⟩
      rw [hwy]
      exact h
    | set x t => cases hpk
    | need t => cases hpk
    | skip t kk => cases hpk
    | give t => cases hpk
theorem nats_app (cs : List Nat) (c : Nat) : (cs.map fun (n : Nat) => PyData.int n) ++ [PyData.int c] = (cs ++ [c]).map fun (n : Nat) => PyData.int n := by simp
end
end Dk
end
section
set_option Elab.async false
set_option linter.all false
set_option maxRecDepth 100000
/-! all_runs. -/
open PySem L2 Pk
local macro_rules | `(tactic| walk_at "sh") => `(tactic| first | exact sh_int | exact sh_bool | exact sh_non | exact sh_nil | exact sh_str (by decide +kernel) | assumption)
local macro_rules | `(tactic| walk_at "v1") => `(tactic| first
  | (with_reducible refine wd_int ?_) | (with_reducible refine wd_str ?_) | (with_reducible refine wd_bl ?_) | (with_reducible refine wd_non ?_)
  | ((with_reducible apply wd_var); exact rfl) | ((with_reducible apply wd_varN); exact rfl)
  | ((with_reducible apply wd_ixm); exact rfl)
  | ((with_reducible apply wd_lenM); exact rfl) | ((with_reducible apply wd_lenScript); exact rfl) | ((with_reducible apply wd_ixScript); exact rfl)
  | (with_reducible refine wd_op ?_) | (with_reducible refine wd_un ?_)
  | (with_reducible refine rd_add ?_) | (with_reducible refine rd_sub ?_) | (with_reducible refine rd_lt ?_) | (with_reducible refine rd_le ?_) | (with_reducible refine rd_gt ?_) | (with_reducible refine rd_ge ?_) | (with_reducible refine ru_neg ?_)
  | ((with_reducible refine rd_eq ?ev_h ?ev_k ?_); (case ev_h => walk_at "sh"); (case ev_k => walk_at "sh")) | ((with_reducible refine rd_ne ?ev_h ?ev_k ?_); (case ev_h => walk_at "sh"); (case ev_k => walk_at "sh"))
  | ((with_reducible refine rd_mod ?ev_h ?_); case ev_h => first | decide | assumption | omega) | ((with_reducible refine rd_div ?ev_h ?ev_k ?_); (case ev_h => first | decide | assumption | omega); (case ev_k => first | decide | assumption | omega))
  | ((with_reducible refine rd_pow ?ev_h ?_); case ev_h => exact ⟨by decide, by decide, by decide⟩)
  | ((with_reducible refine rd_mul ?ev_h ?_); case ev_h => first | exact .inr ⟨by decide, by decide⟩ | exact .inl ⟨by decide, by decide⟩ | exact .inl ⟨by omega, by omega⟩ | exact .inr ⟨by omega, by omega⟩)
  | (with_reducible refine rc_lenL ?_) | (with_reducible refine rc_lenT ?_) | (with_reducible refine rc_max2 ?_) | (with_reducible refine rc_min2 ?_) | (with_reducible refine rc_intB ?_) | (with_reducible refine rc_intI ?_) | (with_reducible refine rc_listL ?_) | (with_reducible refine rc_listT ?_) | (with_reducible refine rc_tupleL ?_)
  | ((with_reducible apply rd_ixT); exact rfl)
  | ((with_reducible apply rd_ixL); exact rfl)
  | ((with_reducible refine wd_isi ?ev_h ?_); case ev_h => decide) | ((with_reducible refine wd_isi2 ?ev_h ?ev_k ?_); (case ev_h => decide); (case ev_k => decide))
  | (with_reducible refine wd_tup2 ?_) | (with_reducible refine wd_tup1 ?_) | (with_reducible refine wd_tup3 ?_) | (with_reducible refine wd_tup0 ?_)
  | (with_reducible refine wd_lst0 ?_) | (with_reducible refine wd_lst1 ?_) | (with_reducible refine wd_lst2 ?_) | (with_reducible refine wd_lst3 ?_) | (with_reducible refine wd_lst4 ?_) | (with_reducible refine wd_lst5 ?_) | (with_reducible refine wd_lst6 ?_)
  | ((with_reducible apply wd_callO0); exact rfl) | ((with_reducible apply wd_callO1); exact rfl) | ((with_reducible apply wd_callO2); exact rfl) | ((with_reducible apply wd_callO3); exact rfl)
  | (with_reducible refine wd_call1 ?_) | (with_reducible refine wd_call2 ?_) | (with_reducible refine wd_call3 ?_) | (with_reducible refine wd_call4 ?_) | (with_reducible refine wd_call0 ?_)
  | (with_reducible refine wd_cb1 ?_) | (with_reducible refine wd_cb2 ?_)
  | (with_reducible refine wd_rev ?_) | (with_reducible refine wd_lrg1 ?_) | (with_reducible refine wd_sl ?_) | (with_reducible refine wo_no ?_) | (with_reducible refine wo_some ?_)
  | (with_reducible refine wd_andV ?_) | (with_reducible refine wd_orV ?_) | (with_reducible refine wd_notV ?_) | (with_reducible refine wd_if ?_) | (with_reducible refine wd_chain ?_)
  | (with_reducible refine wt_test ?_) | (with_reducible refine wt_B ?_) | (with_reducible refine wt_not ?_) | (with_reducible refine wt_and ?_) | (with_reducible refine wt_or ?_) | (with_reducible refine wt_yes ?_)
  | (with_reducible refine gj_name ?_) | (with_reducible refine gj_tup rfl ?_) | (with_reducible refine gjs_cons ?_) | (with_reducible refine gjs_nil ?_))
local macro_rules | `(tactic| walk_at "v") => `(tactic| repeat walk_at "v1")
local macro_rules | `(tactic| walk_at "x") => `(tactic| refine ⟨_, rfl, ?_⟩)
local macro_rules | `(tactic| walk_at "vx") => `(tactic| repeat (first | walk_at "v1" | (with_reducible refine ⟨_, rfl, ?_⟩)))
namespace Dk
open PySem PySem.Spec PyProof.Rows L2 Pk Sy
def T_allrunsX (C0 C2 : Addr) (K : PySem.W.Frag) : List Sl → (Sl → Prop) → XQ → Prop := fun Γ Qr Qe => ∃ p : Pg, ∃ d, Γ = [.dat false p.d, .dat false d] ∧ p.Ok ∧ StSh d ∧ (isSt p.m p.bs.length d = false → Qe (.ref C0) none) ∧ ∀ st, d = stD st → StOk p.m p.bs st → ((runs p 30 (poe p 0 st)).length ≤ 2000 → ∀ l, Qr (.ml false l ((runs p 30 (poe p 0 st)).map runD))) ∧ (2000 < (runs p 30 (poe p 0 st)).length → Qe (.ref C2) none)
theorem wy_dep (w : Wy) : Pk.dep 2 w.d := by
  cases w with
  | place row st =>
    intro x hx
    simp at hx
    rcases hx with rfl | rfl
    · exact dep_int
    · intro y hy
      obtain ⟨n, _, rfl⟩ := List.mem_map.mp hy
      exact dep_int
  | gives n =>
    intro x hx
    simp at hx
    rcases hx with rfl | rfl
    · exact dep_str (ok_w (by simp))
    · exact dep_int
  | nothing =>
    intro x hx
    simp at hx
    subst hx
    exact dep_str (ok_w (by simp))
theorem wts_sh (ts : List Wt) : SeqAt.shaped (.list (ts.map Wt.d)) = true := sh_of (n := 4) (fun x hx => by
  obtain ⟨t, _, rfl⟩ := List.mem_map.mp hx
  intro y hy
  have hy' : y = natsD t.cs ∨ y = t.w.d := by simpa [Wt.d] using hy
  rcases hy' with z | z
  · rw [z]
    intro u hu
    obtain ⟨n, _, rfl⟩ := List.mem_map.mp hu
    exact dep_int
  · rw [z]; exact wy_dep t.w) (by decide)
theorem pick_len {p : Pg} (hp : p.Ok) {row : Nat} {st : List Nat} (hpk : isPickAt p row = true) : (ways p row st).length ≤ 5 ∧ 1 ≤ (ways p row st).length := by
  cases hr : p.rows[row]? with
  | none => unfold isPickAt at hpk; rw [hr] at hpk; cases hpk
  | some r =>
    rw [pick_at hr] at hpk
    rw [ways_at hr]
    have hok := hp.rows r (List.mem_of_getElem? hr)
    cases r with
    | pick x ts =>
      simp only [nxt, List.length_map]
      exact ⟨hok.2.2.1, hok.2.1⟩
    | set x t => cases hpk
    | need t => cases hpk
    | skip t k => cases hpk
    | give t => cases hpk
theorem all_end {p : Pg} {t : Wt} (h : t.w.isPl = false) : t.all p = [(t.cs, t.w)] := by
  unfold Wt.all
  rw [runs_end h]
  simp [preC]
theorem all_one {p : Pg} {cs : List Nat} {row n : Nat} {st : List Nat} {w : Wy} (hn : isPickAt p row = false) (hw : ways p row st = [w]) : (⟨cs, .place row st, n + 1⟩ : Wt).all p = (⟨cs, w, n⟩ : Wt).all p := by
  show (if isPickAt p row = true then _ else (ways p row st).flatMap (runs p n)).map (preC cs) = _
  rw [hn, hw, if_neg Bool.false_ne_true]
  simp [Wt.all]
theorem all_pick {p : Pg} {cs : List Nat} {row n : Nat} {st : List Nat} (hn : isPickAt p row = true) : (⟨cs, .place row st, n + 1⟩ : Wt).all p = toCome p (kids cs n 0 (ways p row st)) := by
  rw [kids_come]
  show (if isPickAt p row = true then fan (runs p n) 0 (ways p row st) else _).map (preC cs) = _
  rw [if_pos hn]
theorem kids_at {cs : List Nat} {n : Nat} {ws : List Wy} {i : Nat} (h : i < ws.length) : (kids cs n 0 ws)[i]? = some ⟨cs ++ [ws.length - 1 - i], ws.getD (ws.length - 1 - i) .nothing, n⟩ := by
  rw [kids_get, List.getElem?_map, List.getElem?_range h]
  simp
section
variable {P : Program} {w : World} {K : PySem.W.Frag} {mg : Str → Option Value} {base : Heap} {k : Nat}
theorem ok_allruns {C0 C2 : Addr} (D : Def K mg "all_runs" s_all_runs ["program", "store"]) (c_isplace : Cal P w K mg base CX0 k "is_place" ["way"] (spG K (T_isplace K))) (c_ispick : Cal P w K mg base CX0 k "is_pick" ["program", "place"] (spG K (T_ispick K))) (c_ways : Cal P w K mg base CX0 k "ways_from" ["program", "place"] (spG K (T_ways K))) (c_begin : Cal P w K mg base CX0 k "begin_of" ["program", "store"] (spG K (T_begin K))) (c_need : Cal P w K mg base (L2.CX P w) k "need_store" ["program", "store"] (spX K (T_needX C0 K))) (m_len : mg "len" = none) (m_range : mg "range" = none) (g_MOST_RUNS : ∃ t, mg "MOST_RUNS" = some (.int 2000 t)) (e_TooMany : ExcT K mg "TooMany" C2) : Cal P w K mg base (L2.CX P w) (k + 1) "all_runs" ["program", "store"] (spX K (T_allrunsX C0 C2 K)) := by
  refine cal_x D sc_all_runs (fun Γ Qr Qe ⟨p, d, e, _⟩ => by subst e; exact ⟨rfl, noMl_dat (noMl_dat noMl_nil)⟩) fun f cdv A outer s H E hr => ⟨_, wk_all_runs c_isplace c_ispick c_ways c_begin c_need m_len m_range g_MOST_RUNS e_TooMany f cdv A outer s H E hr, ?_⟩
  rintro Γ Qr Qe ⟨p, d, rfl, hp, hsh, qx0, q⟩
  show SJt K [.dat false p.d, .dat false d, .no, .no, .no, .no, .no, .no] (t_all_runs K _ _ _ _ _ _ _) _
  unfold t_all_runs
  refine SJ.t (sj_seq (sj_dropW (wxw_call2 (wd_var rfl (wd_var rfl ⟨p, d, rfl, hp, hsh, fun h => ?_, fun h => ⟨keep_dat (keep_dat keep_nil), qx0 h⟩⟩)))))
  obtain ⟨st, ed, hl, hlt⟩ := isSt_of h
  have hst : StOk p.m p.bs st := ⟨hl, hlt⟩
  subst ed
  obtain ⟨q1, q2⟩ := q st rfl hst
  obtain ⟨R, hR⟩ : ∃ R, runs p 30 (poe p 0 st) = R := ⟨_, rfl⟩
  rw [hR] at q1 q2
  have hr30 := hp.r30
  refine sj_seq (sj_setX (wx_lst0 false fun lf => ?_))
  refine sj_seq (sj_setX (wx_lst1 false (wd_tup2 (wd_lst0 (wd_call2 (wd_var rfl (wd_var rfl ⟨p, st, rfl, asD_new fun lw => ?_⟩)))))))
  show SJ K [.dat false p.d, .dat false (stD st), .ml false lf (([] : List (List Nat × Wy)).map runD), .ml false lw ([(⟨[], poe p 0 st, 30⟩ : Wt)].map Wt.d), .no, .no, .no, .no] _ _
  refine sj_cut (fun Γ' => ∃ (dw : List PyData) (s4 s5 s6 s7 : Sl), R.length ≤ 2000 ∧ Γ' = [.dat false p.d, .dat false (stD st), .ml false lf (R.map runD), .ml false lw dw, s4, s5, s6, s7]) ?_ ?_
  · refine sj_while (fun n Γ' => ∃ (fd : List (List Nat × Wy)) (ts : List Wt) (s4 s5 s6 s7 : Sl), n = todo p ts ∧ AllOk p ts ∧ fd ++ toCome p ts = R ∧ fd.length ≤ 2000 ∧ Γ' = [.dat false p.d, .dat false (stD st), .ml false lf (fd.map runD), .ml false lw (ts.map Wt.d), s4, s5, s6, s7]) (todo p [⟨[], poe p 0 st, 30⟩]) ⟨[], [⟨[], poe p 0 st, 30⟩], .no, .no, .no, .no, rfl, fun i t hi => ?_, ?_, Nat.zero_le _, rfl⟩ ?_
    · cases i with
      | zero =>
        have : t = ⟨[], poe p 0 st, 30⟩ := (Option.some.inj hi).symm
        rw [this]
        exact ⟨Nat.le_add_right _ _, poe_ok hst, Nat.zero_le _, Nat.zero_le _⟩
      | succ i => cases hi
    · rw [toCome_one]
      show [] ++ (runs p 30 (poe p 0 st)).map (preC []) = R
      rw [hR, List.nil_append]
      have : (preC [] : List Nat × Wy → List Nat × Wy) = id := by funext r; simp [preC]
      rw [this, List.map_id]
    rintro n Γ' ⟨fd, ts, s4, s5, s6, s7, rfl, hok, hR', hfd, rfl⟩
    refine wt_thaw ?_
    show WT K [.dat false p.d, .dat false (stD st), .dat false (.list (fd.map runD)), .dat false (.list (ts.map Wt.d)), s4.frz, s5.frz, s6.frz, s7.frz] _ _
    refine wt_test (wd_op (wd_var rfl (wd_lst0 (rd_ne (wts_sh ts) sh_nil ⟨_, rfl, ?_⟩))))
    rw [eqv_nilD]
    rcases List.eq_nil_or_concat ts with e | ⟨ts0, t, e⟩
    · subst e
      have : fd = R := by rw [← hR']; simp [toCome]
      rw [← this]
      exact iteF' rfl ⟨_, s4, s5, s6, s7, hfd, rfl⟩
    rw [List.concat_eq_append] at e
    subst e
    have em : (ts0 ++ [t]).map Wt.d = ts0.map Wt.d ++ [t.d] := by simp
    rw [em]
    refine iteT' (by simp) ?_
    have hWt := hok ts0.length t (by simp)
    have hok0 : AllOk p ts0 := fun i u hi => hok i u (by
      have hil : i < ts0.length := (List.getElem?_eq_some_iff.mp hi).1
      rw [List.getElem?_append_left hil]; exact hi)
    have hcome : toCome p (ts0 ++ [t]) = t.all p ++ toCome p ts0 := by rw [toCome_app, toCome_one]
    have hrn := rowN_le hp hWt.ok
    have hlow := hWt.low
    rw [hcome] at hR'
    obtain ⟨cs, wy, n⟩ := t
    refine sj_seq (sj_pop (i := 3) (l := lw) (ds := ts0.map Wt.d) (d := (⟨cs, wy, n⟩ : Wt).d) rfl (gj_tup (n := 2) (ds := [natsD cs, wy.d]) rfl ?_))
    walk_at "v"
    show SJ K [.dat false p.d, .dat false (stD st), .ml false lf (fd.map runD), .ml false lw (ts0.map Wt.d), .dat false (natsD cs), .dat false wy.d, s6, s7] _ _
    refine sj_if (wt_not (wt_B (wd_call1 (wd_var rfl ⟨wy, rfl, asD_new ⟨_, rfl, ?_⟩⟩))))
    cases hpl : wy.isPl with
    | false =>
      refine iteT' rfl ?_
      have hall := all_end (p := p) (t := ⟨cs, wy, n⟩) hpl
      rw [hall] at hR'
      refine sj_seq (sj_app (i := 2) (l := lf) (ds := fd.map runD) rfl (by rw [List.length_map]; omega) (wd_tup2 (wd_var rfl (wd_var rfl ?_))))
      have ef : fd.map runD ++ [PyData.tuple [natsD cs, wy.d]] = (fd ++ [(cs, wy)]).map runD := by simp [runD]
      refine sj_if (wt_test (wd_op (wd_lenM (i := 2) (m' := false) (l := lf) rfl (wd_int (rd_gt ⟨_, rfl, ?_⟩)))))
      rw [ef, List.length_map, List.length_append]
      refine iteD (fun hgt => sj_raise ⟨keep_dat (keep_dat keep_nil), q2 ?_⟩) (fun hle => sj_next ?_)
      · rw [← hR', List.length_append, List.length_append]
        simp at hgt ⊢
        omega
      · refine ⟨todo p ts0, ?_, fd ++ [(cs, wy)], ts0, .dat false (natsD cs), .dat false wy.d, s6, s7, rfl, hok0, ?_, ?_, rfl⟩
        · have := size_pos p wy n
          rw [todo_app]
          have e1 : todo p [⟨cs, wy, n⟩] = size p n wy := by simp [todo]
          omega
        · rw [← hR']; simp
        · rw [List.length_append]; simp at hle ⊢; omega
    | true =>
      refine iteF' rfl ?_
      cases wy with
      | gives n' => cases hpl
      | nothing => cases hpl
      | place row st1 =>
      have hrow : row < p.rows.length := hWt.ok.1
      have hst1 : StOk p.m p.bs st1 := hWt.ok.2
      have hfuel : 30 ≤ n + row := hWt.fuel
      have hlen : cs.length ≤ row := hWt.len
      have hlow' : ts0.length ≤ 4 * row := hlow
      obtain ⟨n0, rfl⟩ : ∃ n0, n = n0 + 1 := ⟨n - 1, by omega⟩
      refine sj_if (wt_B (wd_call2 (wd_var rfl (wd_var rfl ⟨p, row, st1, rfl, hrow, asD_new ⟨_, rfl, ?_⟩⟩))))
      have hsz : size p (n0 + 1) (.place row st1) = 1 + ((ways p row st1).map (size p n0)).sum := rfl
      have htodo : todo p (ts0 ++ [⟨cs, .place row st1, n0 + 1⟩]) = todo p ts0 + (1 + ((ways p row st1).map (size p n0)).sum) := by rw [todo_app, ← hsz]; simp [todo]
      cases hpk : isPickAt p row with
      | true =>
        refine iteT' rfl ?_
        obtain ⟨hw5, hw1⟩ := pick_len (st := st1) hp hpk
        have hall := all_pick (p := p) (cs := cs) (n := n0) (st := st1) hpk
        rw [hall] at hR'
        obtain ⟨ws, hws⟩ : ∃ ws, ways p row st1 = ws := ⟨_, rfl⟩
        refine sj_seq (sj_set false (wd_call2 (wd_var rfl (wd_var rfl ⟨p, row, st1, rfl, hp, hrow, hst1, asD_new ?_⟩))))
        have wok : ∀ w ∈ ws, WyOk p w ∧ row + 1 ≤ w.rowN := fun w hw => by
          obtain ⟨a, b⟩ := ways_ok hp hst1 w (by rw [hws]; exact hw)
          exact ⟨a, past_le hp hrow b⟩
        rw [hws] at hw5 hw1 hR' htodo ⊢
        show SJ K [.dat false p.d, .dat false (stD st), .ml false lf (fd.map runD), .ml false lw (ts0.map Wt.d), .dat false (natsD cs), .dat false (Wy.place row st1).d, .dat false (.list (ws.map Wy.d)), s7] _ _
        refine sj_for false (wi_down (wa_d (wd_op (wd_cb1 (wd_var rfl (rc_lenL (wd_int (rd_sub (wa_d (wd_un (wd_int (ru_neg (wa_d (wd_un (wd_int (ru_neg (wa_nil ⟨_, _, rfl, ?_, ?_⟩)))))))))))))))))
        · rw [List.length_map]
          omega
        rw [List.length_map]
        have en : (((ws.length : Int) - 1) - (-1)).toNat = ws.length := by omega
        rw [en]
        refine ⟨fun i Γ' => ∃ s7, Γ' = [.dat false p.d, .dat false (stD st), .ml false lf (fd.map runD), .ml false lw ((ts0 ++ (kids cs n0 0 ws).take i).map Wt.d), .dat false (natsD cs), .dat false (Wy.place row st1).d, .dat false (.list (ws.map Wy.d)), s7], ⟨s7, by simp⟩, ?_, ?_⟩
        · rintro i x Γ' hx ⟨s7, rfl⟩
          obtain ⟨hi, ex⟩ := downD_of hx
          subst ex
          have ek : (ws.length : Int) - 1 - (i : Int) = ((ws.length - 1 - i : Nat) : Int) := by omega
          rw [ek]
          have hkl : ws.length - 1 - i < ws.length := by omega
          have hkw : ws[ws.length - 1 - i]? = some (ws.getD (ws.length - 1 - i) .nothing) := by simp [List.getD_eq_getElem?_getD, hkl]
          refine gj_name (sj_app (i := 3) (l := lw) (ds := (ts0 ++ (kids cs n0 0 ws).take i).map Wt.d) rfl (by simp; omega) (wd_tup2 (wd_op (wd_var rfl (wd_lst1 (wd_var rfl (rd_cat (by simp; omega) (wd_op (wd_var rfl (wd_var rfl (rd_selN (ws.length - 1 - i) rfl (d := (ws.getD (ws.length - 1 - i) .nothing).d) (by rw [List.getElem?_map, hkw]; rfl) ?_)))))))))))
          refine ⟨.dat false (.int (ws.length - 1 - i : Nat)), ?_⟩
          have et : (kids cs n0 0 ws).take (i + 1) = (kids cs n0 0 ws).take i ++ [⟨cs ++ [ws.length - 1 - i], ws.getD (ws.length - 1 - i) .nothing, n0⟩] := by
            have hkk : i < (kids cs n0 0 ws).length := by rw [kids_len]; exact hi
            rw [List.take_succ_eq_append_getElem hkk]
            congr 2
            have := kids_at (cs := cs) (n := n0) hi
            rw [List.getElem?_eq_getElem hkk] at this
            exact Option.some.inj this
          rw [et]
          have ed : (ts0 ++ ((kids cs n0 0 ws).take i ++ [(⟨cs ++ [ws.length - 1 - i], ws.getD (ws.length - 1 - i) .nothing, n0⟩ : Wt)])).map Wt.d = (ts0 ++ (kids cs n0 0 ws).take i).map Wt.d ++ [PyData.tuple [.list ((cs.map fun (n : Nat) => PyData.int n) ++ [.int (ws.length - 1 - i : Nat)]), (ws.getD (ws.length - 1 - i) .nothing).d]] := by
            simp [Wt.d]
          rw [ed]
          rfl
        · rintro Γ' ⟨s7, rfl⟩
          rw [downD_len]
          have etk : (kids cs n0 0 ws).take ws.length = kids cs n0 0 ws := by
            rw [← kids_len cs n0 0 ws, List.take_length]
          rw [etk]
          refine ⟨todo p (ts0 ++ kids cs n0 0 ws), ?_, fd, ts0 ++ kids cs n0 0 ws, .dat false (natsD cs), .dat false (Wy.place row st1).d, .dat false (.list (ws.map Wy.d)), s7, rfl, fun i u hi => ?_, ?_, hfd, rfl⟩
          · rw [htodo, todo_app, todo_kids]
            omega
          · by_cases hil : i < ts0.length
            · rw [List.getElem?_append_left hil] at hi
              exact hok0 i u hi
            · rw [List.getElem?_append_right (by omega)] at hi
              have hj : i - ts0.length < ws.length := by
                have := (List.getElem?_eq_some_iff.mp hi).1
                rw [kids_len] at this
                exact this
              rw [kids_at hj] at hi
              have hu := (Option.some.inj hi).symm
              rw [hu]
              have hm : ws.getD (ws.length - 1 - (i - ts0.length)) .nothing ∈ ws := by
                have hkl : ws.length - 1 - (i - ts0.length) < ws.length := by omega
                simp [List.getD_eq_getElem?_getD, hkl]
              obtain ⟨h1, h2⟩ := wok _ hm
              refine ⟨?_, h1, ?_, ?_⟩
              · show 30 ≤ n0 + (ws.getD (ws.length - 1 - (i - ts0.length)) .nothing).rowN
                omega
              · show i ≤ 4 * (ws.getD (ws.length - 1 - (i - ts0.length)) .nothing).rowN
                omega
              · show (cs ++ [_]).length ≤ (ws.getD (ws.length - 1 - (i - ts0.length)) .nothing).rowN
                rw [List.length_append, List.length_singleton]
                omega
          · rw [toCome_app]
            exact hR'
      | false =>
        refine iteF' rfl ?_
        obtain ⟨w', hw'⟩ := ways_one (st := st1) hrow hpk
        obtain ⟨h1, h2⟩ := ways_ok hp hst1 w' (by rw [hw']; exact List.mem_singleton.mpr rfl)
        have h3 := past_le hp hrow h2
        have hall := all_one (p := p) (cs := cs) (n := n0) hpk hw'
        rw [hall] at hR'
        refine sj_app (i := 3) (l := lw) (ds := ts0.map Wt.d) rfl (by rw [List.length_map]; omega) (wd_tup2 (wd_var rfl (wd_op (wd_call2 (wd_var rfl (wd_var rfl ⟨p, row, st1, rfl, hp, hrow, hst1, asD_new ?_⟩))))))
        rw [hw']
        refine wd_int (rd_selN 0 rfl (d := w'.d) rfl ?_)
        refine ⟨todo p (ts0 ++ [⟨cs, w', n0⟩]), ?_, fd, ts0 ++ [⟨cs, w', n0⟩], .dat false (natsD cs), .dat false (Wy.place row st1).d, s6, s7, rfl, fun i u hi => ?_, ?_, hfd, ?_⟩
        · rw [htodo, hw', todo_app]
          simp [todo]
        · by_cases hil : i < ts0.length
          · rw [List.getElem?_append_left hil] at hi
            exact hok0 i u hi
          · rw [List.getElem?_append_right (by omega)] at hi
            have hj : i - ts0.length = 0 := by
              have := (List.getElem?_eq_some_iff.mp hi).1
              simp at this
              omega
            rw [hj] at hi
            have hu := (Option.some.inj hi).symm
            rw [hu]
            refine ⟨?_, h1, ?_, ?_⟩
            · show 30 ≤ n0 + w'.rowN
              omega
            · show i ≤ 4 * w'.rowN
              omega
            · show cs.length ≤ w'.rowN
              omega
        · rw [toCome_app, toCome_one]
          exact hR'
        · rw [List.map_append]
          rfl
  rintro _ ⟨dw, s4, s5, s6, s7, hle, rfl⟩
  exact sj_retM (i := 2) (l := lf) (ds := R.map runD) rfl ⟨keep_dat (keep_dat keep_nil), q1 hle lf⟩
end
end Dk
end
section
set_option Elab.async false
set_option linter.all false
set_option maxRecDepth 100000
/-! all_runs, each list its own. -/
open PySem L2 Pk
local macro_rules | `(tactic| walk_at "sh") => `(tactic| first | exact sh_int | exact sh_bool | exact sh_non | exact sh_nil | exact sh_str (by decide +kernel) | assumption)
local macro_rules | `(tactic| walk_at "v1") => `(tactic| first
  | (with_reducible refine wd_int ?_) | (with_reducible refine wd_str ?_) | (with_reducible refine wd_bl ?_) | (with_reducible refine wd_non ?_)
  | ((with_reducible apply wd_var); exact rfl) | ((with_reducible apply wd_varN); exact rfl)
  | ((with_reducible apply wd_ixm); exact rfl)
  | ((with_reducible apply wd_lenM); exact rfl) | ((with_reducible apply wd_lenScript); exact rfl) | ((with_reducible apply wd_ixScript); exact rfl)
  | (with_reducible refine wd_op ?_) | (with_reducible refine wd_un ?_)
  | (with_reducible refine rd_add ?_) | (with_reducible refine rd_sub ?_) | (with_reducible refine rd_lt ?_) | (with_reducible refine rd_le ?_) | (with_reducible refine rd_gt ?_) | (with_reducible refine rd_ge ?_) | (with_reducible refine ru_neg ?_)
  | ((with_reducible refine rd_eq ?ev_h ?ev_k ?_); (case ev_h => walk_at "sh"); (case ev_k => walk_at "sh")) | ((with_reducible refine rd_ne ?ev_h ?ev_k ?_); (case ev_h => walk_at "sh"); (case ev_k => walk_at "sh"))
  | ((with_reducible refine rd_mod ?ev_h ?_); case ev_h => first | decide | assumption | omega) | ((with_reducible refine rd_div ?ev_h ?ev_k ?_); (case ev_h => first | decide | assumption | omega); (case ev_k => first | decide | assumption | omega))
  | ((with_reducible refine rd_pow ?ev_h ?_); case ev_h => exact ⟨by decide, by decide, by decide⟩)
  | ((with_reducible refine rd_mul ?ev_h ?_); case ev_h => first | exact .inr ⟨by decide, by decide⟩ | exact .inl ⟨by decide, by decide⟩ | exact .inl ⟨by omega, by omega⟩ | exact .inr ⟨by omega, by omega⟩)
  | (with_reducible refine rc_lenL ?_) | (with_reducible refine rc_lenT ?_) | (with_reducible refine rc_max2 ?_) | (with_reducible refine rc_min2 ?_) | (with_reducible refine rc_intB ?_) | (with_reducible refine rc_intI ?_) | (with_reducible refine rc_listL ?_) | (with_reducible refine rc_listT ?_) | (with_reducible refine rc_tupleL ?_)
  | ((with_reducible apply rd_ixT); exact rfl)
  | ((with_reducible apply rd_ixL); exact rfl)
  | ((with_reducible refine wd_isi ?ev_h ?_); case ev_h => decide) | ((with_reducible refine wd_isi2 ?ev_h ?ev_k ?_); (case ev_h => decide); (case ev_k => decide))
  | (with_reducible refine wd_tup2 ?_) | (with_reducible refine wd_tup1 ?_) | (with_reducible refine wd_tup3 ?_) | (with_reducible refine wd_tup0 ?_)
  | (with_reducible refine wd_lst0 ?_) | (with_reducible refine wd_lst1 ?_) | (with_reducible refine wd_lst2 ?_) | (with_reducible refine wd_lst3 ?_) | (with_reducible refine wd_lst4 ?_) | (with_reducible refine wd_lst5 ?_) | (with_reducible refine wd_lst6 ?_)
  | ((with_reducible apply wd_callO0); exact rfl) | ((with_reducible apply wd_callO1); exact rfl) | ((with_reducible apply wd_callO2); exact rfl) | ((with_reducible apply wd_callO3); exact rfl)
  | (with_reducible refine wd_call1 ?_) | (with_reducible refine wd_call2 ?_) | (with_reducible refine wd_call3 ?_) | (with_reducible refine wd_call4 ?_) | (with_reducible refine wd_call0 ?_)
  | (with_reducible refine wd_cb1 ?_) | (with_reducible refine wd_cb2 ?_)
  | (with_reducible refine wd_rev ?_) | (with_reducible refine wd_lrg1 ?_) | (with_reducible refine wd_sl ?_) | (with_reducible refine wo_no ?_) | (with_reducible refine wo_some ?_)
  | (with_reducible refine wd_andV ?_) | (with_reducible refine wd_orV ?_) | (with_reducible refine wd_notV ?_) | (with_reducible refine wd_if ?_) | (with_reducible refine wd_chain ?_)
  | (with_reducible refine wt_test ?_) | (with_reducible refine wt_B ?_) | (with_reducible refine wt_not ?_) | (with_reducible refine wt_and ?_) | (with_reducible refine wt_or ?_) | (with_reducible refine wt_yes ?_)
  | (with_reducible refine gj_name ?_) | (with_reducible refine gj_tup rfl ?_) | (with_reducible refine gjs_cons ?_) | (with_reducible refine gjs_nil ?_))
local macro_rules | `(tactic| walk_at "v") => `(tactic| repeat walk_at "v1")
local macro_rules | `(tactic| walk_at "x") => `(tactic| refine ⟨_, rfl, ?_⟩)
local macro_rules | `(tactic| walk_at "vx") => `(tactic| repeat (first | walk_at "v1" | (with_reducible refine ⟨_, rfl, ?_⟩)))
namespace Dk
open PySem PySem.Spec PyProof.Rows L2 Pk Sy
def prsR (R : List (List Nat × Wy)) : Prs := R.map fun r => (r.1.map (fun (n : Nat) => PyData.int n), r.2.d)
def T_allrunsP (C0 C2 : Addr) (K : PySem.W.Frag) : List Sl → (Sl → Prop) → XQ → Prop := fun Γ Qr Qe => ∃ p : Pg, ∃ d, Γ = [.dat false p.d, .dat false d] ∧ p.Ok ∧ StSh d ∧ (isSt p.m p.bs.length d = false → Qe (.ref C0) none) ∧ ∀ st, d = stD st → StOk p.m p.bs st → ((runs p 30 (poe p 0 st)).length ≤ 2000 → ∀ l, Qr (.ex (.ref l) (PairsO K (prsR (runs p 30 (poe p 0 st)))))) ∧ (2000 < (runs p 30 (poe p 0 st)).length → Qe (.ref C2) none)
theorem pairsD_prsR (R : List (List Nat × Wy)) : pairsD (prsR R) = R.map runD := by
  unfold pairsD prsR
  rw [List.map_map]
  rfl
theorem lfA_nats : ∀ cs : List Nat, Pk.lfA (cs.map fun (n : Nat) => PyData.int n) = true
  | [] => rfl
  | c :: cs => by rw [List.map_cons, Pk.lfA, lfA_nats cs]; rfl
theorem lfP_prsR (R : List (List Nat × Wy)) : LfP (prsR R) := fun r hr => by
  obtain ⟨x, _, rfl⟩ := List.mem_map.mp hr
  exact ⟨lfA_nats x.1, x.2.lf⟩
theorem ints_prsR (R : List (List Nat × Wy)) : ∀ r ∈ prsR R, ∃ ns : List Int, r.1 = ns.map PyData.int := fun r hr => by
  obtain ⟨x, _, rfl⟩ := List.mem_map.mp hr
  exact ⟨x.1.map fun (n : Nat) => (n : Int), by rw [List.map_map]; rfl⟩
theorem nd_prsR {p : Pg} (hp : p.Ok) {st : List Nat} (hst : StOk p.m p.bs st) {R : List (List Nat × Wy)} (hR : runs p 30 (poe p 0 st) = R) : ((prsR R).map Prod.fst).Nodup := by
  have hap := (runs_all hp 30 (poe p 0 st) (Nat.le_add_right _ _) (poe_ok hst)).2.1
  rw [hR] at hap
  unfold prsR
  rw [List.map_map]
  refine List.pairwise_map.mpr (hap.imp fun {a b} h e => ?_)
  have e' : (a.1.map fun (n : Nat) => PyData.int n) = b.1.map fun (n : Nat) => PyData.int n := e
  have := eqvN a.1 b.1
  rw [e', eqvN] at this
  have e2 : a.1 = b.1 := by simpa using this.symm
  have := pre_apart h
  rw [e2] at this
  exact this List.take_length
section
variable {P : Program} {w : World} {K : PySem.W.Frag} {mg : Str → Option Value} {base : Heap} {k : Nat}
theorem ok_allrunsP {C0 C2 : Addr} (D : Def K mg "all_runs" s_all_runs ["program", "store"]) (c_isplace : Cal P w K mg base CX0 k "is_place" ["way"] (spG K (T_isplace K))) (c_ispick : Cal P w K mg base CX0 k "is_pick" ["program", "place"] (spG K (T_ispick K))) (c_ways : Cal P w K mg base CX0 k "ways_from" ["program", "place"] (spG K (T_ways K))) (c_begin : Cal P w K mg base CX0 k "begin_of" ["program", "store"] (spG K (T_begin K))) (c_need : Cal P w K mg base (L2.CX P w) k "need_store" ["program", "store"] (spX K (T_needX C0 K))) (m_len : mg "len" = none) (m_range : mg "range" = none) (g_MOST_RUNS : ∃ t, mg "MOST_RUNS" = some (.int 2000 t)) (e_TooMany : ExcT K mg "TooMany" C2) : Cal P w K mg base (L2.CX P w) (k + 1) "all_runs" ["program", "store"] (spX K (T_allrunsP C0 C2 K)) := by
  refine cal_x D sc_all_runs (fun Γ Qr Qe ⟨p, d, e, _⟩ => by subst e; exact ⟨rfl, noMl_dat (noMl_dat noMl_nil)⟩) fun f cdv A outer s H E hr => ⟨_, wk_all_runs c_isplace c_ispick c_ways c_begin c_need m_len m_range g_MOST_RUNS e_TooMany f cdv A outer s H E hr, ?_⟩
  rintro Γ Qr Qe ⟨p, d, rfl, hp, hsh, qx0, q⟩
  show SJt K [.dat false p.d, .dat false d, .no, .no, .no, .no, .no, .no] (t_all_runs K _ _ _ _ _ _ _) _
  unfold t_all_runs
  refine sjt_seq (SJ.t (sj_dropW (wxw_call2 (wd_var rfl (wd_var rfl ⟨p, d, rfl, hp, hsh, fun h => ?_, fun h => ⟨keep_dat (keep_dat keep_nil), qx0 h⟩⟩)))))
  obtain ⟨st, ed, hl, hlt⟩ := isSt_of h
  have hst : StOk p.m p.bs st := ⟨hl, hlt⟩
  subst ed
  obtain ⟨q1, q2⟩ := q st rfl hst
  obtain ⟨R, hR⟩ : ∃ R, runs p 30 (poe p 0 st) = R := ⟨_, rfl⟩
  rw [hR] at q1 q2
  have hr30 := hp.r30
  refine sjt_seq (SJ.t (sj_setX (wx_lst0 true fun lf => ?_)))
  refine sjt_seq (SJ.t (sj_setX (wx_lst1 true (wd_tup2 (wd_lst0 (wd_call2 (wd_var rfl (wd_var rfl ⟨p, st, rfl, asD_new fun lw => ?_⟩))))))))
  show SJt K [.dat false p.d, .dat false (stD st), .ml true lf (([] : List (List Nat × Wy)).map runD), .ml true lw ([(⟨[], poe p 0 st, 30⟩ : Wt)].map Wt.d), .no, .no, .no, .no] _ _
  refine sjt_cut (fun Γ' => ∃ (dw : List PyData) (s4 s5 s6 s7 : Sl), R.length ≤ 2000 ∧ Γ' = [.dat false p.d, .dat false (stD st), .ml true lf (R.map runD), .ml true lw dw, s4, s5, s6, s7]) (SJ.t ?_) ?_
  · refine sj_while (fun n Γ' => ∃ (fd : List (List Nat × Wy)) (ts : List Wt) (s4 s5 s6 s7 : Sl), n = todo p ts ∧ AllOk p ts ∧ fd ++ toCome p ts = R ∧ fd.length ≤ 2000 ∧ Γ' = [.dat false p.d, .dat false (stD st), .ml true lf (fd.map runD), .ml true lw (ts.map Wt.d), s4, s5, s6, s7]) (todo p [⟨[], poe p 0 st, 30⟩]) ⟨[], [⟨[], poe p 0 st, 30⟩], .no, .no, .no, .no, rfl, fun i t hi => ?_, ?_, Nat.zero_le _, rfl⟩ ?_
    · cases i with
      | zero =>
        have : t = ⟨[], poe p 0 st, 30⟩ := (Option.some.inj hi).symm
        rw [this]
        exact ⟨Nat.le_add_right _ _, poe_ok hst, Nat.zero_le _, Nat.zero_le _⟩
      | succ i => cases hi
    · rw [toCome_one]
      show [] ++ (runs p 30 (poe p 0 st)).map (preC []) = R
      rw [hR, List.nil_append]
      have : (preC [] : List Nat × Wy → List Nat × Wy) = id := by funext r; simp [preC]
      rw [this, List.map_id]
    rintro n Γ' ⟨fd, ts, s4, s5, s6, s7, rfl, hok, hR', hfd, rfl⟩
    refine wt_thaw ?_
    show WT K [.dat false p.d, .dat false (stD st), .dat false (.list (fd.map runD)), .dat false (.list (ts.map Wt.d)), s4.frz, s5.frz, s6.frz, s7.frz] _ _
    refine wt_test (wd_op (wd_var rfl (wd_lst0 (rd_ne (wts_sh ts) sh_nil ⟨_, rfl, ?_⟩))))
    rw [eqv_nilD]
    rcases List.eq_nil_or_concat ts with e | ⟨ts0, t, e⟩
    · subst e
      have : fd = R := by rw [← hR']; simp [toCome]
      rw [← this]
      exact iteF' rfl ⟨_, s4, s5, s6, s7, hfd, rfl⟩
    rw [List.concat_eq_append] at e
    subst e
    have em : (ts0 ++ [t]).map Wt.d = ts0.map Wt.d ++ [t.d] := by simp
    rw [em]
    refine iteT' (by simp) ?_
    have hWt := hok ts0.length t (by simp)
    have hok0 : AllOk p ts0 := fun i u hi => hok i u (by
      have hil : i < ts0.length := (List.getElem?_eq_some_iff.mp hi).1
      rw [List.getElem?_append_left hil]; exact hi)
    have hcome : toCome p (ts0 ++ [t]) = t.all p ++ toCome p ts0 := by rw [toCome_app, toCome_one]
    have hrn := rowN_le hp hWt.ok
    have hlow := hWt.low
    rw [hcome] at hR'
    obtain ⟨cs, wy, n⟩ := t
    refine sj_seq (sj_pop (i := 3) (l := lw) (ds := ts0.map Wt.d) (d := (⟨cs, wy, n⟩ : Wt).d) rfl (gj_tup (n := 2) (ds := [natsD cs, wy.d]) rfl ?_))
    walk_at "v"
    show SJ K [.dat false p.d, .dat false (stD st), .ml true lf (fd.map runD), .ml true lw (ts0.map Wt.d), .dat true (natsD cs), .dat true wy.d, s6, s7] _ _
    refine sj_if (wt_not (wt_B (wd_call1 (wd_varN rfl ⟨wy, rfl, asD_new ⟨_, rfl, ?_⟩⟩))))
    cases hpl : wy.isPl with
    | false =>
      refine iteT' rfl ?_
      have hall := all_end (p := p) (t := ⟨cs, wy, n⟩) hpl
      rw [hall] at hR'
      refine sj_seq (sj_app (i := 2) (l := lf) (ds := fd.map runD) rfl (by rw [List.length_map]; omega) (wd_tup2 (wd_var rfl (wd_var rfl ?_))))
      have ef : fd.map runD ++ [PyData.tuple [natsD cs, wy.d]] = (fd ++ [(cs, wy)]).map runD := by simp [runD]
      refine sj_if (wt_test (wd_op (wd_lenM (i := 2) (m' := true) (l := lf) rfl (wd_int (rd_gt ⟨_, rfl, ?_⟩)))))
      rw [ef, List.length_map, List.length_append]
      refine iteD (fun hgt => sj_raise ⟨keep_dat (keep_dat keep_nil), q2 ?_⟩) (fun hle => sj_next ?_)
      · rw [← hR', List.length_append, List.length_append]
        simp at hgt ⊢
        omega
      · refine ⟨todo p ts0, ?_, fd ++ [(cs, wy)], ts0, .dat true (natsD cs), .dat true wy.d, s6, s7, rfl, hok0, ?_, ?_, rfl⟩
        · have := size_pos p wy n
          rw [todo_app]
          have e1 : todo p [⟨cs, wy, n⟩] = size p n wy := by simp [todo]
          omega
        · rw [← hR']; simp
        · rw [List.length_append]; simp at hle ⊢; omega
    | true =>
      refine iteF' rfl ?_
      cases wy with
      | gives n' => cases hpl
      | nothing => cases hpl
      | place row st1 =>
      have hrow : row < p.rows.length := hWt.ok.1
      have hst1 : StOk p.m p.bs st1 := hWt.ok.2
      have hfuel : 30 ≤ n + row := hWt.fuel
      have hlen : cs.length ≤ row := hWt.len
      have hlow' : ts0.length ≤ 4 * row := hlow
      obtain ⟨n0, rfl⟩ : ∃ n0, n = n0 + 1 := ⟨n - 1, by omega⟩
      refine sj_if (wt_B (wd_call2 (wd_var rfl (wd_varN rfl ⟨p, row, st1, rfl, hrow, asD_new ⟨_, rfl, ?_⟩⟩))))
      have hsz : size p (n0 + 1) (.place row st1) = 1 + ((ways p row st1).map (size p n0)).sum := rfl
      have htodo : todo p (ts0 ++ [⟨cs, .place row st1, n0 + 1⟩]) = todo p ts0 + (1 + ((ways p row st1).map (size p n0)).sum) := by rw [todo_app, ← hsz]; simp [todo]
      cases hpk : isPickAt p row with
      | true =>
        refine iteT' rfl ?_
        obtain ⟨hw5, hw1⟩ := pick_len (st := st1) hp hpk
        have hall := all_pick (p := p) (cs := cs) (n := n0) (st := st1) hpk
        rw [hall] at hR'
        obtain ⟨ws, hws⟩ : ∃ ws, ways p row st1 = ws := ⟨_, rfl⟩
        refine sj_seq (sj_set true (wd_call2 (wd_var rfl (wd_varN rfl ⟨p, row, st1, rfl, hp, hrow, hst1, asD_new ?_⟩))))
        have wok : ∀ w ∈ ws, WyOk p w ∧ row + 1 ≤ w.rowN := fun w hw => by
          obtain ⟨a, b⟩ := ways_ok hp hst1 w (by rw [hws]; exact hw)
          exact ⟨a, past_le hp hrow b⟩
        rw [hws] at hw5 hw1 hR' htodo ⊢
        show SJ K [.dat false p.d, .dat false (stD st), .ml true lf (fd.map runD), .ml true lw (ts0.map Wt.d), .dat true (natsD cs), .dat true (Wy.place row st1).d, .dat true (.list (ws.map Wy.d)), s7] _ _
        refine sj_for true (wi_down (wa_d (wd_op (wd_cb1 (wd_varN rfl (rc_lenL (wd_int (rd_sub (wa_d (wd_un (wd_int (ru_neg (wa_d (wd_un (wd_int (ru_neg (wa_nil ⟨_, _, rfl, ?_, ?_⟩)))))))))))))))))
        · rw [List.length_map]
          omega
        rw [List.length_map]
        have en : (((ws.length : Int) - 1) - (-1)).toNat = ws.length := by omega
        rw [en]
        refine ⟨fun i Γ' => ∃ s7, Γ' = [.dat false p.d, .dat false (stD st), .ml true lf (fd.map runD), .ml true lw ((ts0 ++ (kids cs n0 0 ws).take i).map Wt.d), .dat true (natsD cs), .dat true (Wy.place row st1).d, .dat true (.list (ws.map Wy.d)), s7], ⟨s7, by simp⟩, ?_, ?_⟩
        · rintro i x Γ' hx ⟨s7, rfl⟩
          obtain ⟨hi, ex⟩ := downD_of hx
          subst ex
          have ek : (ws.length : Int) - 1 - (i : Int) = ((ws.length - 1 - i : Nat) : Int) := by omega
          rw [ek]
          have hkl : ws.length - 1 - i < ws.length := by omega
          have hkw : ws[ws.length - 1 - i]? = some (ws.getD (ws.length - 1 - i) .nothing) := by simp [List.getD_eq_getElem?_getD, hkl]
          refine gj_name (sj_app (i := 3) (l := lw) (ds := (ts0 ++ (kids cs n0 0 ws).take i).map Wt.d) rfl (by simp; omega) (wd_tup2 (wd_op (wd_var rfl (wd_lst1 (wd_var rfl (rd_cat (by simp; omega) (wd_op (wd_var rfl (wd_var rfl (rd_selN (ws.length - 1 - i) rfl (d := (ws.getD (ws.length - 1 - i) .nothing).d) (by rw [List.getElem?_map, hkw]; rfl) ?_)))))))))))
          refine ⟨.dat true (.int (ws.length - 1 - i : Nat)), ?_⟩
          have et : (kids cs n0 0 ws).take (i + 1) = (kids cs n0 0 ws).take i ++ [⟨cs ++ [ws.length - 1 - i], ws.getD (ws.length - 1 - i) .nothing, n0⟩] := by
            have hkk : i < (kids cs n0 0 ws).length := by rw [kids_len]; exact hi
            rw [List.take_succ_eq_append_getElem hkk]
            congr 2
            have := kids_at (cs := cs) (n := n0) hi
            rw [List.getElem?_eq_getElem hkk] at this
            exact Option.some.inj this
          rw [et]
          have ed : (ts0 ++ ((kids cs n0 0 ws).take i ++ [(⟨cs ++ [ws.length - 1 - i], ws.getD (ws.length - 1 - i) .nothing, n0⟩ : Wt)])).map Wt.d = (ts0 ++ (kids cs n0 0 ws).take i).map Wt.d ++ [PyData.tuple [.list ((cs.map fun (n : Nat) => PyData.int n) ++ [.int (ws.length - 1 - i : Nat)]), (ws.getD (ws.length - 1 - i) .nothing).d]] := by
            simp [Wt.d]
          rw [ed]
          rfl
        · rintro Γ' ⟨s7, rfl⟩
          rw [downD_len]
          have etk : (kids cs n0 0 ws).take ws.length = kids cs n0 0 ws := by
            rw [← kids_len cs n0 0 ws, List.take_length]
          rw [etk]
          refine ⟨todo p (ts0 ++ kids cs n0 0 ws), ?_, fd, ts0 ++ kids cs n0 0 ws, .dat true (natsD cs), .dat true (Wy.place row st1).d, .dat true (.list (ws.map Wy.d)), s7, rfl, fun i u hi => ?_, ?_, hfd, rfl⟩
          · rw [htodo, todo_app, todo_kids]
            omega
          · by_cases hil : i < ts0.length
            · rw [List.getElem?_append_left hil] at hi
              exact hok0 i u hi
            · rw [List.getElem?_append_right (by omega)] at hi
              have hj : i - ts0.length < ws.length := by
                have := (List.getElem?_eq_some_iff.mp hi).1
                rw [kids_len] at this
                exact this
              rw [kids_at hj] at hi
              have hu := (Option.some.inj hi).symm
              rw [hu]
              have hm : ws.getD (ws.length - 1 - (i - ts0.length)) .nothing ∈ ws := by
                have hkl : ws.length - 1 - (i - ts0.length) < ws.length := by omega
                simp [List.getD_eq_getElem?_getD, hkl]
              obtain ⟨h1, h2⟩ := wok _ hm
              refine ⟨?_, h1, ?_, ?_⟩
              · show 30 ≤ n0 + (ws.getD (ws.length - 1 - (i - ts0.length)) .nothing).rowN
                omega
              · show i ≤ 4 * (ws.getD (ws.length - 1 - (i - ts0.length)) .nothing).rowN
                omega
              · show (cs ++ [_]).length ≤ (ws.getD (ws.length - 1 - (i - ts0.length)) .nothing).rowN
                rw [List.length_append, List.length_singleton]
                omega
          · rw [toCome_app]
            exact hR'
      | false =>
        refine iteF' rfl ?_
        obtain ⟨w', hw'⟩ := ways_one (st := st1) hrow hpk
        obtain ⟨h1, h2⟩ := ways_ok hp hst1 w' (by rw [hw']; exact List.mem_singleton.mpr rfl)
        have h3 := past_le hp hrow h2
        have hall := all_one (p := p) (cs := cs) (n := n0) hpk hw'
        rw [hall] at hR'
        refine sj_app (i := 3) (l := lw) (ds := ts0.map Wt.d) rfl (by rw [List.length_map]; omega) (wd_tup2 (wd_var rfl (wd_op (wd_call2 (wd_var rfl (wd_varN rfl ⟨p, row, st1, rfl, hp, hrow, hst1, asD_new ?_⟩))))))
        rw [hw']
        refine wd_int (rd_selN 0 rfl (d := w'.d) rfl ?_)
        refine ⟨todo p (ts0 ++ [⟨cs, w', n0⟩]), ?_, fd, ts0 ++ [⟨cs, w', n0⟩], .dat true (natsD cs), .dat true (Wy.place row st1).d, s6, s7, rfl, fun i u hi => ?_, ?_, hfd, ?_⟩
        · rw [htodo, hw', todo_app]
          simp [todo]
        · by_cases hil : i < ts0.length
          · rw [List.getElem?_append_left hil] at hi
            exact hok0 i u hi
          · rw [List.getElem?_append_right (by omega)] at hi
            have hj : i - ts0.length = 0 := by
              have := (List.getElem?_eq_some_iff.mp hi).1
              simp at this
              omega
            rw [hj] at hi
            have hu := (Option.some.inj hi).symm
            rw [hu]
            refine ⟨?_, h1, ?_, ?_⟩
            · show 30 ≤ n0 + w'.rowN
              omega
            · show i ≤ 4 * w'.rowN
              omega
            · show cs.length ≤ w'.rowN
              omega
        · rw [toCome_app, toCome_one]
          exact hR'
        · rw [List.map_append]
          rfl
  rintro _ ⟨dw, s4, s5, s6, s7, hle, rfl⟩
  refine sjt_retPairs (i := 2) (l := lf) (rs := prsR R) (by rw [pairsD_prsR]; rfl) (lfP_prsR R) (ints_prsR R) (nd_prsR hp hst hR) ⟨keep_dat (keep_dat keep_nil), q1 hle lf⟩
end
end Dk
end
section
set_option Elab.async false
set_option linter.all false
set_option maxRecDepth 100000
/-! The law's _law_runs, exactly; runs as data. -/
open PySem L2 Pk
local macro_rules | `(tactic| walk_at "sh") => `(tactic| first | exact sh_int | exact sh_bool | exact sh_non | exact sh_nil | exact sh_str (by decide +kernel) | assumption)
local macro_rules | `(tactic| walk_at "v1") => `(tactic| first
  | (with_reducible refine wd_int ?_) | (with_reducible refine wd_str ?_) | (with_reducible refine wd_bl ?_) | (with_reducible refine wd_non ?_)
  | ((with_reducible apply wd_var); exact rfl) | ((with_reducible apply wd_varN); exact rfl)
  | ((with_reducible apply wd_ixm); exact rfl)
  | ((with_reducible apply wd_lenM); exact rfl) | ((with_reducible apply wd_lenScript); exact rfl) | ((with_reducible apply wd_ixScript); exact rfl)
  | (with_reducible refine wd_op ?_) | (with_reducible refine wd_un ?_)
  | (with_reducible refine rd_add ?_) | (with_reducible refine rd_sub ?_) | (with_reducible refine rd_lt ?_) | (with_reducible refine rd_le ?_) | (with_reducible refine rd_gt ?_) | (with_reducible refine rd_ge ?_) | (with_reducible refine ru_neg ?_)
  | ((with_reducible refine rd_eq ?ev_h ?ev_k ?_); (case ev_h => walk_at "sh"); (case ev_k => walk_at "sh")) | ((with_reducible refine rd_ne ?ev_h ?ev_k ?_); (case ev_h => walk_at "sh"); (case ev_k => walk_at "sh"))
  | ((with_reducible refine rd_mod ?ev_h ?_); case ev_h => first | decide | assumption | omega) | ((with_reducible refine rd_div ?ev_h ?ev_k ?_); (case ev_h => first | decide | assumption | omega); (case ev_k => first | decide | assumption | omega))
  | ((with_reducible refine rd_pow ?ev_h ?_); case ev_h => exact ⟨by decide, by decide, by decide⟩)
  | ((with_reducible refine rd_mul ?ev_h ?_); case ev_h => first | exact .inr ⟨by decide, by decide⟩ | exact .inl ⟨by decide, by decide⟩ | exact .inl ⟨by omega, by omega⟩ | exact .inr ⟨by omega, by omega⟩)
  | (with_reducible refine rc_lenL ?_) | (with_reducible refine rc_lenT ?_) | (with_reducible refine rc_max2 ?_) | (with_reducible refine rc_min2 ?_) | (with_reducible refine rc_intB ?_) | (with_reducible refine rc_intI ?_) | (with_reducible refine rc_listL ?_) | (with_reducible refine rc_listT ?_) | (with_reducible refine rc_tupleL ?_)
  | ((with_reducible apply rd_ixT); exact rfl)
  | ((with_reducible apply rd_ixL); exact rfl)
  | ((with_reducible refine wd_isi ?ev_h ?_); case ev_h => decide) | ((with_reducible refine wd_isi2 ?ev_h ?ev_k ?_); (case ev_h => decide); (case ev_k => decide))
  | (with_reducible refine wd_tup2 ?_) | (with_reducible refine wd_tup1 ?_) | (with_reducible refine wd_tup3 ?_) | (with_reducible refine wd_tup0 ?_)
  | (with_reducible refine wd_lst0 ?_) | (with_reducible refine wd_lst1 ?_) | (with_reducible refine wd_lst2 ?_) | (with_reducible refine wd_lst3 ?_) | (with_reducible refine wd_lst4 ?_) | (with_reducible refine wd_lst5 ?_) | (with_reducible refine wd_lst6 ?_)
  | ((with_reducible apply wd_callO0); exact rfl) | ((with_reducible apply wd_callO1); exact rfl) | ((with_reducible apply wd_callO2); exact rfl) | ((with_reducible apply wd_callO3); exact rfl)
  | (with_reducible refine wd_call1 ?_) | (with_reducible refine wd_call2 ?_) | (with_reducible refine wd_call3 ?_) | (with_reducible refine wd_call4 ?_) | (with_reducible refine wd_call0 ?_)
  | (with_reducible refine wd_cb1 ?_) | (with_reducible refine wd_cb2 ?_)
  | (with_reducible refine wd_rev ?_) | (with_reducible refine wd_lrg1 ?_) | (with_reducible refine wd_sl ?_) | (with_reducible refine wo_no ?_) | (with_reducible refine wo_some ?_)
  | (with_reducible refine wd_andV ?_) | (with_reducible refine wd_orV ?_) | (with_reducible refine wd_notV ?_) | (with_reducible refine wd_if ?_) | (with_reducible refine wd_chain ?_)
  | (with_reducible refine wt_test ?_) | (with_reducible refine wt_B ?_) | (with_reducible refine wt_not ?_) | (with_reducible refine wt_and ?_) | (with_reducible refine wt_or ?_) | (with_reducible refine wt_yes ?_)
  | (with_reducible refine gj_name ?_) | (with_reducible refine gj_tup rfl ?_) | (with_reducible refine gjs_cons ?_) | (with_reducible refine gjs_nil ?_))
local macro_rules | `(tactic| walk_at "v") => `(tactic| repeat walk_at "v1")
local macro_rules | `(tactic| walk_at "x") => `(tactic| refine ⟨_, rfl, ?_⟩)
local macro_rules | `(tactic| walk_at "vx") => `(tactic| repeat (first | walk_at "v1" | (with_reducible refine ⟨_, rfl, ?_⟩)))
namespace Dk
open PySem PySem.Spec PyProof.Rows L2 Pk Sy
def T_lrunsE (K : PySem.W.Frag) : List Sl → (Sl → Prop) → Prop := fun Γ Q => ∃ p : Pg, ∃ st, Γ = [.dat false p.d, .dat false (stD st)] ∧ p.Ok ∧ StOk p.m p.bs st ∧ ((rn p st).length ≤ 2000 → ∀ l, Q (.ml false l ((rn p st).map runD))) ∧ (2000 < (rn p st).length → Q (.dat true .none))
theorem cut_last {α : Type} (xs : List α) : Pk.cutD xs none (some (-1)) = xs.dropLast := by
  rw [List.dropLast_eq_take]
  have h1 : ((xs.length : Int) + -1).toNat = xs.length - 1 := by omega
  by_cases h : xs.length = 0
  · have : xs = [] := List.length_eq_zero_iff.mp h
    subst this
    rfl
  · simp [Pk.cutD, HT.sIx]
    omega
theorem cut_takeN {α : Type} (xs : List α) (n : Nat) : Pk.cutD xs none (some (n : Int)) = xs.take n := by
  have h0 : ¬ ((n : Int) < 0) := by omega
  simp [Pk.cutD, HT.sIx, h0]
theorem nats_depth (cs : List Nat) : (natsD cs).depth ≤ 60 := by
  have h : PyData.depthAll (cs.map fun (n : Nat) => PyData.int n) = 0 := by
    induction cs with
    | nil => rfl
    | cons a b ih => rw [List.map_cons, PyData.depthAll, ih]; rfl
  show PyData.depthAll _ + 1 ≤ 60
  rw [h]
  decide
theorem runs_sh (rs : List (List Nat × Wy)) : SeqAt.shaped (.list (rs.map runD)) = true := sh_of (n := 4) (fun x hx => by
  obtain ⟨t, _, rfl⟩ := List.mem_map.mp hx
  intro y hy
  have hy' : y = natsD t.1 ∨ y = t.2.d := by simpa [runD] using hy
  rcases hy' with z | z
  · rw [z]
    intro u hu
    obtain ⟨n, _, rfl⟩ := List.mem_map.mp hu
    exact dep_int
  · rw [z]; exact wy_dep t.2) (by decide)
theorem run_sh (r : List Nat × Wy) : SeqAt.shaped (runD r) = true := sh_of (n := 3) (fun y hy => by
  have hy' : y = natsD r.1 ∨ y = r.2.d := by simpa [runD] using hy
  rcases hy' with z | z
  · rw [z]
    intro u hu
    obtain ⟨n, _, rfl⟩ := List.mem_map.mp hu
    exact dep_int
  · rw [z]; exact wy_dep r.2) (by decide)
theorem run_dep (r : List Nat × Wy) : Pk.dep 3 (runD r) := fun y hy => by
  have hy' : y = natsD r.1 ∨ y = r.2.d := by simpa [runD] using hy
  rcases hy' with z | z
  · rw [z]
    intro u hu
    obtain ⟨n, _, rfl⟩ := List.mem_map.mp hu
    exact dep_int
  · rw [z]; exact wy_dep r.2
theorem run_depth (r : List Nat × Wy) : (runD r).depth ≤ 60 := Nat.le_trans (dep_can 3 _ (run_dep r)).2 (by decide)
theorem run_nb (r : List Nat × Wy) : NB (runD r) := .tup fun y hy => by
  have hy' : y = natsD r.1 ∨ y = r.2.d := by simpa [runD] using hy
  rcases hy' with z | z
  · rw [z]; exact nats_nb r.1
  · rw [z]; exact Wy.nb r.2
end Dk
end
section
set_option Elab.async false
set_option linter.all false
set_option maxRecDepth 100000
/-! Law k08: all runs, the law's own. -/
open PySem L2 Pk
local macro_rules | `(tactic| walk_at "sh") => `(tactic| first | exact sh_int | exact sh_bool | exact sh_non | exact sh_nil | exact sh_str (by decide +kernel) | assumption)
local macro_rules | `(tactic| walk_at "v1") => `(tactic| first
  | (with_reducible refine wd_int ?_) | (with_reducible refine wd_str ?_) | (with_reducible refine wd_bl ?_) | (with_reducible refine wd_non ?_)
  | ((with_reducible apply wd_var); exact rfl) | ((with_reducible apply wd_varN); exact rfl)
  | ((with_reducible apply wd_ixm); exact rfl)
  | ((with_reducible apply wd_lenM); exact rfl) | ((with_reducible apply wd_lenScript); exact rfl) | ((with_reducible apply wd_ixScript); exact rfl)
  | (with_reducible refine wd_op ?_) | (with_reducible refine wd_un ?_)
  | (with_reducible refine rd_add ?_) | (with_reducible refine rd_sub ?_) | (with_reducible refine rd_lt ?_) | (with_reducible refine rd_le ?_) | (with_reducible refine rd_gt ?_) | (with_reducible refine rd_ge ?_) | (with_reducible refine ru_neg ?_)
  | ((with_reducible refine rd_eq ?ev_h ?ev_k ?_); (case ev_h => walk_at "sh"); (case ev_k => walk_at "sh")) | ((with_reducible refine rd_ne ?ev_h ?ev_k ?_); (case ev_h => walk_at "sh"); (case ev_k => walk_at "sh"))
  | ((with_reducible refine rd_mod ?ev_h ?_); case ev_h => first | decide | assumption | omega) | ((with_reducible refine rd_div ?ev_h ?ev_k ?_); (case ev_h => first | decide | assumption | omega); (case ev_k => first | decide | assumption | omega))
  | ((with_reducible refine rd_pow ?ev_h ?_); case ev_h => exact ⟨by decide, by decide, by decide⟩)
  | ((with_reducible refine rd_mul ?ev_h ?_); case ev_h => first | exact .inr ⟨by decide, by decide⟩ | exact .inl ⟨by decide, by decide⟩ | exact .inl ⟨by omega, by omega⟩ | exact .inr ⟨by omega, by omega⟩)
  | (with_reducible refine rc_lenL ?_) | (with_reducible refine rc_lenT ?_) | (with_reducible refine rc_max2 ?_) | (with_reducible refine rc_min2 ?_) | (with_reducible refine rc_intB ?_) | (with_reducible refine rc_intI ?_) | (with_reducible refine rc_listL ?_) | (with_reducible refine rc_listT ?_) | (with_reducible refine rc_tupleL ?_)
  | ((with_reducible apply rd_ixT); exact rfl)
  | ((with_reducible apply rd_ixL); exact rfl)
  | ((with_reducible refine wd_isi ?ev_h ?_); case ev_h => decide) | ((with_reducible refine wd_isi2 ?ev_h ?ev_k ?_); (case ev_h => decide); (case ev_k => decide))
  | (with_reducible refine wd_tup2 ?_) | (with_reducible refine wd_tup1 ?_) | (with_reducible refine wd_tup3 ?_) | (with_reducible refine wd_tup0 ?_)
  | (with_reducible refine wd_lst0 ?_) | (with_reducible refine wd_lst1 ?_) | (with_reducible refine wd_lst2 ?_) | (with_reducible refine wd_lst3 ?_) | (with_reducible refine wd_lst4 ?_) | (with_reducible refine wd_lst5 ?_) | (with_reducible refine wd_lst6 ?_)
  | ((with_reducible apply wd_callO0); exact rfl) | ((with_reducible apply wd_callO1); exact rfl) | ((with_reducible apply wd_callO2); exact rfl) | ((with_reducible apply wd_callO3); exact rfl)
  | (with_reducible refine wd_call1 ?_) | (with_reducible refine wd_call2 ?_) | (with_reducible refine wd_call3 ?_) | (with_reducible refine wd_call4 ?_) | (with_reducible refine wd_call0 ?_)
  | (with_reducible refine wd_cb1 ?_) | (with_reducible refine wd_cb2 ?_)
  | (with_reducible refine wd_rev ?_) | (with_reducible refine wd_lrg1 ?_) | (with_reducible refine wd_sl ?_) | (with_reducible refine wo_no ?_) | (with_reducible refine wo_some ?_)
  | (with_reducible refine wd_andV ?_) | (with_reducible refine wd_orV ?_) | (with_reducible refine wd_notV ?_) | (with_reducible refine wd_if ?_) | (with_reducible refine wd_chain ?_)
  | (with_reducible refine wt_test ?_) | (with_reducible refine wt_B ?_) | (with_reducible refine wt_not ?_) | (with_reducible refine wt_and ?_) | (with_reducible refine wt_or ?_) | (with_reducible refine wt_yes ?_)
  | (with_reducible refine gj_name ?_) | (with_reducible refine gj_tup rfl ?_) | (with_reducible refine gjs_cons ?_) | (with_reducible refine gjs_nil ?_))
local macro_rules | `(tactic| walk_at "v") => `(tactic| repeat walk_at "v1")
local macro_rules | `(tactic| walk_at "x") => `(tactic| refine ⟨_, rfl, ?_⟩)
local macro_rules | `(tactic| walk_at "vx") => `(tactic| repeat (first | walk_at "v1" | (with_reducible refine ⟨_, rfl, ?_⟩)))
namespace Dk
open PySem PySem.Spec PyProof.Rows L2 Pk Sy Pz
theorem need29 {p : Pg} (hp : p.Ok) {row : Nat} {w : Wy} (h : past row w) : w.need p ≤ 29 := by
  have := hp.r30
  cases w with
  | place r s =>
    have h' : row + 1 ≤ r := h
    show p.rows.length - r ≤ 29
    omega
  | gives k => exact Nat.zero_le _
  | nothing => exact Nat.zero_le _
theorem rn_step {p : Pg} (hp : p.Ok) {row : Nat} {st : List Nat} {w : Wy} (hw : WyOk p (.place row st)) (hpk : isPickAt p row = false) (h : ways p row st = [w]) : runs p 30 (.place row st) = runs p 30 w ∧ WyOk p w := by
  obtain ⟨h1, h2⟩ := ways_ok hp hw.2 w (by rw [h]; exact List.mem_singleton.mpr rfl)
  refine ⟨?_, h1⟩
  show (if isPickAt p row = true then _ else (ways p row st).flatMap (runs p 29)) = _
  rw [hpk, if_neg Bool.false_ne_true, h, List.flatMap_singleton]
  exact (runs_enough hp 29 w (need29 hp h2) h1).symm
theorem rn_pick {p : Pg} (hp : p.Ok) {row : Nat} {st : List Nat} (hs : StOk p.m p.bs st) (hpk : isPickAt p row = true) : runs p 30 (.place row st) = fan (runs p 30) 0 (ways p row st) := by
  show (if isPickAt p row = true then fan (runs p 29) 0 (ways p row st) else _) = _
  rw [hpk, if_pos rfl]
  refine fan_congr 0 fun w hw => ?_
  obtain ⟨h1, h2⟩ := ways_ok hp hs w hw
  exact (runs_enough hp 29 w (need29 hp h2) h1).symm
theorem rn_stp {p : Pg} (hp : p.Ok) {w z : Wy} (h : Stp p w z) : WyOk p w → runs p 30 w = runs p 30 z := by
  induction h with
  | rfl => exact fun _ => rfl
  | step h1 h2 _ ih =>
    intro hw
    obtain ⟨e, hw'⟩ := rn_step hp hw h1 h2
    exact e.trans (ih hw')
structure It where
  cs : List Nat
  row : Nat
  st : List Nat
  o : Option Wy
def It.z (t : It) : Wy := match t.o with
  | none => .place t.row t.st
  | some e => e
def hereD (t : It) : PyData := .tuple [.int t.row, stD t.st, oD t.o]
def It.d (t : It) : PyData := .tuple [natsD t.cs, hereD t]
def It.wt (t : It) : Wt := ⟨t.cs, t.z, 30⟩
def It.m (t : It) : Nat := match t.o with
  | none => 6 ^ (30 - t.row)
  | some _ => 1
structure ItOk (p : Pg) (i : Nat) (t : It) : Prop where
  e : ∀ e, t.o = some e → e.isPl = false
  n : t.o = none → t.row < p.rows.length ∧ isPickAt p t.row = true ∧ StOk p.m p.bs t.st
  low : i ≤ 4 * t.z.rowN
  len : t.cs.length ≤ t.z.rowN
  up : t.z.rowN ≤ 30
def mS (ts : List It) : Nat := (ts.map It.m).sum
theorem mS_app (a b : List It) : mS (a ++ b) = mS a + mS b := by simp [mS]
theorem toCome_congr (p : Pg) : ∀ {a b : List Wt}, a.map (Wt.all p) = b.map (Wt.all p) → toCome p a = toCome p b
  | [], [], _ => rfl
  | [], _ :: _, h => by cases h
  | _ :: _, [], h => by cases h
  | x :: a, y :: b, h => by
    obtain ⟨h1, h2⟩ := List.cons.inj (show x.all p :: a.map (Wt.all p) = y.all p :: b.map (Wt.all p) from h)
    show toCome p a ++ x.all p = toCome p b ++ y.all p
    rw [toCome_congr p h2, h1]
theorem oD_dep (o : Option Wy) : Pk.dep 2 (oD o) := by
  cases o with
  | none => exact True.intro
  | some e => exact wy_dep e
theorem its_sh (ts : List It) : SeqAt.shaped (.list (ts.map It.d)) = true := sh_of (n := 5) (fun x hx => by
  obtain ⟨t, _, rfl⟩ := List.mem_map.mp hx
  intro y hy
  have hy' : y = natsD t.cs ∨ y = hereD t := by simpa [It.d] using hy
  rcases hy' with z | z
  · rw [z]
    intro u hu
    obtain ⟨n, _, rfl⟩ := List.mem_map.mp hu
    exact dep_int
  · rw [z]
    intro u hu
    have hu' : u = .int t.row ∨ u = stD t.st ∨ u = oD t.o := by simpa [hereD] using hu
    rcases hu' with z | z | z
    · rw [z]; exact dep_int
    · rw [z]
      intro v hv
      obtain ⟨n, _, rfl⟩ := List.mem_map.mp hv
      exact dep_int
    · rw [z]; exact oD_dep t.o) (by decide)
/-- what a pick puts on -/
def Kid (p : Pg) (cs : List Nat) (row : Nat) (ws : List Wy) (i : Nat) (t : It) : Prop := t.cs = cs ++ [ws.length - 1 - i] ∧ ∃ w, ws[ws.length - 1 - i]? = some w ∧ TP p (row + 1) w t.row t.st t.o
theorem kid_z {p : Pg} {cs : List Nat} {row : Nat} {ws : List Wy} {i : Nat} {t : It} (hr : row < 30) (h : Kid p cs row ws i t) : ∃ w, ws[ws.length - 1 - i]? = some w ∧ Stp p w t.z ∧ row + 1 ≤ t.z.rowN ∧ (∀ e, t.o = some e → e.isPl = false) ∧ (t.o = none → t.row < p.rows.length ∧ isPickAt p t.row = true ∧ StOk p.m p.bs t.st) ∧ t.m ≤ 6 ^ (29 - row) := by
  obtain ⟨_, w, hw, htp⟩ := h
  obtain ⟨tc, tr, ts, to⟩ := t
  cases to with
  | none =>
    obtain ⟨h1, h2, h3, h4, h5⟩ := htp
    refine ⟨w, hw, h5, h1, fun e he => (by cases he), fun _ => ⟨h2, h3, h4⟩, ?_⟩
    show 6 ^ (30 - tr) ≤ 6 ^ (29 - row)
    refine Nat.pow_le_pow_right (by decide) ?_
    have : row + 1 ≤ tr := h1
    omega
  | some e =>
    obtain ⟨h1, h2, h3⟩ := htp
    refine ⟨w, hw, h3, ?_, fun e' he => (by cases he; exact h1), fun he => (by cases he), Nat.pow_pos (by decide)⟩
    cases e with
    | place r s => cases h1
    | gives n => show row + 1 ≤ 30; omega
    | nothing => show row + 1 ≤ 30; omega
theorem kids_m {p : Pg} {cs : List Nat} {row : Nat} {ws : List Wy} (hr : row < 30) {nw : List It} (h5 : nw.length ≤ 5) (h : ∀ (i : Nat) t, nw[i]? = some t → Kid p cs row ws i t) : mS nw < 6 ^ (30 - row) := by
  have key : ∀ (l : List It), (∀ t ∈ l, t.m ≤ 6 ^ (29 - row)) → mS l ≤ l.length * 6 ^ (29 - row) := fun l => by
    induction l with
    | nil => intro _; simp [mS]
    | cons t l ih =>
      intro hl
      have h1 := hl t List.mem_cons_self
      have h2 := ih fun x hx => hl x (List.mem_cons_of_mem _ hx)
      show t.m + mS l ≤ (l.length + 1) * 6 ^ (29 - row)
      rw [Nat.add_mul]
      omega
  have h1 := key nw fun t ht => by
    obtain ⟨i, hi⟩ := List.getElem?_of_mem ht
    obtain ⟨_, _, _, _, _, _, hm⟩ := kid_z hr (h i t hi)
    exact hm
  have h2 : 6 ^ (30 - row) = 6 * 6 ^ (29 - row) := by
    have : 30 - row = (29 - row) + 1 := by omega
    rw [this, Nat.pow_succ, Nat.mul_comm]
  have h3 : 0 < 6 ^ (29 - row) := Nat.pow_pos (by decide)
  have h4 : nw.length * 6 ^ (29 - row) ≤ 5 * 6 ^ (29 - row) := Nat.mul_le_mul_right _ h5
  omega
theorem kids_all {p : Pg} (hp : p.Ok) {cs : List Nat} {row : Nat} {st : List Nat} {ws : List Wy} (hr : row < 30) (hst : StOk p.m p.bs st) (hws : ways p row st = ws) {nw : List It} (hl : nw.length = ws.length) (h : ∀ (i : Nat) t, nw[i]? = some t → Kid p cs row ws i t) : toCome p (nw.map It.wt) = (fan (runs p 30) 0 ws).map (preC cs) := by
  rw [← kids_come]
  apply toCome_congr
  apply List.ext_getElem?
  intro i
  rw [List.map_map, List.getElem?_map, List.getElem?_map]
  by_cases hi : i < ws.length
  · rw [kids_at hi, List.getElem?_eq_getElem (by omega)]
    obtain ⟨w, hw, hs, _⟩ := kid_z hr (h i nw[i] (List.getElem?_eq_getElem (by omega)))
    have hc := (h i nw[i] (List.getElem?_eq_getElem (by omega))).1
    have hwo := (ways_ok hp hst w (by rw [hws]; exact List.mem_of_getElem? hw)).1
    have e := rn_stp hp hs hwo
    have eg : ws.getD (ws.length - 1 - i) .nothing = w := by rw [List.getD_eq_getElem?_getD, hw]; rfl
    show some ((runs p 30 nw[i].z).map (preC nw[i].cs)) = some ((runs p 30 (ws.getD (ws.length - 1 - i) .nothing)).map (preC (cs ++ [ws.length - 1 - i])))
    rw [eg, e, hc]
  · rw [List.getElem?_eq_none (by omega), List.getElem?_eq_none (by rw [kids_len]; omega)]
    rfl
def T_all (K : PySem.W.Frag) : List Sl → (Sl → Prop) → Prop := fun Γ Q => ∃ p : Pg, ∃ st, Γ = [.dat false p.d, .dat false (stD st), .dat false (.int 2000)] ∧ p.Ok ∧ StOk p.m p.bs st ∧ ∀ fd l, ((runs p 30 (poe p 0 st)).length ≤ 2000 → fd = runs p 30 (poe p 0 st)) → (2000 < (runs p 30 (poe p 0 st)).length → 2000 < fd.length) → Q (.ml false l (fd.map runD))
section
variable {P : Program} {w : World} {K : PySem.W.Frag} {mg : Str → Option Value} {base : Heap} {k : Nat}
theorem ok_all (D : Def K mg "_law_all" s_l_all ["program", "store", "most"]) (c_picked : Cal P w K mg base CX0 k "_law_picked" ["program", "row", "store", "choice"] (spG K (T_picked K))) (c_topick : Cal P w K mg base CX0 k "_law_to_pick" ["program", "row", "store"] (spG K (T_topick K))) (m_len : mg "len" = none) (m_range : mg "range" = none) : Cal P w K mg base CX0 (k + 1) "_law_all" ["program", "store", "most"] (spG K (T_all K)) := by
  refine cal_g D sc_l_all (fun Γ Qr ⟨p, st, e, _⟩ => by subst e; exact ⟨rfl, noMl_dat (noMl_dat (noMl_dat noMl_nil))⟩) fun f cdv A outer s H E hr => ⟨_, wk_l_all c_picked c_topick m_len m_range f cdv A outer s H E hr, ?_⟩
  rintro Γ Qr ⟨p, st, rfl, hp, hst, q⟩
  have hr30 := hp.r30
  obtain ⟨R, hR⟩ : ∃ R, runs p 30 (poe p 0 st) = R := ⟨_, rfl⟩
  rw [hR] at q
  show SJ K [.dat false p.d, .dat false (stD st), .dat false (.int 2000), .no, .no, .no, .no, .no] (t_l_all K _ _) _
  unfold t_l_all
  refine sj_seq (sj_setX (wx_lst0 false fun lf => ?_))
  refine sj_seq (sj_setX (wx_lst1 false (wd_tup2 (wd_lst0 (wd_call3 (wd_var rfl (wd_int (wd_var rfl ⟨p, 0, st, rfl, hp, hst, fun row0 st0 o0 ht0 => asD_new fun lw => ?_⟩))))))))
  obtain ⟨t0, et0⟩ : ∃ t0 : It, t0 = ⟨[], row0, st0, o0⟩ := ⟨_, rfl⟩
  have hstp0 : Stp p (poe p 0 st) t0.z ∧ (∀ e, t0.o = some e → e.isPl = false) ∧ (t0.o = none → t0.row < p.rows.length ∧ isPickAt p t0.row = true ∧ StOk p.m p.bs t0.st) ∧ t0.z.rowN ≤ 30 := by
    rw [et0]
    cases o0 with
    | none =>
      obtain ⟨h1, h2, h3, h4, h5⟩ := ht0
      exact ⟨h5, fun e he => (by cases he), fun _ => ⟨h2, h3, h4⟩, by show row0 ≤ 30; omega⟩
    | some e =>
      obtain ⟨h1, h2, h3⟩ := ht0
      refine ⟨h3, fun e' he => (by cases he; exact h1), fun he => (by cases he), ?_⟩
      show e.rowN ≤ 30
      exact rowN_le hp h2
  have hc0 : toCome p ([t0].map It.wt) = R := by
    show toCome p [t0.wt] = R
    rw [toCome_one]
    show (runs p 30 t0.z).map (preC t0.cs) = R
    rw [← rn_stp hp hstp0.1 (poe_ok hst), hR, et0]
    have : (preC [] : List Nat × Wy → List Nat × Wy) = id := by funext r; simp [preC]
    rw [this, List.map_id]
  show SJ K [.dat false p.d, .dat false (stD st), .dat false (.int 2000), .ml false lf (([] : List (List Nat × Wy)).map runD), .ml false lw [.tuple [.list [], .tuple [.int row0, stD st0, oD o0]]], .no, .no, .no] _ _
  have ed0 : [PyData.tuple [.list [], .tuple [.int row0, stD st0, oD o0]]] = [t0].map It.d := by rw [et0]; rfl
  rw [ed0]
  refine sj_cut (fun Γ' => ∃ (fd : List (List Nat × Wy)) (dw : List PyData) (s5 s6 s7 : Sl), (R.length ≤ 2000 → fd = R) ∧ (2000 < R.length → 2000 < fd.length) ∧ Γ' = [.dat false p.d, .dat false (stD st), .dat false (.int 2000), .ml false lf (fd.map runD), .ml false lw dw, s5, s6, s7]) ?_ ?_
  · refine sj_while (fun n Γ' => ∃ (fd : List (List Nat × Wy)) (ts : List It) (s5 s6 s7 : Sl), n = mS ts ∧ (∀ (i : Nat) t, ts[i]? = some t → ItOk p i t) ∧ fd ++ toCome p (ts.map It.wt) = R ∧ fd.length ≤ 2001 ∧ Γ' = [.dat false p.d, .dat false (stD st), .dat false (.int 2000), .ml false lf (fd.map runD), .ml false lw (ts.map It.d), s5, s6, s7]) (mS [t0]) ⟨[], [t0], .no, .no, .no, rfl, fun i t hi => ?_, by rw [List.nil_append]; exact hc0, Nat.zero_le _, rfl⟩ ?_
    · cases i with
      | zero =>
        have : t = t0 := (Option.some.inj hi).symm
        rw [this]
        exact ⟨hstp0.2.1, hstp0.2.2.1, Nat.zero_le _, by rw [et0]; exact Nat.zero_le _, hstp0.2.2.2⟩
      | succ i => cases hi
    rintro n Γ' ⟨fd, ts, s5, s6, s7, rfl, hok, hR', hfd, rfl⟩
    refine wt_thaw ?_
    show WT K [.dat false p.d, .dat false (stD st), .dat false (.int 2000), .dat false (.list (fd.map runD)), .dat false (.list (ts.map It.d)), s5.frz, s6.frz, s7.frz] _ _
    refine wt_and (wt_test (wd_op (wd_var rfl (wd_lst0 (rd_ne (its_sh ts) sh_nil ⟨_, rfl, ?_⟩)))))
    rw [eqv_nilD]
    rcases List.eq_nil_or_concat ts with e | ⟨ts0, t, e⟩
    · subst e
      have hfR : fd = R := by rw [← hR']; simp [toCome]
      exact iteF' rfl (iteF' rfl ⟨fd, _, s5, s6, s7, fun _ => hfR, fun h => by rw [hfR]; exact h, rfl⟩)
    rw [List.concat_eq_append] at e
    subst e
    have em : (ts0 ++ [t]).map It.d = ts0.map It.d ++ [t.d] := by simp
    refine iteT' (by simp) ?_
    refine wt_test (wd_op (wd_cb1 (wd_var rfl (rc_lenL (wd_var rfl (rd_le ⟨_, rfl, ?_⟩))))))
    rw [List.length_map]
    refine iteD (fun hle => ?_) (fun hgt => ⟨fd, _, s5, s6, s7, fun h => ?_, fun _ => by omega, rfl⟩)
    rotate_left
    · exfalso
      have := congrArg List.length hR'
      rw [List.length_append] at this
      omega
    have hIt := hok ts0.length t (by simp)
    have hok0 : ∀ (i : Nat) u, ts0[i]? = some u → ItOk p i u := fun i u hi => hok i u (by
      have hil : i < ts0.length := (List.getElem?_eq_some_iff.mp hi).1
      rw [List.getElem?_append_left hil]; exact hi)
    have hcome : toCome p ((ts0 ++ [t]).map It.wt) = t.wt.all p ++ toCome p (ts0.map It.wt) := by rw [List.map_append, toCome_app]; show toCome p [t.wt] ++ _ = _; rw [toCome_one]
    rw [hcome] at hR'
    have hlow := hIt.low
    have hup := hIt.up
    rw [em]
    refine sj_seq (sj_pop (i := 4) (l := lw) (ds := ts0.map It.d) (d := t.d) rfl (gj_tup (n := 2) (ds := [natsD t.cs, hereD t]) rfl ?_))
    walk_at "v"
    show SJ K [.dat false p.d, .dat false (stD st), .dat false (.int 2000), .ml false lf (fd.map runD), .ml false lw (ts0.map It.d), .dat false (natsD t.cs), .dat false (hereD t), s7] _ _
    refine sj_if (wt_test (wd_notN (wd_op (wd_var rfl (wd_int (rd_ixT (d := oD t.o) rfl ⟨_, rfl, ?_⟩))))))
    obtain ⟨cs, row, st1, o⟩ := t
    cases o with
    | some e =>
      have hno : (!isNo (oD (some e))) = true := by cases e <;> rfl
      refine iteT' hno ?_
      have hpl := hIt.e e rfl
      have hall : (It.wt ⟨cs, row, st1, some e⟩).all p = [(cs, e)] := all_end (p := p) (t := ⟨cs, e, 30⟩) hpl
      rw [hall] at hR'
      refine sj_app (i := 3) (l := lf) (ds := fd.map runD) rfl (by rw [List.length_map]; omega) (wd_tup2 (wd_var rfl (wd_op (wd_var rfl (wd_int (rd_ixT (d := oD (some e)) rfl ?_))))))
      have ef : fd.map runD ++ [PyData.tuple [natsD cs, e.d]] = (fd ++ [(cs, e)]).map runD := by simp [runD]
      refine ⟨mS ts0, ?_, fd ++ [(cs, e)], ts0, .dat false (natsD cs), .dat false (hereD ⟨cs, row, st1, some e⟩), s7, rfl, hok0, ?_, ?_, ?_⟩
      · rw [mS_app]
        show mS ts0 < mS ts0 + (1 + 0)
        omega
      · rw [List.append_assoc]; exact hR'
      · rw [List.length_append]; simp; omega
      · rw [← ef]; rfl
    | none =>
      refine iteF' rfl ?_
      obtain ⟨hrow, hpk, hst1⟩ := hIt.n rfl
      have hrow' : row < p.rows.length := hrow
      have hpk' : isPickAt p row = true := hpk
      have hst1' : StOk p.m p.bs st1 := hst1
      have hrr : row < 30 := by omega
      have hr : p.rows[row]? = some p.rows[row] := by simp [hrow']
      have hokr := hp.rows _ (List.mem_of_getElem? hr)
      have hpk2 := hpk'
      rw [pick_at hr] at hpk2
      obtain ⟨r, er⟩ : ∃ r, p.rows[row] = r := ⟨_, rfl⟩
      rw [er] at hr hpk2 hokr
      have hlow' : ts0.length ≤ 4 * row := hlow
      have hlen' : cs.length ≤ row := hIt.len
      cases r with
      | set x t => cases hpk2
      | need t => cases hpk2
      | skip t kk => cases hpk2
      | give t => cases hpk2
      | pick x tq =>
        have h1 := hokr.2.1
        have h5 := hokr.2.2.1
        obtain ⟨ws, hws⟩ : ∃ ws, ways p row st1 = ws := ⟨_, rfl⟩
        have hwl : ws.length = tq.length := by rw [← hws, ways_at hr]; simp [nxt]
        have hall : (It.wt ⟨cs, row, st1, none⟩).all p = (fan (runs p 30) 0 ws).map (preC cs) := by
          show (runs p 30 (.place row st1)).map (preC cs) = _
          rw [rn_pick hp hst1' hpk', hws]
        rw [hall] at hR'
        refine sj_for false (wi_down (wa_d (wd_op (wd_cb1 (wd_op (wd_op (wd_op (wd_var rfl (wd_int (rd_pgR (wd_op (wd_var rfl (wd_int (rd_ixT (d := .int row) rfl (rd_row hr (wd_int (rd_ixT (d := .list (tq.map Th.d)) rfl (rc_lenL (wd_int (rd_sub ?_))))))))))))))))))))
        refine wa_d (wd_un (wd_int (ru_neg (wa_d (wd_un (wd_int (ru_neg (wa_nil ⟨_, _, rfl, ?_, ?_⟩))))))))
        · rw [List.length_map]
          omega
        rw [List.length_map]
        have en : (((tq.length : Int) - 1) - (-1)).toNat = tq.length := by omega
        rw [en]
        refine ⟨fun i Γ' => ∃ (nw : List It) (s7 : Sl), nw.length = i ∧ (∀ (j : Nat) t, nw[j]? = some t → Kid p cs row ws j t) ∧ Γ' = [.dat false p.d, .dat false (stD st), .dat false (.int 2000), .ml false lf (fd.map runD), .ml false lw ((ts0 ++ nw).map It.d), .dat false (natsD cs), .dat false (hereD ⟨cs, row, st1, none⟩), s7], ⟨[], s7, rfl, fun j t hj => (by cases hj), by simp⟩, ?_, ?_⟩
        · rintro i x' Γ' hx ⟨nw, s7, hnl, hk, rfl⟩
          obtain ⟨hi, ex⟩ := downD_of hx
          subst ex
          have ek : (tq.length : Int) - 1 - (i : Int) = ((ws.length - 1 - i : Nat) : Int) := by omega
          rw [ek]
          have hkl : ws.length - 1 - i < ws.length := by omega
          have hkw : ws[ws.length - 1 - i]? = some (ws[ws.length - 1 - i]) := List.getElem?_eq_getElem hkl
          refine gj_name (sj_app (i := 4) (l := lw) (ds := (ts0 ++ nw).map It.d) rfl (by rw [List.length_map, List.length_append]; omega) (wd_tup2 (wd_op (wd_var rfl (wd_lst1 (wd_var rfl (rd_cat (by simp; omega) ?_)))))))
          refine wd_call4 (wd_var rfl (wd_op (wd_var rfl (wd_int (rd_ixT (d := .int row) rfl (wd_op (wd_var rfl (wd_int (rd_ixT (d := stD st1) rfl (wd_var rfl ?_))))))))))
          refine ⟨p, row, st1, ws.length - 1 - i, ws[ws.length - 1 - i], rfl, hp, hst1', hpk', by rw [hws]; exact hkw, fun row2 st2 o2 ht2 => asD_new ?_⟩
          refine ⟨nw ++ [⟨cs ++ [ws.length - 1 - i], row2, st2, o2⟩], .dat false (.int (ws.length - 1 - i : Nat)), by simp [hnl], fun j t hj => ?_, ?_⟩
          · by_cases hjn : j < nw.length
            · rw [List.getElem?_append_left hjn] at hj
              exact hk j t hj
            · have hjl := (List.getElem?_eq_some_iff.mp hj).1
              rw [List.length_append, List.length_singleton] at hjl
              have hji : j = i := by omega
              subst hji
              rw [List.getElem?_append_right (by omega)] at hj
              have : j - nw.length = 0 := by omega
              rw [this] at hj
              cases (Option.some.inj hj)
              exact ⟨rfl, _, hkw, ht2⟩
          · have ed : (ts0 ++ (nw ++ [(⟨cs ++ [ws.length - 1 - i], row2, st2, o2⟩ : It)])).map It.d = (ts0 ++ nw).map It.d ++ [PyData.tuple [.list ((cs.map fun (n : Nat) => PyData.int n) ++ [.int (ws.length - 1 - i : Nat)]), .tuple [.int row2, stD st2, oD o2]]] := by
              simp [It.d, hereD]
            rw [ed]
            rfl
        · rintro Γ' ⟨nw, s7, hnl, hk, rfl⟩
          rw [downD_len] at hnl
          have hnw : nw.length = ws.length := by omega
          refine ⟨mS (ts0 ++ nw), ?_, fd, ts0 ++ nw, .dat false (natsD cs), .dat false (hereD ⟨cs, row, st1, none⟩), s7, rfl, fun i u hi => ?_, ?_, hfd, rfl⟩
          · rw [mS_app, mS_app]
            have := kids_m (p := p) (cs := cs) (ws := ws) hrr (by omega) hk
            show mS ts0 + mS nw < mS ts0 + (6 ^ (30 - row) + 0)
            omega
          · by_cases hil : i < ts0.length
            · rw [List.getElem?_append_left hil] at hi
              exact hok0 i u hi
            · rw [List.getElem?_append_right (by omega)] at hi
              have hj := (List.getElem?_eq_some_iff.mp hi).1
              have hkid := hk _ u hi
              obtain ⟨w, hw, hs, hz, he, hn, _⟩ := kid_z hrr hkid
              refine ⟨he, hn, by omega, ?_, ?_⟩
              · rw [hkid.1, List.length_append, List.length_singleton]
                omega
              · have hwo := (ways_ok hp hst1' w (by rw [hws]; exact List.mem_of_getElem? hw)).1
                obtain ⟨uc, ur, us, uo⟩ := u
                cases uo with
                | none => show ur ≤ 30; have := (hn rfl).1; have h9 : ur < p.rows.length := this; omega
                | some e =>
                  show e.rowN ≤ 30
                  have := he e rfl
                  cases e with
                  | place r s => cases this
                  | gives n => exact Nat.le_refl _
                  | nothing => exact Nat.le_refl _
          · rw [List.map_append, toCome_app, kids_all hp hrr hst1' hws hnw hk]
            exact hR'
  rintro _ ⟨fd, dw, s5, s6, s7, h1, h2, rfl⟩
  exact sj_retM (i := 3) (l := lf) (ds := fd.map runD) rfl ⟨keep_dat (keep_dat (keep_dat keep_nil)), q fd lf h1 h2⟩
end
end Dk
end
section
set_option Elab.async false
set_option linter.all false
set_option maxRecDepth 100000
/-! Law k08: what is told. -/
open PySem L2 Pk
local macro_rules | `(tactic| walk_at "sh") => `(tactic| first | exact sh_int | exact sh_bool | exact sh_non | exact sh_nil | exact sh_str (by decide +kernel) | assumption)
local macro_rules | `(tactic| walk_at "v1") => `(tactic| first
  | (with_reducible refine wd_int ?_) | (with_reducible refine wd_str ?_) | (with_reducible refine wd_bl ?_) | (with_reducible refine wd_non ?_)
  | ((with_reducible apply wd_var); exact rfl) | ((with_reducible apply wd_varN); exact rfl)
  | ((with_reducible apply wd_ixm); exact rfl)
  | ((with_reducible apply wd_lenM); exact rfl) | ((with_reducible apply wd_lenScript); exact rfl) | ((with_reducible apply wd_ixScript); exact rfl)
  | (with_reducible refine wd_op ?_) | (with_reducible refine wd_un ?_)
  | (with_reducible refine rd_add ?_) | (with_reducible refine rd_sub ?_) | (with_reducible refine rd_lt ?_) | (with_reducible refine rd_le ?_) | (with_reducible refine rd_gt ?_) | (with_reducible refine rd_ge ?_) | (with_reducible refine ru_neg ?_)
  | ((with_reducible refine rd_eq ?ev_h ?ev_k ?_); (case ev_h => walk_at "sh"); (case ev_k => walk_at "sh")) | ((with_reducible refine rd_ne ?ev_h ?ev_k ?_); (case ev_h => walk_at "sh"); (case ev_k => walk_at "sh"))
  | ((with_reducible refine rd_mod ?ev_h ?_); case ev_h => first | decide | assumption | omega) | ((with_reducible refine rd_div ?ev_h ?ev_k ?_); (case ev_h => first | decide | assumption | omega); (case ev_k => first | decide | assumption | omega))
  | ((with_reducible refine rd_pow ?ev_h ?_); case ev_h => exact ⟨by decide, by decide, by decide⟩)
  | ((with_reducible refine rd_mul ?ev_h ?_); case ev_h => first | exact .inr ⟨by decide, by decide⟩ | exact .inl ⟨by decide, by decide⟩ | exact .inl ⟨by omega, by omega⟩ | exact .inr ⟨by omega, by omega⟩)
  | (with_reducible refine rc_lenL ?_) | (with_reducible refine rc_lenT ?_) | (with_reducible refine rc_max2 ?_) | (with_reducible refine rc_min2 ?_) | (with_reducible refine rc_intB ?_) | (with_reducible refine rc_intI ?_) | (with_reducible refine rc_listL ?_) | (with_reducible refine rc_listT ?_) | (with_reducible refine rc_tupleL ?_)
  | ((with_reducible apply rd_ixT); exact rfl)
  | ((with_reducible apply rd_ixL); exact rfl)
  | ((with_reducible refine wd_isi ?ev_h ?_); case ev_h => decide) | ((with_reducible refine wd_isi2 ?ev_h ?ev_k ?_); (case ev_h => decide); (case ev_k => decide))
  | (with_reducible refine wd_tup2 ?_) | (with_reducible refine wd_tup1 ?_) | (with_reducible refine wd_tup3 ?_) | (with_reducible refine wd_tup0 ?_)
  | (with_reducible refine wd_lst0 ?_) | (with_reducible refine wd_lst1 ?_) | (with_reducible refine wd_lst2 ?_) | (with_reducible refine wd_lst3 ?_) | (with_reducible refine wd_lst4 ?_) | (with_reducible refine wd_lst5 ?_) | (with_reducible refine wd_lst6 ?_)
  | ((with_reducible apply wd_callO0); exact rfl) | ((with_reducible apply wd_callO1); exact rfl) | ((with_reducible apply wd_callO2); exact rfl) | ((with_reducible apply wd_callO3); exact rfl)
  | (with_reducible refine wd_call1 ?_) | (with_reducible refine wd_call2 ?_) | (with_reducible refine wd_call3 ?_) | (with_reducible refine wd_call4 ?_) | (with_reducible refine wd_call0 ?_)
  | (with_reducible refine wd_cb1 ?_) | (with_reducible refine wd_cb2 ?_)
  | (with_reducible refine wd_rev ?_) | (with_reducible refine wd_lrg1 ?_) | (with_reducible refine wd_sl ?_) | (with_reducible refine wo_no ?_) | (with_reducible refine wo_some ?_)
  | (with_reducible refine wd_andV ?_) | (with_reducible refine wd_orV ?_) | (with_reducible refine wd_notV ?_) | (with_reducible refine wd_if ?_) | (with_reducible refine wd_chain ?_)
  | (with_reducible refine wt_test ?_) | (with_reducible refine wt_B ?_) | (with_reducible refine wt_not ?_) | (with_reducible refine wt_and ?_) | (with_reducible refine wt_or ?_) | (with_reducible refine wt_yes ?_)
  | (with_reducible refine gj_name ?_) | (with_reducible refine gj_tup rfl ?_) | (with_reducible refine gjs_cons ?_) | (with_reducible refine gjs_nil ?_))
local macro_rules | `(tactic| walk_at "v") => `(tactic| repeat walk_at "v1")
local macro_rules | `(tactic| walk_at "x") => `(tactic| refine ⟨_, rfl, ?_⟩)
local macro_rules | `(tactic| walk_at "vx") => `(tactic| repeat (first | walk_at "v1" | (with_reducible refine ⟨_, rfl, ?_⟩)))
namespace Dk
open PySem PySem.Spec PyProof.Rows L2 Pk Sy
def T_kinds2 (C2 : Addr) (K : PySem.W.Frag) : List Sl → (Sl → Prop) → Prop := fun Γ Q => ∃ a, Γ = [.ex (.ref a) (ExcO K C2), .dat false (.int 2)] ∧ Q (.dat true (.bool true))
abbrev rn30 (p : Pg) (st : List Nat) : List (List Nat × Wy) := runs p 30 (poe p 0 st)
def T_asked (K : PySem.W.Frag) : List Sl → (Sl → Prop) → Prop := fun Γ Q => ∃ p : Pg, ∃ st, Γ = [.dat false p.d, .dat false (stD st)] ∧ p.Ok ∧ StOk p.m p.bs st ∧ ((rn30 p st).length ≤ 2000 → ∀ l, Q (.ex (.ref l) (PairsO K (prsR (rn30 p st))))) ∧ (2000 < (rn30 p st).length → Q (.dat true .none))
def T_istold (K : PySem.W.Frag) : List Sl → (Sl → Prop) → Prop := fun Γ Q => ∃ R : List (List Nat × Wy), Γ = [.dat false (.list (R.map runD)), .dat false (.list (R.map runD))] ∧ R.length ≤ 2000 ∧ (∀ r ∈ R, r.1.length ≤ 100 ∧ r.2.isPl = false) ∧ Q (.dat true (.bool true))
def T_right (K : PySem.W.Frag) : List Sl → (Sl → Prop) → Prop := fun Γ Q => ∃ p : Pg, ∃ st, Γ = [.dat false p.d, .dat false (stD st)] ∧ p.Ok ∧ StOk p.m p.bs st ∧ Q (.dat true (.bool true))
theorem runs_nb (rs : List (List Nat × Wy)) : NB (.list (rs.map runD)) := .lst fun x hx => by
  obtain ⟨r, _, rfl⟩ := List.mem_map.mp hx
  exact run_nb r
def apR : Nat → List (List Nat × Wy) → List (List Nat × Wy)
  | 0, R => R
  | _ + 1, [] => []
  | n + 1, r :: R => (r.1 ++ [7], r.2) :: apR n R
theorem apR_len : ∀ n R, (apR n R).length = R.length
  | 0, _ => rfl
  | _ + 1, [] => rfl
  | n + 1, r :: R => by simp [apR, apR_len n R]
theorem apR_ge : ∀ {n k : Nat} {R : List (List Nat × Wy)}, n ≤ k → (apR n R)[k]? = R[k]?
  | 0, _, _, _ => rfl
  | _ + 1, _, [], _ => rfl
  | n + 1, k + 1, r :: R, h => by
    show (apR n R)[k]? = R[k]?
    exact apR_ge (by omega)
theorem apR_lt : ∀ {n k : Nat} {R : List (List Nat × Wy)} {r : List Nat × Wy}, k < n → R[k]? = some r → (apR n R)[k]? = some (r.1 ++ [7], r.2)
  | _ + 1, 0, r :: R, _, _, h => by cases h; rfl
  | _ + 1, _, [], _, _, h => by simp at h
  | n + 1, k + 1, r' :: R, r, hk, h => by
    show (apR n R)[k]? = _
    exact apR_lt (by omega) (by simpa using h)
theorem apR_set : ∀ {n : Nat} {R : List (List Nat × Wy)} {r : List Nat × Wy}, R[n]? = some r → (prsR (apR n R)).set n ((r.1.map (fun (n : Nat) => PyData.int n)) ++ [.int 7], r.2.d) = prsR (apR (n + 1) R)
  | 0, r :: R, _, h => by
    cases h
    show _ :: prsR R = _ :: prsR R
    simp
  | _, [], _, h => by simp at h
  | n + 1, r' :: R, r, h => by
    show _ :: (prsR (apR n R)).set n _ = _ :: prsR (apR (n + 1) R)
    rw [apR_set (by simpa using h)]
section
variable {P : Program} {w : World} {K : PySem.W.Frag} {mg : Str → Option Value} {base : Heap} {k : Nat}
theorem ok_kinds {C2 a0 a1 a3 a4 a5 a6 a7 : Addr} (D : Def K mg "_law_kinds" s_l_kinds ["caught", "due"]) (C : ExcC K C2)
    (k0 : PySem.W.kitOne K (.ref C2) (.ref a0) = some false) (k1 : PySem.W.kitOne K (.ref C2) (.ref a1) = some false) (k2 : PySem.W.kitOne K (.ref C2) (.ref C2) = some true) (k3 : PySem.W.kitOne K (.ref C2) (.ref a3) = some false) (k4 : PySem.W.kitOne K (.ref C2) (.ref a4) = some false) (k5 : PySem.W.kitOne K (.ref C2) (.ref a5) = some false) (k6 : PySem.W.kitOne K (.ref C2) (.ref a6) = some false) (k7 : PySem.W.kitOne K (.ref C2) (.ref a7) = some false) (ve : PySem.W.kitOne K (.ref C2) (.type "ValueError") = some true)
    (m_range : mg "range" = none) (m_isinstance : mg "isinstance" = none) (m_ValueError : mg "ValueError" = none) (g7 : mg "NoChoice" = some (.ref a7)) (g6 : mg "NoRow" = some (.ref a6)) (g5 : mg "NoName" = some (.ref a5)) (g4 : mg "NoText" = some (.ref a4)) (g3 : mg "NoFit" = some (.ref a3)) (g2 : mg "TooMany" = some (.ref C2)) (g1 : mg "NoNumber" = some (.ref a1)) (g0 : mg "NoStore" = some (.ref a0)) : Cal P w K mg base CX0 (k + 1) "_law_kinds" ["caught", "due"] (spG K (T_kinds2 C2 K)) := by
  refine cal_g D sc_l_kinds (fun Γ Qr ⟨a, e, _⟩ => by subst e; exact ⟨rfl, noMl_ex (noMl_dat noMl_nil)⟩) fun f cdv A outer s H E hr => ⟨_, wk_l_kinds m_range m_isinstance m_ValueError g7 g6 g5 g4 g3 g2 g1 g0 f cdv A outer s H E hr, ?_⟩
  rintro Γ Qr ⟨a, rfl, q⟩
  show SJ K [.ex (.ref a) (ExcO K C2), .dat false (.int 2), .no, .no] (t_l_kinds K a7 a6 a5 a4 a3 C2 a1 a0) _
  unfold t_l_kinds
  refine sj_seq (sj_set false (wd_lst3 (wd_isX rfl C (.own _) k0 (wd_isX rfl C (.own _) k1 (wd_isX rfl C (.own _) k2 ?_)))))
  refine sj_seq (sj_set false (wd_op (wd_var rfl (wd_lst3 (wd_isX rfl C (.own _) k3 (wd_isX rfl C (.own _) k4 (wd_isX rfl C (.own _) k5 (rd_cat (by simp) ?_))))))))
  refine sj_seq (sj_set false (wd_op (wd_var rfl (wd_lst3 (wd_isX rfl C (.own _) k6 (wd_isX rfl C (.own _) k7 (wd_notV (wd_isX rfl C (.ty "ValueError") ve ⟨_, rfl, rd_cat (by simp) ?_⟩))))))))
  show SJ K [.ex (.ref a) (ExcO K C2), .dat false (.int 2), .dat false (.list ([false, false, true, false, false, false, false, false, false].map PyData.bool)), .no] _ _
  refine sj_retD true (wd_lf (wd_andV (wd_notNo (a := a) (Φ := ExcO K C2) rfl ⟨_, rfl, iteT' rfl ?_⟩)))
  refine wd_op (wd_var rfl (wd_lcMa (mi := false) (α := Int) PyData.int (fun k => .bool (decide (k = (2 : Int)))) (wipeOk_no rfl wipeOk_nil) gwn (wi_rng (wd_int ⟨9, rfl, ⟨by decide, by decide⟩, [0, 1, 2, 3, 4, 5, 6, 7, 8], rfl, by decide, fun i x hx => gj_name ⟨rfl, ?_⟩, ?_⟩))))
  · refine wd_op (wd_var rfl (wd_var rfl (rd_eq sh_int sh_int ?_)))
    rw [eqv_int]
  · exact rd_eq (bools_sh [false, false, true, false, false, false, false, false, false]) (bools_sh [false, false, true, false, false, false, false, false, false]) ⟨rfl, keep_ex (keep_dat keep_nil), q⟩
theorem ok_asked {C0 C2 R : Addr} (D : Def K mg "_law_asked" s_l_asked ["program", "store"]) (x2 : PySem.W.exmOne K (.ref C2) (.ref R) = some true) (c_kinds : Cal P w K mg base CX0 k "_law_kinds" ["caught", "due"] (spG K (T_kinds2 C2 K))) (c_all : Cal P w K mg base (L2.CX P w) k "all_runs" ["program", "store"] (spX K (T_allrunsP C0 C2 K))) (g_RunError : mg "RunError" = some (.ref R)) : Cal P w K mg base CX0 (k + 1) "_law_asked" ["program", "store"] (spG K (T_asked K)) := by
  refine cal_g D sc_l_asked (fun Γ Qr ⟨p, st, e, _⟩ => by subst e; exact ⟨rfl, noMl_dat (noMl_dat noMl_nil)⟩) fun f cdv A outer s H E hr => ⟨_, wk_l_asked c_kinds c_all g_RunError f cdv A outer s H E hr, ?_⟩
  rintro Γ Qr ⟨p, st, rfl, hp, hst, q1, q2⟩
  show SJ K [.dat false p.d, .dat false (stD st), .no, .no, .no] (t_l_asked K _ _ _) _
  unfold t_l_asked
  refine sj_seq (sj_set false (wd_non (sj_seq (sj_set false (wd_non ?_)))))
  show SJ K [.dat false p.d, .dat false (stD st), .dat false .none, .dat false .none, .no] _ _
  refine sj_cut (fun Γ' => (∃ l, (rn30 p st).length ≤ 2000 ∧ Γ' = [.dat false p.d, .dat false (stD st), .ex (.ref l) (PairsO K (prsR (rn30 p st))), .dat false .none, .no]) ∨ ∃ a, 2000 < (rn30 p st).length ∧ Γ' = [.dat false p.d, .dat false (stD st), .dat false .none, .ex (.ref a) (ExcO K C2), .no]) ?_ ?_
  · refine sj_tryKeep (i := 4) (j := 3) (by decide) fun W => sj_setW (wxw_call2 (wd_var rfl (wd_var rfl ⟨p, stD st, rfl, hp, st_stSh hp hst, fun h => (by rw [isSt_true hst] at h; cases h), fun st' ed hst' => ⟨fun h l => .inl ⟨l, ?_, ?_⟩, fun h => ⟨true, x2, fun _ => ⟨C2, rfl, rfl, by simp, rfl, fun a => .inr ⟨a, ?_, rfl⟩⟩, fun z => nomatch z⟩⟩⟩)))
    · rw [stD_inj ed]; exact h
    · rw [stD_inj ed]; rfl
    · rw [stD_inj ed]; exact h
  rintro _ (⟨l, hl, rfl⟩ | ⟨a, hl, rfl⟩)
  · refine sj_seq (sj_if (wt_and (wt_test (wd_notN (wd_var rfl ⟨_, rfl, iteF' rfl (iteF' rfl (sj_next ?_))⟩)))))
    exact sj_retEx (i := 2) rfl ⟨keep_dat (keep_dat keep_nil), q1 hl l⟩
  · refine sj_seq (sj_if (wt_and (wt_test (wd_notNo (a := a) (Φ := ExcO K C2) rfl ⟨_, rfl, iteT' rfl ?_⟩))))
    refine wt_not (wt_B (wd_callO1 rfl (wd_int ⟨a, rfl, asD_new ⟨_, rfl, iteF' rfl (sj_next ?_)⟩⟩)))
    exact sj_retD true (wd_lf (wd_var rfl ⟨rfl, keep_dat (keep_dat keep_nil), q2 hl⟩))
end
end Dk
end
section
set_option Elab.async false
set_option linter.all false
set_option maxRecDepth 100000
/-! Law k08: what is told, its kinds; told again. -/
open PySem L2 Pk
local macro_rules | `(tactic| walk_at "sh") => `(tactic| first | exact sh_int | exact sh_bool | exact sh_non | exact sh_nil | exact sh_str (by decide +kernel) | assumption)
local macro_rules | `(tactic| walk_at "v1") => `(tactic| first
  | (with_reducible refine wd_int ?_) | (with_reducible refine wd_str ?_) | (with_reducible refine wd_bl ?_) | (with_reducible refine wd_non ?_)
  | ((with_reducible apply wd_var); exact rfl) | ((with_reducible apply wd_varN); exact rfl)
  | ((with_reducible apply wd_ixm); exact rfl)
  | ((with_reducible apply wd_lenM); exact rfl) | ((with_reducible apply wd_lenScript); exact rfl) | ((with_reducible apply wd_ixScript); exact rfl)
  | (with_reducible refine wd_op ?_) | (with_reducible refine wd_un ?_)
  | (with_reducible refine rd_add ?_) | (with_reducible refine rd_sub ?_) | (with_reducible refine rd_lt ?_) | (with_reducible refine rd_le ?_) | (with_reducible refine rd_gt ?_) | (with_reducible refine rd_ge ?_) | (with_reducible refine ru_neg ?_)
  | ((with_reducible refine rd_eq ?ev_h ?ev_k ?_); (case ev_h => walk_at "sh"); (case ev_k => walk_at "sh")) | ((with_reducible refine rd_ne ?ev_h ?ev_k ?_); (case ev_h => walk_at "sh"); (case ev_k => walk_at "sh"))
  | ((with_reducible refine rd_mod ?ev_h ?_); case ev_h => first | decide | assumption | omega) | ((with_reducible refine rd_div ?ev_h ?ev_k ?_); (case ev_h => first | decide | assumption | omega); (case ev_k => first | decide | assumption | omega))
  | ((with_reducible refine rd_pow ?ev_h ?_); case ev_h => exact ⟨by decide, by decide, by decide⟩)
  | ((with_reducible refine rd_mul ?ev_h ?_); case ev_h => first | exact .inr ⟨by decide, by decide⟩ | exact .inl ⟨by decide, by decide⟩ | exact .inl ⟨by omega, by omega⟩ | exact .inr ⟨by omega, by omega⟩)
  | (with_reducible refine rc_lenL ?_) | (with_reducible refine rc_lenT ?_) | (with_reducible refine rc_max2 ?_) | (with_reducible refine rc_min2 ?_) | (with_reducible refine rc_intB ?_) | (with_reducible refine rc_intI ?_) | (with_reducible refine rc_listL ?_) | (with_reducible refine rc_listT ?_) | (with_reducible refine rc_tupleL ?_)
  | ((with_reducible apply rd_ixT); exact rfl)
  | ((with_reducible apply rd_ixL); exact rfl)
  | ((with_reducible refine wd_isi ?ev_h ?_); case ev_h => decide) | ((with_reducible refine wd_isi2 ?ev_h ?ev_k ?_); (case ev_h => decide); (case ev_k => decide))
  | (with_reducible refine wd_tup2 ?_) | (with_reducible refine wd_tup1 ?_) | (with_reducible refine wd_tup3 ?_) | (with_reducible refine wd_tup0 ?_)
  | (with_reducible refine wd_lst0 ?_) | (with_reducible refine wd_lst1 ?_) | (with_reducible refine wd_lst2 ?_) | (with_reducible refine wd_lst3 ?_) | (with_reducible refine wd_lst4 ?_) | (with_reducible refine wd_lst5 ?_) | (with_reducible refine wd_lst6 ?_)
  | ((with_reducible apply wd_callO0); exact rfl) | ((with_reducible apply wd_callO1); exact rfl) | ((with_reducible apply wd_callO2); exact rfl) | ((with_reducible apply wd_callO3); exact rfl)
  | (with_reducible refine wd_call1 ?_) | (with_reducible refine wd_call2 ?_) | (with_reducible refine wd_call3 ?_) | (with_reducible refine wd_call4 ?_) | (with_reducible refine wd_call0 ?_)
  | (with_reducible refine wd_cb1 ?_) | (with_reducible refine wd_cb2 ?_)
  | (with_reducible refine wd_rev ?_) | (with_reducible refine wd_lrg1 ?_) | (with_reducible refine wd_sl ?_) | (with_reducible refine wo_no ?_) | (with_reducible refine wo_some ?_)
  | (with_reducible refine wd_andV ?_) | (with_reducible refine wd_orV ?_) | (with_reducible refine wd_notV ?_) | (with_reducible refine wd_if ?_) | (with_reducible refine wd_chain ?_)
  | (with_reducible refine wt_test ?_) | (with_reducible refine wt_B ?_) | (with_reducible refine wt_not ?_) | (with_reducible refine wt_and ?_) | (with_reducible refine wt_or ?_) | (with_reducible refine wt_yes ?_)
  | (with_reducible refine gj_name ?_) | (with_reducible refine gj_tup rfl ?_) | (with_reducible refine gjs_cons ?_) | (with_reducible refine gjs_nil ?_))
local macro_rules | `(tactic| walk_at "v") => `(tactic| repeat walk_at "v1")
local macro_rules | `(tactic| walk_at "x") => `(tactic| refine ⟨_, rfl, ?_⟩)
local macro_rules | `(tactic| walk_at "vx") => `(tactic| repeat (first | walk_at "v1" | (with_reducible refine ⟨_, rfl, ?_⟩)))
namespace Dk
open PySem PySem.Spec PyProof.Rows L2 Pk Sy
def endL : Wy → List PyData
  | .gives k => [.str "gives", .int k]
  | .nothing => [.str "nothing"]
  | .place r s => [.int r, stD s]
theorem endL_d (e : Wy) : e.d = .tuple (endL e) := by cases e <;> rfl
theorem endL_len (e : Wy) : (endL e).length ≤ 2 := by cases e <;> simp [endL]
theorem endL_nb (e : Wy) : ∀ d ∈ endL e, isTy d "bool" = false := by
  intro d hd
  cases e with
  | gives k => simp [endL] at hd; rcases hd with rfl | rfl <;> rfl
  | nothing => simp [endL] at hd; rw [hd]; rfl
  | place r s => simp [endL] at hd; rcases hd with rfl | rfl <;> rfl
theorem nats_nbool (cs : List Nat) : ∀ d ∈ (cs.map fun (n : Nat) => PyData.int n), isTy d "bool" = false := by
  intro d hd
  obtain ⟨n, _, rfl⟩ := List.mem_map.mp hd
  rfl
section
variable {P : Program} {w : World} {K : PySem.W.Frag} {mg : Str → Option Value} {base : Heap} {k : Nat}
theorem ok_istold (D : Def K mg "_law_is_told" s_l_is_told ["found", "due"]) (m_list : mg "list" = none) (m_isinstance : mg "isinstance" = none) (m_bool : mg "bool" = none) (m_tuple : mg "tuple" = none) (m_len : mg "len" = none) : Cal P w K mg base CX0 (k + 1) "_law_is_told" ["found", "due"] (spG K (T_istold K)) := by
  refine cal_g D sc_l_is_told (fun Γ Qr ⟨R, e, _⟩ => by subst e; exact ⟨rfl, noMl_dat (noMl_dat noMl_nil)⟩) fun f cdv A outer s H E hr => ⟨_, wk_l_is_told m_list m_isinstance m_bool m_tuple m_len f cdv A outer s H E hr, ?_⟩
  rintro Γ Qr ⟨R, rfl, h2000, hR, q⟩
  show SJ K [.dat false (.list (R.map runD)), .dat false (.list (R.map runD)), .no, .no] (t_l_is_told K) _
  unfold t_l_is_told
  refine sj_seq (sj_if (wt_or (wt_not (wt_B (wd_isi (by decide) (wd_var rfl ⟨_, rfl, iteF' rfl ?_⟩))))))
  refine wt_test (wd_op (wd_cb1 (wd_var rfl (rc_lenL (wd_cb1 (wd_var rfl (rc_lenL (rd_neSelf sh_int (NB.int _) ⟨_, rfl, iteF' rfl (sj_next ?_)⟩))))))))
  refine sj_cut (fun Γ' => ∃ s2 s3, Γ' = [.dat false (.list (R.map runD)), .dat false (.list (R.map runD)), s2, s3]) ?_ ?_
  · refine sj_for false (wi_list (wd_var rfl ⟨_, rfl, fun i Γ' => ∃ s2, Γ' = [.dat false (.list (R.map runD)), .dat false (.list (R.map runD)), s2, .no], ⟨.no, rfl⟩, ?_, fun Γ' ⟨s2, h⟩ => ⟨s2, .no, h⟩⟩))
    rintro i x Γ' hx ⟨s2, rfl⟩
    obtain ⟨r, hr, rfl⟩ := List.mem_map.mp (List.mem_of_getElem? hx)
    obtain ⟨hl, _⟩ := hR r hr
    have hl2 := endL_len r.2
    have er : runD r = .tuple [natsD r.1, .tuple (endL r.2)] := by rw [← endL_d]; rfl
    rw [er]
    refine gj_name ?_
    show SJ K [.dat false (.list (R.map runD)), .dat false (.list (R.map runD)), .dat false (.tuple [natsD r.1, .tuple (endL r.2)]), .no] _ _
    refine sj_seq (sj_if (wt_or (wt_not (wt_B (wd_isi (by decide) (wd_var rfl ⟨_, rfl, iteF' rfl ?_⟩))))))
    refine wt_or (wt_test (wd_op (wd_cb1 (wd_var rfl (rc_lenT (wd_int (rd_ne sh_int sh_int ⟨_, rfl, iteF' rfl ?_⟩)))))))
    refine wt_or (wt_not (wt_B (wd_isi (by decide) (wd_op (wd_var rfl (wd_int (rd_ixT (d := natsD r.1) rfl ⟨_, rfl, iteF' rfl ?_⟩)))))))
    refine wt_not (wt_B (wd_isi (by decide) (wd_op (wd_var rfl (wd_int (rd_ixT (d := .tuple (endL r.2)) rfl ⟨_, rfl, iteF' rfl (sj_next ?_)⟩))))))
    refine sj_if (wt_test (wd_op (wd_lcPa (mi := false) (α := PyData) id (fun d => isTy d "bool") id (wipeOk_no rfl wipeOk_nil) gwn (wi_list (wd_op (wd_op (wd_var rfl (wd_int (rd_ixT (d := natsD r.1) rfl (wd_cb1 (wd_op (wd_var rfl (wd_int (rd_ixT (d := .tuple (endL r.2)) rfl (rc_listT (rd_cat (by simp; omega) ⟨_, rfl, ?_⟩))))))))))))))))
    refine ⟨_, (List.map_id _).symm, by simp; omega, fun i x hx => gj_name ⟨rfl, wt_B (wd_isi (by decide) (wd_var rfl ⟨_, rfl, rfl, fun _ => wd_var rfl rfl⟩))⟩, ?_⟩
    have ef : ((r.1.map (fun (n : Nat) => PyData.int n)) ++ endL r.2).filter (fun d => isTy d "bool") = [] := by
      rw [List.filter_eq_nil_iff]
      intro d hd
      rcases List.mem_append.mp hd with h | h
      · rw [nats_nbool _ d h]; simp
      · rw [endL_nb _ d h]; simp
    rw [ef]
    exact wd_lst0 (rd_ne sh_nil sh_nil ⟨_, rfl, iteF' rfl (sj_next ⟨_, rfl⟩)⟩)
  rintro _ ⟨s2, s3, rfl⟩
  exact sj_retD true (wd_lf (wd_op (wd_var rfl (wd_var rfl (rd_eqSelf (runs_sh R) (runs_nb R) ⟨rfl, keep_dat (keep_dat keep_nil), q⟩)))))
theorem ok_right (D : Def K mg "_law_right" s_l_right ["program", "store"]) (c_asked : Cal P w K mg base CX0 k "_law_asked" ["program", "store"] (spG K (T_asked K))) (c_istold : Cal P w K mg base CX0 k "_law_is_told" ["found", "due"] (spG K (T_istold K))) (c_all : Cal P w K mg base CX0 k "_law_all" ["program", "store", "most"] (spG K (T_all K))) (c_deep : Cal P w K mg base CX0 k "_law_deep" ["thing"] (spG K (T_deep 8 K))) (m_range : mg "range" = none) (m_len : mg "len" = none) : Cal P w K mg base CX0 (k + 1) "_law_right" ["program", "store"] (spG K (T_right K)) := by
  refine cal_g D sc_l_right (fun Γ Qr ⟨p, st, e, _⟩ => by subst e; exact ⟨rfl, noMl_dat (noMl_dat noMl_nil)⟩) fun f cdv A outer s H E hr => ⟨_, wk_l_right c_asked c_istold c_all c_deep m_range m_len f cdv A outer s H E hr, ?_⟩
  rintro Γ Qr ⟨p, st, rfl, hp, hst, q⟩
  have kp : ∀ {Γ'}, Keep [.dat false p.d, .dat false (stD st)] (.dat false p.d :: .dat false (stD st) :: Γ') := fun {Γ'} => keep_dat (keep_dat keep_nil)
  obtain ⟨R, hR⟩ : ∃ R, rn30 p st = R := ⟨_, rfl⟩
  have hgo := (runs_all hp 30 (poe p 0 st) (Nat.le_add_right _ _) (poe_ok hst)).1
  have hRr : ∀ r ∈ R, r.1.length ≤ 100 ∧ r.2.isPl = false := fun r hr => by
    rw [← hR] at hr
    have hg := hgo r hr
    have := hg.len hp (poe_ok hst)
    exact ⟨by omega, hg.end⟩
  show SJ K [.dat false p.d, .dat false (stD st), .no, .no, .no, .no] (t_l_right K _ _ _ _) _
  unfold t_l_right
  refine sj_seq (sj_set false (wd_call1 (wd_var rfl ⟨p.d, rfl, Pg.cpy hp, asD_new ?_⟩)))
  refine sj_seq (sj_set false (wd_call3 (wd_var rfl (wd_var rfl (wd_int ⟨p, st, rfl, hp, hst, fun fd l h1 h2 => asD_ml ?_⟩)))))
  rw [show runs p 30 (poe p 0 st) = R from hR] at h1 h2
  show SJ K [.dat false p.d, .dat false (stD st), .dat false p.d, .dat false (.list (fd.map runD)), .no, .no] _ _
  refine sj_seq (sj_setX (wx_call2 (wd_var rfl (wd_var rfl ⟨p, st, rfl, hp, hst, fun hle l => ?_, fun hgt => ?_⟩))))
  · rw [hR] at hle ⊢
    have e1 := h1 hle
    subst e1
    show SJ K [.dat false p.d, .dat false (stD st), .dat false p.d, .dat false (.list (fd.map runD)), .ex (.ref l) (PairsO K (prsR fd)), .no] _ _
    refine sj_seq (sj_if (wt_test (wd_op (wd_cb1 (wd_var rfl (rc_lenL (wd_int (rd_gt ⟨_, rfl, ?_⟩))))))))
    rw [List.length_map]
    refine iteF' (decide_eq_false (by omega)) (sj_next ?_)
    refine sj_seq (sj_if (wt_thaw ?_))
    have ev : ∀ (S : List (List Nat × Wy)) (s5 : Sl), [Sl.dat false p.d, .dat false (stD st), .dat false p.d, .dat false (.list (fd.map runD)), .ex (.ref l) (PairsO K (prsR S)), s5].map Sl.frz = [.dat false p.d, .dat false (stD st), .dat false p.d, .dat false (.list (fd.map runD)), .dat false (.list (S.map runD)), s5.frz] := fun S s5 => by
      show [Sl.dat false p.d, .dat false (stD st), .dat false p.d, .dat false (.list (fd.map runD)), .dat false (.list (pairsD (prsR S))), s5.frz] = _
      rw [pairsD_prsR]
    rw [ev]
    refine wt_or (wt_not (wt_B (wd_call2 (wd_var rfl (wd_var rfl ⟨fd, rfl, hle, hRr, asD_new ⟨_, rfl, iteF' rfl ?_⟩⟩)))))
    refine wt_test (wd_op (wd_var rfl (wd_var rfl (rd_neSelf (Pg.sh hp) (Pg.nb p) ⟨_, rfl, iteF' rfl (sj_next ?_)⟩))))
    refine sj_cut (fun Γ' => ∃ s5, (s5 = .no ∨ ∃ d, s5 = .dat false d) ∧ Γ' = [.dat false p.d, .dat false (stD st), .dat false p.d, .dat false (.list (fd.map runD)), .ex (.ref l) (PairsO K (prsR (apR fd.length fd))), s5]) ?_ ?_
    · refine sj_for false (wi_rng (wd_thaw ?_))
      rw [ev]
      refine wd_cb1 (wd_var rfl (rc_lenL ⟨rfl, _, rfl, ⟨by rw [List.length_map]; omega, by rw [List.length_map]; omega⟩, ?_⟩))
      rw [List.length_map]
      refine ⟨fun i Γ' => ∃ s5, (s5 = .no ∨ ∃ d, s5 = .dat false d) ∧ Γ' = [.dat false p.d, .dat false (stD st), .dat false p.d, .dat false (.list (fd.map runD)), .ex (.ref l) (PairsO K (prsR (apR i fd))), s5], ⟨.no, .inl rfl, rfl⟩, ?_, ?_⟩
      · rintro i x Γ' hx ⟨s5, _, rfl⟩
        obtain ⟨hi, rfl⟩ := rangeD_of hx
        have hi' : i < fd.length := by simpa using hi
        have hat : fd[i]? = some fd[i] := List.getElem?_eq_getElem hi'
        refine gj_name ?_
        have ei : (0 : Int) + (i : Int) = ((i : Nat) : Int) := by omega
        rw [ei]
        have hpr : (prsR (apR i fd))[i]? = some ((fd[i].1.map fun (n : Nat) => PyData.int n), fd[i].2.d) := by
          unfold prsR
          rw [List.getElem?_map, apR_ge (Nat.le_refl _), hat]
          rfl
        have hlen := (hRr fd[i] (List.getElem_mem hi')).1
        refine sj_seq (sj_appAt (i := 4) (j := 5) (k := i) (m := false) rfl rfl hpr (by simp; omega) ?_)
        rw [apR_set hat]
        show SJ K [.dat false p.d, .dat false (stD st), .dat false p.d, .dat false (.list (fd.map runD)), .ex (.ref l) (PairsO K (prsR (apR (i + 1) fd))), .dat false (.int i)] _ _
        refine sj_if (wt_thaw ?_)
        rw [ev]
        refine wt_and (wt_test (wd_op (wd_op (wd_var rfl (wd_int (rd_add (wd_cb1 (wd_var rfl (rc_lenL (rd_lt ⟨_, rfl, ?_⟩))))))))))
        rw [List.length_map, apR_len]
        refine iteD (fun hlt => ?_) (fun _ => iteF' rfl (sj_next ⟨_, .inr ⟨_, rfl⟩, rfl⟩))
        have hlt' : i + 1 < fd.length := by omega
        have h2 : (apR (i + 1) fd)[i + 1]? = some fd[i + 1] := by rw [apR_ge (Nat.le_refl _)]; exact List.getElem?_eq_getElem hlt'
        refine wt_test (wd_op (wd_op (wd_var rfl (wd_op (wd_var rfl (wd_int (rd_add (rd_selN (i + 1) (by omega) (d := runD fd[i + 1]) (by rw [List.getElem?_map, h2]; rfl) ?_))))))))
        refine wd_op (wd_var rfl (wd_op (wd_var rfl (wd_int (rd_add (rd_selN (i + 1) (by omega) (d := runD fd[i + 1]) (by rw [List.getElem?_map, List.getElem?_eq_getElem hlt']; rfl) ?_))))))
        exact rd_neSelf (run_sh _) (run_nb _) ⟨_, rfl, iteF' rfl (sj_next ⟨_, .inr ⟨_, rfl⟩, rfl⟩)⟩
      · rintro Γ' ⟨s5, h5, rfl⟩
        rw [rangeD_len]
        exact ⟨s5, h5, by simp⟩
    rintro _ ⟨s5, h5, rfl⟩
    have hw5 : ∃ s5', s5.frz = s5' ∧ (s5' = .no ∨ ∃ d, s5' = .dat false d) := by
      rcases h5 with rfl | ⟨d, rfl⟩
      · exact ⟨.no, rfl, .inl rfl⟩
      · exact ⟨.dat false d, rfl, .inr ⟨d, rfl⟩⟩
    obtain ⟨s5', e5, h5'⟩ := hw5
    refine sj_seq (sj_if (wt_thaw ?_))
    rw [ev, e5]
    have hwo : wipeOk [Sl.dat false p.d, .dat false (stD st), .dat false p.d, .dat false (.list (fd.map runD)), .dat false (.list ((apR fd.length fd).map runD)), s5'] [5] := by
      rcases h5' with rfl | ⟨d, rfl⟩
      · exact wipeOk_no rfl wipeOk_nil
      · exact wipeOk_dat (m := false) (d := d) rfl wipeOk_nil
    refine wt_test (wd_op (wd_lcPa (mi := false) (α := PyData) id (fun _ => false) id hwo gwn (wi_rng (wd_cb1 (wd_var rfl (rc_lenL ⟨_, rfl, ⟨by rw [List.length_map, apR_len]; omega, by rw [List.length_map, apR_len]; omega⟩, _, (List.map_id _).symm, by rw [rangeD_len, List.length_map, apR_len]; omega, fun i x hx => gj_name ⟨?_, ?_⟩, ?_⟩))))))
    · rcases h5' with rfl | ⟨d, rfl⟩ <;> rfl
    · obtain ⟨hi, rfl⟩ := rangeD_of hx
      rw [List.length_map, apR_len] at hi
      have hi' : i < fd.length := by simpa using hi
      have ei : (0 : Int) + (i : Int) = ((i : Nat) : Int) := by omega
      have h2 : (apR fd.length fd)[i]? = some (fd[i].1 ++ [7], fd[i].2) := apR_lt hi' (List.getElem?_eq_getElem hi')
      have hlen := (hRr fd[i] (List.getElem_mem hi')).1
      refine wt_test (wd_op (wd_op (wd_op (wd_var rfl (wd_var rfl (rd_selN i (by simp) (d := runD (fd[i].1 ++ [7], fd[i].2)) (by rw [List.getElem?_map, h2]; rfl) (wd_int (rd_ixT (d := natsD (fd[i].1 ++ [7])) rfl ?_))))))))
      refine wd_op (wd_op (wd_op (wd_var rfl (wd_var rfl (rd_selN i (by simp) (d := runD fd[i]) (by rw [List.getElem?_map, List.getElem?_eq_getElem hi']; rfl) (wd_int (rd_ixT (d := natsD fd[i].1) rfl (wd_lst1 (wd_int (rd_cat (by simp; omega) ?_))))))))))
      have en : PyData.list ((fd[i].1.map fun (n : Nat) => PyData.int n) ++ [.int 7]) = natsD (fd[i].1 ++ [7]) := by simp [natsD]
      rw [en]
      exact rd_neSelf (nats_sh _) (nats_nb _) ⟨_, rfl, rfl, fun z => nomatch z⟩
    have ef : ∀ xs : List PyData, xs.filter (fun _ => false) = [] := fun xs => by simp
    rw [ef]
    refine wd_lst0 (rd_ne sh_nil sh_nil ⟨_, rfl, iteF' rfl (sj_next ?_)⟩)
    refine sj_seq (sj_clearP (i := 4) rfl ?_)
    show SJ K [.dat false p.d, .dat false (stD st), .dat false p.d, .dat false (.list (fd.map runD)), .no, s5] _ _
    refine sj_retD true (wd_lf (wd_andV (wd_op (wd_call2 (wd_var rfl (wd_var rfl ⟨p, st, rfl, hp, hst, fun _ l' => asD_ex (d := .list (fd.map runD)) ?_ ?_, fun h => ?_⟩))))))
    · rw [hR, ← pairsD_prsR]; rfl
    · refine wd_var rfl (rd_eqSelf (runs_sh fd) (runs_nb fd) ⟨_, rfl, iteT' rfl ?_⟩)
      exact wd_op (wd_var rfl (wd_var rfl (rd_eqSelf (Pg.sh hp) (Pg.nb p) ⟨rfl, kp, q⟩)))
    · rw [hR] at h; omega
  · rw [hR] at hgt
    have e2 := h2 hgt
    show SJ K [.dat false p.d, .dat false (stD st), .dat false p.d, .dat false (.list (fd.map runD)), .dat true .none, .no] _ _
    refine sj_seq (sj_if (wt_test (wd_op (wd_cb1 (wd_var rfl (rc_lenL (wd_int (rd_gt ⟨_, rfl, ?_⟩))))))))
    rw [List.length_map]
    refine iteT' (decide_eq_true (by omega)) ?_
    refine sj_retD true (wd_lf (wd_andV (wd_isN (wd_varN rfl ⟨_, rfl, iteT' rfl ?_⟩))))
    exact wd_op (wd_var rfl (wd_var rfl (rd_eqSelf (Pg.sh hp) (Pg.nb p) ⟨rfl, kp, q⟩)))
end
end Dk
end
section
set_option Elab.async false
set_option linter.all false
set_option maxRecDepth 100000
/-! Law k08: the long program, the law itself. -/
open PySem L2 Pk
local macro_rules | `(tactic| walk_at "sh") => `(tactic| first | exact sh_int | exact sh_bool | exact sh_non | exact sh_nil | exact sh_str (by decide +kernel) | assumption)
local macro_rules | `(tactic| walk_at "v1") => `(tactic| first
  | (with_reducible refine wd_int ?_) | (with_reducible refine wd_str ?_) | (with_reducible refine wd_bl ?_) | (with_reducible refine wd_non ?_)
  | ((with_reducible apply wd_var); exact rfl) | ((with_reducible apply wd_varN); exact rfl)
  | ((with_reducible apply wd_ixm); exact rfl)
  | ((with_reducible apply wd_lenM); exact rfl) | ((with_reducible apply wd_lenScript); exact rfl) | ((with_reducible apply wd_ixScript); exact rfl)
  | (with_reducible refine wd_op ?_) | (with_reducible refine wd_un ?_)
  | (with_reducible refine rd_add ?_) | (with_reducible refine rd_sub ?_) | (with_reducible refine rd_lt ?_) | (with_reducible refine rd_le ?_) | (with_reducible refine rd_gt ?_) | (with_reducible refine rd_ge ?_) | (with_reducible refine ru_neg ?_)
  | ((with_reducible refine rd_eq ?ev_h ?ev_k ?_); (case ev_h => walk_at "sh"); (case ev_k => walk_at "sh")) | ((with_reducible refine rd_ne ?ev_h ?ev_k ?_); (case ev_h => walk_at "sh"); (case ev_k => walk_at "sh"))
  | ((with_reducible refine rd_mod ?ev_h ?_); case ev_h => first | decide | assumption | omega) | ((with_reducible refine rd_div ?ev_h ?ev_k ?_); (case ev_h => first | decide | assumption | omega); (case ev_k => first | decide | assumption | omega))
  | ((with_reducible refine rd_pow ?ev_h ?_); case ev_h => exact ⟨by decide, by decide, by decide⟩)
  | ((with_reducible refine rd_mul ?ev_h ?_); case ev_h => first | exact .inr ⟨by decide, by decide⟩ | exact .inl ⟨by decide, by decide⟩ | exact .inl ⟨by omega, by omega⟩ | exact .inr ⟨by omega, by omega⟩)
  | (with_reducible refine rc_lenL ?_) | (with_reducible refine rc_lenT ?_) | (with_reducible refine rc_max2 ?_) | (with_reducible refine rc_min2 ?_) | (with_reducible refine rc_intB ?_) | (with_reducible refine rc_intI ?_) | (with_reducible refine rc_listL ?_) | (with_reducible refine rc_listT ?_) | (with_reducible refine rc_tupleL ?_)
  | ((with_reducible apply rd_ixT); exact rfl)
  | ((with_reducible apply rd_ixL); exact rfl)
  | ((with_reducible refine wd_isi ?ev_h ?_); case ev_h => decide) | ((with_reducible refine wd_isi2 ?ev_h ?ev_k ?_); (case ev_h => decide); (case ev_k => decide))
  | (with_reducible refine wd_tup2 ?_) | (with_reducible refine wd_tup1 ?_) | (with_reducible refine wd_tup3 ?_) | (with_reducible refine wd_tup0 ?_)
  | (with_reducible refine wd_lst0 ?_) | (with_reducible refine wd_lst1 ?_) | (with_reducible refine wd_lst2 ?_) | (with_reducible refine wd_lst3 ?_) | (with_reducible refine wd_lst4 ?_) | (with_reducible refine wd_lst5 ?_) | (with_reducible refine wd_lst6 ?_)
  | ((with_reducible apply wd_callO0); exact rfl) | ((with_reducible apply wd_callO1); exact rfl) | ((with_reducible apply wd_callO2); exact rfl) | ((with_reducible apply wd_callO3); exact rfl)
  | (with_reducible refine wd_call1 ?_) | (with_reducible refine wd_call2 ?_) | (with_reducible refine wd_call3 ?_) | (with_reducible refine wd_call4 ?_) | (with_reducible refine wd_call0 ?_)
  | (with_reducible refine wd_cb1 ?_) | (with_reducible refine wd_cb2 ?_)
  | (with_reducible refine wd_rev ?_) | (with_reducible refine wd_lrg1 ?_) | (with_reducible refine wd_sl ?_) | (with_reducible refine wo_no ?_) | (with_reducible refine wo_some ?_)
  | (with_reducible refine wd_andV ?_) | (with_reducible refine wd_orV ?_) | (with_reducible refine wd_notV ?_) | (with_reducible refine wd_if ?_) | (with_reducible refine wd_chain ?_)
  | (with_reducible refine wt_test ?_) | (with_reducible refine wt_B ?_) | (with_reducible refine wt_not ?_) | (with_reducible refine wt_and ?_) | (with_reducible refine wt_or ?_) | (with_reducible refine wt_yes ?_)
  | (with_reducible refine gj_name ?_) | (with_reducible refine gj_tup rfl ?_) | (with_reducible refine gjs_cons ?_) | (with_reducible refine gjs_nil ?_))
local macro_rules | `(tactic| walk_at "v") => `(tactic| repeat walk_at "v1")
local macro_rules | `(tactic| walk_at "x") => `(tactic| refine ⟨_, rfl, ?_⟩)
local macro_rules | `(tactic| walk_at "vx") => `(tactic| repeat (first | walk_at "v1" | (with_reducible refine ⟨_, rfl, ?_⟩)))
namespace Dk
open PySem PySem.Spec PyProof.Rows L2 Pk Sy
abbrev b4 : List Str := ["a", "b", "ab", "zz"]
theorem nm_b4 {x : Str} (h : x ∈ b4) : NameOk x := by
  have t : ∀ x ∈ b4, (1 ≤ x.length ∧ x.length ≤ 8) ∧ x.cps.toList.all (fun c => decide (97 ≤ c) && decide (c ≤ 122)) = true := by decide +kernel
  obtain ⟨t1, t2⟩ := t x h
  refine ⟨t1.1, t1.2, fun c hc => ?_⟩
  have := List.all_eq_true.mp t2 c hc
  simp at this
  exact this
theorem bs_b4 {n : Nat} (h1 : 1 ≤ n) (h4 : n ≤ 4) : BsOk (b4.take n) := ⟨by simp; omega, by simp; omega, (List.take_sublist n b4).nodup (by decide +kernel), fun x hx => nm_b4 (List.mem_of_mem_take hx)⟩
def T_far (K : PySem.W.Frag) : List Sl → (Sl → Prop) → Prop := T_program K
theorem sh_gn : SeqAt.shaped (.tuple [.str "give", .str "need"]) = true := sh_of (n := 1) (fun x hx => by
  simp at hx
  rcases hx with rfl | rfl
  · exact (show PyData.strOk "give" = true by decide +kernel)
  · exact (show PyData.strOk "need" = true by decide +kernel)) (by decide)
section
variable {P : Program} {w : World} {K : PySem.W.Frag} {mg : Str → Option Value} {base : Heap} {k : Nat}
theorem ok_far (D : Def K mg "_law_far" s_l_far ["deck"]) (c_draw : Cal P w K mg base CX0 k "_law_draw" ["deck", "many"] (spG K (T_draw K))) (c_thing : Cal P w K mg base CX0 k "_law_thing" ["deck", "m", "boxes", "deep"] (spG K (T_thing 4 K))) (c_row : Cal P w K mg base CX0 k "_law_row" ["deck", "m", "boxes"] (spG K (T_row K))) (m_range : mg "range" = none) (m_len : mg "len" = none) : Cal P w K mg base CX0 (k + 1) "_law_far" ["deck"] (spG K (T_far K)) := by
  refine cal_g D sc_l_far (fun Γ Qr ⟨v, e, _⟩ => by subst e; exact ⟨rfl, noMl_ex noMl_nil⟩) fun f cdv A outer s H E hr => ⟨_, wk_l_far c_draw c_thing c_row m_range m_len f cdv A outer s H E hr, ?_⟩
  rintro Γ Qr ⟨v, rfl, q⟩
  show SJ K [.ex v (Dck K), .no, .no, .no, .no, .no, .no, .no, .no, .no] (t_l_far K _ _ _) _
  unfold t_l_far
  refine sj_seq (sj_asg false ?_)
  walk_at "v"
  refine use_draw (n := 5) (by decide) (by decide) fun r5 a5 b5 => ?_
  refine rd_sel a5 b5 fun d hd => ?_
  have key : ∃ m many : Nat, 2 ≤ m ∧ m ≤ 16 ∧ 2 ≤ many ∧ many ≤ 4 ∧ d = .tuple [.int m, .int many] := by
    simp at hd
    rcases hd with z | z | z | z | z
    · exact ⟨6, 3, by decide, by decide, by decide, by decide, z⟩
    · exact ⟨7, 3, by decide, by decide, by decide, by decide, z⟩
    · exact ⟨16, 2, by decide, by decide, by decide, by decide, z⟩
    · exact ⟨4, 4, by decide, by decide, by decide, by decide, z⟩
    · exact ⟨13, 2, by decide, by decide, by decide, by decide, z⟩
  obtain ⟨m, many, m2, m16, n2, n4, rfl⟩ := key
  refine gj_tup (n := 2) (ds := [.int m, .int many]) rfl ?_
  walk_at "v"
  show SJ K [.ex v (Dck K), .dat false (.int m), .dat false (.int many), .no, .no, .no, .no, .no, .no, .no] _ _
  obtain ⟨bs, ebs⟩ : ∃ bs, bs = b4.take many := ⟨_, rfl⟩
  have hbs : BsOk bs := by rw [ebs]; exact bs_b4 (by omega) n4
  have hbl : bs.length = many := by rw [ebs]; simp; omega
  have hmb : MB m bs := ⟨m2, m16, hbs⟩
  refine sj_seq (sj_set false (wd_sl (wd_lst4 (wd_str (wd_str (wd_str (wd_str ⟨_, rfl, wo_no (wo_some (wd_var rfl ⟨_, rfl, ?_⟩))⟩)))))))
  have eb : Pk.cutD [PyData.str "a", .str "b", .str "ab", .str "zz"] none (some (many : Int)) = bs.map PyData.str := by
    rw [cut_takeN, ebs, List.map_take]
    rfl
  rw [eb]
  refine sj_seq (sj_setX (wx_lst0 false fun l => ?_))
  refine sj_seq (sj_set false (wd_int ?_))
  show SJ K [.ex v (Dck K), .dat false (.int m), .dat false (.int many), .dat false (bsD bs), .ml false l (([] : List Rw).map Rw.d), .dat false (.int (1 : Nat)), .no, .no, .no, .no] _ _
  refine sj_cut (fun Γ' => ∃ (rows : List Rw) (s5 s6 s7 s8 : Sl), rows.length ≤ 13 ∧ (∀ r ∈ rows, r.Ok m bs) ∧ Γ' = [.ex v (Dck K), .dat false (.int m), .dat false (.int many), .dat false (bsD bs), .ml false l (rows.map Rw.d), s5, s6, s7, s8, .no]) ?_ ?_
  · refine sj_for false (wi_rng ?_)
    walk_at "v"
    refine use_drawN (n := 3) (by decide) (by decide) fun r3 hr3 => ?_
    walk_at "v"
    refine ⟨_, rfl, ⟨by omega, by omega⟩, fun i Γ' => ∃ (rows : List Rw) (runs : Nat) (s6 s7 s8 : Sl), rows.length = i ∧ 1 ≤ runs ∧ runs ≤ 2000 ∧ (∀ r ∈ rows, r.Ok m bs) ∧ Γ' = [.ex v (Dck K), .dat false (.int m), .dat false (.int many), .dat false (bsD bs), .ml false l (rows.map Rw.d), .dat false (.int runs), s6, s7, s8, .no], ⟨[], 1, .no, .no, .no, rfl, by decide, by decide, fun r hr => (by cases hr), rfl⟩, ?_, ?_⟩
    · rintro i x Γ' hx ⟨rows, runs, s6, s7, s8, hil, hr1, hr2, hok, rfl⟩
      obtain ⟨hi, rfl⟩ := rangeD_of hx
      refine gj_name ?_
      refine sj_seq (sj_set false (wd_callO2 rfl (wd_var rfl (wd_var rfl ⟨v, m, bs, rfl, hmb, fun r0 hr0 => asD_dat ?_⟩))))
      show SJ K [.ex v (Dck K), .dat false (.int m), .dat false (.int many), .dat false (bsD bs), .ml false l (rows.map Rw.d), .dat false (.int runs), .dat false (.int (0 + (i : Int))), .dat false r0.d, s8, .no] _ _
      refine sj_cut (fun Γ' => ∃ (r : Rw) (s8 : Sl), r.Ok m bs ∧ Γ' = [.ex v (Dck K), .dat false (.int m), .dat false (.int many), .dat false (bsD bs), .ml false l (rows.map Rw.d), .dat false (.int runs), .dat false (.int (0 + (i : Int))), .dat false r.d, s8, .no]) ?_ ?_
      · refine sj_if ?_
        have body : ∀ {Po : Po}, (∀ (r : Rw) (s8 : Sl), r.Ok m bs → Po.nx [.ex v (Dck K), .dat false (.int m), .dat false (.int many), .dat false (bsD bs), .ml false l (rows.map Rw.d), .dat false (.int runs), .dat false (.int (0 + (i : Int))), .dat false r.d, s8, .no]) → SJ K [.ex v (Dck K), .dat false (.int m), .dat false (.int many), .dat false (bsD bs), .ml false l (rows.map Rw.d), .dat false (.int runs), .dat false (.int (0 + (i : Int))), .dat false r0.d, s8, .no] (tSeq (tAsg (tLc (iRng1 (tCons (tOp (dAdd K) (tC (.int 1)) (tCall (spG K (T_draw K)) [] E0 (tCons (tVar 0) (tCons (tC (.int 3)) tNil)))) tNil)) (gName 9) tYes (tCall (spG K (T_thing 4 K)) [] E0 (tCons (tVar 0) (tCons (tVar 1) (tCons (tVar 3) (tCons (tC (.int 2)) tNil))))) [9]) (gName 8))
            (tSeq (tAsg (tOp (dAdd K) (tVar 8) (tSl (rSlL K) (tVar 8) tNoPart (tPart (tCall (spG K (T_draw K)) [] E0 (tCons (tVar 0) (tCons (tC (.int 2)) tNil)))))) (gName 8))
            (tAsg (tTup (tCons (tC (.str "pick")) (tCons (tOp (rIx K) (tVar 3) (tCall (spG K (T_draw K)) [] E0 (tCons (tVar 0) (tCons (tVar 2) tNil)))) (tCons (tVar 8) tNil)))) (gName 7)))) Po := fun {Po} hPo => by
          refine sj_seq (sj_set false (wd_lcF (mi := false) (fun _ _ y => ∃ t : Th, t.Ok m bs 2 ∧ y = t.d) (wipeOk_no rfl wipeOk_nil) gwn (wi_rng ?_)))
          walk_at "v"
          refine use_drawN (n := 3) (by decide) (by decide) fun rt hrt => ?_
          walk_at "v"
          refine ⟨_, rfl, ⟨by omega, by omega⟩, by rw [rangeD_len]; omega, fun j d hj => ?_, fun acc hal hac => ?_⟩
          · refine gj_name ⟨rfl, ?_⟩
            walk_at "v"
            exact use_thing (deep := 2) hmb (by decide) (by decide) fun t ht => ⟨t, ht, rfl⟩
          rw [rangeD_len] at hal
          have hall : ∀ y ∈ acc, ∃ t : Th, t.Ok m bs 2 ∧ y = t.d := fun y hy => by
            obtain ⟨j, hj⟩ := List.getElem?_of_mem hy
            have hjl : j < acc.length := (List.getElem?_eq_some_iff.mp hj).1
            exact hac j _ y (rangeD_get (by omega)) hj
          obtain ⟨ts, rfl, hts⟩ := list_of hall
          rw [List.length_map] at hal
          have hts4 : ∀ t ∈ ts, t.Ok m bs 4 := fun t ht => (hts t ht).mono (by decide)
          refine sj_seq (sj_set false (wd_op (wd_var rfl (wd_sl (wd_var rfl ⟨_, rfl, wo_no (wo_some ?_)⟩)))))
          walk_at "v"
          refine use_drawN (n := 2) (by decide) (by decide) fun r2 hr2 => ?_
          refine ⟨_, rfl, ?_⟩
          rw [cut_takeN, ← List.map_take]
          refine rd_cat (by rw [List.length_map, List.length_map, List.length_take]; omega) ?_
          rw [← List.map_append]
          refine sj_set false (wd_tup3 (wd_str (wd_op (wd_var rfl ?_))))
          refine wd_callO1 rfl (wd_var rfl ?_)
          refine use_drawN (n := many) (by omega) (by omega) fun rb hrb => ?_
          refine rd_box (by omega) fun x hx => wd_var rfl ?_
          refine hPo (.pick x (ts ++ ts.take r2)) (.dat false (.list ((ts ++ ts.take r2).map Th.d))) ⟨hx, ?_, ?_, fun t ht => ?_⟩
          · rw [List.length_append]; omega
          · rw [List.length_append, List.length_take]; omega
          · rcases List.mem_append.mp ht with h | h
            · exact hts4 t h
            · exact hts4 t (List.mem_of_mem_take h)
        refine wt_or (wt_test (wd_op (wd_op (wd_var rfl (wd_int (rd_rk (wd_tup2 (wd_str (wd_str (rd_inT (sh_str r0.kd.ok) sh_gn ⟨_, rfl, ?_⟩))))))))))
        refine iteB (fun _ => iteT' rfl (body fun r s8 hr => ⟨r, s8, hr, rfl⟩)) (fun _ => ?_)
        refine wt_test (wd_op ?_)
        walk_at "v"
        refine use_drawN (n := 3) (by decide) (by decide) fun rg hrg => ?_
        walk_at "v"
        exact ⟨_, rfl, iteD (fun _ => body fun r s8 hr => ⟨r, s8, hr, rfl⟩) (fun _ => sj_next ⟨r0, s8, hr0, rfl⟩)⟩
      rintro _ ⟨r, s8, hr, rfl⟩
      refine sj_cut (fun Γ' => ∃ (r : Rw) (s8 : Sl), r.Ok m bs ∧ (∀ x ts, r = .pick x ts → runs * ts.length ≤ 2000) ∧ Γ' = [.ex v (Dck K), .dat false (.int m), .dat false (.int many), .dat false (bsD bs), .ml false l (rows.map Rw.d), .dat false (.int runs), .dat false (.int (0 + (i : Int))), .dat false r.d, s8, .no]) ?_ ?_
      · refine sj_if ?_
        refine wt_and (wt_test (wd_op (wd_op (wd_var rfl (wd_int (rd_rk (wd_str (rd_eq (sh_str r.kd.ok) (sh_str (Kd.ok .pick)) ⟨_, rfl, ?_⟩))))))))
        rw [show PyData.eqv (.str r.kd.w) (.str "pick") = decide (r.kd = .pick) from Kd.eqW r.kd .pick]
        cases r with
        | set x t => exact iteF' rfl (iteF' rfl (sj_next ⟨.set x t, s8, hr, fun _ _ z => (by cases z), rfl⟩))
        | need t => exact iteF' rfl (iteF' rfl (sj_next ⟨.need t, s8, hr, fun _ _ z => (by cases z), rfl⟩))
        | skip t n => exact iteF' rfl (iteF' rfl (sj_next ⟨.skip t n, s8, hr, fun _ _ z => (by cases z), rfl⟩))
        | give t => exact iteF' rfl (iteF' rfl (sj_next ⟨.give t, s8, hr, fun _ _ z => (by cases z), rfl⟩))
        | pick x ts =>
          obtain ⟨hx, h1, h5, hts⟩ := hr
          refine iteT' rfl ?_
          refine wt_test (wd_op (wd_op (wd_var rfl (wd_cb1 (wd_op (wd_var rfl (wd_int (rd_ixT (d := .list (ts.map Th.d)) rfl (rc_lenL (rd_mul ?_ (wd_int (rd_gt ⟨_, rfl, ?_⟩))))))))))))
          · exact .inl ⟨by omega, by omega⟩
          rw [List.length_map]
          have em : (runs : Int) * (ts.length : Int) = ((runs * ts.length : Nat) : Int) := by push_cast; rfl
          rw [em]
          refine iteD (fun hgt => ?_) (fun hle => sj_next ⟨.pick x ts, s8, ⟨hx, h1, h5, hts⟩, fun _ _ z => (by cases z; omega), rfl⟩)
          refine sj_set false (wd_tup3 (wd_op (wd_var rfl (wd_int (rd_ixT (d := .str "pick") rfl (wd_op (wd_var rfl (wd_int (rd_ixT (d := .str x) rfl (wd_sl (wd_op (wd_var rfl (wd_int (rd_ixT (d := .list (ts.map Th.d)) rfl ⟨_, rfl, wo_no (wo_some (wd_int ⟨_, rfl, ?_⟩))⟩))))))))))))))
          rw [show (1 : Int) = ((1 : Nat) : Int) from rfl, cut_takeN, ← List.map_take]
          refine ⟨.pick x (ts.take 1), s8, ⟨hx, by rw [List.length_take]; omega, by rw [List.length_take]; omega, fun t ht => hts t (List.mem_of_mem_take ht)⟩, fun _ _ z => ?_, rfl⟩
          cases z
          rw [List.length_take]
          have : min 1 ts.length = 1 := by omega
          rw [this]
          omega
      rintro _ ⟨r, s8, hr, hrn, rfl⟩
      refine sj_cut (fun Γ' => ∃ runs' : Nat, 1 ≤ runs' ∧ runs' ≤ 2000 ∧ Γ' = [.ex v (Dck K), .dat false (.int m), .dat false (.int many), .dat false (bsD bs), .ml false l (rows.map Rw.d), .dat false (.int runs'), .dat false (.int (0 + (i : Int))), .dat false r.d, s8, .no]) ?_ ?_
      rotate_left
      · rintro _ ⟨runs', a, b, rfl⟩
        refine sj_app (i := 4) (l := l) (ds := rows.map Rw.d) rfl (by rw [List.length_map]; omega) (wd_var rfl ⟨rows ++ [r], runs', .dat false (.int (0 + (i : Int))), .dat false r.d, s8, by simp [hil], a, b, fun r' hr' => ?_, by rw [List.map_append]; rfl⟩)
        rcases List.mem_append.mp hr' with h | h
        · exact hok r' h
        · rw [List.mem_singleton.mp h]; exact hr
      refine sj_if (wt_test (wd_op (wd_op (wd_var rfl (wd_int (rd_rk (wd_str (rd_eq (sh_str r.kd.ok) (sh_str (Kd.ok .pick)) ⟨_, rfl, ?_⟩))))))))
      rw [show PyData.eqv (.str r.kd.w) (.str "pick") = decide (r.kd = .pick) from Kd.eqW r.kd .pick]
      cases r with
      | set x t => exact iteF' rfl (sj_next ⟨runs, hr1, hr2, rfl⟩)
      | need t => exact iteF' rfl (sj_next ⟨runs, hr1, hr2, rfl⟩)
      | skip t n => exact iteF' rfl (sj_next ⟨runs, hr1, hr2, rfl⟩)
      | give t => exact iteF' rfl (sj_next ⟨runs, hr1, hr2, rfl⟩)
      | pick x ts =>
        have h1 := hr.2.1
        have h5 := hr.2.2.1
        have hle := hrn x ts rfl
        refine iteT' rfl (sj_set false (wd_op (wd_var rfl (wd_cb1 (wd_op (wd_var rfl (wd_int (rd_ixT (d := .list (ts.map Th.d)) rfl (rc_lenL (rd_mul ?_ ?_))))))))))
        · exact .inl ⟨by omega, by omega⟩
        rw [List.length_map]
        have em : (runs : Int) * (ts.length : Int) = ((runs * ts.length : Nat) : Int) := by push_cast; rfl
        rw [em]
        exact ⟨runs * ts.length, Nat.mul_pos hr1 h1, hle, rfl⟩
    · rintro Γ' ⟨rows, runs, s6, s7, s8, hl, _, _, hok, rfl⟩
      rw [rangeD_len] at hl
      exact ⟨rows, _, s6, s7, s8, by omega, hok, rfl⟩
  rintro _ ⟨rows, s5, s6, s7, s8, hl, hok, rfl⟩
  refine sj_frz 4 rfl ?_
  show SJ K [.ex v (Dck K), .dat false (.int m), .dat false (.int many), .dat false (bsD bs), .dat false (.list (rows.map Rw.d)), s5, s6, s7, s8, .no] _ _
  refine sj_retD false (wd_tup3 (wd_var rfl (wd_var rfl (wd_op (wd_var rfl (wd_lst1 (wd_tup2 (wd_str (wd_tup2 (wd_str (wd_op (wd_var rfl ?_))))))))))))
  refine wd_callO1 rfl (wd_var rfl ?_)
  refine use_drawN (n := many) (by omega) (by omega) fun rb hrb => ?_
  refine rd_box (by omega) fun x hx => rd_cat (by rw [List.length_map]; simp; omega) ⟨keep_ex keep_nil, ?_⟩
  have ep : rows.map Rw.d ++ [PyData.tuple [.str "give", .tuple [.str "box", .str x]]] = (rows ++ [Rw.give (.box x)]).map Rw.d := by rw [List.map_append]; rfl
  rw [ep]
  refine q ⟨m, bs, rows ++ [Rw.give (.box x)]⟩ ⟨m2, m16, hbs, by show (rows ++ [Rw.give (.box x)]).length ≤ 30; simp; omega, fun r hr => ?_⟩
  rcases List.mem_append.mp hr with h | h
  · exact hok r h
  · rw [List.mem_singleton.mp h]; exact hx
theorem ok_law {f0 : Addr} {fd0 : FuncData} (F0 : Fun K "law" "law" s_law f0 fd0) (c_right : Cal P w K mg base CX0 k "_law_right" ["program", "store"] (spG K (T_right K))) (c_draw : Cal P w K mg base CX0 k "_law_draw" ["deck", "many"] (spG K (T_draw K))) (c_store : Cal P w K mg base CX0 k "_law_store" ["deck", "program"] (spG K (T_store K))) (c_far : Cal P w K mg base CX0 k "_law_far" ["deck"] (spG K (T_far K))) (c_program : Cal P w K mg base CX0 k "_law_program" ["deck"] (spG K (T_program K))) (c_deck : Cal P w K mg base CX0 k "_law_deck" ["script"] (spG K (T_deck K))) (m_range : mg "range" = none) : FnOk P w K mg base CX0 (k + 1) f0 fd0 ["script"] (spG K (T_law K)) := by
  refine fnOk_g F0 sc_law (fun Γ Qr ⟨v, ns, e, _⟩ => by subst e; exact ⟨rfl, noMl_ex noMl_nil⟩) fun f cdv A outer s H E hr => ⟨_, wk_law c_right c_draw c_store c_far c_program c_deck m_range f cdv A outer s H E hr, ?_⟩
  rintro Γ Qr ⟨v, ns, rfl, hns, q⟩
  show SJ K [.ex v (ScriptO K ns), .no, .no, .no, .no] (t_law K _ _ _ _ _ _) _
  unfold t_law
  refine sj_seq (sj_setX (wx_callO0 rfl ⟨v, ns, rfl, hns, fun vd => ?_⟩))
  show SJ K [.ex v (ScriptO K ns), .ex vd (Dck K), .no, .no, .no] _ _
  refine sj_cut (fun Γ' => ∃ s2 s3 s4, Γ' = [.ex v (ScriptO K ns), .ex vd (Dck K), s2, s3, s4]) ?_ ?_
  · refine sj_for false (wi_rng (wd_int ⟨_, rfl, ⟨by decide, by decide⟩, fun i Γ' => ∃ s2 s3 s4, Γ' = [.ex v (ScriptO K ns), .ex vd (Dck K), s2, s3, s4], ⟨.no, .no, .no, rfl⟩, ?_, fun Γ' h => h⟩))
    rintro i d Γ' hd ⟨s2, s3, s4, rfl⟩
    refine gj_name ?_
    refine sj_seq (sj_set false (wd_callO0 rfl ⟨vd, rfl, fun p hp => asD_dat ?_⟩))
    show SJ K [.ex v (ScriptO K ns), .ex vd (Dck K), .dat false d, .dat false p.d, s4] _ _
    refine sj_for false (wi_rng (wd_int ⟨_, rfl, ⟨by decide, by decide⟩, fun i Γ' => ∃ s4, Γ' = [.ex v (ScriptO K ns), .ex vd (Dck K), .dat false d, .dat false p.d, s4], ⟨s4, rfl⟩, ?_, fun Γ' ⟨s4, h⟩ => ⟨_, _, s4, h⟩⟩))
    rintro i d2 Γ' hd2 ⟨s4, rfl⟩
    refine gj_name ?_
    refine sj_if (wt_not (wt_B (wd_call2 (wd_var rfl ?_))))
    refine wd_callO1 rfl (wd_var rfl ⟨vd, p, rfl, hp, fun st hst => asD_new ?_⟩)
    exact ⟨p, st, rfl, hp, hst, asD_new ⟨_, rfl, iteF' rfl (sj_next ⟨_, rfl⟩)⟩⟩
  rintro _ ⟨s2, s3, s4, rfl⟩
  refine sj_cut (fun Γ' => ∃ s3 s4, Γ' = [.ex v (ScriptO K ns), .ex vd (Dck K), s2, s3, s4]) ?_ ?_
  · refine sj_if (wt_test (wd_op (wd_callO1 rfl (wd_int ?_))))
    refine use_drawN (n := 8) (by decide) (by decide) fun r8 hr8 => ?_
    refine wd_int (rd_eq sh_int sh_int ⟨_, rfl, iteB (fun _ => ?_) (fun _ => sj_next ⟨_, _, rfl⟩)⟩)
    refine sj_seq (sj_set false (wd_callO0 rfl ⟨vd, rfl, fun p hp => asD_dat ?_⟩))
    show SJ K [.ex v (ScriptO K ns), .ex vd (Dck K), s2, .dat false p.d, s4] _ _
    refine sj_if (wt_not (wt_B (wd_call2 (wd_var rfl ?_))))
    refine wd_callO1 rfl (wd_var rfl ⟨vd, p, rfl, hp, fun st hst => asD_new ?_⟩)
    exact ⟨p, st, rfl, hp, hst, asD_new ⟨_, rfl, iteF' rfl (sj_next ⟨_, _, rfl⟩)⟩⟩
  rintro _ ⟨s3, s4, rfl⟩
  have hb : BsOk ["a"] := bs_b4 (n := 1) (by decide) (by decide)
  refine sj_retD true (wd_lf (wd_andV (wd_call2 (wd_tup3 (wd_int (wd_lst1 (wd_str (wd_lst0 (wd_tup1 (wd_int ⟨⟨3, ["a"], []⟩, [2], rfl, ⟨by decide, by decide, hb, by decide, fun r hr => (by cases hr)⟩, ⟨rfl, fun n hn => (by simp at hn; subst hn; decide)⟩, asD_new ⟨_, rfl, iteT' rfl ?_⟩⟩))))))))))
  refine wd_call2 (wd_tup3 (wd_int (wd_lst1 (wd_str (wd_lst1 (wd_tup3 (wd_str (wd_str (wd_lst1 (wd_tup2 (wd_str (wd_int (wd_tup1 (wd_int ⟨⟨2, ["a"], [.pick "a" [.num 1]]⟩, [0], rfl, ⟨by decide, by decide, hb, by decide, fun r hr => ?_⟩, ⟨rfl, fun n hn => (by simp at hn; subst hn; decide)⟩, asD_new ⟨rfl, keep_ex keep_nil, q⟩⟩))))))))))))))
  rw [List.mem_singleton.mp hr]
  refine ⟨List.mem_cons_self, by decide, by decide, fun t ht => ?_⟩
  rw [List.mem_singleton.mp ht]
  show 1 < 2
  decide
end
end Dk
end
section
set_option Elab.async false
set_option linter.all false
set_option maxRecDepth 100000
/-! What the head tells of the top. -/
namespace Ch
open PySem PySem.Spec PyProof.Rows L2 Pk Sy
structure Fx (K : PySem.W.Frag) (mg : Str → Option Value) : Prop where
  D_is_whole : Def K mg "is_whole" s_is_whole ["thing", "low", "high"]
  D_need_store : Def K mg "need_store" s_need_store ["program", "store"]
  D_worth_in : Def K mg "worth_in" s_worth_in ["program", "thing", "store"]
  D_is_place : Def K mg "is_place" s_is_place ["way"]
  D_place_or_end : Def K mg "place_or_end" s_place_or_end ["program", "row", "store"]
  D_begin_of : Def K mg "begin_of" s_begin_of ["program", "store"]
  D_store_with : Def K mg "store_with" s_store_with ["program", "store", "box", "worth"]
  D_ways_from : Def K mg "ways_from" s_ways_from ["program", "place"]
  D_is_pick : Def K mg "is_pick" s_is_pick ["program", "place"]
  D_all_runs : Def K mg "all_runs" s_all_runs ["program", "store"]
  D_l_deck : Def K mg "_law_deck" s_l_deck ["script"]
  D_l_draw : Def K mg "_law_draw" s_l_draw ["deck", "many"]
  D_l_names : Def K mg "_law_names" s_l_names ["deck"]
  D_l_thing : Def K mg "_law_thing" s_l_thing ["deck", "m", "boxes", "deep"]
  D_l_row : Def K mg "_law_row" s_l_row ["deck", "m", "boxes"]
  D_l_bounded : Def K mg "_law_bounded" s_l_bounded ["m", "boxes", "rows"]
  D_l_program : Def K mg "_law_program" s_l_program ["deck"]
  D_l_store : Def K mg "_law_store" s_l_store ["deck", "program"]
  D_l_worth : Def K mg "_law_worth" s_l_worth ["program", "thing", "store"]
  D_l_put : Def K mg "_law_put" s_l_put ["program", "store", "box", "worth"]
  D_l_to_pick : Def K mg "_law_to_pick" s_l_to_pick ["program", "row", "store"]
  D_l_picked : Def K mg "_law_picked" s_l_picked ["program", "row", "store", "choice"]
  D_l_deep : Def K mg "_law_deep" s_l_deep ["thing"]
  D_l_kinds : Def K mg "_law_kinds" s_l_kinds ["caught", "due"]
  D_l_all : Def K mg "_law_all" s_l_all ["program", "store", "most"]
  D_l_asked : Def K mg "_law_asked" s_l_asked ["program", "store"]
  D_l_is_told : Def K mg "_law_is_told" s_l_is_told ["found", "due"]
  D_l_right : Def K mg "_law_right" s_l_right ["program", "store"]
  D_l_far : Def K mg "_law_far" s_l_far ["deck"]
  m_isinstance : mg "isinstance" = none
  m_bool : mg "bool" = none
  m_int : mg "int" = none
  m_len : mg "len" = none
  m_tuple : mg "tuple" = none
  m_range : mg "range" = none
  m_max : mg "max" = none
  m_min : mg "min" = none
  m_dict : mg "dict" = none
  m_zip : mg "zip" = none
  m_list : mg "list" = none
  m_ValueError : mg "ValueError" = none
  g_NOTHING : mg "NOTHING" = some (.ref (He.ga K "NOTHING"))
  k_NOTHING : TupK K (He.ga K "NOTHING") ["nothing"]
  g_MOST_RUNS : ∃ t, mg "MOST_RUNS" = some (.int 2000 t)
  g_RunError : mg "RunError" = some (.ref (He.ga K "RunError"))
  g_NoStore : mg "NoStore" = some (.ref (He.ga K "NoStore"))
  g_NoNumber : mg "NoNumber" = some (.ref (He.ga K "NoNumber"))
  g_TooMany : mg "TooMany" = some (.ref (He.ga K "TooMany"))
  g_NoFit : mg "NoFit" = some (.ref (He.ga K "NoFit"))
  g_NoText : mg "NoText" = some (.ref (He.ga K "NoText"))
  g_NoName : mg "NoName" = some (.ref (He.ga K "NoName"))
  g_NoRow : mg "NoRow" = some (.ref (He.ga K "NoRow"))
  g_NoChoice : mg "NoChoice" = some (.ref (He.ga K "NoChoice"))
  e_NoStore : ExcT K mg "NoStore" (He.ga K "NoStore")
  e_TooMany : ExcT K mg "TooMany" (He.ga K "TooMany")
  kit_NoStore_RunError : PySem.W.kitOne K (.ref (He.ga K "NoStore")) (.ref (He.ga K "RunError")) = some true
  kit_NoStore_NoStore : PySem.W.kitOne K (.ref (He.ga K "NoStore")) (.ref (He.ga K "NoStore")) = some true
  kit_NoStore_NoNumber : PySem.W.kitOne K (.ref (He.ga K "NoStore")) (.ref (He.ga K "NoNumber")) = some false
  kit_NoStore_TooMany : PySem.W.kitOne K (.ref (He.ga K "NoStore")) (.ref (He.ga K "TooMany")) = some false
  kit_NoStore_NoFit : PySem.W.kitOne K (.ref (He.ga K "NoStore")) (.ref (He.ga K "NoFit")) = some false
  kit_NoStore_NoText : PySem.W.kitOne K (.ref (He.ga K "NoStore")) (.ref (He.ga K "NoText")) = some false
  kit_NoStore_NoName : PySem.W.kitOne K (.ref (He.ga K "NoStore")) (.ref (He.ga K "NoName")) = some false
  kit_NoStore_NoRow : PySem.W.kitOne K (.ref (He.ga K "NoStore")) (.ref (He.ga K "NoRow")) = some false
  kit_NoStore_NoChoice : PySem.W.kitOne K (.ref (He.ga K "NoStore")) (.ref (He.ga K "NoChoice")) = some false
  kit_TooMany_RunError : PySem.W.kitOne K (.ref (He.ga K "TooMany")) (.ref (He.ga K "RunError")) = some true
  kit_TooMany_NoStore : PySem.W.kitOne K (.ref (He.ga K "TooMany")) (.ref (He.ga K "NoStore")) = some false
  kit_TooMany_NoNumber : PySem.W.kitOne K (.ref (He.ga K "TooMany")) (.ref (He.ga K "NoNumber")) = some false
  kit_TooMany_TooMany : PySem.W.kitOne K (.ref (He.ga K "TooMany")) (.ref (He.ga K "TooMany")) = some true
  kit_TooMany_NoFit : PySem.W.kitOne K (.ref (He.ga K "TooMany")) (.ref (He.ga K "NoFit")) = some false
  kit_TooMany_NoText : PySem.W.kitOne K (.ref (He.ga K "TooMany")) (.ref (He.ga K "NoText")) = some false
  kit_TooMany_NoName : PySem.W.kitOne K (.ref (He.ga K "TooMany")) (.ref (He.ga K "NoName")) = some false
  kit_TooMany_NoRow : PySem.W.kitOne K (.ref (He.ga K "TooMany")) (.ref (He.ga K "NoRow")) = some false
  kit_TooMany_NoChoice : PySem.W.kitOne K (.ref (He.ga K "TooMany")) (.ref (He.ga K "NoChoice")) = some false
  exm_NoStore_RunError : PySem.W.exmOne K (.ref (He.ga K "NoStore")) (.ref (He.ga K "RunError")) = some true
  exm_NoStore_NoStore : PySem.W.exmOne K (.ref (He.ga K "NoStore")) (.ref (He.ga K "NoStore")) = some true
  exm_NoStore_NoNumber : PySem.W.exmOne K (.ref (He.ga K "NoStore")) (.ref (He.ga K "NoNumber")) = some false
  exm_NoStore_TooMany : PySem.W.exmOne K (.ref (He.ga K "NoStore")) (.ref (He.ga K "TooMany")) = some false
  exm_NoStore_NoFit : PySem.W.exmOne K (.ref (He.ga K "NoStore")) (.ref (He.ga K "NoFit")) = some false
  exm_NoStore_NoText : PySem.W.exmOne K (.ref (He.ga K "NoStore")) (.ref (He.ga K "NoText")) = some false
  exm_NoStore_NoName : PySem.W.exmOne K (.ref (He.ga K "NoStore")) (.ref (He.ga K "NoName")) = some false
  exm_NoStore_NoRow : PySem.W.exmOne K (.ref (He.ga K "NoStore")) (.ref (He.ga K "NoRow")) = some false
  exm_NoStore_NoChoice : PySem.W.exmOne K (.ref (He.ga K "NoStore")) (.ref (He.ga K "NoChoice")) = some false
  exm_TooMany_RunError : PySem.W.exmOne K (.ref (He.ga K "TooMany")) (.ref (He.ga K "RunError")) = some true
  exm_TooMany_NoStore : PySem.W.exmOne K (.ref (He.ga K "TooMany")) (.ref (He.ga K "NoStore")) = some false
  exm_TooMany_NoNumber : PySem.W.exmOne K (.ref (He.ga K "TooMany")) (.ref (He.ga K "NoNumber")) = some false
  exm_TooMany_TooMany : PySem.W.exmOne K (.ref (He.ga K "TooMany")) (.ref (He.ga K "TooMany")) = some true
  exm_TooMany_NoFit : PySem.W.exmOne K (.ref (He.ga K "TooMany")) (.ref (He.ga K "NoFit")) = some false
  exm_TooMany_NoText : PySem.W.exmOne K (.ref (He.ga K "TooMany")) (.ref (He.ga K "NoText")) = some false
  exm_TooMany_NoName : PySem.W.exmOne K (.ref (He.ga K "TooMany")) (.ref (He.ga K "NoName")) = some false
  exm_TooMany_NoRow : PySem.W.exmOne K (.ref (He.ga K "TooMany")) (.ref (He.ga K "NoRow")) = some false
  exm_TooMany_NoChoice : PySem.W.exmOne K (.ref (He.ga K "TooMany")) (.ref (He.ga K "NoChoice")) = some false
  kit_NoStore_ValueError : PySem.W.kitOne K (.ref (He.ga K "NoStore")) (.type "ValueError") = some true
  kit_TooMany_ValueError : PySem.W.kitOne K (.ref (He.ga K "TooMany")) (.type "ValueError") = some true
end Ch
end
section
set_option Elab.async false
set_option linter.all false
set_option maxRecDepth 100000
/-! Law k08: all defs together. -/
namespace Ch
open PySem PySem.Spec PyProof.Rows L2 Pk Sy Dk
theorem chain {P : Program} {w : World} {K : PySem.W.Frag} {mg : Str → Option Value} {base : Heap} {f : Addr} {fd : FuncData} (F0 : Fun K "law" "law" s_law f fd) (x : Fx K mg) : FnOk P w K mg base CX0 14 f fd ["script"] (spG K (T_law K)) := by
  have draw : Cal P w K mg base CX0 1 "_law_draw" ["deck", "many"] (spG K (T_draw K)) := ok_draw x.D_l_draw x.m_len
  have deck := ok_deck (P := P) (w := w) (base := base) (k := 0) x.D_l_deck x.m_range x.m_max x.m_min x.m_len x.m_int
  have names := ok_names (k := 1) x.D_l_names draw x.m_range
  have thing := ok_thing (k := 1) x.D_l_thing x.m_len draw 4
  have row := ok_row (k := 5) x.D_l_row thing (draw.mono (by decide)) x.m_min x.m_range x.m_len
  have bounded := ok_bounded (P := P) (w := w) (base := base) (k := 0) x.D_l_bounded x.m_len
  have program := ok_program (k := 6) x.D_l_program (draw.mono (by decide)) (thing.mono (by decide)) (bounded.mono (by decide)) row (names.mono (by decide)) x.m_range
  have store := ok_store (k := 1) x.D_l_store draw x.m_tuple
  have whole := ok_whole (P := P) (w := w) (base := base) (k := 0) x.D_is_whole x.m_isinstance x.m_bool x.m_int
  have need := ok_needX (k := 1) x.D_need_store whole x.m_len x.m_isinstance x.m_tuple x.e_NoStore
  have win := ok_worth_in (P := P) (w := w) (base := base) (k := 0) x.D_worth_in x.m_int 4
  have deep := ok_deep (P := P) (w := w) (base := base) (k := 0) x.D_l_deep x.m_isinstance x.m_tuple x.m_list 8
  have isplace := ok_isplace (P := P) (w := w) (base := base) (k := 0) x.D_is_place x.m_isinstance x.m_int
  have poe_ := ok_poe (P := P) (w := w) (base := base) (k := 0) x.D_place_or_end x.m_len x.g_NOTHING x.k_NOTHING
  have begin_ := ok_begin (k := 1) x.D_begin_of poe_
  have swith := ok_swith (P := P) (w := w) (base := base) (k := 0) x.D_store_with
  have ispick := ok_ispick (P := P) (w := w) (base := base) (k := 0) x.D_is_pick
  have ways_ := ok_ways (k := 4) x.D_ways_from (poe_.mono (by decide)) win (swith.mono (by decide)) x.g_NOTHING x.k_NOTHING
  have all_ := ok_allrunsP (k := 5) x.D_all_runs (isplace.mono (by decide)) (ispick.mono (by decide)) ways_ (begin_.mono (by decide)) (need.mono (by decide)) x.m_len x.m_range x.g_MOST_RUNS x.e_TooMany
  have lw := ok_lworth (P := P) (w := w) (base := base) (k := 0) x.D_l_worth x.m_int x.m_dict x.m_zip 4
  have put_ := ok_lput (P := P) (w := w) (base := base) (k := 0) x.D_l_put x.m_tuple x.m_zip x.m_int
  have topick := ok_topick (k := 5) x.D_l_to_pick (put_.mono (by decide)) (lw.mono (by decide)) x.m_len x.m_int
  have picked := ok_picked (k := 6) x.D_l_picked topick (put_.mono (by decide)) (lw.mono (by decide))
  have lall := ok_all (k := 7) x.D_l_all picked (topick.mono (by decide)) x.m_len x.m_range
  have kinds := ok_kinds (P := P) (w := w) (base := base) (k := 0) x.D_l_kinds x.e_TooMany.c x.kit_TooMany_NoStore x.kit_TooMany_NoNumber x.kit_TooMany_TooMany x.kit_TooMany_NoFit x.kit_TooMany_NoText x.kit_TooMany_NoName x.kit_TooMany_NoRow x.kit_TooMany_NoChoice x.kit_TooMany_ValueError x.m_range x.m_isinstance x.m_ValueError x.g_NoChoice x.g_NoRow x.g_NoName x.g_NoText x.g_NoFit x.g_TooMany x.g_NoNumber x.g_NoStore
  have asked := ok_asked (k := 6) x.D_l_asked x.exm_TooMany_RunError (kinds.mono (by decide)) all_ x.g_RunError
  have istold := ok_istold (P := P) (w := w) (base := base) (k := 0) x.D_l_is_told x.m_list x.m_isinstance x.m_bool x.m_tuple x.m_len
  have right := ok_right (k := 9) x.D_l_right (asked.mono (by decide)) (istold.mono (by decide)) (lall.mono (by decide)) (deep.mono (by decide)) x.m_range x.m_len
  have far := ok_far (k := 6) x.D_l_far (draw.mono (by decide)) (thing.mono (by decide)) row x.m_range x.m_len
  exact ok_law (k := 13) F0 (right.mono (by decide)) (draw.mono (by decide)) (store.mono (by decide)) (far.mono (by decide)) (program.mono (by decide)) (deck.mono (by decide)) x.m_range
end Ch
end
section
set_option Elab.async false
set_option linter.all false
set_option maxRecDepth 100000
set_option maxHeartbeats 0
/-! The head: facts by names, the run. -/
namespace Hd
open PySem PySem.Spec PyProof.Rows L2 Pk Sy Ch
def d_is_whole : He.DefD := ⟨("is_whole", none), "is_whole", "is_whole", defArgs s_is_whole, defBody s_is_whole, defScope s_is_whole, [], []⟩
def d_need_store : He.DefD := ⟨("need_store", none), "need_store", "need_store", defArgs s_need_store, defBody s_need_store, defScope s_need_store, [], []⟩
def d_worth_in : He.DefD := ⟨("worth_in", none), "worth_in", "worth_in", defArgs s_worth_in, defBody s_worth_in, defScope s_worth_in, [], []⟩
def d_is_place : He.DefD := ⟨("is_place", none), "is_place", "is_place", defArgs s_is_place, defBody s_is_place, defScope s_is_place, [], []⟩
def d_place_or_end : He.DefD := ⟨("place_or_end", none), "place_or_end", "place_or_end", defArgs s_place_or_end, defBody s_place_or_end, defScope s_place_or_end, [], []⟩
def d_begin_of : He.DefD := ⟨("begin_of", none), "begin_of", "begin_of", defArgs s_begin_of, defBody s_begin_of, defScope s_begin_of, [], []⟩
def d_store_with : He.DefD := ⟨("store_with", none), "store_with", "store_with", defArgs s_store_with, defBody s_store_with, defScope s_store_with, [], []⟩
def d_ways_from : He.DefD := ⟨("ways_from", none), "ways_from", "ways_from", defArgs s_ways_from, defBody s_ways_from, defScope s_ways_from, [], []⟩
def d_is_pick : He.DefD := ⟨("is_pick", none), "is_pick", "is_pick", defArgs s_is_pick, defBody s_is_pick, defScope s_is_pick, [], []⟩
def d_all_runs : He.DefD := ⟨("all_runs", none), "all_runs", "all_runs", defArgs s_all_runs, defBody s_all_runs, defScope s_all_runs, [], []⟩
def d_l_deck : He.DefD := ⟨("_law_deck", none), "_law_deck", "_law_deck", defArgs s_l_deck, defBody s_l_deck, defScope s_l_deck, [], []⟩
def d_l_draw : He.DefD := ⟨("_law_draw", none), "_law_draw", "_law_draw", defArgs s_l_draw, defBody s_l_draw, defScope s_l_draw, [], []⟩
def d_l_names : He.DefD := ⟨("_law_names", none), "_law_names", "_law_names", defArgs s_l_names, defBody s_l_names, defScope s_l_names, [], []⟩
def d_l_thing : He.DefD := ⟨("_law_thing", none), "_law_thing", "_law_thing", defArgs s_l_thing, defBody s_l_thing, defScope s_l_thing, [], []⟩
def d_l_row : He.DefD := ⟨("_law_row", none), "_law_row", "_law_row", defArgs s_l_row, defBody s_l_row, defScope s_l_row, [], []⟩
def d_l_bounded : He.DefD := ⟨("_law_bounded", none), "_law_bounded", "_law_bounded", defArgs s_l_bounded, defBody s_l_bounded, defScope s_l_bounded, [], []⟩
def d_l_program : He.DefD := ⟨("_law_program", none), "_law_program", "_law_program", defArgs s_l_program, defBody s_l_program, defScope s_l_program, [], []⟩
def d_l_store : He.DefD := ⟨("_law_store", none), "_law_store", "_law_store", defArgs s_l_store, defBody s_l_store, defScope s_l_store, [], []⟩
def d_l_worth : He.DefD := ⟨("_law_worth", none), "_law_worth", "_law_worth", defArgs s_l_worth, defBody s_l_worth, defScope s_l_worth, [], []⟩
def d_l_put : He.DefD := ⟨("_law_put", none), "_law_put", "_law_put", defArgs s_l_put, defBody s_l_put, defScope s_l_put, [], []⟩
def d_l_to_pick : He.DefD := ⟨("_law_to_pick", none), "_law_to_pick", "_law_to_pick", defArgs s_l_to_pick, defBody s_l_to_pick, defScope s_l_to_pick, [], []⟩
def d_l_picked : He.DefD := ⟨("_law_picked", none), "_law_picked", "_law_picked", defArgs s_l_picked, defBody s_l_picked, defScope s_l_picked, [], []⟩
def d_l_deep : He.DefD := ⟨("_law_deep", none), "_law_deep", "_law_deep", defArgs s_l_deep, defBody s_l_deep, defScope s_l_deep, [], []⟩
def d_l_kinds : He.DefD := ⟨("_law_kinds", none), "_law_kinds", "_law_kinds", defArgs s_l_kinds, defBody s_l_kinds, defScope s_l_kinds, [], []⟩
def d_l_all : He.DefD := ⟨("_law_all", none), "_law_all", "_law_all", defArgs s_l_all, defBody s_l_all, defScope s_l_all, [], []⟩
def d_l_asked : He.DefD := ⟨("_law_asked", none), "_law_asked", "_law_asked", defArgs s_l_asked, defBody s_l_asked, defScope s_l_asked, [], []⟩
def d_l_is_told : He.DefD := ⟨("_law_is_told", none), "_law_is_told", "_law_is_told", defArgs s_l_is_told, defBody s_l_is_told, defScope s_l_is_told, [], []⟩
def d_l_right : He.DefD := ⟨("_law_right", none), "_law_right", "_law_right", defArgs s_l_right, defBody s_l_right, defScope s_l_right, [], []⟩
def d_l_far : He.DefD := ⟨("_law_far", none), "_law_far", "_law_far", defArgs s_l_far, defBody s_l_far, defScope s_l_far, [], []⟩
def d_law : He.DefD := ⟨("law", none), "law", "law", defArgs s_law, defBody s_law, defScope s_law, [], []⟩
def fn : List He.DefD := [d_is_whole, d_need_store, d_worth_in, d_is_place, d_place_or_end, d_begin_of, d_store_with, d_ways_from, d_is_pick, d_all_runs, d_l_deck, d_l_draw, d_l_names, d_l_thing, d_l_row, d_l_bounded, d_l_program, d_l_store, d_l_worth, d_l_put, d_l_to_pick, d_l_picked, d_l_deep, d_l_kinds, d_l_all, d_l_asked, d_l_is_told, d_l_right, d_l_far, d_law]
def fa : List He.Fa := [.glo "is_whole", .glo "need_store", .glo "worth_in", .glo "is_place", .glo "place_or_end", .glo "begin_of", .glo "store_with", .glo "ways_from", .glo "is_pick", .glo "all_runs", .glo "_law_deck", .glo "_law_draw", .glo "_law_names", .glo "_law_thing", .glo "_law_row", .glo "_law_bounded", .glo "_law_program", .glo "_law_store", .glo "_law_worth", .glo "_law_put", .glo "_law_to_pick", .glo "_law_picked", .glo "_law_deep", .glo "_law_kinds", .glo "_law_all", .glo "_law_asked", .glo "_law_is_told", .glo "_law_right", .glo "_law_far", .glo "law", .free "isinstance", .free "bool", .free "int", .free "len", .free "tuple", .free "range", .free "max", .free "min", .free "dict", .free "zip", .free "list", .free "ValueError", .glo "NOTHING", .int "MOST_RUNS" 2000, .glo "RunError", .glo "NoStore", .glo "NoNumber", .glo "TooMany", .glo "NoFit", .glo "NoText", .glo "NoName", .glo "NoRow", .glo "NoChoice"]
def exs (K : PySem.W.Frag) : List Bool := [excB K "NoStore",
  excB K "TooMany",
  decide (PySem.W.kitOne K (.ref (He.ga K "NoStore")) (.ref (He.ga K "RunError")) = some true),
  decide (PySem.W.kitOne K (.ref (He.ga K "NoStore")) (.ref (He.ga K "NoStore")) = some true),
  decide (PySem.W.kitOne K (.ref (He.ga K "NoStore")) (.ref (He.ga K "NoNumber")) = some false),
  decide (PySem.W.kitOne K (.ref (He.ga K "NoStore")) (.ref (He.ga K "TooMany")) = some false),
  decide (PySem.W.kitOne K (.ref (He.ga K "NoStore")) (.ref (He.ga K "NoFit")) = some false),
  decide (PySem.W.kitOne K (.ref (He.ga K "NoStore")) (.ref (He.ga K "NoText")) = some false),
  decide (PySem.W.kitOne K (.ref (He.ga K "NoStore")) (.ref (He.ga K "NoName")) = some false),
  decide (PySem.W.kitOne K (.ref (He.ga K "NoStore")) (.ref (He.ga K "NoRow")) = some false),
  decide (PySem.W.kitOne K (.ref (He.ga K "NoStore")) (.ref (He.ga K "NoChoice")) = some false),
  decide (PySem.W.kitOne K (.ref (He.ga K "TooMany")) (.ref (He.ga K "RunError")) = some true),
  decide (PySem.W.kitOne K (.ref (He.ga K "TooMany")) (.ref (He.ga K "NoStore")) = some false),
  decide (PySem.W.kitOne K (.ref (He.ga K "TooMany")) (.ref (He.ga K "NoNumber")) = some false),
  decide (PySem.W.kitOne K (.ref (He.ga K "TooMany")) (.ref (He.ga K "TooMany")) = some true),
  decide (PySem.W.kitOne K (.ref (He.ga K "TooMany")) (.ref (He.ga K "NoFit")) = some false),
  decide (PySem.W.kitOne K (.ref (He.ga K "TooMany")) (.ref (He.ga K "NoText")) = some false),
  decide (PySem.W.kitOne K (.ref (He.ga K "TooMany")) (.ref (He.ga K "NoName")) = some false),
  decide (PySem.W.kitOne K (.ref (He.ga K "TooMany")) (.ref (He.ga K "NoRow")) = some false),
  decide (PySem.W.kitOne K (.ref (He.ga K "TooMany")) (.ref (He.ga K "NoChoice")) = some false),
  decide (PySem.W.exmOne K (.ref (He.ga K "NoStore")) (.ref (He.ga K "RunError")) = some true),
  decide (PySem.W.exmOne K (.ref (He.ga K "NoStore")) (.ref (He.ga K "NoStore")) = some true),
  decide (PySem.W.exmOne K (.ref (He.ga K "NoStore")) (.ref (He.ga K "NoNumber")) = some false),
  decide (PySem.W.exmOne K (.ref (He.ga K "NoStore")) (.ref (He.ga K "TooMany")) = some false),
  decide (PySem.W.exmOne K (.ref (He.ga K "NoStore")) (.ref (He.ga K "NoFit")) = some false),
  decide (PySem.W.exmOne K (.ref (He.ga K "NoStore")) (.ref (He.ga K "NoText")) = some false),
  decide (PySem.W.exmOne K (.ref (He.ga K "NoStore")) (.ref (He.ga K "NoName")) = some false),
  decide (PySem.W.exmOne K (.ref (He.ga K "NoStore")) (.ref (He.ga K "NoRow")) = some false),
  decide (PySem.W.exmOne K (.ref (He.ga K "NoStore")) (.ref (He.ga K "NoChoice")) = some false),
  decide (PySem.W.exmOne K (.ref (He.ga K "TooMany")) (.ref (He.ga K "RunError")) = some true),
  decide (PySem.W.exmOne K (.ref (He.ga K "TooMany")) (.ref (He.ga K "NoStore")) = some false),
  decide (PySem.W.exmOne K (.ref (He.ga K "TooMany")) (.ref (He.ga K "NoNumber")) = some false),
  decide (PySem.W.exmOne K (.ref (He.ga K "TooMany")) (.ref (He.ga K "TooMany")) = some true),
  decide (PySem.W.exmOne K (.ref (He.ga K "TooMany")) (.ref (He.ga K "NoFit")) = some false),
  decide (PySem.W.exmOne K (.ref (He.ga K "TooMany")) (.ref (He.ga K "NoText")) = some false),
  decide (PySem.W.exmOne K (.ref (He.ga K "TooMany")) (.ref (He.ga K "NoName")) = some false),
  decide (PySem.W.exmOne K (.ref (He.ga K "TooMany")) (.ref (He.ga K "NoRow")) = some false),
  decide (PySem.W.exmOne K (.ref (He.ga K "TooMany")) (.ref (He.ga K "NoChoice")) = some false),
  decide (PySem.W.kitOne K (.ref (He.ga K "NoStore")) (.type "ValueError") = some true),
  decide (PySem.W.kitOne K (.ref (He.ga K "TooMany")) (.type "ValueError") = some true),
  kTupB K "NOTHING" ["nothing"]]
def ex (K : PySem.W.Frag) : Bool := (exs K).all id
theorem ex_at {K : PySem.W.Frag} (h : ex K = true) (i : Nat) {b : Bool} (hb : (exs K)[i]? = some b) : b = true := List.all_eq_true.mp h b (List.mem_of_getElem? hb)
abbrev R : PySem.W.OpenRow := PySem.W.OpenLaw.row PySem.Challenge.rw_pickruns_k08_all_runs_told
abbrev hk : PySem.W.Hook := hookB 6 fa fn ex
def ob (s : PySem.W.SharedT) : He.AlD × Bool := obsB 6 fa fn ex (HandSHeadRun.getT s)
theorem ob_eq (s : PySem.W.SharedT) : ob s = hk.obs s.abs := obsB_eq (HandSHeadRun.getT_eq s)
def loose : List PySem.Str := [("RunError" : PySem.Str), ("NoStore" : PySem.Str), ("NoNumber" : PySem.Str), ("TooMany" : PySem.Str), ("NoFit" : PySem.Str), ("NoText" : PySem.Str), ("NoName" : PySem.Str), ("NoRow" : PySem.Str), ("NoChoice" : PySem.Str), ("NOTHING" : PySem.Str), ("is_whole" : PySem.Str), ("need_store" : PySem.Str), ("worth_in" : PySem.Str), ("is_place" : PySem.Str), ("place_or_end" : PySem.Str), ("begin_of" : PySem.Str), ("store_with" : PySem.Str), ("ways_from" : PySem.Str), ("is_pick" : PySem.Str), ("MOST_RUNS" : PySem.Str), ("all_runs" : PySem.Str), ("_law_deck" : PySem.Str), ("_law_draw" : PySem.Str), ("_law_names" : PySem.Str), ("_law_thing" : PySem.Str), ("_law_row" : PySem.Str), ("_law_bounded" : PySem.Str), ("_law_program" : PySem.Str), ("_law_store" : PySem.Str), ("_law_worth" : PySem.Str), ("_law_put" : PySem.Str), ("_law_to_pick" : PySem.Str), ("_law_picked" : PySem.Str), ("_law_deep" : PySem.Str), ("_law_kinds" : PySem.Str), ("_law_all" : PySem.Str), ("_law_asked" : PySem.Str), ("_law_is_told" : PySem.Str), ("_law_right" : PySem.Str), ("_law_far" : PySem.Str)]
theorem run (w : World) : HandSHeadRun.RunEq R (PySem.W.view R.prog [44]) hk ob 12000 loose w := by
  intro os
  kernel_rfl
section
variable {K : PySem.W.Frag} {h : Heap} {mg : Str → Option Value}
theorem D_is_whole (X : K.In h) (G : h.Ns mainGlobals mg) (c : He.SaysD fa fn K) : Def K mg "is_whole" s_is_whole ["thing", "low", "high"] := by
  obtain ⟨fd, F⟩ := c.def_ 0 (d := d_is_whole) rfl
  have F' : Fun K "is_whole" "is_whole" s_is_whole _ fd := He5.fun_of F
  exact ⟨_, fd, He.glo_ok X G (c.fact 0 (f := .glo "is_whole") rfl), F', F'.binds (ps := ["thing", "low", "high"]) fun _ _ _ _ _ _ us hl => match us, hl with | [_, _, _], _ => rfl⟩
theorem D_need_store (X : K.In h) (G : h.Ns mainGlobals mg) (c : He.SaysD fa fn K) : Def K mg "need_store" s_need_store ["program", "store"] := by
  obtain ⟨fd, F⟩ := c.def_ 1 (d := d_need_store) rfl
  have F' : Fun K "need_store" "need_store" s_need_store _ fd := He5.fun_of F
  exact ⟨_, fd, He.glo_ok X G (c.fact 1 (f := .glo "need_store") rfl), F', F'.binds (ps := ["program", "store"]) fun _ _ _ _ _ _ us hl => match us, hl with | [_, _], _ => rfl⟩
theorem D_worth_in (X : K.In h) (G : h.Ns mainGlobals mg) (c : He.SaysD fa fn K) : Def K mg "worth_in" s_worth_in ["program", "thing", "store"] := by
  obtain ⟨fd, F⟩ := c.def_ 2 (d := d_worth_in) rfl
  have F' : Fun K "worth_in" "worth_in" s_worth_in _ fd := He5.fun_of F
  exact ⟨_, fd, He.glo_ok X G (c.fact 2 (f := .glo "worth_in") rfl), F', F'.binds (ps := ["program", "thing", "store"]) fun _ _ _ _ _ _ us hl => match us, hl with | [_, _, _], _ => rfl⟩
theorem D_is_place (X : K.In h) (G : h.Ns mainGlobals mg) (c : He.SaysD fa fn K) : Def K mg "is_place" s_is_place ["way"] := by
  obtain ⟨fd, F⟩ := c.def_ 3 (d := d_is_place) rfl
  have F' : Fun K "is_place" "is_place" s_is_place _ fd := He5.fun_of F
  exact ⟨_, fd, He.glo_ok X G (c.fact 3 (f := .glo "is_place") rfl), F', F'.binds (ps := ["way"]) fun _ _ _ _ _ _ us hl => match us, hl with | [_], _ => rfl⟩
theorem D_place_or_end (X : K.In h) (G : h.Ns mainGlobals mg) (c : He.SaysD fa fn K) : Def K mg "place_or_end" s_place_or_end ["program", "row", "store"] := by
  obtain ⟨fd, F⟩ := c.def_ 4 (d := d_place_or_end) rfl
  have F' : Fun K "place_or_end" "place_or_end" s_place_or_end _ fd := He5.fun_of F
  exact ⟨_, fd, He.glo_ok X G (c.fact 4 (f := .glo "place_or_end") rfl), F', F'.binds (ps := ["program", "row", "store"]) fun _ _ _ _ _ _ us hl => match us, hl with | [_, _, _], _ => rfl⟩
theorem D_begin_of (X : K.In h) (G : h.Ns mainGlobals mg) (c : He.SaysD fa fn K) : Def K mg "begin_of" s_begin_of ["program", "store"] := by
  obtain ⟨fd, F⟩ := c.def_ 5 (d := d_begin_of) rfl
  have F' : Fun K "begin_of" "begin_of" s_begin_of _ fd := He5.fun_of F
  exact ⟨_, fd, He.glo_ok X G (c.fact 5 (f := .glo "begin_of") rfl), F', F'.binds (ps := ["program", "store"]) fun _ _ _ _ _ _ us hl => match us, hl with | [_, _], _ => rfl⟩
theorem D_store_with (X : K.In h) (G : h.Ns mainGlobals mg) (c : He.SaysD fa fn K) : Def K mg "store_with" s_store_with ["program", "store", "box", "worth"] := by
  obtain ⟨fd, F⟩ := c.def_ 6 (d := d_store_with) rfl
  have F' : Fun K "store_with" "store_with" s_store_with _ fd := He5.fun_of F
  exact ⟨_, fd, He.glo_ok X G (c.fact 6 (f := .glo "store_with") rfl), F', F'.binds (ps := ["program", "store", "box", "worth"]) fun _ _ _ _ _ _ us hl => match us, hl with | [_, _, _, _], _ => rfl⟩
theorem D_ways_from (X : K.In h) (G : h.Ns mainGlobals mg) (c : He.SaysD fa fn K) : Def K mg "ways_from" s_ways_from ["program", "place"] := by
  obtain ⟨fd, F⟩ := c.def_ 7 (d := d_ways_from) rfl
  have F' : Fun K "ways_from" "ways_from" s_ways_from _ fd := He5.fun_of F
  exact ⟨_, fd, He.glo_ok X G (c.fact 7 (f := .glo "ways_from") rfl), F', F'.binds (ps := ["program", "place"]) fun _ _ _ _ _ _ us hl => match us, hl with | [_, _], _ => rfl⟩
theorem D_is_pick (X : K.In h) (G : h.Ns mainGlobals mg) (c : He.SaysD fa fn K) : Def K mg "is_pick" s_is_pick ["program", "place"] := by
  obtain ⟨fd, F⟩ := c.def_ 8 (d := d_is_pick) rfl
  have F' : Fun K "is_pick" "is_pick" s_is_pick _ fd := He5.fun_of F
  exact ⟨_, fd, He.glo_ok X G (c.fact 8 (f := .glo "is_pick") rfl), F', F'.binds (ps := ["program", "place"]) fun _ _ _ _ _ _ us hl => match us, hl with | [_, _], _ => rfl⟩
theorem D_all_runs (X : K.In h) (G : h.Ns mainGlobals mg) (c : He.SaysD fa fn K) : Def K mg "all_runs" s_all_runs ["program", "store"] := by
  obtain ⟨fd, F⟩ := c.def_ 9 (d := d_all_runs) rfl
  have F' : Fun K "all_runs" "all_runs" s_all_runs _ fd := He5.fun_of F
  exact ⟨_, fd, He.glo_ok X G (c.fact 9 (f := .glo "all_runs") rfl), F', F'.binds (ps := ["program", "store"]) fun _ _ _ _ _ _ us hl => match us, hl with | [_, _], _ => rfl⟩
theorem D_l_deck (X : K.In h) (G : h.Ns mainGlobals mg) (c : He.SaysD fa fn K) : Def K mg "_law_deck" s_l_deck ["script"] := by
  obtain ⟨fd, F⟩ := c.def_ 10 (d := d_l_deck) rfl
  have F' : Fun K "_law_deck" "_law_deck" s_l_deck _ fd := He5.fun_of F
  exact ⟨_, fd, He.glo_ok X G (c.fact 10 (f := .glo "_law_deck") rfl), F', F'.binds (ps := ["script"]) fun _ _ _ _ _ _ us hl => match us, hl with | [_], _ => rfl⟩
theorem D_l_draw (X : K.In h) (G : h.Ns mainGlobals mg) (c : He.SaysD fa fn K) : Def K mg "_law_draw" s_l_draw ["deck", "many"] := by
  obtain ⟨fd, F⟩ := c.def_ 11 (d := d_l_draw) rfl
  have F' : Fun K "_law_draw" "_law_draw" s_l_draw _ fd := He5.fun_of F
  exact ⟨_, fd, He.glo_ok X G (c.fact 11 (f := .glo "_law_draw") rfl), F', F'.binds (ps := ["deck", "many"]) fun _ _ _ _ _ _ us hl => match us, hl with | [_, _], _ => rfl⟩
theorem D_l_names (X : K.In h) (G : h.Ns mainGlobals mg) (c : He.SaysD fa fn K) : Def K mg "_law_names" s_l_names ["deck"] := by
  obtain ⟨fd, F⟩ := c.def_ 12 (d := d_l_names) rfl
  have F' : Fun K "_law_names" "_law_names" s_l_names _ fd := He5.fun_of F
  exact ⟨_, fd, He.glo_ok X G (c.fact 12 (f := .glo "_law_names") rfl), F', F'.binds (ps := ["deck"]) fun _ _ _ _ _ _ us hl => match us, hl with | [_], _ => rfl⟩
theorem D_l_thing (X : K.In h) (G : h.Ns mainGlobals mg) (c : He.SaysD fa fn K) : Def K mg "_law_thing" s_l_thing ["deck", "m", "boxes", "deep"] := by
  obtain ⟨fd, F⟩ := c.def_ 13 (d := d_l_thing) rfl
  have F' : Fun K "_law_thing" "_law_thing" s_l_thing _ fd := He5.fun_of F
  exact ⟨_, fd, He.glo_ok X G (c.fact 13 (f := .glo "_law_thing") rfl), F', F'.binds (ps := ["deck", "m", "boxes", "deep"]) fun _ _ _ _ _ _ us hl => match us, hl with | [_, _, _, _], _ => rfl⟩
theorem D_l_row (X : K.In h) (G : h.Ns mainGlobals mg) (c : He.SaysD fa fn K) : Def K mg "_law_row" s_l_row ["deck", "m", "boxes"] := by
  obtain ⟨fd, F⟩ := c.def_ 14 (d := d_l_row) rfl
  have F' : Fun K "_law_row" "_law_row" s_l_row _ fd := He5.fun_of F
  exact ⟨_, fd, He.glo_ok X G (c.fact 14 (f := .glo "_law_row") rfl), F', F'.binds (ps := ["deck", "m", "boxes"]) fun _ _ _ _ _ _ us hl => match us, hl with | [_, _, _], _ => rfl⟩
theorem D_l_bounded (X : K.In h) (G : h.Ns mainGlobals mg) (c : He.SaysD fa fn K) : Def K mg "_law_bounded" s_l_bounded ["m", "boxes", "rows"] := by
  obtain ⟨fd, F⟩ := c.def_ 15 (d := d_l_bounded) rfl
  have F' : Fun K "_law_bounded" "_law_bounded" s_l_bounded _ fd := He5.fun_of F
  exact ⟨_, fd, He.glo_ok X G (c.fact 15 (f := .glo "_law_bounded") rfl), F', F'.binds (ps := ["m", "boxes", "rows"]) fun _ _ _ _ _ _ us hl => match us, hl with | [_, _, _], _ => rfl⟩
theorem D_l_program (X : K.In h) (G : h.Ns mainGlobals mg) (c : He.SaysD fa fn K) : Def K mg "_law_program" s_l_program ["deck"] := by
  obtain ⟨fd, F⟩ := c.def_ 16 (d := d_l_program) rfl
  have F' : Fun K "_law_program" "_law_program" s_l_program _ fd := He5.fun_of F
  exact ⟨_, fd, He.glo_ok X G (c.fact 16 (f := .glo "_law_program") rfl), F', F'.binds (ps := ["deck"]) fun _ _ _ _ _ _ us hl => match us, hl with | [_], _ => rfl⟩
theorem D_l_store (X : K.In h) (G : h.Ns mainGlobals mg) (c : He.SaysD fa fn K) : Def K mg "_law_store" s_l_store ["deck", "program"] := by
  obtain ⟨fd, F⟩ := c.def_ 17 (d := d_l_store) rfl
  have F' : Fun K "_law_store" "_law_store" s_l_store _ fd := He5.fun_of F
  exact ⟨_, fd, He.glo_ok X G (c.fact 17 (f := .glo "_law_store") rfl), F', F'.binds (ps := ["deck", "program"]) fun _ _ _ _ _ _ us hl => match us, hl with | [_, _], _ => rfl⟩
theorem D_l_worth (X : K.In h) (G : h.Ns mainGlobals mg) (c : He.SaysD fa fn K) : Def K mg "_law_worth" s_l_worth ["program", "thing", "store"] := by
  obtain ⟨fd, F⟩ := c.def_ 18 (d := d_l_worth) rfl
  have F' : Fun K "_law_worth" "_law_worth" s_l_worth _ fd := He5.fun_of F
  exact ⟨_, fd, He.glo_ok X G (c.fact 18 (f := .glo "_law_worth") rfl), F', F'.binds (ps := ["program", "thing", "store"]) fun _ _ _ _ _ _ us hl => match us, hl with | [_, _, _], _ => rfl⟩
theorem D_l_put (X : K.In h) (G : h.Ns mainGlobals mg) (c : He.SaysD fa fn K) : Def K mg "_law_put" s_l_put ["program", "store", "box", "worth"] := by
  obtain ⟨fd, F⟩ := c.def_ 19 (d := d_l_put) rfl
  have F' : Fun K "_law_put" "_law_put" s_l_put _ fd := He5.fun_of F
  exact ⟨_, fd, He.glo_ok X G (c.fact 19 (f := .glo "_law_put") rfl), F', F'.binds (ps := ["program", "store", "box", "worth"]) fun _ _ _ _ _ _ us hl => match us, hl with | [_, _, _, _], _ => rfl⟩
theorem D_l_to_pick (X : K.In h) (G : h.Ns mainGlobals mg) (c : He.SaysD fa fn K) : Def K mg "_law_to_pick" s_l_to_pick ["program", "row", "store"] := by
  obtain ⟨fd, F⟩ := c.def_ 20 (d := d_l_to_pick) rfl
  have F' : Fun K "_law_to_pick" "_law_to_pick" s_l_to_pick _ fd := He5.fun_of F
  exact ⟨_, fd, He.glo_ok X G (c.fact 20 (f := .glo "_law_to_pick") rfl), F', F'.binds (ps := ["program", "row", "store"]) fun _ _ _ _ _ _ us hl => match us, hl with | [_, _, _], _ => rfl⟩
theorem D_l_picked (X : K.In h) (G : h.Ns mainGlobals mg) (c : He.SaysD fa fn K) : Def K mg "_law_picked" s_l_picked ["program", "row", "store", "choice"] := by
  obtain ⟨fd, F⟩ := c.def_ 21 (d := d_l_picked) rfl
  have F' : Fun K "_law_picked" "_law_picked" s_l_picked _ fd := He5.fun_of F
  exact ⟨_, fd, He.glo_ok X G (c.fact 21 (f := .glo "_law_picked") rfl), F', F'.binds (ps := ["program", "row", "store", "choice"]) fun _ _ _ _ _ _ us hl => match us, hl with | [_, _, _, _], _ => rfl⟩
theorem D_l_deep (X : K.In h) (G : h.Ns mainGlobals mg) (c : He.SaysD fa fn K) : Def K mg "_law_deep" s_l_deep ["thing"] := by
  obtain ⟨fd, F⟩ := c.def_ 22 (d := d_l_deep) rfl
  have F' : Fun K "_law_deep" "_law_deep" s_l_deep _ fd := He5.fun_of F
  exact ⟨_, fd, He.glo_ok X G (c.fact 22 (f := .glo "_law_deep") rfl), F', F'.binds (ps := ["thing"]) fun _ _ _ _ _ _ us hl => match us, hl with | [_], _ => rfl⟩
theorem D_l_kinds (X : K.In h) (G : h.Ns mainGlobals mg) (c : He.SaysD fa fn K) : Def K mg "_law_kinds" s_l_kinds ["caught", "due"] := by
  obtain ⟨fd, F⟩ := c.def_ 23 (d := d_l_kinds) rfl
  have F' : Fun K "_law_kinds" "_law_kinds" s_l_kinds _ fd := He5.fun_of F
  exact ⟨_, fd, He.glo_ok X G (c.fact 23 (f := .glo "_law_kinds") rfl), F', F'.binds (ps := ["caught", "due"]) fun _ _ _ _ _ _ us hl => match us, hl with | [_, _], _ => rfl⟩
theorem D_l_all (X : K.In h) (G : h.Ns mainGlobals mg) (c : He.SaysD fa fn K) : Def K mg "_law_all" s_l_all ["program", "store", "most"] := by
  obtain ⟨fd, F⟩ := c.def_ 24 (d := d_l_all) rfl
  have F' : Fun K "_law_all" "_law_all" s_l_all _ fd := He5.fun_of F
  exact ⟨_, fd, He.glo_ok X G (c.fact 24 (f := .glo "_law_all") rfl), F', F'.binds (ps := ["program", "store", "most"]) fun _ _ _ _ _ _ us hl => match us, hl with | [_, _, _], _ => rfl⟩
theorem D_l_asked (X : K.In h) (G : h.Ns mainGlobals mg) (c : He.SaysD fa fn K) : Def K mg "_law_asked" s_l_asked ["program", "store"] := by
  obtain ⟨fd, F⟩ := c.def_ 25 (d := d_l_asked) rfl
  have F' : Fun K "_law_asked" "_law_asked" s_l_asked _ fd := He5.fun_of F
  exact ⟨_, fd, He.glo_ok X G (c.fact 25 (f := .glo "_law_asked") rfl), F', F'.binds (ps := ["program", "store"]) fun _ _ _ _ _ _ us hl => match us, hl with | [_, _], _ => rfl⟩
theorem D_l_is_told (X : K.In h) (G : h.Ns mainGlobals mg) (c : He.SaysD fa fn K) : Def K mg "_law_is_told" s_l_is_told ["found", "due"] := by
  obtain ⟨fd, F⟩ := c.def_ 26 (d := d_l_is_told) rfl
  have F' : Fun K "_law_is_told" "_law_is_told" s_l_is_told _ fd := He5.fun_of F
  exact ⟨_, fd, He.glo_ok X G (c.fact 26 (f := .glo "_law_is_told") rfl), F', F'.binds (ps := ["found", "due"]) fun _ _ _ _ _ _ us hl => match us, hl with | [_, _], _ => rfl⟩
theorem D_l_right (X : K.In h) (G : h.Ns mainGlobals mg) (c : He.SaysD fa fn K) : Def K mg "_law_right" s_l_right ["program", "store"] := by
  obtain ⟨fd, F⟩ := c.def_ 27 (d := d_l_right) rfl
  have F' : Fun K "_law_right" "_law_right" s_l_right _ fd := He5.fun_of F
  exact ⟨_, fd, He.glo_ok X G (c.fact 27 (f := .glo "_law_right") rfl), F', F'.binds (ps := ["program", "store"]) fun _ _ _ _ _ _ us hl => match us, hl with | [_, _], _ => rfl⟩
theorem D_l_far (X : K.In h) (G : h.Ns mainGlobals mg) (c : He.SaysD fa fn K) : Def K mg "_law_far" s_l_far ["deck"] := by
  obtain ⟨fd, F⟩ := c.def_ 28 (d := d_l_far) rfl
  have F' : Fun K "_law_far" "_law_far" s_l_far _ fd := He5.fun_of F
  exact ⟨_, fd, He.glo_ok X G (c.fact 28 (f := .glo "_law_far") rfl), F', F'.binds (ps := ["deck"]) fun _ _ _ _ _ _ us hl => match us, hl with | [_], _ => rfl⟩
theorem fx (X : K.In h) (G : h.Ns mainGlobals mg) (c : He.SaysD fa fn K) (cx : ex K = true) : Fx K mg := ⟨D_is_whole X G c,
  D_need_store X G c,
  D_worth_in X G c,
  D_is_place X G c,
  D_place_or_end X G c,
  D_begin_of X G c,
  D_store_with X G c,
  D_ways_from X G c,
  D_is_pick X G c,
  D_all_runs X G c,
  D_l_deck X G c,
  D_l_draw X G c,
  D_l_names X G c,
  D_l_thing X G c,
  D_l_row X G c,
  D_l_bounded X G c,
  D_l_program X G c,
  D_l_store X G c,
  D_l_worth X G c,
  D_l_put X G c,
  D_l_to_pick X G c,
  D_l_picked X G c,
  D_l_deep X G c,
  D_l_kinds X G c,
  D_l_all X G c,
  D_l_asked X G c,
  D_l_is_told X G c,
  D_l_right X G c,
  D_l_far X G c,
  He.free_ok X G (c.fact 30 (f := .free "isinstance") rfl),
  He.free_ok X G (c.fact 31 (f := .free "bool") rfl),
  He.free_ok X G (c.fact 32 (f := .free "int") rfl),
  He.free_ok X G (c.fact 33 (f := .free "len") rfl),
  He.free_ok X G (c.fact 34 (f := .free "tuple") rfl),
  He.free_ok X G (c.fact 35 (f := .free "range") rfl),
  He.free_ok X G (c.fact 36 (f := .free "max") rfl),
  He.free_ok X G (c.fact 37 (f := .free "min") rfl),
  He.free_ok X G (c.fact 38 (f := .free "dict") rfl),
  He.free_ok X G (c.fact 39 (f := .free "zip") rfl),
  He.free_ok X G (c.fact 40 (f := .free "list") rfl),
  He.free_ok X G (c.fact 41 (f := .free "ValueError") rfl),
  He.glo_ok X G (c.fact 42 (f := .glo "NOTHING") rfl),
  kTup_data (ex_at cx 40 rfl),
  He.int_ok X G (c.fact 43 (f := .int "MOST_RUNS" 2000) rfl),
  He.glo_ok X G (c.fact 44 (f := .glo "RunError") rfl),
  He.glo_ok X G (c.fact 45 (f := .glo "NoStore") rfl),
  He.glo_ok X G (c.fact 46 (f := .glo "NoNumber") rfl),
  He.glo_ok X G (c.fact 47 (f := .glo "TooMany") rfl),
  He.glo_ok X G (c.fact 48 (f := .glo "NoFit") rfl),
  He.glo_ok X G (c.fact 49 (f := .glo "NoText") rfl),
  He.glo_ok X G (c.fact 50 (f := .glo "NoName") rfl),
  He.glo_ok X G (c.fact 51 (f := .glo "NoRow") rfl),
  He.glo_ok X G (c.fact 52 (f := .glo "NoChoice") rfl),
  excB_ok (ex_at cx 0 rfl) (He.glo_ok X G (c.fact 45 (f := .glo "NoStore") rfl)),
  excB_ok (ex_at cx 1 rfl) (He.glo_ok X G (c.fact 47 (f := .glo "TooMany") rfl)),
  of_decide_eq_true (ex_at cx 2 rfl),
  of_decide_eq_true (ex_at cx 3 rfl),
  of_decide_eq_true (ex_at cx 4 rfl),
  of_decide_eq_true (ex_at cx 5 rfl),
  of_decide_eq_true (ex_at cx 6 rfl),
  of_decide_eq_true (ex_at cx 7 rfl),
  of_decide_eq_true (ex_at cx 8 rfl),
  of_decide_eq_true (ex_at cx 9 rfl),
  of_decide_eq_true (ex_at cx 10 rfl),
  of_decide_eq_true (ex_at cx 11 rfl),
  of_decide_eq_true (ex_at cx 12 rfl),
  of_decide_eq_true (ex_at cx 13 rfl),
  of_decide_eq_true (ex_at cx 14 rfl),
  of_decide_eq_true (ex_at cx 15 rfl),
  of_decide_eq_true (ex_at cx 16 rfl),
  of_decide_eq_true (ex_at cx 17 rfl),
  of_decide_eq_true (ex_at cx 18 rfl),
  of_decide_eq_true (ex_at cx 19 rfl),
  of_decide_eq_true (ex_at cx 20 rfl),
  of_decide_eq_true (ex_at cx 21 rfl),
  of_decide_eq_true (ex_at cx 22 rfl),
  of_decide_eq_true (ex_at cx 23 rfl),
  of_decide_eq_true (ex_at cx 24 rfl),
  of_decide_eq_true (ex_at cx 25 rfl),
  of_decide_eq_true (ex_at cx 26 rfl),
  of_decide_eq_true (ex_at cx 27 rfl),
  of_decide_eq_true (ex_at cx 28 rfl),
  of_decide_eq_true (ex_at cx 29 rfl),
  of_decide_eq_true (ex_at cx 30 rfl),
  of_decide_eq_true (ex_at cx 31 rfl),
  of_decide_eq_true (ex_at cx 32 rfl),
  of_decide_eq_true (ex_at cx 33 rfl),
  of_decide_eq_true (ex_at cx 34 rfl),
  of_decide_eq_true (ex_at cx 35 rfl),
  of_decide_eq_true (ex_at cx 36 rfl),
  of_decide_eq_true (ex_at cx 37 rfl),
  of_decide_eq_true (ex_at cx 38 rfl),
  of_decide_eq_true (ex_at cx 39 rfl)⟩
theorem facts {P : Program} {w : World} {f : Addr} (X : K.In h) (G : h.Ns mainGlobals mg) (hfa : mg ("law" : Str) = some (.ref f)) (c : He.SaysD fa fn K) (cx : ex K = true) :
    ∃ fd : FuncData, (∀ (s : Shared) (v : Value), BindsTo s fd ⟨[v], []⟩ [("script", v)]) ∧ ∀ base : Heap, K.In base → base.Ns mainGlobals mg → FnOk P w K mg base CX0 14 f fd ["script"] (spG K (T_law K)) := by
  obtain ⟨fd, F⟩ := c.def_ 29 (d := d_law) rfl
  have e := hfa.symm.trans (He.glo_ok X G (c.fact 29 (f := .glo "law") rfl))
  cases e
  have b := FunD.bindsA (ps := ["script"]) F fun _ _ _ _ _ _ us hl => match us, hl with | [_], _ => rfl
  have F' : Fun K "law" "law" s_law _ fd := He5.fun_of F
  exact ⟨fd, fun s v => b s [v] rfl, fun base _ _ => chain F' (fx X G c cx)⟩
end
end Hd
open PySem PySem.W PySem.Calls PyProof.Rows
theorem PySem.Challenge.cw_pickruns_k08_all_runs_told_holds : PySem.Challenge.rw_pickruns_k08_all_runs_told.Holds := by
  w_on; o_law
  refine HandSHeadRun.head_any (r := OpenLaw.row PySem.Challenge.rw_pickruns_k08_all_runs_told) (q := view (OpenLaw.row PySem.Challenge.rw_pickruns_k08_all_runs_told).prog [44]) (H := Hd.hk) (ob := Hd.ob) (M := 12000) (loose := Hd.loose) (d := HandSHeadRun.topDef (OpenLaw.row PySem.Challenge.rw_pickruns_k08_all_runs_told).prog 44) (kwd := []) Hd.ob_eq
    (by kernel_rfl) (fun s => by kernel_rfl) Hd.run (by kernel_rfl) (by kernel_rfl) (by kernel_rfl) (by rfl) (by first | assumption | decide +kernel) (by decide +kernel) ⟨rfl, rfl, rfl, rfl, rfl, by decide +kernel⟩ ?hw ?hc
  case hw => w_witness2
  case hc =>
    refine L2.walk_ofE (l := PySem.Challenge.rw_pickruns_k08_all_runs_told) (n := 63) (k := 14) (x := "script") (CX := L2.CX0) rfl (by decide) (by kernel_rfl) ⟨rfl, by decide, by decide⟩ ?F (fun _ _ _ _ z => z)
    intro w mg fa h Y G hmg0
    obtain ⟨K, KX, c, cx⟩ := Y
    have hmg : mg ("law" : PySem.Str) = some (.ref fa) := by
      have e : (HandSHeadRun.topDef (OpenLaw.row PySem.Challenge.rw_pickruns_k08_all_runs_told).prog 44).name = ("law" : PySem.Str) := by kernel_rfl
      rw [← e]
      exact hmg0
    obtain ⟨fd, hb, hF⟩ := Hd.facts (P := (PySem.Challenge.rw_pickruns_k08_all_runs_told).prog) (w := w) KX G hmg c cx
    exact ⟨K, fd, Pk.spG K (Pk.T_law K), KX, hb, fun H a ns hl _ hS => Pk.law_start hl hS fun _ => rfl, hF⟩
end
